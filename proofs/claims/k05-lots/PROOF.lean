import PyProof.Rows.All
import Wide.All
import OpenK.AllK
import Wide.FinOn
import KE.KStateDown
import KE.DatumOrd
import Lean
import HandS.ForMost
import HandS.Wide
import PyProof.StrBlock2
import HandS.Exc
import HandS.ExcCtx
import HandS.ExcInit
import HandS.ExcIs
import HandS.ExcField
import HandS.Hot
import HandS.HotCalls
import HandS.IsInst
import HandS.Codes
import HandS.Deep
import HandS.DeepEq
import HandS.DictEq
import HandS.SortRule
import HandS.Property
import HandS.OwnEq
import HandS.Defaults
import HandS.WordsExc
import HandS.Conv
import HandS.TupAny
import HandS.TupLe
import HandS.MakeKw
import HandS.Small
import HandS.Head0
import HandS.Head1
import HandS.Head2
import HandS.HeadEnd
import HandS.HeadHook1
import HandS.HeadHook2
import PySem.Challenge.RW_rimcords_k05_lots_of_tables_whole
set_option Elab.async false
set_option linter.all false
set_option maxRecDepth 100000
set_option maxHeartbeats 4000000
/-! The calculus: weakest preconditions as structures, one rule for each construct of syntax. -/
namespace RC
open PySem PySem.Spec PyProof.Rows L2
abbrev St := L2.St
/-! ### heaps that grow -/
def Ex (H H' : Hp) : Prop := ∀ a o, H a = some o → H' a = some o
theorem Ex.rfl' {H : Hp} : Ex H H := fun _ _ h => h
theorem Ex.trans {H H1 H2 : Hp} (a : Ex H H1) (b : Ex H1 H2) : Ex H H2 := fun x o h => b x o (a x o h)
theorem Ex.new {H : Hp} {p : Addr} {o : HO} (h : H p = none) : Ex H (upd H p o) := fun a u e => (upd_ne (ne_of_none e h)).trans e
theorem Ex.mut {H H' : Hp} {p : Addr} {o : HO} (e : Ex H H') (h : H p = none) : Ex H (upd H' p o) := fun a u ha => (upd_ne (ne_of_none ha h)).trans (e a u ha)
theorem Ex.fresh {H H' : Hp} {p : Addr} (e : Ex H H') (h : H' p = none) : H p = none := by
  cases q : H p with
  | none => rfl
  | some o => rw [e p o q] at h; cases h
theorem exRd {H H' : Hp} {a : Addr} {u : HO} (e : Ex H H') (h : Rd H a u) : Rd H' a u := h.elim (fun h => .inl (e a _ h)) fun ⟨o, h⟩ => .inr ⟨o, e a _ h⟩
theorem exL {K : PySem.W.Frag} {H H' : Hp} {a : Addr} {xs : List V} (e : Ex H H') (h : SqL K H a xs) : SqL K H' a xs := h.elim (fun h => .inl (exRd e h)) .inr
theorem exT {K : PySem.W.Frag} {H H' : Hp} {a : Addr} {xs : List V} (e : Ex H H') (h : SqT K H a xs) : SqT K H' a xs := h.elim (fun h => .inl (exRd e h)) .inr
theorem sqL {K : PySem.W.Frag} {H : Hp} {a : Addr} {xs : List V} (h : H a = some (.lst xs)) : SqL K H a xs := .inl (.inl h)
theorem sqT {K : PySem.W.Frag} {H : Hp} {a : Addr} {xs : List V} (h : H a = some (.tup xs)) : SqT K H a xs := .inl (.inl h)
/-! ### the weakest preconditions -/
structure WE (X : Cx) (e : Expr) (σ : St) (H : Hp) (Q : VK) : Prop where
  run : ∀ (pins : List (Addr × Obj)) (s : Shared), Inv X pins σ H s → wpAny (model X.prog X.w) X.A (eval e X.env) (EP X pins σ Q) X.xe s
structure WT (X : Cx) (e : Expr) (σ : St) (H : Hp) (Q : Bool → Hp → Prop) : Prop where
  run : ∀ (pins : List (Addr × Obj)) (s : Shared), Inv X pins σ H s → wpAny (model X.prog X.w) X.A (isTrue e X.env (eval e X.env)) (TP X pins σ Q) X.xe s
structure WW (X : Cx) (e : Expr) (σ : St) (H : Hp) (Q : Bool → Hp → Prop) : Prop where
  run : ∀ (whole : Sem Value) (pins : List (Addr × Obj)) (s : Shared), Inv X pins σ H s → wpAny (model X.prog X.w) X.A (isTrue e X.env whole) (TP X pins σ Q) X.xe s
structure WA (X : Cx) (es : List Expr) (σ : St) (H : Hp) (Q : List V → Hp → Prop) : Prop where
  run : ∀ (pos : Pos) (pins : List (Addr × Obj)) (s : Shared), Inv X pins σ H s → wpAny (model X.prog X.w) X.A (spliced (backTo pos (starEach es X.env))) (AP X pins σ Q) X.xe s
structure WS (X : Cx) (st : Stmt) (D : Ends) (σ : St) (H : Hp) : Prop where
  run : ∀ (pins : List (Addr × Obj)) (s : Shared), Inv X pins σ H s → wpAny (model X.prog X.w) X.A (exec st X.env) (SP X pins D) X.xe s
structure WB (X : Cx) (st : List Stmt) (D : Ends) (σ : St) (H : Hp) : Prop where
  run : ∀ (pins : List (Addr × Obj)) (s : Shared), Inv X pins σ H s → wpAny (model X.prog X.w) X.A (execs st X.env) (SP X pins D) X.xe s
section
variable {X : Cx} {e : Expr} {es : List Expr} {st : Stmt} {sts : List Stmt} {σ : St} {H : Hp} {D : Ends}
theorem pe_we : PE X e (WE X e) := ⟨fun pins s _ _ _ I h => h.run pins s I⟩
theorem pt_wt : PT X e (WT X e) := ⟨fun pins s _ _ _ I h => h.run pins s I⟩
theorem pw_ww : PW X e (WW X e) := ⟨fun wh pins s _ _ _ I h => h.run wh pins s I⟩
theorem pa_wa : PA X es (WA X es) := ⟨fun pos pins s _ _ _ I h => h.run pos pins s I⟩
theorem ps_ws : PS X st (WS X st) := ⟨fun pins s _ _ _ I h => h.run pins s I⟩
theorem pb_wb : PSs X sts (WB X sts) := ⟨fun pins s _ _ _ I h => h.run pins s I⟩
theorem we_of {t : TE} {Q : VK} (h : PE X e t) (q : t σ H Q) : WE X e σ H Q := ⟨fun pins s I => h.run pins s σ H Q I q⟩
theorem wt_of {t : TT} {Q : Bool → Hp → Prop} (h : PT X e t) (q : t σ H Q) : WT X e σ H Q := ⟨fun pins s I => h.run pins s σ H Q I q⟩
theorem ww_of {t : TT} {Q : Bool → Hp → Prop} (h : PW X e t) (q : t σ H Q) : WW X e σ H Q := ⟨fun wh pins s I => h.run wh pins s σ H Q I q⟩
theorem wa_of {t : TA} {Q : List V → Hp → Prop} (h : PA X es t) (q : t σ H Q) : WA X es σ H Q := ⟨fun pos pins s I => h.run pos pins s σ H Q I q⟩
theorem ws_of {t : TS} (h : PS X st t) (q : t D σ H) : WS X st D σ H := ⟨fun pins s I => h.run pins s σ H D I q⟩
theorem wb_of {t : TS} (h : PSs X sts t) (q : t D σ H) : WB X sts D σ H := ⟨fun pins s I => h.run pins s σ H D I q⟩
theorem WE.mono {Q Q' : VK} (h : WE X e σ H Q) (k : ∀ v H', Q v H' → Q' v H') : WE X e σ H Q' := ⟨fun pins s I => thn (h.run pins s I) fun _ _ ⟨v, H', I', r, q⟩ => ⟨v, H', I', r, k v H' q⟩⟩
/-- what follows a statement -/
theorem b_cons (h : WS X st { D with nx := fun σ' H' => WB X sts D σ' H' } σ H) : WB X (st :: sts) D σ H := wb_of (pss_cons ps_ws pb_wb) h
theorem b_nil (h : D.nx σ H) : WB X [] D σ H := wb_of pss_nil h
theorem a_nil {Q : List V → Hp → Prop} (h : Q [] H) : WA X [] σ H Q := wa_of pa_nil h
theorem a_cons {Q : List V → Hp → Prop} (h : WE X e σ H fun x H1 => WA X es σ H1 fun xs H2 => Q (x :: xs) H2) (hs : starEach (e :: es) X.env = (false, eval e X.env) :: starEach es X.env := by rfl) : WA X (e :: es) σ H Q := wa_of (pa_cons pe_we pa_wa hs) h
end
/-! ### names by search -/
inductive At : List Str → St → Str → V → Prop
  | here {x : Str} {N : List Str} {v : V} {σ : St} : At (x :: N) (some v :: σ) x v
  | there {x y : Str} {N : List Str} {v : V} {o : Option V} {σ : St} : At N σ x v → At (y :: N) (o :: σ) x v
theorem At.ix {N : List Str} {σ : St} {x : Str} {v : V} (h : At N σ x v) : ∃ i : Nat, N[i]? = some x ∧ σ[i]? = some (some v) := by
  induction h with
  | here => exact ⟨0, rfl, rfl⟩
  | there _ ih => obtain ⟨i, h1, h2⟩ := ih; exact ⟨i + 1, h1, h2⟩
inductive SetAt : List Str → St → Str → V → St → Prop
  | here {x : Str} {N : List Str} {v : V} {o : Option V} {σ : St} : SetAt (x :: N) (o :: σ) x v (some v :: σ)
  | there {x y : Str} {N : List Str} {v : V} {o : Option V} {σ σ' : St} : SetAt N σ x v σ' → SetAt (y :: N) (o :: σ) x v (o :: σ')
theorem SetAt.ix {N : List Str} {σ σ' : St} {x : Str} {v : V} (h : SetAt N σ x v σ') : ∃ i : Nat, N[i]? = some x ∧ σ' = σ.set i (some v) := by
  induction h with
  | here => exact ⟨0, rfl, rfl⟩
  | there _ ih => obtain ⟨i, h1, h2⟩ := ih; exact ⟨i + 1, h1, by rw [h2, List.set_cons_succ]⟩
/-- a context's names: its scope S, all names by slot, those that are seen, those that may be stored, the module's -/
structure Ctx (X : Cx) (S : Scope) (N M L G : List Str) : Prop where
  hN : X.N = N
  sc : X.env.scope = S
  nd : N.Nodup
  vis : ∀ x ∈ M, Vis S x
  loc : ∀ x ∈ L, Loc S x ∧ (X.fn x = true ∨ S.names.lookup x = some .local)
  gl : ∀ x ∈ G, S.names.lookup x = some .globalImplicit
  dbg : ∀ x ∈ M, (x == ("__debug__" : Str)) = false ∧ (x == ("__classdict__" : Str)) = false
theorem Ctx.glo {X : Cx} {S : Scope} {N M L G : List Str} {x : Str} (C : Ctx X S N M L G) (h : x ∈ G) : Gl X x := by
  show X.env.scope.names.lookup x = _
  rw [C.sc]
  exact C.gl x h
theorem Ctx.see {X : Cx} {S : Scope} {N M L G : List Str} {x : Str} (C : Ctx X S N M L G) (h : x ∈ M) : Vis X.env.scope x := C.sc ▸ C.vis x h
theorem Ctx.sto {X : Cx} {S : Scope} {N M L G : List Str} {x : Str} (C : Ctx X S N M L G) (h : x ∈ L) : Loc X.env.scope x ∧ (X.fn x = true ∨ X.env.scope.names.lookup x = some .local) := by
  rw [C.sc]
  exact C.loc x h
/-- the lists, looked at by the kernel -/
def visB (S : Scope) (x : Str) : Bool := match S.names.lookup x with
  | some .local => true
  | some .cell => true
  | some .free => true
  | _ => false
def locB (S : Scope) (fn : Str → Bool) (x : Str) : Bool := match S.names.lookup x with
  | some .local => true
  | some .cell => fn x
  | _ => false
def gloB (S : Scope) (x : Str) : Bool := match S.names.lookup x with
  | some .globalImplicit => true
  | _ => false
def ctxB (S : Scope) (fn : Str → Bool) (N M L G : List Str) : Bool := decide N.Nodup && (M.all fun x => visB S x && !(x == ("__debug__" : Str)) && !(x == ("__classdict__" : Str))) && (L.all fun x => locB S fn x) && G.all fun x => gloB S x
theorem visB_ok {S : Scope} {x : Str} (h : visB S x = true) : Vis S x := by
  unfold visB at h
  unfold Vis
  split at h
  · rename_i e; exact .inl e
  · rename_i e; exact .inr (.inl e)
  · rename_i e; exact .inr (.inr e)
  · cases h
theorem locB_ok {S : Scope} {fn : Str → Bool} {x : Str} (h : locB S fn x = true) : Loc S x ∧ (fn x = true ∨ S.names.lookup x = some .local) := by
  unfold locB at h
  unfold L2.Loc
  split at h
  · rename_i e; exact ⟨.inl e, .inr e⟩
  · rename_i e; exact ⟨.inr e, .inl h⟩
  · cases h
theorem gloB_ok {S : Scope} {x : Str} (h : gloB S x = true) : S.names.lookup x = some .globalImplicit := by
  unfold gloB at h
  split at h
  · rename_i e; exact e
  · cases h
theorem ctx_of {X : Cx} {S : Scope} {fn : Str → Bool} {N M L G : List Str} (h : ctxB S fn N M L G = true) (hN : X.N = N) (hs : X.env.scope = S) (hf : ∀ x, fn x = true → X.fn x = true) : Ctx X S N M L G := by
  unfold ctxB at h
  simp only [Bool.and_eq_true, List.all_eq_true, decide_eq_true_eq] at h
  obtain ⟨⟨⟨h1, h2⟩, h3⟩, h4⟩ := h
  refine ⟨hN, hs, h1, fun x hx => visB_ok (h2 x hx).1.1, fun x hx => ?_, fun x hx => gloB_ok (h4 x hx), fun x hx => ⟨by simpa using (h2 x hx).1.2, by simpa using (h2 x hx).2⟩⟩
  have q := h3 x hx
  refine ⟨(locB_ok q).1, ?_⟩
  rcases (locB_ok q).1 with e | e
  · exact .inr e
  · rcases (locB_ok q).2 with c | c
    · exact .inl (hf x c)
    · exact .inr c
/-! ### what evaluates to what, whatever has been made meanwhile -/
structure Ev (X : Cx) (e : Expr) (σ : St) (H : Hp) (v : V) : Prop where
  run : ∀ H1, Ex H H1 → ∀ Q : VK, (∀ H2, Ex H1 H2 → Q v H2) → WE X e σ H1 Q
/-- a new object -/
structure Eo (X : Cx) (e : Expr) (σ : St) (H : Hp) (c : HO) : Prop where
  run : ∀ H1, Ex H H1 → ∀ Q : VK, (∀ p H2, H1 p = none → Ex H1 H2 → H2 p = some c → Q (.ref p) H2) → WE X e σ H1 Q
structure Tv (X : Cx) (e : Expr) (σ : St) (H : Hp) (b : Bool) : Prop where
  run : ∀ H1, Ex H H1 → ∀ Q : Bool → Hp → Prop, (∀ H2, Ex H1 H2 → Q b H2) → WT X e σ H1 Q
structure Tw (X : Cx) (e : Expr) (σ : St) (H : Hp) (b : Bool) : Prop where
  run : ∀ H1, Ex H H1 → ∀ Q : Bool → Hp → Prop, (∀ H2, Ex H1 H2 → Q b H2) → WW X e σ H1 Q
structure Av (X : Cx) (es : List Expr) (σ : St) (H : Hp) (vs : List V) : Prop where
  run : ∀ H1, Ex H H1 → ∀ Q : List V → Hp → Prop, (∀ H2, Ex H1 H2 → Q vs H2) → WA X es σ H1 Q
section
variable {X : Cx} {S : Scope} {N M L G : List Str} {σ : St} {H H' : Hp} {a b c : Expr} {e : Expr} {es : List Expr} {pos pos2 : Pos} {v x y z : V} {i j k : Int} {t u : Bool}
theorem Ev.mono (h : Ev X e σ H v) (q : Ex H H') : Ev X e σ H' v := ⟨fun H1 e1 => h.run H1 (q.trans e1)⟩
theorem Eo.mono {o : HO} (h : Eo X e σ H o) (q : Ex H H') : Eo X e σ H' o := ⟨fun H1 e1 => h.run H1 (q.trans e1)⟩
theorem Tv.mono (h : Tv X e σ H t) (q : Ex H H') : Tv X e σ H' t := ⟨fun H1 e1 => h.run H1 (q.trans e1)⟩
theorem Ev.is (h : Ev X e σ H v) (q : v = z) : Ev X e σ H z := q ▸ h
theorem Tv.is (h : Tv X e σ H t) (q : t = u) : Tv X e σ H u := q ▸ h
theorem Ev.go {Q : VK} (h : Ev X e σ H v) (q : ∀ H2, Ex H H2 → Q v H2) : WE X e σ H Q := h.run H Ex.rfl' Q q
theorem Eo.go {o : HO} {Q : VK} (h : Eo X e σ H o) (q : ∀ p H2, H p = none → Ex H H2 → H2 p = some o → Q (.ref p) H2) : WE X e σ H Q := h.run H Ex.rfl' Q q
theorem Av.go {vs : List V} {Q : List V → Hp → Prop} (h : Av X es σ H vs) (q : ∀ H2, Ex H H2 → Q vs H2) : WA X es σ H Q := h.run H Ex.rfl' Q q
/-- by a rule that keeps the heap -/
theorem ev_pe {t : TE} (h : PE X e t) (q : ∀ H1, Ex H H1 → ∀ Q : VK, (∀ H2, Ex H1 H2 → Q v H2) → t σ H1 Q) : Ev X e σ H v := ⟨fun H1 e1 Q k => we_of h (q H1 e1 Q k)⟩
theorem eo_pe {t : TE} {o : HO} (h : PE X e t) (q : ∀ H1, Ex H H1 → ∀ Q : VK, (∀ p H2, H1 p = none → Ex H1 H2 → H2 p = some o → Q (.ref p) H2) → t σ H1 Q) : Eo X e σ H o := ⟨fun H1 e1 Q k => we_of h (q H1 e1 Q k)⟩
/-! names, constants -/
theorem ev_name {nm : Str} (C : Ctx X S N M L G) (hm : nm ∈ M) (h : At N σ nm v) : Ev X (.Name nm pos) σ H v := by
  obtain ⟨i, h1, h2⟩ := h.ix
  exact ev_pe (pe_var (i := i) (C.hN ▸ h1) (C.see hm) (C.dbg _ hm).1 (C.dbg _ hm).2) fun H1 _ Q k => ⟨v, h2, k H1 Ex.rfl'⟩
theorem ev_int {n : Nat} : Ev X (.Constant (.int i) n pos) σ H (.int i) := ev_pe pe_int fun H1 _ _ k => k H1 Ex.rfl'
theorem ev_bl {n : Nat} : Ev X (.Constant (.bool t) n pos) σ H (.bl t) := ev_pe pe_bl fun H1 _ _ k => k H1 Ex.rfl'
theorem ev_non {n : Nat} : Ev X (.Constant .none n pos) σ H .non := ev_pe pe_non fun H1 _ _ k => k H1 Ex.rfl'
theorem ev_str {n : Nat} {s : Str} : Ev X (.Constant (.str s) n pos) σ H (.str s) := ev_pe pe_str fun H1 _ _ k => k H1 Ex.rfl'
/-! operators -/
theorem ev_op {op : Operator} {r : R2} (ho : OpR X (binaryOp op) r) (ha : Ev X a σ H x) (hb : Ev X b σ H y) (hr : ∀ H1, Ex H H1 → ∀ Q : VK, Q z H1 → r x y H1 Q) : Ev X (.BinOp a op b pos) σ H z :=
  ev_pe (pe_op ho pe_we pe_we) fun H1 e1 Q k => ha.run H1 e1 _ fun H2 e2 => hb.run H2 (e1.trans e2) _ fun H3 e3 => hr H3 ((e1.trans e2).trans e3) Q (k H3 (e2.trans e3))
theorem ev_add (ha : Ev X a σ H (.int i)) (hb : Ev X b σ H (.int j)) : Ev X (.BinOp a .Add b pos) σ H (.int (i + j)) := ev_op op_add ha hb fun _ _ _ q => ⟨i, j, rfl, rfl, q⟩
theorem ev_sub (ha : Ev X a σ H (.int i)) (hb : Ev X b σ H (.int j)) : Ev X (.BinOp a .Sub b pos) σ H (.int (i - j)) := ev_op op_sub ha hb fun _ _ _ q => ⟨i, j, rfl, rfl, q⟩
theorem ev_mul (ha : Ev X a σ H (.int i)) (hb : Ev X b σ H (.int j)) (hm : CMul i j) : Ev X (.BinOp a .Mult b pos) σ H (.int (i * j)) := ev_op op_mul ha hb fun _ _ _ q => ⟨i, j, rfl, rfl, hm, q⟩
theorem ev_mod (ha : Ev X a σ H (.int i)) (hb : Ev X b σ H (.int j)) (hm : 0 < j) : Ev X (.BinOp a .Mod b pos) σ H (.int (i % j)) := ev_op op_mod ha hb fun _ _ _ q => ⟨i, j, rfl, rfl, hm, q⟩
theorem ev_fdiv (ha : Ev X a σ H (.int i)) (hb : Ev X b σ H (.int j)) (hm : 0 < j ∧ j < 1073741824) : Ev X (.BinOp a .FloorDiv b pos) σ H (.int (i / j)) := ev_op op_fdiv ha hb fun _ _ _ q => ⟨i, j, rfl, rfl, hm, q⟩
theorem ev_pow (ha : Ev X a σ H (.int i)) (hb : Ev X b σ H (.int j)) (hm : CPow i j) : Ev X (.BinOp a .Pow b pos) σ H (.int (i ^ j.toNat)) := ev_op op_pow ha hb fun _ _ _ q => ⟨i, j, rfl, rfl, hm, q⟩
theorem ev_neg (ha : Ev X a σ H (.int i)) : Ev X (.UnaryOp .USub a pos) σ H (.int (-i)) :=
  ev_pe (pe_un un_neg pe_we) fun H1 e1 Q k => ha.run H1 e1 _ fun H2 e2 => ⟨i, rfl, k H2 e2⟩
/-! comparisons: as values and as tests -/
structure Cv (X : Cx) (op : CmpOp) (a b : Expr) (σ : St) (H : Hp) (t : Bool) : Prop where
  ex : ∃ r : R2, OpR X (compareOp op) r ∧ behindInMarks op b = false ∧ ∀ H1, Ex H H1 → ∀ Q : VK, (∀ H2, Ex H1 H2 → Q (.bl t) H2) → WE X a σ H1 fun x H2 => WE X b σ H2 fun y H3 => r x y H3 Q
theorem cv_of {op : CmpOp} {r : R2} (ho : OpR X (compareOp op) r) (ha : Ev X a σ H x) (hb : Ev X b σ H y) (hr : ∀ H1, Ex H H1 → ∀ Q : VK, Q (.bl t) H1 → r x y H1 Q) (hm : behindInMarks op b = false) : Cv X op a b σ H t :=
  ⟨r, ho, hm, fun H1 e1 Q k => ha.run H1 e1 _ fun H2 e2 => hb.run H2 (e1.trans e2) _ fun H3 e3 => hr H3 ((e1.trans e2).trans e3) Q (k H3 (e2.trans e3))⟩
theorem ev_c {op : CmpOp} (h : Cv X op a b σ H t) : Ev X (.Compare a [op] [b] pos) σ H (.bl t) := by
  obtain ⟨r, ho, hm, h⟩ := h.ex
  exact ev_pe (pe_cmpR ho pe_we pe_we hm) h
theorem tv_c {op : CmpOp} (h : Cv X op a b σ H t) : Tv X (.Compare a [op] [b] pos) σ H t := by
  obtain ⟨r, ho, hm, h⟩ := h.ex
  exact ⟨fun H1 e1 Q k => wt_of (pt_cmpR ho pe_we pe_we hm) (h H1 e1 _ fun H2 e2 => ⟨t, rfl, k H2 e2⟩)⟩
theorem Cv.is {op : CmpOp} (h : Cv X op a b σ H t) (q : t = u) : Cv X op a b σ H u := q ▸ h
theorem dI {i j : Int} : decide (V.int i = V.int j) = decide (i = j) := by
  by_cases h : i = j
  · subst h; simp
  · rw [decide_eq_false h, decide_eq_false fun q => h (V.int.inj q)]
theorem dB {i j : Bool} : decide (V.bl i = V.bl j) = decide (i = j) := by
  by_cases h : i = j
  · subst h; simp
  · rw [decide_eq_false h, decide_eq_false fun q => h (V.bl.inj q)]
theorem cv_lt (ha : Ev X a σ H (.int i)) (hb : Ev X b σ H (.int j)) : Cv X .Lt a b σ H (decide (i < j)) := cv_of op_lt ha hb (fun _ _ _ q => ⟨i, j, rfl, rfl, q⟩) (nomark _)
theorem cv_le (ha : Ev X a σ H (.int i)) (hb : Ev X b σ H (.int j)) : Cv X .LtE a b σ H (decide (i ≤ j)) := cv_of op_le ha hb (fun _ _ _ q => ⟨i, j, rfl, rfl, q⟩) (nomark _)
theorem cv_gt (ha : Ev X a σ H (.int i)) (hb : Ev X b σ H (.int j)) : Cv X .Gt a b σ H (decide (j < i)) := cv_of op_gt ha hb (fun _ _ _ q => ⟨i, j, rfl, rfl, q⟩) (nomark _)
theorem cv_ge (ha : Ev X a σ H (.int i)) (hb : Ev X b σ H (.int j)) : Cv X .GtE a b σ H (decide (j ≤ i)) := cv_of op_ge ha hb (fun _ _ _ q => ⟨i, j, rfl, rfl, q⟩) (nomark _)
theorem cv_eqI (ha : Ev X a σ H (.int i)) (hb : Ev X b σ H (.int j)) : Cv X .Eq a b σ H (decide (i = j)) := cv_of op_eq ha hb (fun _ _ _ q => ⟨rfl, by rw [dI]; exact q⟩) (nomark _)
theorem cv_neI (ha : Ev X a σ H (.int i)) (hb : Ev X b σ H (.int j)) : Cv X .NotEq a b σ H (!decide (i = j)) := cv_of op_ne ha hb (fun _ _ _ q => ⟨rfl, by rw [dI]; exact q⟩) (nomark _)
theorem cv_neB (ha : Ev X a σ H (.bl t)) (hb : Ev X b σ H (.bl u)) : Cv X .NotEq a b σ H (!decide (t = u)) := cv_of op_ne ha hb (fun _ _ _ q => ⟨rfl, by rw [dB]; exact q⟩) (nomark _)
theorem cv_eqS (ha : Ev X a σ H x) (hb : Ev X b σ H y) (hs : scal x y = true) : Cv X .Eq a b σ H (decide (x = y)) := cv_of op_eq ha hb (fun _ _ _ q => ⟨hs, q⟩) (nomark _)
theorem cv_isN (ha : Ev X a σ H x) (hb : Ev X b σ H .non) : Cv X .Is a b σ H (decide (x = .non)) := cv_of op_isN ha hb (fun _ _ _ q => ⟨rfl, q⟩) (nomark _)
theorem cv_notN (ha : Ev X a σ H x) (hb : Ev X b σ H .non) : Cv X .IsNot a b σ H (!decide (x = .non)) := cv_of op_notN ha hb (fun _ _ _ q => ⟨rfl, q⟩) (nomark _)
/-- a op b op' c, of ints, by their outcomes -/
theorem ev_ch {op op' : CmpOp} {r r' : R2} (ho : OpR X (compareOp op) r) (ho' : OpR X (compareOp op') r') (ha : Ev X a σ H x) (hb : Ev X b σ H y) (hc : t = true → Ev X c σ H z) (hr : ∀ H1 (Q : VK), Q (.bl t) H1 → r x y H1 Q) (hr' : t = true → ∀ H1 (Q : VK), Q (.bl u) H1 → r' y z H1 Q)
    (hm : lastMarks [op, op'] [b, c] = false) : Ev X (.Compare a [op, op'] [b, c] pos) σ H (.bl (t && u)) :=
  ev_pe (pe_chain ho ho' pe_we pe_we pe_we hm) fun H1 e1 Q k => ha.run H1 e1 _ fun H2 e2 => hb.run H2 (e1.trans e2) _ fun H3 e3 => hr H3 _ ⟨t, rfl, by
    cases t with
    | true => exact (hc rfl).run H3 ((e1.trans e2).trans e3) _ fun H4 e4 => hr' rfl H4 _ (k H4 ((e2.trans e3).trans e4))
    | false => exact k H3 (e2.trans e3)⟩
theorem ev_leLt (ha : Ev X a σ H (.int i)) (hb : Ev X b σ H (.int j)) (hc : Ev X c σ H (.int k)) (hm : lastMarks [.LtE, .Lt] [b, c] = false := by with_unfolding_all rfl) : Ev X (.Compare a [.LtE, .Lt] [b, c] pos) σ H (.bl (decide (i ≤ j) && decide (j < k))) :=
  ev_ch op_le op_lt ha hb (fun _ => hc) (fun _ _ q => ⟨i, j, rfl, rfl, q⟩) (fun _ _ _ q => ⟨j, k, rfl, rfl, q⟩) hm
/-! and, or, not: as values, as tests -/
theorem ev_one {op : BoolOp} (h : Ev X a σ H x) : Ev X (.BoolOp op [a] pos) σ H x := ev_pe (pe_one pe_we) fun H1 e1 Q k => h.run H1 e1 Q k
theorem ev_and {rs : List Expr} (ha : Ev X a σ H (.bl t)) (hb : t = true → Ev X (.BoolOp .And (b :: rs) pos) σ H (.bl u)) : Ev X (.BoolOp .And (a :: b :: rs) pos) σ H (.bl (t && u)) :=
  ev_pe (pe_and pe_we pe_we) fun H1 e1 Q k => ha.run H1 e1 _ fun H2 e2 => ⟨t, rfl, by
    cases t with
    | true => exact (hb rfl).run H2 (e1.trans e2) Q fun H3 e3 => k H3 (e2.trans e3)
    | false => exact k H2 e2⟩
theorem ev_or {rs : List Expr} (ha : Ev X a σ H (.bl t)) (hb : t = false → Ev X (.BoolOp .Or (b :: rs) pos) σ H (.bl u)) : Ev X (.BoolOp .Or (a :: b :: rs) pos) σ H (.bl (t || u)) :=
  ev_pe (pe_or pe_we pe_we) fun H1 e1 Q k => ha.run H1 e1 _ fun H2 e2 => ⟨t, rfl, by
    cases t with
    | false => exact (hb rfl).run H2 (e1.trans e2) Q fun H3 e3 => k H3 (e2.trans e3)
    | true => exact k H2 e2⟩
theorem ev_not (ha : Ev X a σ H (.bl t)) : Ev X (.UnaryOp .Not a pos) σ H (.bl (!t)) := ev_pe (pe_not pe_we) fun H1 e1 Q k => ha.run H1 e1 _ fun H2 e2 => ⟨t, rfl, k H2 e2⟩
/-- a value that is a bool, as a test -/
theorem tv_val (h : Ev X e σ H (.bl t)) (he : ∀ whole, PySem.isTrue e X.env whole = (do let v ← whole; standAt e.pos; holding [v] (truthy v)) := by intro _; rfl) : Tv X e σ H t :=
  ⟨fun H1 e1 Q k => wt_of (pt_val pe_we he) (h.run H1 e1 _ fun H2 e2 => ⟨t, rfl, k H2 e2⟩)⟩
theorem tv_not (h : Tv X a σ H t) : Tv X (.UnaryOp .Not a pos) σ H (!t) := ⟨fun H1 e1 Q k => wt_of (pt_not pt_wt) (h.run H1 e1 _ fun H2 e2 => k H2 e2)⟩
theorem tv_w (h : Tw X e σ H t) : Tv X e σ H t := ⟨fun H1 e1 Q k => wt_of (PW.pt pw_ww) (h.run H1 e1 Q k)⟩
theorem tw_and1 (h : Tv X a σ H t) : Tw X (.BoolOp .And [a] pos) σ H t := ⟨fun H1 e1 Q k => ww_of (pw_and1 pt_wt) (h.run H1 e1 Q k)⟩
theorem tw_or1 (h : Tv X a σ H t) : Tw X (.BoolOp .Or [a] pos) σ H t := ⟨fun H1 e1 Q k => ww_of (pw_or1 pt_wt) (h.run H1 e1 Q k)⟩
theorem tw_and {rs : List Expr} (ha : Tv X a σ H t) (hb : t = true → Tw X (.BoolOp .And (b :: rs) pos) σ H u) : Tw X (.BoolOp .And (a :: b :: rs) pos) σ H (t && u) :=
  ⟨fun H1 e1 Q k => ww_of (pw_and pt_wt pw_ww) (ha.run H1 e1 _ fun H2 e2 => by
    cases t with
    | true => exact (hb rfl).run H2 (e1.trans e2) Q fun H3 e3 => k H3 (e2.trans e3)
    | false => exact k H2 e2)⟩
theorem tw_or {rs : List Expr} (ha : Tv X a σ H t) (hb : t = false → Tw X (.BoolOp .Or (b :: rs) pos) σ H u) : Tw X (.BoolOp .Or (a :: b :: rs) pos) σ H (t || u) :=
  ⟨fun H1 e1 Q k => ww_of (pw_or pt_wt pw_ww) (ha.run H1 e1 _ fun H2 e2 => by
    cases t with
    | false => exact (hb rfl).run H2 (e1.trans e2) Q fun H3 e3 => k H3 (e2.trans e3)
    | true => exact k H2 e2)⟩
/-! argument lists, displays, calls -/
theorem av_nil : Av X [] σ H [] := ⟨fun H1 _ Q k => a_nil (k H1 Ex.rfl')⟩
theorem av_cons {vs : List V} (h : Ev X e σ H v) (hr : Av X es σ H vs) (hs : starEach (e :: es) X.env = (false, eval e X.env) :: starEach es X.env := by rfl) : Av X (e :: es) σ H (v :: vs) :=
  ⟨fun H1 e1 Q k => a_cons (h.run H1 e1 _ fun H2 e2 => hr.run H2 (e1.trans e2) _ fun H3 e3 => k H3 (e2.trans e3)) hs⟩
theorem szOf {n : Nat} (h : n ≤ 100000) : n ≤ sizeLine := Nat.le_trans h (by decide)
theorem szLt {n : Nat} (h : n < 100000) : n < sizeLine := Nat.lt_of_lt_of_le h (by decide)
theorem eo_tup {vs : List V} {n : Nat} (h : Av X es σ H vs) (hl : vs.length ≤ 100000 := by first | decide | simp) : Eo X (.Tuple es n pos) σ H (.tup vs) :=
  eo_pe (pe_tup pa_wa) fun H1 e1 Q k => h.run H1 e1 _ fun H2 e2 => ⟨szOf hl, fun p hp => k p _ (e2.fresh hp) (e2.trans (Ex.new hp)) upd_same⟩
theorem eo_lst {vs : List V} (h : Av X es σ H vs) (hl : vs.length ≤ 100000 := by first | decide | simp) : Eo X (.List es pos) σ H (.lst vs) :=
  eo_pe (pe_lst pa_wa) fun H1 e1 Q k => h.run H1 e1 _ fun H2 e2 => ⟨szOf hl, fun p hp => k p _ (e2.fresh hp) (e2.trans (Ex.new hp)) upd_same⟩
/-! items -/
theorem ev_ixL {p : Addr} {xs : List V} {n : Int} (ha : Ev X a σ H (.ref p)) (hb : Ev X b σ H (.int n)) (hs : SqL X.K H p xs) (hx : atI xs n = some v) (hi : PlainIx b := by exact fun _ _ => rfl) : Ev X (.Subscript a b pos) σ H v :=
  ev_pe (pe_ix ix_list pe_we pe_we hi) fun H1 e1 Q k => ha.run H1 e1 _ fun H2 e2 => hb.run H2 (e1.trans e2) _ fun H3 e3 => ⟨p, xs, n, v, rfl, rfl, exL ((e1.trans e2).trans e3) hs, hx, k H3 (e2.trans e3)⟩
theorem ev_ixT {p : Addr} {xs : List V} {n : Int} (ha : Ev X a σ H (.ref p)) (hb : Ev X b σ H (.int n)) (hs : SqT X.K H p xs) (hx : atI xs n = some v) (hi : PlainIx b := by exact fun _ _ => rfl) : Ev X (.Subscript a b pos) σ H v :=
  ev_pe (pe_ix ix_tup pe_we pe_we hi) fun H1 e1 Q k => ha.run H1 e1 _ fun H2 e2 => hb.run H2 (e1.trans e2) _ fun H3 e3 => ⟨p, xs, n, v, rfl, rfl, exT ((e1.trans e2).trans e3) hs, hx, k H3 (e2.trans e3)⟩
/-- of a list that is made on the way -/
theorem ev_ixO {xs : List V} {n : Int} (ha : Eo X a σ H (.lst xs)) (hb : Ev X b σ H (.int n)) (hx : atI xs n = some v) (hi : PlainIx b := by exact fun _ _ => rfl) : Ev X (.Subscript a b pos) σ H v :=
  ev_pe (pe_ix ix_list pe_we pe_we hi) fun H1 e1 Q k => ha.run H1 e1 _ fun p H2 _ e2 hp => hb.run H2 (e1.trans e2) _ fun H3 e3 => ⟨p, xs, n, v, rfl, rfl, exL e3 (sqL hp), hx, k H3 (e2.trans e3)⟩
/-- x in [..], of flat things -/
theorem cv_inO {xs : List V} (ha : Ev X a σ H x) (hb : Eo X b σ H (.lst xs)) (hx : flatV x = true) (hf : xs.all flatV = true) (hm : behindInMarks .In b = false := by rfl) : Cv X .In a b σ H (inV x xs) :=
  ⟨_, op_in_seq, hm, fun H1 e1 Q k => ha.run H1 e1 _ fun H2 e2 => hb.run H2 (e1.trans e2) _ fun p H3 _ e3 hp => ⟨p, xs, rfl, .inl (sqL hp), hx, hf, by
    show Q _ H3
    exact k H3 (e2.trans e3)⟩⟩
/-! built-in functions -/
theorem ev_callB {nm : Str} {id : String} {r : List V → Hp → VK → Prop} {vs : List V} (C : Ctx X S N M L G) (hc : CallR X (.builtin id) r) (hg : nm ∈ G) (hm : X.mg nm = none) (hv : bootBuiltins nm = some (.builtin id)) (ha : Av X (e :: es) σ H vs)
    (hr : ∀ H1, Ex H H1 → ∀ Q : VK, Q v H1 → r vs H1 Q) (hn : nm ≠ "__name__" := by decide) (hd : (nm == ("__debug__" : Str)) = false := by decide) (he : starEach (e :: es) X.env = (false, eval e X.env) :: starEach es X.env := by rfl)
    (hp : (backTo pos (starEach es X.env)).any (·.1) = false := by rfl) : Ev X (.Call (.Name nm pos2) (e :: es) [] pos) σ H v :=
  ev_pe (pe_callB hc (C.glo hg) hm hv pa_wa hn hd he hp) fun H1 e1 Q k => ha.run H1 e1 _ fun H2 e2 => hr H2 (e1.trans e2) Q (k H2 e2)
theorem ev_callTy {nm : Str} {T : String} {r : List V → Hp → VK → Prop} {vs : List V} (C : Ctx X S N M L G) (hc : CallR X (.type T) r) (hg : nm ∈ G) (hm : X.mg nm = none) (hv : bootBuiltins nm = some (.type T)) (ha : Av X (e :: es) σ H vs)
    (hr : ∀ H1, Ex H H1 → ∀ Q : VK, Q v H1 → r vs H1 Q) (hn : nm ≠ "__name__" := by decide) (hd : (nm == ("__debug__" : Str)) = false := by decide) (he : starEach (e :: es) X.env = (false, eval e X.env) :: starEach es X.env := by rfl)
    (hp : (backTo pos (starEach es X.env)).any (·.1) = false := by rfl) : Ev X (.Call (.Name nm pos2) (e :: es) [] pos) σ H v :=
  ev_pe (pe_callTy hc (C.glo hg) hm hv pa_wa hn hd he hp) fun H1 e1 Q k => ha.run H1 e1 _ fun H2 e2 => hr H2 (e1.trans e2) Q (k H2 e2)
end
end RC
/-! Statements, loops, comprehensions, calls of own defs. -/
namespace RC
open PySem PySem.Spec PyProof.Rows L2
section
variable {X : Cx} {S : Scope} {N M L G : List Str} {σ σ2 : St} {H H' Hb : Hp} {a b c e : Expr} {es : List Expr} {rest body els : List Stmt} {pos pos2 pos3 pos4 : Pos} {v x y z : V} {i j k : Int} {t u : Bool} {D : Ends} {nm : Str} {Q : VK}
/-! ### a def of the module, called -/
structure Cal (X : Cx) (nm : Str) (sp : Sp) : Prop where
  run : ∀ (e : Expr) (es : List Expr) (p pos : Pos) (σ : St) (H : Hp) (Q : VK), starEach (e :: es) X.env = (false, eval e X.env) :: starEach es X.env → (backTo pos (starEach es X.env)).any (·.1) = false → Gl X nm →
    WA X (e :: es) σ H (fun vs H1 => sp vs H1 Q E0) → WE X (.Call (.Name nm p) (e :: es) [] pos) σ H Q
/-- what the top holds of a def: its promise, by its name -/
structure Df (P : Program) (w : World) (K : PySem.W.Frag) (mg : Str → Option Value) (base : Heap) (CX : CXT) (k : Nat) (nm : Str) (sp : Sp) : Prop where
  ex : ∃ (f : Addr) (fd : FuncData) (ps : List Str), FnOk P w K mg base CX k f fd ps sp ∧ mg nm = some (.ref f) ∧ PySem.W.keepIn K (.ref f) = true ∧ Binds K fd ps []
theorem Df.cal {CX : CXT} {k n : Nat} {sp : Sp} (d : Df X.prog X.w X.K X.mg X.base CX k nm sp) (hr : Room n X.A) (hk : k ≤ n) (hp : Passes CX X E0) (hd : (nm == ("__debug__" : Str)) = false := by decide) : Cal X nm sp := by
  obtain ⟨f, fd, ps, F, hm, kp, b⟩ := d.ex
  refine ⟨fun e es p pos σ H Q he hpl hg h => we_of (pe_call F (hr.mono hk) hg hm kp b .nil hp pa_wa hd he hpl) ?_⟩
  show WA X (e :: es) σ H (fun vs H1 => sp (vs ++ []) H1 Q E0)
  simpa only [List.append_nil] using h
theorem we_call {sp : Sp} (C : Ctx X S N M L G) (c : Cal X nm sp) (hg : nm ∈ G) (h : WA X (e :: es) σ H fun vs H1 => sp vs H1 Q E0) (he : starEach (e :: es) X.env = (false, eval e X.env) :: starEach es X.env := by rfl) (hp : (backTo pos (starEach es X.env)).any (·.1) = false := by rfl) :
    WE X (.Call (.Name nm pos2) (e :: es) [] pos) σ H Q := c.run e es pos2 pos σ H Q he hp (C.glo hg) h
theorem ev_call {sp : Sp} {vs : List V} (C : Ctx X S N M L G) (c : Cal X nm sp) (hg : nm ∈ G) (h : Av X (e :: es) σ H vs) (q : ∀ H1, Ex H H1 → ∀ Q : VK, (∀ H2, Ex H1 H2 → Q v H2) → sp vs H1 Q E0)
    (he : starEach (e :: es) X.env = (false, eval e X.env) :: starEach es X.env := by rfl) (hp : (backTo pos (starEach es X.env)).any (·.1) = false := by rfl) : Ev X (.Call (.Name nm pos2) (e :: es) [] pos) σ H v :=
  ⟨fun H1 e1 Q k => we_call C c hg (h.run H1 e1 _ fun H2 e2 => q H2 (e1.trans e2) Q fun H3 e3 => k H3 (e2.trans e3)) he hp⟩
theorem eo_call {sp : Sp} {vs : List V} {o : HO} (C : Ctx X S N M L G) (c : Cal X nm sp) (hg : nm ∈ G) (h : Av X (e :: es) σ H vs) (q : ∀ H1, Ex H H1 → ∀ Q : VK, (∀ p H2, H1 p = none → Ex H1 H2 → H2 p = some o → Q (.ref p) H2) → sp vs H1 Q E0)
    (he : starEach (e :: es) X.env = (false, eval e X.env) :: starEach es X.env := by rfl) (hp : (backTo pos (starEach es X.env)).any (·.1) = false := by rfl) : Eo X (.Call (.Name nm pos2) (e :: es) [] pos) σ H o :=
  ⟨fun H1 e1 Q k => we_call C c hg (h.run H1 e1 _ fun H2 e2 => q H2 (e1.trans e2) Q fun p H3 hp e3 => k p H3 (e2.fresh hp) (e2.trans e3)) he hp⟩
/-! ### small statements -/
theorem SetAt.uni {N : List Str} {σ : St} {x : Str} {f : V → St} (nd : N.Nodup) (h : ∀ v, SetAt N σ x v (f v)) : ∃ i : Nat, N[i]? = some x ∧ ∀ v, f v = σ.set i (some v) := by
  obtain ⟨i, h1, _⟩ := (h .non).ix
  refine ⟨i, h1, fun v => ?_⟩
  obtain ⟨j, h2, h3⟩ := (h v).ix
  rw [h3, nodup_ix nd h1 h2]
theorem b_set {f : V → St} (C : Ctx X S N M L G) (hl : nm ∈ L) (hs : ∀ v, SetAt N σ nm v (f v)) (h : WE X e σ H fun v H1 => WB X rest D (f v) H1) (hw : swapsWith e (some (.Name nm pos2)) pos.line X.env = pure false := by rfl) :
    WB X (.Assign [.Name nm pos2] e pos :: rest) D σ H := by
  obtain ⟨i, h1, h2⟩ := SetAt.uni C.nd hs
  obtain ⟨h3, h4⟩ := C.sto hl
  refine b_cons (ws_of (ps_set (i := i) (C.hN ▸ C.nd) (C.hN ▸ h1) h3 pe_we hw h4) ?_)
  refine WE.mono h fun v H1 q => ?_
  show WB X rest D (σ.set i (some v)) H1
  rw [← h2 v]
  exact q
theorem b_ret (h : WE X e σ H D.rt) : WB X (.Return (some e) pos :: rest) D σ H := b_cons (ws_of (ps_ret pe_we) h)
theorem b_drop (h : WE X e σ H fun _ H1 => WB X rest D σ H1) (hs : swapsWith e none pos.line X.env = pure false := by rfl) : WB X (.Expr e pos :: rest) D σ H := b_cons (ws_of (ps_expr pe_we hs) h)
theorem b_if0 (h : WT X c σ H fun t H1 => if t = true then WB X body { D with nx := fun σ' H' => WB X rest D σ' H' } σ H1 else WB X els { D with nx := fun σ' H' => WB X rest D σ' H' } σ H1) : WB X (.If c body els pos :: rest) D σ H :=
  b_cons (ws_of (ps_if pt_wt pb_wb pb_wb) h)
theorem b_if (h : Tv X c σ H t) (h1 : t = true → ∀ H1, Ex H H1 → WB X body { D with nx := fun σ' H' => WB X rest D σ' H' } σ H1) (h2 : t = false → ∀ H1, Ex H H1 → WB X els { D with nx := fun σ' H' => WB X rest D σ' H' } σ H1) :
    WB X (.If c body els pos :: rest) D σ H := b_if0 (h.run H Ex.rfl' _ fun H1 e1 => by
  cases t with
  | true => exact h1 rfl H1 e1
  | false => exact h2 rfl H1 e1)
/-- an if without else -/
theorem b_when (h : Tv X c σ H t) (h1 : t = true → ∀ H1, Ex H H1 → WB X body { D with nx := fun σ' H' => WB X rest D σ' H' } σ H1) (h2 : t = false → ∀ H1, Ex H H1 → WB X rest D σ H1) : WB X (.If c body [] pos :: rest) D σ H :=
  b_if h h1 fun q H1 e1 => b_nil (h2 q H1 e1)
theorem b_yes (h : Tv X c σ H true) (h1 : ∀ H1, Ex H H1 → WB X body { D with nx := fun σ' H' => WB X rest D σ' H' } σ H1) : WB X (.If c body els pos :: rest) D σ H := b_if h (fun _ => h1) fun q => Bool.noConfusion q
theorem b_no (h : Tv X c σ H false) (h2 : ∀ H1, Ex H H1 → WB X rest D σ H1) : WB X (.If c body [] pos :: rest) D σ H := b_when h (fun q => Bool.noConfusion q) fun _ => h2
/-- l[i] = e -/
theorem b_setIx (he : WE X e σ H fun v H1 => WE X a σ H1 fun o H2 => WE X b σ H2 fun n H3 => ∃ (p : Addr) (xs : List V) (m : Nat), o = .ref p ∧ n = .int (m : Int) ∧ H3 p = some (.lst xs) ∧ m < xs.length ∧ WB X rest D σ (upd H3 p (.lst (xs.set m v))))
    (ha : ∀ v, assign (.Subscript a b pos2) X.env v = (do
      let ov ← holding [v] (eval a X.env)
      let iv ← holding [v, ov] (eval b X.env)
      standAt pos2
      holding [v, ov, iv] (setItem ov iv v)
      release [v, ov, iv] []) := by intro _; rfl)
    (hs : swapsWithSole [.Subscript a b pos2] e pos.line X.env = pure false := by rfl) (hw : swappedStores [.Subscript a b pos2] e X.env = pure none := by rfl) (h1 : (assignEach [.Subscript a b pos2] X.env).map (·.2) = [assign (.Subscript a b pos2) X.env] := by rfl) :
    WB X (.Assign [.Subscript a b pos2] e pos :: rest) D σ H := by
  refine b_cons (ws_of (ps_asg pe_we (pg_sub pe_we pe_we set_list ha) hs hw h1) ?_)
  refine WE.mono he fun v H1 q => ?_
  refine WE.mono q fun o H2 q => ?_
  refine WE.mono q fun n H3 q => ?_
  obtain ⟨p, xs, m, rfl, rfl, h3, hm, q⟩ := q
  refine ⟨p, xs, _, m, rfl, rfl, h3, ?_, q⟩
  unfold ixN
  rw [if_pos (by omega), if_pos (by omega)]; simp
/-- l.append(e) -/
theorem we_app {cpos apos : Pos} (h : WE X a σ H fun o H1 => ∃ (l : Addr) (xs : List V), o = .ref l ∧ H1 l = some (.lst xs) ∧ WE X e σ H1 fun v H2 => ∃ ys : List V, H2 l = some (.lst ys) ∧ ys.length < sizeLine ∧ Q .non (upd H2 l (.lst (ys ++ [v]))))
    (hbase : attributeBase a "append" X.env (eval a X.env) = eval a X.env := by rfl)
    (hfew : ((backTo cpos (starEach (e :: []) X.env)).all (fun x => !x.1) && (backToKw cpos (keywordEach [] X.env)).all (fun x => x.1.isSome)
      && decide ((e :: ([] : List Expr)).length + ([] : List Keyword).length + (if ([] : List Keyword).isEmpty then 0 else 1) < 30)) = true := by rfl)
    (hline : (apos.endLine == cpos.line) = true := by rfl) (hs : starEach (e :: []) X.env = (false, eval e X.env) :: starEach [] X.env := by rfl) :
    WE X (.Call (.Attribute a "append" apos) [e] [] cpos) σ H Q := by
  refine we_of (pe_bm PySem.F.plainAttrs_list PySem.F.slot_list_append PySem.F.type_list_append mt_append pe_we (pa_cons pe_we pa_nil hs) hbase hfew hline hs rfl) ?_
  refine WE.mono h fun o H1 q => ?_
  obtain ⟨l, xs, rfl, h1, q⟩ := q
  refine ⟨.inl ⟨rfl, _, sqL h1⟩, ?_⟩
  refine WE.mono q fun v H2 q => ?_
  obtain ⟨ys, h2, hz, q⟩ := q
  exact ⟨l, ys, v, rfl, rfl, h2, hz, q⟩
/-! ### targets -/
def gN (N : List Str) (nm : Str) : TG := fun v σ H Q => ∃ σ2, SetAt N σ nm v σ2 ∧ Q σ2 H
theorem pgN (C : Ctx X S N M L G) (hl : nm ∈ L) : PG X (.Name nm pos) (gN N nm) := by
  refine ⟨fun pins s σ H v u Q I r h => ?_⟩
  obtain ⟨σ2, hs, q⟩ := h
  obtain ⟨i, h1, h2⟩ := hs.ix
  obtain ⟨h3, h4⟩ := C.sto hl
  exact (pg_name (i := i) (C.hN ▸ C.nd) (C.hN ▸ h1) h3 h4).run pins s σ H v u Q I r (by show Q (σ.set i (some v)) H; rw [← h2]; exact q)
def gT3 (K : PySem.W.Frag) (N : List Str) (n1 n2 n3 : Str) : TG := fun v σ H Q => ∃ a x y z σ1 σ2 σ3, v = .ref a ∧ SqT K H a [x, y, z] ∧ SetAt N σ n1 x σ1 ∧ SetAt N σ1 n2 y σ2 ∧ SetAt N σ2 n3 z σ3 ∧ Q σ3 H
theorem pgT3 {n1 n2 n3 : Str} {n : Nat} (C : Ctx X S N M L G) (hc : X.calm = true) (h1 : n1 ∈ L) (h2 : n2 ∈ L) (h3 : n3 ∈ L) : PG X (.Tuple [.Name n1 pos, .Name n2 pos2, .Name n3 pos3] n pos4) (gT3 X.K N n1 n2 n3) := by
  refine ⟨fun pins s σ H v u Q I r h => ?_⟩
  obtain ⟨a, x, y, z, σ1, σ2, σ3, rfl, hq, s1, s2, s3, q⟩ := h
  refine (pg_tup (n := 3) hc (pgs_cons (pgN C h1) (pgs_cons (pgN C h2) (pgs_cons (pgN C h3) pgs_nil)))).run pins s σ H _ u Q I r ?_
  exact ⟨a, [x, y, z], rfl, hq, rfl, x, _, rfl, σ1, s1, y, _, rfl, σ2, s2, z, _, rfl, σ3, s3, rfl, q⟩
def gT2 (K : PySem.W.Frag) (N : List Str) (n1 n2 : Str) : TG := fun v σ H Q => ∃ a x y σ1 σ2, v = .ref a ∧ SqT K H a [x, y] ∧ SetAt N σ n1 x σ1 ∧ SetAt N σ1 n2 y σ2 ∧ Q σ2 H
theorem pgT2 {n1 n2 : Str} {n : Nat} (C : Ctx X S N M L G) (hc : X.calm = true) (h1 : n1 ∈ L) (h2 : n2 ∈ L) : PG X (.Tuple [.Name n1 pos, .Name n2 pos2] n pos4) (gT2 X.K N n1 n2) := by
  refine ⟨fun pins s σ H v u Q I r h => ?_⟩
  obtain ⟨a, x, y, σ1, σ2, rfl, hq, s1, s2, q⟩ := h
  refine (pg_tup (n := 2) hc (pgs_cons (pgN C h1) (pgs_cons (pgN C h2) pgs_nil))).run pins s σ H _ u Q I r ?_
  exact ⟨a, [x, y], rfl, hq, rfl, x, _, rfl, σ1, s1, y, _, rfl, σ2, s2, rfl, q⟩
theorem g1_of {σ : St} {H : Hp} {F : V → St} {x : V} {Q : St → Hp → Prop} (h : ∀ x, SetAt N σ nm x (F x)) (q : Q (F x) H) : gN N nm x σ H Q := ⟨_, h x, q⟩
theorem g2_of {K : PySem.W.Frag} {n1 n2 : Str} {σ : St} {H : Hp} {F : V → V → St} {p : Addr} {x y : V} {Q : St → Hp → Prop} (h : ∀ x y, ∃ σ1, SetAt N σ n1 x σ1 ∧ SetAt N σ1 n2 y (F x y)) (hq : SqT K H p [x, y]) (q : Q (F x y) H) : gT2 K N n1 n2 (.ref p) σ H Q := by
  obtain ⟨σ1, h1, h2⟩ := h x y
  exact ⟨p, x, y, σ1, _, rfl, hq, h1, h2, q⟩
theorem g3_of {K : PySem.W.Frag} {n1 n2 n3 : Str} {σ : St} {H : Hp} {F : V → V → V → St} {p : Addr} {x y z : V} {Q : St → Hp → Prop} (h : ∀ x y z, ∃ σ1 σ2, SetAt N σ n1 x σ1 ∧ SetAt N σ1 n2 y σ2 ∧ SetAt N σ2 n3 z (F x y z)) (hq : SqT K H p [x, y, z]) (q : Q (F x y z) H) : gT3 K N n1 n2 n3 (.ref p) σ H Q := by
  obtain ⟨σ1, σ2, h1, h2, h3⟩ := h x y z
  exact ⟨p, x, y, z, σ1, σ2, _, rfl, hq, h1, h2, h3, q⟩
/-! ### what is walked -/
/-- J walks xs while what Hb knows stands -/
structure Wk (J : It) (xs : List V) (Hb : Hp) : Prop where
  go : ∀ i H', Ex Hb H' → i < xs.length → J.go i H'
  yl : ∀ i H' x H2, Ex Hb H' → J.yld i H' x H2 → i < xs.length → H2 = H' ∧ xs[i]? = some x
  st : ∀ H', Ex Hb H' → J.stop xs.length H'
theorem wk_list {K : PySem.W.Frag} {p : Addr} {xs : List V} (h : SqL K Hb p xs) : Wk (Itl K p) xs Hb :=
  ⟨fun i H' e hi => ⟨xs, xs[i], exL e h, by simp [hi]⟩, fun i H' x H2 e y _ => ⟨y.1, y.2 xs (exL e h)⟩, fun H' e => ⟨xs, exL e h, Nat.le_refl _⟩⟩
theorem wk_tup {K : PySem.W.Frag} {p : Addr} {xs : List V} (h : SqT K Hb p xs) : Wk (Itt K p) xs Hb :=
  ⟨fun i H' e hi => ⟨xs, xs[i], exT e h, by simp [hi]⟩, fun i H' x H2 e y _ => ⟨y.1, y.2 xs (exT e h)⟩, fun H' e => ⟨xs, exT e h, Nat.le_refl _⟩⟩
/-- lo, lo + 1, .. -/
def rgI (lo : Int) (n : Nat) : List V := (List.range n).map fun (i : Nat) => V.int (lo + (i : Int))
theorem rgI_len {lo : Int} {n : Nat} : (rgI lo n).length = n := by unfold rgI; rw [List.length_map, List.length_range]
theorem rgI_get {lo : Int} {n i : Nat} {x : V} : (rgI lo n)[i]? = some x ↔ i < n ∧ x = .int (lo + (i : Int)) := by
  unfold rgI
  rw [List.getElem?_map]
  by_cases h : i < n
  · rw [List.getElem?_range h]; simp [h, eq_comm]
  · rw [List.getElem?_eq_none (by rw [List.length_range]; omega)]; simp [h]
theorem wk_rng {lo : Int} {n : Nat} : Wk (Itr lo n) (rgI lo n) Hb :=
  ⟨fun i H' e hi => by rw [rgI_len] at hi; exact hi, fun i H' x H2 e y hi => ⟨y.1, rgI_get.mpr ⟨by rw [rgI_len] at hi; exact hi, y.2⟩⟩, fun H' e => by rw [rgI_len]; exact Nat.le_refl _⟩
/-- iter, evaluated at H, walks xs -/
structure Sr (X : Cx) (tg iter : Expr) (σ : St) (H : Hp) (xs : List V) (Bs : Hp → Prop) : Prop where
  ex : ∃ wi, PI X tg iter wi ∧ ∀ H1, Ex H H1 → ∀ R : It → Hp → Prop, (∀ J H2 B, Ex H1 H2 → Ex B H2 → Bs B → Wk J xs B → R J H2) → wi σ H1 R
theorem sr_list {tg : Expr} {p : Addr} {xs : List V} (h : Ev X a σ H (.ref p)) (hs : SqL X.K Hb p xs) (hb : Ex Hb H) : Sr X tg a σ H xs (fun B => B = Hb) :=
  ⟨_, pi_list pe_we, fun H1 e1 R k => h.run H1 e1 _ fun H2 e2 => ⟨p, rfl, ⟨xs, exL ((hb.trans e1).trans e2) hs⟩, k _ H2 Hb e2 ((hb.trans e1).trans e2) rfl (wk_list hs)⟩⟩
theorem sr_tup {tg : Expr} {p : Addr} {xs : List V} (h : Ev X a σ H (.ref p)) (hs : SqT X.K Hb p xs) (hb : Ex Hb H) : Sr X tg a σ H xs (fun B => B = Hb) :=
  ⟨_, pi_tup pe_we, fun H1 e1 R k => h.run H1 e1 _ fun H2 e2 => ⟨p, rfl, ⟨xs, exT ((hb.trans e1).trans e2) hs⟩, k _ H2 Hb e2 ((hb.trans e1).trans e2) rfl (wk_tup hs)⟩⟩
def noHp : Hp := fun _ => none
theorem noHp_ex {H : Hp} : Ex noHp H := fun _ _ e => nomatch (show (none : Option HO) = some _ from e)
theorem sr_rng1 {tg : Expr} {n : Nat} (C : Ctx X S N M L G) (hg : ("range" : Str) ∈ G) (hm : X.mg "range" = none) (h : Ev X a σ H (.int (n : Int))) (hn : n < 100000) (hs : starEach [a] X.env = [(false, eval a X.env)] := by rfl) : Sr X tg (.Call (.Name "range" pos) [a] [] pos2) σ H (rgI 0 n) (fun B => B = noHp) :=
  ⟨_, pi_range1 (C.glo hg) hm (pa_cons pe_we pa_nil hs) hs, fun H1 e1 R k => h.run H1 e1 _ fun H2 e2 => ⟨(n : Int), rfl, by omega, by omega, by
    rw [show ((n : Int)).toNat = n from rfl]
    exact k _ H2 _ e2 noHp_ex rfl wk_rng⟩⟩
theorem sr_rng2 {tg : Expr} {lo hi : Nat} (C : Ctx X S N M L G) (hg : ("range" : Str) ∈ G) (hm : X.mg "range" = none) (h : Ev X a σ H (.int (lo : Int))) (h' : Ev X b σ H (.int (hi : Int))) (hn : lo < 100000 ∧ hi < 100000) (hs : starEach [a, b] X.env = [(false, eval a X.env), (false, eval b X.env)] := by rfl)
    (hs2 : starEach [b] X.env = [(false, eval b X.env)] := by rfl) : Sr X tg (.Call (.Name "range" pos) [a, b] [] pos2) σ H (rgI lo (hi - lo)) (fun B => B = noHp) :=
  ⟨_, pi_range2 (C.glo hg) hm (pa_cons pe_we (pa_cons pe_we pa_nil hs2) (by rw [hs, hs2])) hs hs2, fun H1 e1 R k => h.run H1 e1 _ fun H2 e2 => h'.run H2 (e1.trans e2) _ fun H3 e3 => ⟨(lo : Int), (hi : Int), rfl, by omega, by
    rw [show ((hi : Int) - (lo : Int)).toNat = hi - lo by omega]
    exact k _ H3 _ (e2.trans e3) noHp_ex rfl wk_rng⟩⟩
def onlyAt (p : Addr) (o : HO) : Hp := fun q => if q = p then some o else none
theorem onlyAt_same {p : Addr} {o : HO} : onlyAt p o p = some o := if_pos rfl
theorem onlyAt_ne {p q : Addr} {o : HO} (h : q ≠ p) : onlyAt p o q = none := if_neg h
theorem onlyAt_ex {p : Addr} {o : HO} {H : Hp} (h : H p = some o) : Ex (onlyAt p o) H := fun q u e => by
  by_cases hq : q = p
  · rw [hq, onlyAt_same] at e; rw [hq, h]; exact e
  · rw [onlyAt_ne hq] at e; cases e
/-- a new list, nothing else known of the heap behind it -/
theorem sr_new {tg : Expr} {xs : List V} (h : Eo X a σ H (.lst xs)) : Sr X tg a σ H xs (fun B => ∃ p, H p = none ∧ B = onlyAt p (.lst xs)) :=
  ⟨_, pi_list pe_we, fun H1 e1 R k => h.run H1 e1 _ fun p H2 hp e2 h2 => ⟨p, rfl, ⟨xs, sqL h2⟩, k _ H2 (onlyAt p (.lst xs)) e2 (onlyAt_ex h2) ⟨p, e1.fresh hp, rfl⟩ (wk_list (K := X.K) (sqL onlyAt_same))⟩⟩
/-- for target in iter: Pv by the turn; B: what must stand of the walked thing -/
theorem b_for {tg iter : Expr} {xs : List V} {g : TG} {Bs : Hp → Prop} (hc : X.calm = true) (hp : PassesOwn (model X.prog X.w) X.A X.env X.xe) (Z : Sr X tg iter σ H xs Bs) (hg : PG X tg g) (Pv : Hp → Nat → St → Hp → Prop) (h0 : ∀ H1 B, Ex H H1 → Ex B H1 → Bs B → Pv B 0 σ H1)
    (hb : ∀ B i σ' H', Pv B i σ' H' → Ex B H') (hs : ∀ B i x σ' H', xs[i]? = some x → Pv B i σ' H' → g x σ' H' fun σ2 H2 => WB X body { D with nx := Pv B (i + 1), ct := Pv B (i + 1), bk := fun σ' H' => WB X rest D σ' H' } σ2 H2) (hd : ∀ B σ' H', Pv B xs.length σ' H' → WB X rest D σ' H')
    (hf : ∀ x, foldedSetIterable iter X.env x = pure x := by intro _; rfl) : WB X (.For tg iter body [] pos :: rest) D σ H := by
  obtain ⟨wi, hi, k⟩ := Z.ex
  refine b_cons (ws_of (ps_for hp hc hi hg pb_wb hf) ?_)
  refine k H Ex.rfl' _ fun J H2 B e2 eB hB W => ?_
  refine ⟨fun i m σ' H' => m = xs.length - i ∧ i ≤ xs.length ∧ Pv B i σ' H', ⟨xs.length, by simp, Nat.zero_le _, h0 H2 B e2 eB hB⟩, ?_⟩
  rintro i m σ' H' ⟨rfl, hi, p⟩
  have eb := hb B i σ' H' p
  by_cases hlt : i < xs.length
  · refine .inr ⟨W.go i H' eb hlt, Pv B (i + 1), fun σ2 H2 p2 => ⟨xs.length - (i + 1), by omega, rfl, hlt, p2⟩, fun x H2 y => ?_⟩
    obtain ⟨rfl, hx⟩ := W.yl i H' x H2 eb y hlt
    exact hs B i x σ' _ hx p
  · have e : i = xs.length := by omega
    subst e
    exact .inl ⟨W.st H' eb, hd B σ' H' p⟩
/-- the body is left as it comes: a turn's end | continue -/
theorem b_cont (h : D.ct σ H) : WB X (.Continue pos :: rest) D σ H := b_cons (ws_of ps_continue h)
end
end RC
/-! List comprehensions. -/
namespace RC
open PySem PySem.Spec PyProof.Rows L2
/-- the contexts of a comprehension's block -/
structure Blk (X : Cx) (scope : Scope) (Y : Cx) : Prop where
  ex : ∃ (s : Shared) (H : Hp) (C : Addr) (cl : List (Str × Addr)) (fp : List Addr), Y = X.blk s H scope (compEnvC scope cl C X.env) fp
theorem Blk.ctx {X Y : Cx} {S scope : Scope} {N M L G M' L' G' : List Str} (b : Blk X scope Y) (C : Ctx X S N M L G) (h : ctxB (relS scope S) (fun x => scope.names.lookup x == some .cell) N M' L' G' = true) : Ctx Y (relS scope S) N M' L' G' := by
  obtain ⟨s, H, A, cl, fp, rfl⟩ := b.ex
  refine ctx_of h C.hN ?_ (fun x e => e)
  show relS scope X.env.scope = _
  rw [C.sc]
theorem Blk.calm {X Y : Cx} {scope : Scope} (b : Blk X scope Y) : Y.calm = X.calm := by obtain ⟨s, H, A, cl, fp, rfl⟩ := b.ex; rfl
theorem Blk.K {X Y : Cx} {scope : Scope} (b : Blk X scope Y) : Y.K = X.K := by obtain ⟨s, H, A, cl, fp, rfl⟩ := b.ex; rfl
theorem Blk.mg {X Y : Cx} {scope : Scope} (b : Blk X scope Y) : Y.mg = X.mg := by obtain ⟨s, H, A, cl, fp, rfl⟩ := b.ex; rfl
theorem Blk.A {X Y : Cx} {scope : Scope} (b : Blk X scope Y) : Y.A = X.A := by obtain ⟨s, H, A, cl, fp, rfl⟩ := b.ex; rfl
/-- a target's reading does not mind what has been made -/
def GMon (g : TG) : Prop := ∀ (x : V) (σ : St) (H H' : Hp) (Q : St → Prop) (R : St → Hp → Prop), Ex H H' → g x σ H (fun σ2 _ => Q σ2) → (∀ σ2, Q σ2 → R σ2 H') → g x σ H' R
theorem gN_mon {N : List Str} {nm : Str} : GMon (gN N nm) := fun x σ H H' Q R _ ⟨σ2, s, q⟩ k => ⟨σ2, s, k _ q⟩
theorem gT3_mon {K : PySem.W.Frag} {N : List Str} {n1 n2 n3 : Str} : GMon (gT3 K N n1 n2 n3) := fun x σ H H' Q R e ⟨a, x1, y1, z1, σ1, σ2, σ3, r, s, s1, s2, s3, q⟩ k => ⟨a, x1, y1, z1, σ1, σ2, σ3, r, exT e s, s1, s2, s3, k _ q⟩
theorem gT2_mon {K : PySem.W.Frag} {N : List Str} {n1 n2 : Str} : GMon (gT2 K N n1 n2) := fun x σ H H' Q R e ⟨a, x1, y1, σ1, σ2, r, s, s1, s2, q⟩ k => ⟨a, x1, y1, σ1, σ2, r, exT e s, s1, s2, k _ q⟩
/-- the tests -/
structure WTs (X : Cx) (ifs : List Expr) (σ : St) (H : Hp) (Q : Bool → Hp → Prop) : Prop where
  run : ∀ (pins : List (Addr × Obj)) (s : Shared), Inv X pins σ H s → wpAny (model X.prog X.w) X.A (forIn ifs true fun c r => if r = true then do let ok ← PySem.isTrue c X.env (eval c X.env); pure (ForInStep.yield ok) else pure (ForInStep.yield r)) (TP X pins σ Q) X.xe s
structure TsV (X : Cx) (ifs : List Expr) (σ : St) (H : Hp) (b : Bool) : Prop where
  run : ∀ H1, Ex H H1 → ∀ Q : Bool → Hp → Prop, (∀ H2, Ex H1 H2 → Q b H2) → WTs X ifs σ H1 Q
theorem tsv_nil {X : Cx} {σ : St} {H : Hp} : TsV X [] σ H true := ⟨fun H1 _ Q k => ⟨fun pins s I => pts_nil.run pins s σ H1 Q I (k H1 Ex.rfl')⟩⟩
theorem tsv_one {X : Cx} {c : Expr} {σ : St} {H : Hp} {b : Bool} (h : Tv X c σ H b) : TsV X [c] σ H b := ⟨fun H1 e1 Q k => ⟨fun pins s I => (pts_one pt_wt).run pins s σ H1 Q I (h.run H1 e1 Q k)⟩⟩
/-- slots forgotten, written out -/
inductive WipeAt : Nat → St → St → Prop
  | here {o : Option V} {σ : St} : WipeAt 0 (o :: σ) (none :: σ)
  | there {n : Nat} {o : Option V} {σ σ' : St} : WipeAt n σ σ' → WipeAt (n + 1) (o :: σ) (o :: σ')
inductive Wiped : St → List (Str × Nat) → St → Prop
  | nil {σ : St} : Wiped σ [] σ
  | cons {σ σ1 σ2 : St} {x : Str} {n : Nat} {own : List (Str × Nat)} : Wiped σ own σ1 → WipeAt n σ1 σ2 → Wiped σ ((x, n) :: own) σ2
theorem WipeAt.eq {n : Nat} {σ σ' : St} (h : WipeAt n σ σ') : σ.set n none = σ' := by
  induction h with
  | here => rfl
  | there _ ih => rw [List.set_cons_succ, ih]
theorem Wiped.eq {σ σ' : St} {own : List (Str × Nat)} (h : Wiped σ own σ') : wipe σ (own.map (·.2)) = σ' := by
  induction h with
  | nil => rfl
  | cons _ h2 ih =>
    rw [List.map_cons]
    unfold wipe
    rw [ih]
    exact h2.eq
theorem st_if {Y : Cx} {ifs : List Expr} {elt : Expr} {σ : St} {H : Hp} {c : Bool} {v : V} (ht : TsV Y ifs σ H c) (hv : c = true → Ev Y elt σ H v) : ((if c = true then some v else none) = none ∧ TsV Y ifs σ H false) ∨ ∃ u, (if c = true then some v else none) = some u ∧ TsV Y ifs σ H true ∧ Ev Y elt σ H u := by
  cases c with
  | false => exact .inl ⟨if_neg Bool.false_ne_true, ht⟩
  | true => exact .inr ⟨v, if_pos rfl, ht, hv rfl⟩
theorem st_ifo {Y : Cx} {ifs : List Expr} {elt : Expr} {σ : St} {H : Hp} {c : Bool} {v : HO} (ht : TsV Y ifs σ H c) (hv : c = true → Eo Y elt σ H v) : ((if c = true then some v else none) = none ∧ TsV Y ifs σ H false) ∨ ∃ u, (if c = true then some v else none) = some u ∧ TsV Y ifs σ H true ∧ Eo Y elt σ H u := by
  cases c with
  | false => exact .inl ⟨if_neg Bool.false_ne_true, ht⟩
  | true => exact .inr ⟨v, if_pos rfl, ht, hv rfl⟩
theorem st_all {Y : Cx} {elt : Expr} {σ : St} {H : Hp} {v : V} (hv : Ev Y elt σ H v) : (some v = none ∧ TsV Y [] σ H false) ∨ ∃ u, some v = some u ∧ TsV Y [] σ H true ∧ Ev Y elt σ H u := .inr ⟨v, rfl, tsv_nil, hv⟩
theorem st_allo {Y : Cx} {elt : Expr} {σ : St} {H : Hp} {v : HO} (hv : Eo Y elt σ H v) : (some v = none ∧ TsV Y [] σ H false) ∨ ∃ u, some v = some u ∧ TsV Y [] σ H true ∧ Eo Y elt σ H u := .inr ⟨v, rfl, tsv_nil, hv⟩
/-- the heap without the list that grows -/
def hid (D : Addr) (H : Hp) : Hp := fun a => if a = D then none else H a
theorem hid_ne {D a : Addr} {H : Hp} (h : a ≠ D) : hid D H a = H a := if_neg h
theorem hid_same {D : Addr} {H : Hp} : hid D H D = none := if_pos rfl
theorem hid_ex {D : Addr} {H : Hp} : Ex (hid D H) H := fun a o e => by
  by_cases h : a = D
  · rw [h, hid_same] at e; cases e
  · rw [hid_ne h] at e; exact e
theorem hid_of {D : Addr} {H H' : Hp} (e : Ex H H') (h : H D = none) : Ex H (hid D H') := fun a o q => by rw [hid_ne (ne_of_none q h)]; exact e a o q
theorem hid_mono {D : Addr} {H H' : Hp} (e : Ex H H') : Ex (hid D H) (hid D H') := fun a o q => by
  by_cases h : a = D
  · rw [h, hid_same] at q; cases q
  · rw [hid_ne h] at q ⊢; exact e a o q
theorem hid_upd {D : Addr} {H : Hp} {o : HO} : hid D (upd H D o) = hid D H := by
  funext a
  by_cases h : a = D
  · rw [h, hid_same, hid_same]
  · rw [hid_ne h, hid_ne h, upd_ne h]
theorem take_snoc {α : Type} {l : List α} {i : Nat} {x : α} (h : l[i]? = some x) : l.take (i + 1) = l.take i ++ [x] := by rw [List.take_add_one, h]; rfl
theorem pgT3B {X Y : Cx} {S scope : Scope} {N M L G : List Str} {n1 n2 n3 : Str} {n : Nat} {p1 p2 p3 p4 : Pos} (b : Blk X scope Y) (C : Ctx Y S N M L G) (hc : X.calm = true) (h1 : n1 ∈ L) (h2 : n2 ∈ L) (h3 : n3 ∈ L) : PG Y (.Tuple [.Name n1 p1, .Name n2 p2, .Name n3 p3] n p4) (gT3 X.K N n1 n2 n3) := b.K ▸ pgT3 C (b.calm.trans hc) h1 h2 h3
theorem pgT2B {X Y : Cx} {S scope : Scope} {N M L G : List Str} {n1 n2 : Str} {n : Nat} {p1 p2 p4 : Pos} (b : Blk X scope Y) (C : Ctx Y S N M L G) (hc : X.calm = true) (h1 : n1 ∈ L) (h2 : n2 ∈ L) : PG Y (.Tuple [.Name n1 p1, .Name n2 p2] n p4) (gT2 X.K N n1 n2) := b.K ▸ pgT2 C (b.calm.trans hc) h1 h2
section
variable {X : Cx} {S scope : Scope} {N M L G : List Str} {σ : St} {H : Hp} {tg iter elt : Expr} {ifs : List Expr} {xs : List V} {g : TG} {Bs : Hp → Prop} {Bx : List V → Hp → Prop} {own : List (Str × Nat)} {pos pos2 pos3 : Pos} {vs : List Nat} {σw : St}
/-- the readings at once over all blocks -/
def tAll (X : Cx) (scope : Scope) (elt : Expr) : TE := fun σ H Q => ∀ Y, Blk X scope Y → WE Y elt σ H Q
def tsAll (X : Cx) (scope : Scope) (ifs : List Expr) : TT := fun σ H Q => ∀ Y, Blk X scope Y → WTs Y ifs σ H Q
theorem tAll_ok {Y : Cx} (b : Blk X scope Y) : PE Y elt (tAll X scope elt) := ⟨fun pins s σ H Q I h => (h Y b).run pins s I⟩
theorem tsAll_ok {Y : Cx} (b : Blk X scope Y) : PTs Y ifs (tsAll X scope ifs) := ⟨fun pins s σ H Q I h => (h Y b).run pins s I⟩
theorem lc_vals {α : Type} (l : List α) (f : α → Option V) {wi : TI} (k : ∀ H1, Ex H H1 → ∀ R : It → Hp → Prop, (∀ J H2 B xs, Ex H1 H2 → Ex B H2 → Bx xs B → Wk J xs B → R J H2) → wi σ H1 R) (gm : GMon g) (hll : ∀ xs B, Bx xs B → l.length = xs.length) (hz : l.length < 100000)
    (step : ∀ (xs : List V) (B : Hp), Bx xs B → ∀ (i : Nat) (x : V) (y : α) (Hc : Hp), xs[i]? = some x → l[i]? = some y → Ex H Hc → Ex B Hc → g x (wipe σ vs) Hc fun σ2 _ => wipe σ2 vs = wipe σ vs ∧ ∀ Y, Blk X scope Y → (f y = none ∧ TsV Y ifs σ2 Hc false) ∨ ∃ v, f y = some v ∧ TsV Y ifs σ2 Hc true ∧ Ev Y elt σ2 Hc v) :
    ∀ H1, Ex H H1 → ∀ Q : VK, (∀ p H2, H1 p = none → Ex H1 H2 → H2 p = some (.lst (l.filterMap f)) → Q (.ref p) H2) → tLc wi g (tsAll X scope ifs) (tAll X scope elt) vs σ H1 Q := fun H1 e1 Q kq => by
  refine k H1 e1 _ fun J H2 B xs e2 eB hB W => ?_
  have hll := hll xs B hB
  rw [hll] at hz
  have step := step xs B hB
  intro D hD
  refine ⟨fun i m H' => m = xs.length - i ∧ i ≤ xs.length ∧ H' D = some (.lst ((l.take i).filterMap f)) ∧ Ex H2 (hid D H'), ⟨xs.length, by simp, Nat.zero_le _, by rw [upd_same]; rfl, by rw [hid_upd]; exact hid_of Ex.rfl' hD⟩, ?_⟩
  rintro i m H' ⟨rfl, hi, hl, he⟩
  have eb : Ex B H' := (eB.trans he).trans hid_ex
  by_cases hlt : i < xs.length
  · refine .inr ⟨W.go i H' eb hlt, fun H'' => i + 1 ≤ xs.length ∧ H'' D = some (.lst ((l.take (i + 1)).filterMap f)) ∧ Ex H2 (hid D H''), fun H'' q => ⟨xs.length - (i + 1), by omega, rfl, q⟩, fun x H3 yy => ?_⟩
    obtain ⟨rfl, hx⟩ := W.yl i H' x H3 eb yy hlt
    obtain ⟨y, hy⟩ : ∃ y, l[i]? = some y := ⟨l[i], List.getElem?_eq_getElem (by omega)⟩
    have et : l.take (i + 1) = l.take i ++ [y] := take_snoc hy
    refine gm x _ (hid D H3) H3 _ _ hid_ex (step i x y (hid D H3) hx hy ((e1.trans e2).trans he) (eB.trans he)) fun σ2 q => ⟨q.1, fun Y b => ?_⟩
    rcases q.2 Y b with ⟨fx, ht⟩ | ⟨v, fx, ht, hv⟩
    · refine ht.run H3 hid_ex _ fun H4 e4 => ?_
      refine ⟨hlt, ?_, he.trans (hid_mono e4)⟩
      rw [et, List.filterMap_append, show [y].filterMap f = [] by simp [fx], List.append_nil]
      exact e4 D _ hl
    · refine ht.run H3 hid_ex _ fun H4 e4 => ?_
      intro Y' b'
      rcases q.2 Y' b' with ⟨fx', _⟩ | ⟨v', fx', _, hv'⟩
      · rw [fx] at fx'; cases fx'
      have ev : v' = v := Option.some.inj (fx'.symm.trans fx)
      subst ev
      refine hv'.run H4 (hid_ex.trans e4) _ fun H5 e5 => ?_
      refine ⟨_, e5 D _ (e4 D _ hl), szLt (Nat.lt_of_le_of_lt (Nat.le_trans (List.length_filterMap_le _ _) (by rw [List.length_take]; omega)) hz), hlt, ?_, ?_⟩
      · rw [upd_same, et, List.filterMap_append, show [y].filterMap f = [v'] by simp [fx]]
      · rw [hid_upd]
        exact he.trans (hid_mono (e4.trans e5))
  · have e : i = xs.length := by omega
    subst e
    rw [← hll, List.take_length] at hl
    exact .inl ⟨W.st H' eb, kq D H' (e2.fresh hD) ((e2.trans he).trans hid_ex) hl⟩
/-- iter, evaluated at H, walks some xs -/
structure SrX (X : Cx) (tg iter : Expr) (σ : St) (H : Hp) (Bx : List V → Hp → Prop) : Prop where
  ex : ∃ wi, PI X tg iter wi ∧ ∀ H1, Ex H H1 → ∀ R : It → Hp → Prop, (∀ J H2 B xs, Ex H1 H2 → Ex B H2 → Bx xs B → Wk J xs B → R J H2) → wi σ H1 R
theorem Sr.x (h : Sr X tg iter σ H xs Bs) : SrX X tg iter σ H (fun ys B => ys = xs ∧ Bs B) := by
  obtain ⟨wi, h1, k⟩ := h.ex
  exact ⟨wi, h1, fun H1 e1 R q => k H1 e1 R fun J H2 B e2 eB hB W => q J H2 B xs e2 eB ⟨rfl, hB⟩ W⟩
/-- the new objects of a comprehension -/
def Kids (H1 H2 : Hp) (p : Addr) (ps : List Addr) (cs : List HO) : Prop := Paired (fun q c => H2 q = some c ∧ H1 q = none) ps cs ∧ (p :: ps).Nodup
theorem paired_snoc {α β : Type} {F : α → β → Prop} {l : List α} {m : List β} (h : Paired F l m) {a : α} {b : β} (r : F a b) : Paired F (l ++ [a]) (m ++ [b]) := by
  induction h with
  | nil => exact .cons r .nil
  | cons q _ ih => exact .cons q ih
theorem paired_len {α β : Type} {F : α → β → Prop} {l : List α} {m : List β} (h : Paired F l m) : l.length = m.length := Paired.length h
theorem paired_mem {α β : Type} {F : α → β → Prop} {l : List α} {m : List β} (h : Paired F l m) {a : α} (ha : a ∈ l) : ∃ b, F a b := by
  induction h with
  | nil => cases ha
  | cons q _ ih =>
    rcases List.mem_cons.mp ha with rfl | ha
    · exact ⟨_, q⟩
    · exact ih ha
theorem paired_mapM {α β : Type} {F F' : α → β → Prop} {l : List α} {m : List β} (h : Paired F l m) (k : ∀ a ∈ l, ∀ b, F a b → F' a b) : Paired F' l m := by
  induction h with
  | nil => exact .nil
  | cons q _ ih => exact .cons (k _ List.mem_cons_self _ q) (ih fun a ha => k a (List.mem_cons_of_mem _ ha))
theorem lc_objs {α : Type} (l : List α) (f : α → Option HO) {wi : TI} (k : ∀ H1, Ex H H1 → ∀ R : It → Hp → Prop, (∀ J H2 B xs, Ex H1 H2 → Ex B H2 → Bx xs B → Wk J xs B → R J H2) → wi σ H1 R) (gm : GMon g) (hll : ∀ xs B, Bx xs B → l.length = xs.length) (hz : l.length < 100000)
    (step : ∀ (xs : List V) (B : Hp), Bx xs B → ∀ (i : Nat) (x : V) (y : α) (Hc : Hp), xs[i]? = some x → l[i]? = some y → Ex H Hc → Ex B Hc → g x (wipe σ vs) Hc fun σ2 _ => wipe σ2 vs = wipe σ vs ∧ ∀ Y, Blk X scope Y → (f y = none ∧ TsV Y ifs σ2 Hc false) ∨ ∃ v, f y = some v ∧ TsV Y ifs σ2 Hc true ∧ Eo Y elt σ2 Hc v) :
    ∀ H1, Ex H H1 → ∀ Q : VK, (∀ p ps H2, H1 p = none → Ex H1 H2 → H2 p = some (.lst (ps.map V.ref)) → Kids H1 H2 p ps (l.filterMap f) → Q (.ref p) H2) → tLc wi g (tsAll X scope ifs) (tAll X scope elt) vs σ H1 Q := fun H1 e1 Q kq => by
  refine k H1 e1 _ fun J H2 B xs e2 eB hB W => ?_
  have hll := hll xs B hB
  rw [hll] at hz
  have step := step xs B hB
  intro D hD
  refine ⟨fun i m H' => m = xs.length - i ∧ i ≤ xs.length ∧ ∃ ps : List Addr, H' D = some (.lst (ps.map V.ref)) ∧ Ex H2 (hid D H') ∧ Kids H1 H' D ps ((l.take i).filterMap f), ⟨xs.length, by simp, Nat.zero_le _, [], by rw [upd_same]; rfl, by rw [hid_upd]; exact hid_of Ex.rfl' hD, .nil, by simp⟩, ?_⟩
  rintro i m H' ⟨rfl, hi, ps, hl, he, hk⟩
  have eb : Ex B H' := (eB.trans he).trans hid_ex
  by_cases hlt : i < xs.length
  · refine .inr ⟨W.go i H' eb hlt, fun H'' => i + 1 ≤ xs.length ∧ ∃ ps : List Addr, H'' D = some (.lst (ps.map V.ref)) ∧ Ex H2 (hid D H'') ∧ Kids H1 H'' D ps ((l.take (i + 1)).filterMap f), fun H'' q => ⟨xs.length - (i + 1), by omega, rfl, q⟩, fun x H3 yy => ?_⟩
    obtain ⟨rfl, hx⟩ := W.yl i H' x H3 eb yy hlt
    obtain ⟨y, hy⟩ : ∃ y, l[i]? = some y := ⟨l[i], List.getElem?_eq_getElem (by omega)⟩
    have et : l.take (i + 1) = l.take i ++ [y] := take_snoc hy
    refine gm x _ (hid D H3) H3 _ _ hid_ex (step i x y (hid D H3) hx hy ((e1.trans e2).trans he) (eB.trans he)) fun σ2 q => ⟨q.1, fun Y b => ?_⟩
    rcases q.2 Y b with ⟨fx, ht⟩ | ⟨v, fx, ht, hv⟩
    · refine ht.run H3 hid_ex _ fun H4 e4 => ?_
      refine ⟨hlt, ps, e4 D _ hl, he.trans (hid_mono e4), ?_, hk.2⟩
      rw [et, List.filterMap_append, show [y].filterMap f = [] by simp [fx], List.append_nil]
      exact paired_mapM hk.1 fun a _ b q => ⟨e4 a _ q.1, q.2⟩
    · refine ht.run H3 hid_ex _ fun H4 e4 => ?_
      intro Y' b'
      rcases q.2 Y' b' with ⟨fx', _⟩ | ⟨v', fx', _, hv'⟩
      · rw [fx] at fx'; cases fx'
      have ev : v' = v := Option.some.inj (fx'.symm.trans fx)
      subst ev
      refine hv'.run H4 (hid_ex.trans e4) _ fun p H5 hp e5 h5 => ?_
      have pD : p ≠ D := fun z => by rw [z, e4 D _ hl] at hp; cases hp
      have pps : p ∉ ps := fun z => by
        obtain ⟨c, hc, _⟩ := paired_mem hk.1 z
        rw [e4 p _ hc] at hp; cases hp
      have hl5 := e5 D _ (e4 D _ hl)
      refine ⟨_, hl5, ?_, hlt, ps ++ [p], ?_, ?_, ?_, ?_⟩
      · rw [List.length_map, paired_len hk.1]
        exact szLt (Nat.lt_of_le_of_lt (Nat.le_trans (List.length_filterMap_le _ _) (by rw [List.length_take]; omega)) hz)
      · rw [upd_same, List.map_append]; rfl
      · rw [hid_upd]
        exact he.trans (hid_mono (e4.trans e5))
      · rw [et, List.filterMap_append, show [y].filterMap f = [v'] by simp [fx]]
        refine paired_snoc (paired_mapM hk.1 fun a ha b q => ?_) ?_
        · have aD : a ≠ D := fun z => (List.nodup_cons.mp hk.2).1 (z ▸ ha)
          rw [upd_ne aD]
          exact ⟨e5 a _ (e4 a _ q.1), q.2⟩
        · rw [upd_ne pD]
          exact ⟨h5, (e2.trans (he.trans (hid_ex.trans e4))).fresh hp⟩
      · have n1 := List.nodup_cons.mp hk.2
        refine List.nodup_cons.mpr ⟨?_, ?_⟩
        · rw [List.mem_append]
          rintro (z | z)
          · exact n1.1 z
          · exact pD (List.mem_singleton.mp z).symm
        · rw [List.nodup_append]
          refine ⟨n1.2, by simp, fun a ha b hb z => ?_⟩
          rw [List.mem_singleton.mp hb] at z
          exact pps (z ▸ ha)
  · have e : i = xs.length := by omega
    subst e
    rw [← hll, List.take_length] at hk
    exact .inl ⟨W.st H' eb, kq D ps H' (e2.fresh hD) ((e2.trans he).trans hid_ex) hl hk⟩
/-- as a value -/
structure Ec (X : Cx) (e : Expr) (σ : St) (H : Hp) (cs : List HO) : Prop where
  run : ∀ H1, Ex H H1 → ∀ Q : VK, (∀ p ps H2, H1 p = none → Ex H1 H2 → H2 p = some (.lst (ps.map V.ref)) → Kids H1 H2 p ps cs → Q (.ref p) H2) → WE X e σ H1 Q
theorem blk_ok (C : Ctx X S N M L G) (h : blkC N S scope own = true) : BlkOk X.N X.env.scope scope own := by
  rw [C.hN, C.sc]
  exact blkOk_by h
theorem eo_compX {α : Type} (l : List α) (f : α → Option V) (C : Ctx X S N M L G) (hc : X.calm = true) (ok : blkC N S scope own = true) (Z : SrX X tg iter σ H Bx) (gm : GMon g) (hg : ∀ Y, Blk X scope Y → PG Y tg g) (hll : ∀ xs B, Bx xs B → l.length = xs.length) (hz : l.length < 100000)
    (hw : Wiped σ own σw) (step : ∀ (xs : List V) (B : Hp), Bx xs B → ∀ (i : Nat) (x : V) (y : α) (Hc : Hp), xs[i]? = some x → l[i]? = some y → Ex H Hc → Ex B Hc → g x σw Hc fun σ2 _ => wipe σ2 (own.map (·.2)) = wipe σ (own.map (·.2)) ∧ ∀ Y, Blk X scope Y → (f y = none ∧ TsV Y ifs σ2 Hc false) ∨ ∃ v, f y = some v ∧ TsV Y ifs σ2 Hc true ∧ Ev Y elt σ2 Hc v)
    (hs : ∀ x, foldedSetIterable iter X.env x = pure x := by intro _; rfl) : Eo X (.ListComp elt [⟨tg, iter, ifs, 0⟩] scope pos) σ H (.lst (l.filterMap f)) := by
  obtain ⟨wi, hi, k⟩ := Z.ex
  exact ⟨fun H1 e1 Q kq => we_of (pe_lc hc (C.hN ▸ C.nd) hi (blk_ok C ok) (fun s H A cl fp => hg _ ⟨s, H, A, cl, fp, rfl⟩) (fun s H A cl fp => tsAll_ok ⟨s, H, A, cl, fp, rfl⟩) (fun s H A cl fp => tAll_ok ⟨s, H, A, cl, fp, rfl⟩) hs) (lc_vals l f k gm hll hz (by rw [hw.eq]; rw [hw.eq] at step; exact step) H1 e1 Q kq)⟩
theorem eo_comp {α : Type} (l : List α) (f : α → Option V) (C : Ctx X S N M L G) (hc : X.calm = true) (ok : blkC N S scope own = true) (Z : Sr X tg iter σ H xs Bs) (gm : GMon g) (hg : ∀ Y, Blk X scope Y → PG Y tg g) (hll : l.length = xs.length) (hz : xs.length < 100000)
    (hw : Wiped σ own σw) (step : ∀ (i : Nat) (x : V) (y : α) (Hc : Hp), xs[i]? = some x → l[i]? = some y → Ex H Hc → g x σw Hc fun σ2 _ => wipe σ2 (own.map (·.2)) = wipe σ (own.map (·.2)) ∧ ∀ Y, Blk X scope Y → (f y = none ∧ TsV Y ifs σ2 Hc false) ∨ ∃ v, f y = some v ∧ TsV Y ifs σ2 Hc true ∧ Ev Y elt σ2 Hc v)
    (hs : ∀ x, foldedSetIterable iter X.env x = pure x := by intro _; rfl) : Eo X (.ListComp elt [⟨tg, iter, ifs, 0⟩] scope pos) σ H (.lst (l.filterMap f)) := by
  exact eo_compX l f C hc ok Z.x gm hg (fun ys B h => by rw [h.1]; exact hll) (by rw [hll]; exact hz) hw (fun ys B h i x y Hc h1 h2 e _ => step i x y Hc (h.1 ▸ h1) h2 e) hs
theorem ec_compX {α : Type} (l : List α) (f : α → Option HO) (C : Ctx X S N M L G) (hc : X.calm = true) (ok : blkC N S scope own = true) (Z : SrX X tg iter σ H Bx) (gm : GMon g) (hg : ∀ Y, Blk X scope Y → PG Y tg g) (hll : ∀ xs B, Bx xs B → l.length = xs.length) (hz : l.length < 100000)
    (hw : Wiped σ own σw) (step : ∀ (xs : List V) (B : Hp), Bx xs B → ∀ (i : Nat) (x : V) (y : α) (Hc : Hp), xs[i]? = some x → l[i]? = some y → Ex H Hc → Ex B Hc → g x σw Hc fun σ2 _ => wipe σ2 (own.map (·.2)) = wipe σ (own.map (·.2)) ∧ ∀ Y, Blk X scope Y → (f y = none ∧ TsV Y ifs σ2 Hc false) ∨ ∃ v, f y = some v ∧ TsV Y ifs σ2 Hc true ∧ Eo Y elt σ2 Hc v)
    (hs : ∀ x, foldedSetIterable iter X.env x = pure x := by intro _; rfl) : Ec X (.ListComp elt [⟨tg, iter, ifs, 0⟩] scope pos) σ H (l.filterMap f) := by
  obtain ⟨wi, hi, k⟩ := Z.ex
  exact ⟨fun H1 e1 Q kq => we_of (pe_lc hc (C.hN ▸ C.nd) hi (blk_ok C ok) (fun s H A cl fp => hg _ ⟨s, H, A, cl, fp, rfl⟩) (fun s H A cl fp => tsAll_ok ⟨s, H, A, cl, fp, rfl⟩) (fun s H A cl fp => tAll_ok ⟨s, H, A, cl, fp, rfl⟩) hs) (lc_objs l f k gm hll hz (by rw [hw.eq]; rw [hw.eq] at step; exact step) H1 e1 Q kq)⟩
theorem ec_comp {α : Type} (l : List α) (f : α → Option HO) (C : Ctx X S N M L G) (hc : X.calm = true) (ok : blkC N S scope own = true) (Z : Sr X tg iter σ H xs Bs) (gm : GMon g) (hg : ∀ Y, Blk X scope Y → PG Y tg g) (hll : l.length = xs.length) (hz : xs.length < 100000)
    (hw : Wiped σ own σw) (step : ∀ (i : Nat) (x : V) (y : α) (Hc : Hp), xs[i]? = some x → l[i]? = some y → Ex H Hc → g x σw Hc fun σ2 _ => wipe σ2 (own.map (·.2)) = wipe σ (own.map (·.2)) ∧ ∀ Y, Blk X scope Y → (f y = none ∧ TsV Y ifs σ2 Hc false) ∨ ∃ v, f y = some v ∧ TsV Y ifs σ2 Hc true ∧ Eo Y elt σ2 Hc v)
    (hs : ∀ x, foldedSetIterable iter X.env x = pure x := by intro _; rfl) : Ec X (.ListComp elt [⟨tg, iter, ifs, 0⟩] scope pos) σ H (l.filterMap f) := by
  exact ec_compX l f C hc ok Z.x gm hg (fun ys B h => by rw [h.1]; exact hll) (by rw [hll]; exact hz) hw (fun ys B h i x y Hc h1 h2 e _ => step i x y Hc (h.1 ▸ h1) h2 e) hs
/-! x = [..], x a local on the same line: the store stands within the comprehension -/
section
variable {D : Ends} {rest : List Stmt} {nm : Str} {F : V → St}
theorem b_lc_gen (C : Ctx X S N M L G) (hc : X.calm = true) (ok : blkC N S scope own = true) {wi : TI} (hi : PI X tg iter wi) (hg : ∀ Y, Blk X scope Y → PG Y tg g) (hl : S.names.lookup nm = some .local) (hset : ∀ v, SetAt N σ nm v (F v))
    (hk : S.kind = .function) (hline : (pos2.line == pos.line) = true) (ha : (scope.names.any fun (n, k) => n == nm && (k == .local || k == .cell)) = false) (hs : ∀ x, foldedSetIterable iter X.env x = pure x)
    (q : tLc wi g (tsAll X scope ifs) (tAll X scope elt) (own.map (·.2)) σ H fun v H1 => WB X rest D (F v) H1) : WB X (.Assign [.Name nm pos2] (.ListComp elt [⟨tg, iter, ifs, 0⟩] scope pos) pos3 :: rest) D σ H := by
  obtain ⟨i, h1, h2⟩ := SetAt.uni C.nd hset
  have hl' : X.env.scope.names.lookup nm = some .local := by rw [C.sc]; exact hl
  refine b_cons (ws_of (ps_setLc (i := i) hc (C.hN ▸ C.nd) (C.hN ▸ h1) hl' (sw_true (by rw [C.sc]; exact hk) hl' hline ha) hi (blk_ok C ok) (fun s H A cl fp => hg _ ⟨s, H, A, cl, fp, rfl⟩) (fun s H A cl fp => tsAll_ok ⟨s, H, A, cl, fp, rfl⟩) (fun s H A cl fp => tAll_ok ⟨s, H, A, cl, fp, rfl⟩) hs) ?_)
  have e : F = fun v => σ.set i (some v) := funext h2
  rw [e] at q
  exact q
theorem b_setCX {α : Type} (l : List α) (f : α → Option V) (C : Ctx X S N M L G) (hc : X.calm = true) (ok : blkC N S scope own = true) (Z : SrX X tg iter σ H Bx) (gm : GMon g) (hg : ∀ Y, Blk X scope Y → PG Y tg g) (hll : ∀ xs B, Bx xs B → l.length = xs.length) (hz : l.length < 100000) (hl : S.names.lookup nm = some .local) (hset : ∀ v, SetAt N σ nm v (F v))
    (hw : Wiped σ own σw) (step : ∀ (xs : List V) (B : Hp), Bx xs B → ∀ (i : Nat) (x : V) (y : α) (Hc : Hp), xs[i]? = some x → l[i]? = some y → Ex H Hc → Ex B Hc → g x σw Hc fun σ2 _ => wipe σ2 (own.map (·.2)) = wipe σ (own.map (·.2)) ∧ ∀ Y, Blk X scope Y → (f y = none ∧ TsV Y ifs σ2 Hc false) ∨ ∃ v, f y = some v ∧ TsV Y ifs σ2 Hc true ∧ Ev Y elt σ2 Hc v)
    (q : ∀ p H1, H p = none → Ex H H1 → H1 p = some (.lst (l.filterMap f)) → WB X rest D (F (.ref p)) H1)
    (hk : S.kind = .function := by rfl) (hline : (pos2.line == pos.line) = true := by rfl) (ha : (scope.names.any fun (n, k) => n == nm && (k == .local || k == .cell)) = false := by decide +kernel) (hs : ∀ x, foldedSetIterable iter X.env x = pure x := by intro _; rfl) :
    WB X (.Assign [.Name nm pos2] (.ListComp elt [⟨tg, iter, ifs, 0⟩] scope pos) pos3 :: rest) D σ H := by
  obtain ⟨wi, hi, k⟩ := Z.ex
  exact b_lc_gen C hc ok hi hg hl hset hk hline ha hs (lc_vals l f k gm hll hz (by rw [hw.eq]; rw [hw.eq] at step; exact step) H Ex.rfl' _ fun p H2 hp e h => q p H2 hp e h)
theorem b_setC {α : Type} (l : List α) (f : α → Option V) (C : Ctx X S N M L G) (hc : X.calm = true) (ok : blkC N S scope own = true) (Z : Sr X tg iter σ H xs Bs) (gm : GMon g) (hg : ∀ Y, Blk X scope Y → PG Y tg g) (hll : l.length = xs.length) (hz : xs.length < 100000) (hl : S.names.lookup nm = some .local) (hset : ∀ v, SetAt N σ nm v (F v))
    (hw : Wiped σ own σw) (step : ∀ (i : Nat) (x : V) (y : α) (Hc : Hp), xs[i]? = some x → l[i]? = some y → Ex H Hc → g x σw Hc fun σ2 _ => wipe σ2 (own.map (·.2)) = wipe σ (own.map (·.2)) ∧ ∀ Y, Blk X scope Y → (f y = none ∧ TsV Y ifs σ2 Hc false) ∨ ∃ v, f y = some v ∧ TsV Y ifs σ2 Hc true ∧ Ev Y elt σ2 Hc v)
    (q : ∀ p H1, H p = none → Ex H H1 → H1 p = some (.lst (l.filterMap f)) → WB X rest D (F (.ref p)) H1)
    (hk : S.kind = .function := by rfl) (hline : (pos2.line == pos.line) = true := by rfl) (ha : (scope.names.any fun (n, k) => n == nm && (k == .local || k == .cell)) = false := by decide +kernel) (hs : ∀ x, foldedSetIterable iter X.env x = pure x := by intro _; rfl) :
    WB X (.Assign [.Name nm pos2] (.ListComp elt [⟨tg, iter, ifs, 0⟩] scope pos) pos3 :: rest) D σ H := by
  exact b_setCX l f C hc ok Z.x gm hg (fun ys B h => by rw [h.1]; exact hll) (by rw [hll]; exact hz) hl hset hw (fun ys B h i x y Hc h1 h2 e _ => step i x y Hc (h.1 ▸ h1) h2 e) q hk hline ha hs
theorem b_setCoX {α : Type} (l : List α) (f : α → Option HO) (C : Ctx X S N M L G) (hc : X.calm = true) (ok : blkC N S scope own = true) (Z : SrX X tg iter σ H Bx) (gm : GMon g) (hg : ∀ Y, Blk X scope Y → PG Y tg g) (hll : ∀ xs B, Bx xs B → l.length = xs.length) (hz : l.length < 100000) (hl : S.names.lookup nm = some .local) (hset : ∀ v, SetAt N σ nm v (F v))
    (hw : Wiped σ own σw) (step : ∀ (xs : List V) (B : Hp), Bx xs B → ∀ (i : Nat) (x : V) (y : α) (Hc : Hp), xs[i]? = some x → l[i]? = some y → Ex H Hc → Ex B Hc → g x σw Hc fun σ2 _ => wipe σ2 (own.map (·.2)) = wipe σ (own.map (·.2)) ∧ ∀ Y, Blk X scope Y → (f y = none ∧ TsV Y ifs σ2 Hc false) ∨ ∃ v, f y = some v ∧ TsV Y ifs σ2 Hc true ∧ Eo Y elt σ2 Hc v)
    (q : ∀ p ps H1, H p = none → Ex H H1 → H1 p = some (.lst (ps.map V.ref)) → Kids H H1 p ps (l.filterMap f) → WB X rest D (F (.ref p)) H1)
    (hk : S.kind = .function := by rfl) (hline : (pos2.line == pos.line) = true := by rfl) (ha : (scope.names.any fun (n, k) => n == nm && (k == .local || k == .cell)) = false := by decide +kernel) (hs : ∀ x, foldedSetIterable iter X.env x = pure x := by intro _; rfl) :
    WB X (.Assign [.Name nm pos2] (.ListComp elt [⟨tg, iter, ifs, 0⟩] scope pos) pos3 :: rest) D σ H := by
  obtain ⟨wi, hi, k⟩ := Z.ex
  exact b_lc_gen C hc ok hi hg hl hset hk hline ha hs (lc_objs l f k gm hll hz (by rw [hw.eq]; rw [hw.eq] at step; exact step) H Ex.rfl' _ fun p ps H2 hp e h hk => q p ps H2 hp e h hk)
theorem b_setCo {α : Type} (l : List α) (f : α → Option HO) (C : Ctx X S N M L G) (hc : X.calm = true) (ok : blkC N S scope own = true) (Z : Sr X tg iter σ H xs Bs) (gm : GMon g) (hg : ∀ Y, Blk X scope Y → PG Y tg g) (hll : l.length = xs.length) (hz : xs.length < 100000) (hl : S.names.lookup nm = some .local) (hset : ∀ v, SetAt N σ nm v (F v))
    (hw : Wiped σ own σw) (step : ∀ (i : Nat) (x : V) (y : α) (Hc : Hp), xs[i]? = some x → l[i]? = some y → Ex H Hc → g x σw Hc fun σ2 _ => wipe σ2 (own.map (·.2)) = wipe σ (own.map (·.2)) ∧ ∀ Y, Blk X scope Y → (f y = none ∧ TsV Y ifs σ2 Hc false) ∨ ∃ v, f y = some v ∧ TsV Y ifs σ2 Hc true ∧ Eo Y elt σ2 Hc v)
    (q : ∀ p ps H1, H p = none → Ex H H1 → H1 p = some (.lst (ps.map V.ref)) → Kids H H1 p ps (l.filterMap f) → WB X rest D (F (.ref p)) H1)
    (hk : S.kind = .function := by rfl) (hline : (pos2.line == pos.line) = true := by rfl) (ha : (scope.names.any fun (n, k) => n == nm && (k == .local || k == .cell)) = false := by decide +kernel) (hs : ∀ x, foldedSetIterable iter X.env x = pure x := by intro _; rfl) :
    WB X (.Assign [.Name nm pos2] (.ListComp elt [⟨tg, iter, ifs, 0⟩] scope pos) pos3 :: rest) D σ H := by
  exact b_setCoX l f C hc ok Z.x gm hg (fun ys B h => by rw [h.1]; exact hll) (by rw [hll]; exact hz) hl hset hw (fun ys B h i x y Hc h1 h2 e _ => step i x y Hc (h.1 ▸ h1) h2 e) q hk hline ha hs
end
end
end RC
/-! Data and their standing in the heap; the built-in functions in use. -/
namespace RC
open PySem PySem.Spec PyProof.Rows L2
/-- data: a dict is told by where it stands -/
inductive D where
  | non | bl (b : Bool) | int (i : Int) | str (s : Str) | lst (l : List D) | tup (l : List D) | dct (a : Addr)
/-- a dict that equals itself -/
def DkOk (kvs : List (Key × V)) : Prop := (kvs.map (·.1)).Nodup ∧ ∀ kv ∈ kvs, flatB kv.2 = true ∨ ∃ a, kv.2 = V.ref a
mutual
inductive Rep (H : Hp) : V → D → Prop
  | non : Rep H .non .non
  | bl (b : Bool) : Rep H (.bl b) (.bl b)
  | int (i : Int) : Rep H (.int i) (.int i)
  | str (s : Str) : Rep H (.str s) (.str s)
  | lst {a : Addr} {xs : List V} {ds : List D} : H a = some (.lst xs) → RepL H xs ds → Rep H (.ref a) (.lst ds)
  | tup {a : Addr} {xs : List V} {ds : List D} : H a = some (.tup xs) → RepL H xs ds → Rep H (.ref a) (.tup ds)
  | dct {a : Addr} {kvs : List (Key × V)} : H a = some (.dK kvs) → DkOk kvs → Rep H (.ref a) (.dct a)
inductive RepL (H : Hp) : List V → List D → Prop
  | nil : RepL H [] []
  | cons {v : V} {vs : List V} {d : D} {ds : List D} : Rep H v d → RepL H vs ds → RepL H (v :: vs) (d :: ds)
end
mutual
theorem Rep.mono {H H' : Hp} (e : Ex H H') : ∀ {v : V} {d : D}, Rep H v d → Rep H' v d
  | _, _, .non => .non
  | _, _, .bl b => .bl b
  | _, _, .int i => .int i
  | _, _, .str s => .str s
  | _, _, .lst h r => .lst (e _ _ h) (RepL.mono e r)
  | _, _, .tup h r => .tup (e _ _ h) (RepL.mono e r)
  | _, _, .dct h r => .dct (e _ _ h) r
theorem RepL.mono {H H' : Hp} (e : Ex H H') : ∀ {v : List V} {d : List D}, RepL H v d → RepL H' v d
  | _, _, .nil => .nil
  | _, _, .cons h r => .cons (Rep.mono e h) (RepL.mono e r)
end
section
variable {H H' : Hp} {v : V} {a : Addr} {xs ys : List V} {ds es : List D} {d : D} {i : Nat}
theorem RepL.len (r : RepL H xs ds) : xs.length = ds.length := by
  induction ds generalizing xs with
  | nil => cases r; rfl
  | cons d ds ih => cases r with | cons h r => rw [List.length_cons, List.length_cons, ih r]
theorem RepL.get (r : RepL H xs ds) {x : V} (h : xs[i]? = some x) : ∃ d, ds[i]? = some d ∧ Rep H x d := by
  induction ds generalizing xs i with
  | nil => cases r; simp at h
  | cons d ds ih =>
    cases r with
    | cons q r =>
      cases i with
      | zero => rw [List.getElem?_cons_zero] at h ⊢; cases h; exact ⟨d, rfl, q⟩
      | succ i => rw [List.getElem?_cons_succ] at h ⊢; exact ih r h
theorem RepL.at (r : RepL H xs ds) {d : D} (h : ds[i]? = some d) : ∃ x, xs[i]? = some x ∧ Rep H x d := by
  induction ds generalizing xs i with
  | nil => simp at h
  | cons d ds ih =>
    cases r with
    | cons q r =>
      cases i with
      | zero => rw [List.getElem?_cons_zero] at h ⊢; cases h; exact ⟨_, rfl, q⟩
      | succ i => rw [List.getElem?_cons_succ] at h ⊢; exact ih r h
theorem RepL.app (r : RepL H xs ds) (r' : RepL H ys es) : RepL H (xs ++ ys) (ds ++ es) := by
  induction ds generalizing xs with
  | nil => cases r; exact r'
  | cons d ds ih => cases r with | cons q r => exact .cons q (ih r)
theorem RepL.take (r : RepL H xs ds) (n : Nat) : RepL H (xs.take n) (ds.take n) := by
  induction ds generalizing xs n with
  | nil => cases r; rw [List.take_nil, List.take_nil]; exact .nil
  | cons d ds ih =>
    cases r with
    | cons q r =>
      cases n with
      | zero => exact .nil
      | succ n => exact .cons q (ih r n)
theorem RepL.set (r : RepL H xs ds) {x : V} (q : Rep H x d) (n : Nat) : RepL H (xs.set n x) (ds.set n d) := by
  induction ds generalizing xs n with
  | nil => cases r; exact .nil
  | cons d ds ih =>
    cases r with
    | cons q' r =>
      cases n with
      | zero => exact .cons q r
      | succ n => exact .cons q' (ih r n)
theorem RepL.ints {ns : List Int} : RepL H (ns.map V.int) (ns.map D.int) := by
  induction ns with
  | nil => exact .nil
  | cons n ns ih => exact .cons (.int n) ih
theorem RepL.ints_inv {ns : List Int} (r : RepL H xs (ns.map D.int)) : xs = ns.map V.int := by
  induction ns generalizing xs with
  | nil => cases r; rfl
  | cons n ns ih =>
    cases r with
    | cons q r =>
      cases q
      rw [ih r]; rfl
/-- from what is built: items that hold, one by one -/
theorem RepL.of (hl : xs.length = ds.length) (h : ∀ (i : Nat) (x : V) (d : D), xs[i]? = some x → ds[i]? = some d → Rep H x d) : RepL H xs ds := by
  induction ds generalizing xs with
  | nil => cases xs with
    | nil => exact .nil
    | cons x xs => simp at hl
  | cons d ds ih =>
    cases xs with
    | nil => simp at hl
    | cons x xs =>
      refine .cons (h 0 x d rfl rfl) (ih (by simpa using hl) fun i y c h1 h2 => h (i + 1) y c (by simpa using h1) (by simpa using h2))
theorem Rep.lst_inv {ds : List D} (r : Rep H v (.lst ds)) : ∃ a xs, v = .ref a ∧ H a = some (.lst xs) ∧ RepL H xs ds := by cases r with | lst h r => exact ⟨_, _, rfl, h, r⟩
theorem Rep.tup_inv {ds : List D} (r : Rep H v (.tup ds)) : ∃ a xs, v = .ref a ∧ H a = some (.tup xs) ∧ RepL H xs ds := by cases r with | tup h r => exact ⟨_, _, rfl, h, r⟩
theorem Rep.int_inv {i : Int} (r : Rep H v (.int i)) : v = .int i := by cases r; rfl
/-- new objects, one by one -/
theorem kids_rep {H1 : Hp} {p : Addr} {α : Type} {f : α → List Int} : ∀ {l : List α} {ps : List Addr}, Paired (fun q c => H q = some c ∧ H1 q = none) ps (l.map fun x => HO.tup ((f x).map V.int)) → RepL H (ps.map V.ref) (l.map fun x => D.tup ((f x).map D.int))
  | [], _, h => by cases h; exact .nil
  | x :: l, _, h => by
    cases h with
    | cons q h => exact .cons (.tup q.1 RepL.ints) (kids_rep (p := p) h)
theorem kids_repL {H1 : Hp} {p : Addr} {α : Type} {f : α → List Int} : ∀ {l : List α} {ps : List Addr}, Paired (fun q c => H q = some c ∧ H1 q = none) ps (l.map fun x => HO.lst ((f x).map V.int)) → RepL H (ps.map V.ref) (l.map fun x => D.lst ((f x).map D.int))
  | [], _, h => by cases h; exact .nil
  | x :: l, _, h => by
    cases h with
    | cons q h => exact .cons (.lst q.1 RepL.ints) (kids_repL (p := p) h)
end
/-! ### kinds -/
def D.ty : D → String
  | .non => "NoneType" | .bl _ => "bool" | .int _ => "int" | .str _ => "str" | .lst _ => "list" | .tup _ => "tuple" | .dct _ => "dict"
def D.isInt : D → Bool
  | .bl _ => true | .int _ => true | _ => false
def D.isBool : D → Bool
  | .bl _ => true | _ => false
def D.isStr : D → Bool
  | .str _ => true | _ => false
def D.isDict : D → Bool
  | .dct _ => true | _ => false
def D.isList : D → Bool
  | .lst _ => true | _ => false
def D.isTup : D → Bool
  | .tup _ => true | _ => false
/-- a whole number -/
def D.whole : D → Bool
  | .int _ => true | _ => false
theorem kb_int (d : D) : kitB d.ty "int" = some d.isInt := by cases d <;> (simp only [D.ty, D.isInt]; decide +kernel)
theorem kb_bool (d : D) : kitB d.ty "bool" = some d.isBool := by cases d <;> (simp only [D.ty, D.isBool]; decide +kernel)
theorem kb_str (d : D) : kitB d.ty "str" = some d.isStr := by cases d <;> (simp only [D.ty, D.isStr]; decide +kernel)
theorem kb_dict (d : D) : kitB d.ty "dict" = some d.isDict := by cases d <;> (simp only [D.ty, D.isDict]; decide +kernel)
theorem kb_list (d : D) : kitB d.ty "list" = some d.isList := by cases d <;> (simp only [D.ty, D.isList]; decide +kernel)
theorem kb_tuple (d : D) : kitB d.ty "tuple" = some d.isTup := by cases d <;> (simp only [D.ty, D.isTup]; decide +kernel)
theorem Rep.tyX {K : PySem.W.Frag} {H : Hp} {v : V} {d : D} (r : Rep H v d) : TyX K H v (.type d.ty) := by
  cases r with
  | non => exact .base .non
  | bl b => exact .base (.bl b)
  | int i => exact .base (.int i)
  | str s => exact .base (.str s)
  | lst h _ => exact .base (.lst h)
  | tup h _ => exact .base (.tup h)
  | dct h _ => exact .base (.dK h)
theorem bt_isinstance : bootBuiltins "isinstance" = some (.builtin "isinstance") := by decide +kernel
theorem bt_int : bootBuiltins "int" = some (.type "int") := by decide +kernel
theorem bt_bool : bootBuiltins "bool" = some (.type "bool") := by decide +kernel
theorem bt_str : bootBuiltins "str" = some (.type "str") := by decide +kernel
theorem bt_list : bootBuiltins "list" = some (.type "list") := by decide +kernel
theorem bt_tuple : bootBuiltins "tuple" = some (.type "tuple") := by decide +kernel
theorem bt_dict : bootBuiltins "dict" = some (.type "dict") := by decide +kernel
theorem bt_max : bootBuiltins "max" = some (.builtin "max") := by decide +kernel
theorem bt_min : bootBuiltins "min" = some (.builtin "min") := by decide +kernel
theorem bt_sum : bootBuiltins "sum" = some (.builtin "sum") := by decide +kernel
theorem bt_sorted : bootBuiltins "sorted" = some (.builtin "sorted") := by decide +kernel
/-! ### the built-in names that stand free -/
structure Bi (mg : Str → Option Value) : Prop where
  len : mg "len" = none
  range : mg "range" = none
  isinstance : mg "isinstance" = none
  int : mg "int" = none
  bool : mg "bool" = none
  str : mg "str" = none
  list : mg "list" = none
  tuple : mg "tuple" = none
  dict : mg "dict" = none
  max : mg "max" = none
  min : mg "min" = none
  sum : mg "sum" = none
  sorted : mg "sorted" = none
  ve : mg "ValueError" = none
section
variable {X : Cx} {S : Scope} {N M L G : List Str} {σ : St} {H H' : Hp} {a b c e : Expr} {es : List Expr} {pos pos2 pos3 pos4 : Pos} {v x y z : V} {i j k : Int} {t u : Bool} {nm : Str} {d : D}
/-- a built-in class as a value -/
theorem ev_ty {T : String} (C : Ctx X S N M L G) (hg : nm ∈ G) (hm : X.mg nm = none) (hv : bootBuiltins nm = some (.type T)) (hn : nm ≠ "__name__" := by decide) (hd : (nm == ("__debug__" : Str)) = false := by decide) : Ev X (.Name nm pos) σ H (.ty T) :=
  ev_pe (pe_bltn (v := .ty T) (C.glo hg) hm hv rfl hn hd) fun H1 _ Q k => k H1 Ex.rfl'
theorem ev_isi {T : String} (C : Ctx X S N M L G) (B : Bi X.mg) (hg : ("isinstance" : Str) ∈ G) (hg2 : nm ∈ G) (hm : X.mg nm = none) (hv : bootBuiltins nm = some (.type T)) (ha : Ev X a σ H v) (r : Rep H v d) (hk : kitB d.ty T = some t)
    (hn : nm ≠ "__name__" := by decide) (hd : (nm == ("__debug__" : Str)) = false := by decide) (he : starEach (a :: (.Name nm pos3) :: []) X.env = (false, eval a X.env) :: starEach ((.Name nm pos3) :: []) X.env := by rfl) :
    Ev X (.Call (.Name "isinstance" pos2) [a, .Name nm pos3] [] pos) σ H (.bl t) :=
  ev_callB C call_isi hg B.isinstance bt_isinstance (av_cons ha (av_cons (ev_ty C hg2 hm hv hn hd) av_nil) he) (fun H1 e1 Q q => ⟨v, .ty T, .type d.ty, .type T, t, rfl, .ty T, (r.mono e1).tyX, kit_ty hk, q⟩) (by decide) (by decide) he rfl
theorem ev_isInt (C : Ctx X S N M L G) (B : Bi X.mg) (hg : ("isinstance" : Str) ∈ G) (hg2 : ("int" : Str) ∈ G) (ha : Ev X a σ H v) (r : Rep H v d) (he : starEach (a :: (.Name "int" pos3) :: []) X.env = (false, eval a X.env) :: starEach ((.Name "int" pos3) :: []) X.env := by rfl) : Ev X (.Call (.Name "isinstance" pos2) [a, .Name "int" pos3] [] pos) σ H (.bl d.isInt) := ev_isi C B hg hg2 B.int bt_int ha r (kb_int d) (by decide) (by decide) he
theorem ev_isBool (C : Ctx X S N M L G) (B : Bi X.mg) (hg : ("isinstance" : Str) ∈ G) (hg2 : ("bool" : Str) ∈ G) (ha : Ev X a σ H v) (r : Rep H v d) (he : starEach (a :: (.Name "bool" pos3) :: []) X.env = (false, eval a X.env) :: starEach ((.Name "bool" pos3) :: []) X.env := by rfl) : Ev X (.Call (.Name "isinstance" pos2) [a, .Name "bool" pos3] [] pos) σ H (.bl d.isBool) := ev_isi C B hg hg2 B.bool bt_bool ha r (kb_bool d) (by decide) (by decide) he
theorem ev_isStr (C : Ctx X S N M L G) (B : Bi X.mg) (hg : ("isinstance" : Str) ∈ G) (hg2 : ("str" : Str) ∈ G) (ha : Ev X a σ H v) (r : Rep H v d) (he : starEach (a :: (.Name "str" pos3) :: []) X.env = (false, eval a X.env) :: starEach ((.Name "str" pos3) :: []) X.env := by rfl) : Ev X (.Call (.Name "isinstance" pos2) [a, .Name "str" pos3] [] pos) σ H (.bl d.isStr) := ev_isi C B hg hg2 B.str bt_str ha r (kb_str d) (by decide) (by decide) he
theorem ev_isDict (C : Ctx X S N M L G) (B : Bi X.mg) (hg : ("isinstance" : Str) ∈ G) (hg2 : ("dict" : Str) ∈ G) (ha : Ev X a σ H v) (r : Rep H v d) (he : starEach (a :: (.Name "dict" pos3) :: []) X.env = (false, eval a X.env) :: starEach ((.Name "dict" pos3) :: []) X.env := by rfl) : Ev X (.Call (.Name "isinstance" pos2) [a, .Name "dict" pos3] [] pos) σ H (.bl d.isDict) := ev_isi C B hg hg2 B.dict bt_dict ha r (kb_dict d) (by decide) (by decide) he
theorem ev_isList (C : Ctx X S N M L G) (B : Bi X.mg) (hg : ("isinstance" : Str) ∈ G) (hg2 : ("list" : Str) ∈ G) (ha : Ev X a σ H v) (r : Rep H v d) (he : starEach (a :: (.Name "list" pos3) :: []) X.env = (false, eval a X.env) :: starEach ((.Name "list" pos3) :: []) X.env := by rfl) : Ev X (.Call (.Name "isinstance" pos2) [a, .Name "list" pos3] [] pos) σ H (.bl d.isList) := ev_isi C B hg hg2 B.list bt_list ha r (kb_list d) (by decide) (by decide) he
theorem ev_isTup (C : Ctx X S N M L G) (B : Bi X.mg) (hg : ("isinstance" : Str) ∈ G) (hg2 : ("tuple" : Str) ∈ G) (ha : Ev X a σ H v) (r : Rep H v d) (he : starEach (a :: (.Name "tuple" pos3) :: []) X.env = (false, eval a X.env) :: starEach ((.Name "tuple" pos3) :: []) X.env := by rfl) : Ev X (.Call (.Name "isinstance" pos2) [a, .Name "tuple" pos3] [] pos) σ H (.bl d.isTup) := ev_isi C B hg hg2 B.tuple bt_tuple ha r (kb_tuple d) (by decide) (by decide) he
/-- isinstance(x, (list, tuple)) -/
theorem ev_isSeq {n : Nat} (C : Ctx X S N M L G) (B : Bi X.mg) (hg : ("isinstance" : Str) ∈ G) (hg2 : ("list" : Str) ∈ G) (hg3 : ("tuple" : Str) ∈ G) (ha : Ev X a σ H v) (r : Rep H v d)
    (he : starEach (a :: (.Tuple [.Name "list" pos3, .Name "tuple" pos4] n c_pos) :: []) X.env = (false, eval a X.env) :: starEach ((.Tuple [.Name "list" pos3, .Name "tuple" pos4] n c_pos) :: []) X.env := by rfl) :
    Ev X (.Call (.Name "isinstance" pos2) [a, .Tuple [.Name "list" pos3, .Name "tuple" pos4] n c_pos] [] pos) σ H (.bl (d.isList || d.isTup)) := by
  refine ⟨fun H1 e1 Q k => we_of (pe_callB call_isiT (C.glo hg) B.isinstance bt_isinstance pa_wa (by decide) (by decide) he rfl) ?_⟩
  refine a_cons (ha.run H1 e1 _ fun H2 e2 => ?_) he
  refine a_cons ?_
  refine (eo_tup (av_cons (ev_ty (T := "list") C hg2 B.list bt_list) (av_cons (ev_ty (T := "tuple") C hg3 B.tuple bt_tuple) av_nil))).run H2 Ex.rfl' _ fun p H3 hp e3 h3 => ?_
  refine a_nil ?_
  refine ⟨v, p, [.ty "list", .ty "tuple"], .type d.ty, [.type "list", .type "tuple"], d.isList || d.isTup, rfl, h3, .cons (.ty _) (.cons (.ty _) .nil), (r.mono ((e1.trans e2).trans e3)).tyX, ?_, k H3 (e2.trans e3)⟩
  refine kitAny_cons (kit_ty (kb_list d)) (fun h => ?_) fun h => by rw [h]; rfl
  rw [h]
  exact kitAny_cons (kit_ty (kb_tuple d)) (fun h => by rw [h]; exact kitAny_nil) fun h => by rw [h]; rfl
/-! len, int, max, min, sum, list, tuple -/
theorem ev_len {p : Addr} {xs : List V} (C : Ctx X S N M L G) (B : Bi X.mg) (hg : ("len" : Str) ∈ G) (ha : Ev X a σ H (.ref p)) (h : SqL X.K H p xs ∨ SqT X.K H p xs) (he : starEach (a :: []) X.env = (false, eval a X.env) :: starEach [] X.env := by rfl) :
    Ev X (.Call (.Name "len" pos2) [a] [] pos) σ H (.int (xs.length : Int)) :=
  ev_callB C call_len_seq hg B.len PySem.boot_len (av_cons ha av_nil he) (fun H1 e1 Q q => ⟨p, xs, rfl, h.elim (fun h => .inl (exL e1 h)) fun h => .inr (exT e1 h), q⟩) (by decide) (by decide) he rfl
theorem ev_intI (C : Ctx X S N M L G) (B : Bi X.mg) (hg : ("int" : Str) ∈ G) (ha : Ev X a σ H (.int i)) (he : starEach (a :: []) X.env = (false, eval a X.env) :: starEach [] X.env := by rfl) : Ev X (.Call (.Name "int" pos2) [a] [] pos) σ H (.int i) :=
  ev_callTy C call_int1 hg B.int bt_int (av_cons ha av_nil he) (fun H1 e1 Q q => .inl ⟨i, rfl, q⟩) (by decide) (by decide) he rfl
theorem ev_intB (C : Ctx X S N M L G) (B : Bi X.mg) (hg : ("int" : Str) ∈ G) (ha : Ev X a σ H (.bl t)) (he : starEach (a :: []) X.env = (false, eval a X.env) :: starEach [] X.env := by rfl) : Ev X (.Call (.Name "int" pos2) [a] [] pos) σ H (.int (if t then 1 else 0)) :=
  ev_callTy C call_int1 hg B.int bt_int (av_cons ha av_nil he) (fun H1 e1 Q q => .inr ⟨t, rfl, q⟩) (by decide) (by decide) he rfl
theorem ev_max2 (C : Ctx X S N M L G) (B : Bi X.mg) (hc : X.calm = true) (hg : ("max" : Str) ∈ G) (ha : Ev X a σ H (.int i)) (hb : Ev X b σ H (.int j)) (he : starEach (a :: b :: []) X.env = (false, eval a X.env) :: starEach (b :: []) X.env := by rfl) (he2 : starEach (b :: []) X.env = (false, eval b X.env) :: starEach [] X.env := by rfl) :
    Ev X (.Call (.Name "max" pos2) [a, b] [] pos) σ H (.int (if j > i then j else i)) :=
  ev_callB C (call_max2 hc) hg B.max bt_max (av_cons ha (av_cons hb av_nil he2) he) (fun H1 e1 Q q => ⟨i, j, rfl, q⟩) (by decide) (by decide) he (by rw [he2]; rfl)
theorem ev_min2 (C : Ctx X S N M L G) (B : Bi X.mg) (hc : X.calm = true) (hg : ("min" : Str) ∈ G) (ha : Ev X a σ H (.int i)) (hb : Ev X b σ H (.int j)) (he : starEach (a :: b :: []) X.env = (false, eval a X.env) :: starEach (b :: []) X.env := by rfl) (he2 : starEach (b :: []) X.env = (false, eval b X.env) :: starEach [] X.env := by rfl) :
    Ev X (.Call (.Name "min" pos2) [a, b] [] pos) σ H (.int (if j < i then j else i)) :=
  ev_callB C (call_min2 hc) hg B.min bt_min (av_cons ha (av_cons hb av_nil he2) he) (fun H1 e1 Q q => ⟨i, j, rfl, q⟩) (by decide) (by decide) he (by rw [he2]; rfl)
/-- sum of a list that is made on the way -/
theorem ev_sumO {ns : List Int} (C : Ctx X S N M L G) (B : Bi X.mg) (hc : X.calm = true) (hg : ("sum" : Str) ∈ G) (ha : Eo X a σ H (.lst (ns.map V.int))) (he : starEach (a :: []) X.env = (false, eval a X.env) :: starEach [] X.env := by rfl) :
    Ev X (.Call (.Name "sum" pos2) [a] [] pos) σ H (.int ns.sum) :=
  ⟨fun H1 e1 Q k => we_of (pe_callB (cr_sum hc) (C.glo hg) B.sum bt_sum pa_wa (by decide) (by decide) he rfl) (a_cons (ha.run H1 e1 _ fun p H2 hp e2 h2 => a_nil ⟨p, ns, rfl, sqL h2, k H2 e2⟩) he)⟩
/-- max of a list of ints -/
theorem ev_maxL {p : Addr} {ns : List Int} {m : Int} (C : Ctx X S N M L G) (B : Bi X.mg) (hc : X.calm = true) (hg : ("max" : Str) ∈ G) (ha : Ev X a σ H (.ref p)) (h : SqL X.K H p (ns.map V.int)) (hn : 0 < ns.length) (hm : ∀ y, y ∈ ns → (∀ z, z ∈ ns → z ≤ y) → y = m) (he : starEach (a :: []) X.env = (false, eval a X.env) :: starEach [] X.env := by rfl) :
    Ev X (.Call (.Name "max" pos2) [a] [] pos) σ H (.int m) :=
  ev_callB C (cr_max hc) hg B.max bt_max (av_cons ha av_nil he) (fun H1 e1 Q q => ⟨p, ns, rfl, exL e1 h, hn, fun y h1 h2 => by rw [hm y h1 h2]; exact q⟩) (by decide) (by decide) he rfl
theorem eo_listOf {p : Addr} {xs : List V} (C : Ctx X S N M L G) (B : Bi X.mg) (hg : ("list" : Str) ∈ G) (ha : Ev X a σ H (.ref p)) (h : SqL X.K H p xs ∨ SqT X.K H p xs) (he : starEach (a :: []) X.env = (false, eval a X.env) :: starEach [] X.env := by rfl) :
    Eo X (.Call (.Name "list" pos2) [a] [] pos) σ H (.lst xs) :=
  ⟨fun H1 e1 Q k => we_of (pe_callTy call_list_of (C.glo hg) B.list bt_list pa_wa (by decide) (by decide) he rfl) (a_cons (ha.run H1 e1 _ fun H2 e2 => a_nil ⟨p, xs, rfl, h.elim (fun h => .inl (exL (e1.trans e2) h)) fun h => .inr (exT (e1.trans e2) h), fun l hl => k l _ (e2.fresh hl) (e2.trans (Ex.new hl)) upd_same⟩) he)⟩
theorem eo_tupleOf {p : Addr} {xs : List V} (C : Ctx X S N M L G) (B : Bi X.mg) (hg : ("tuple" : Str) ∈ G) (ha : Ev X a σ H (.ref p)) (h : SqL X.K H p xs) (he : starEach (a :: []) X.env = (false, eval a X.env) :: starEach [] X.env := by rfl) :
    Eo X (.Call (.Name "tuple" pos2) [a] [] pos) σ H (.tup xs) :=
  ⟨fun H1 e1 Q k => we_of (pe_callTy call_tuple_of (C.glo hg) B.tuple bt_tuple pa_wa (by decide) (by decide) he rfl) (a_cons (ha.run H1 e1 _ fun H2 e2 => a_nil ⟨p, xs, rfl, .inl ⟨exL (e1.trans e2) h, fun l hl => k l _ (e2.fresh hl) (e2.trans (Ex.new hl)) upd_same⟩⟩) he)⟩
/-- tuple([..]) -/
theorem eo_tupleO {xs : List V} (C : Ctx X S N M L G) (B : Bi X.mg) (hg : ("tuple" : Str) ∈ G) (ha : Eo X a σ H (.lst xs)) (he : starEach (a :: []) X.env = (false, eval a X.env) :: starEach [] X.env := by rfl) :
    Eo X (.Call (.Name "tuple" pos2) [a] [] pos) σ H (.tup xs) :=
  ⟨fun H1 e1 Q k => we_of (pe_callTy call_tuple_of (C.glo hg) B.tuple bt_tuple pa_wa (by decide) (by decide) he rfl) (a_cons (ha.run H1 e1 _ fun p H2 hp e2 h2 => a_nil ⟨p, xs, rfl, .inl ⟨sqL h2, fun l hl => k l _ (e2.fresh hl) (e2.trans (Ex.new hl)) upd_same⟩⟩) he)⟩
/-- tuple([..]) of new objects -/
structure Et (X : Cx) (e : Expr) (σ : St) (H : Hp) (cs : List HO) : Prop where
  run : ∀ H1, Ex H H1 → ∀ Q : VK, (∀ p ps H2, H1 p = none → Ex H1 H2 → H2 p = some (.tup (ps.map V.ref)) → Kids H1 H2 p ps cs → Q (.ref p) H2) → WE X e σ H1 Q
theorem et_tupleO {cs : List HO} (C : Ctx X S N M L G) (B : Bi X.mg) (hg : ("tuple" : Str) ∈ G) (ha : Ec X a σ H cs) (he : starEach (a :: []) X.env = (false, eval a X.env) :: starEach [] X.env := by rfl) :
    Et X (.Call (.Name "tuple" pos2) [a] [] pos) σ H cs :=
  ⟨fun H1 e1 Q k => we_of (pe_callTy call_tuple_of (C.glo hg) B.tuple bt_tuple pa_wa (by decide) (by decide) he rfl) (a_cons (ha.run H1 e1 _ fun p ps H2 hp e2 h2 hk => a_nil (by
    refine ⟨p, _, rfl, .inl ⟨sqL h2, fun l hl => k l ps _ (e2.fresh hl) (e2.trans (Ex.new hl)) upd_same ⟨paired_mapM hk.1 fun q _ c r => ⟨(upd_ne (ne_of_none r.1 hl)).trans r.1, r.2⟩, List.nodup_cons.mpr ⟨fun z => ?_, (List.nodup_cons.mp hk.2).2⟩⟩⟩⟩
    obtain ⟨c, hc, _⟩ := paired_mem hk.1 z
    rw [hl] at hc
    cases hc)) he)⟩
end
end RC
/-! How a def of the text comes to its promise. -/
namespace RC
open PySem PySem.Spec PyProof.Rows L2
def topS (i : Nat) : Stmt := PySem.Challenge.pw_rimcords_k05_lots_of_tables_whole.main.body.getD i (.Pass ⟨0, 0, 0, 0⟩)
def topM (i j : Nat) : Stmt := (C8.clsBody (topS i)).getD j (.Pass ⟨0, 0, 0, 0⟩)
/-- a context in which nothing is handled and nothing leaves -/
structure Sd (X : Cx) (S : Scope) (N M L G : List Str) (n : Nat) : Prop where
  C : Ctx X S N M L G
  B : Bi X.mg
  calm : X.calm = true
  pas : PassesOwn (model X.prog X.w) X.A X.env X.xe
  room : Room n X.A
/-- the def of the i-th statement stands behind its name -/
structure Has (K : PySem.W.Frag) (mg : Str → Option Value) (nm : Str) (i : Nat) : Prop where
  ex : ∃ (f : Addr) (fd : FuncData), FunD K nm nm (defArgs (topS i)) (defBody (topS i)) (defScope (topS i)) [] [] f fd ∧ mg nm = some (.ref f)
section
variable {P : Program} {w : World} {K : PySem.W.Frag} {mg : Str → Option Value} {base : Heap} {nm : Str} {i n : Nat} {N ps M L G : List Str} {sp : Sp}
theorem fn_ok {st : Stmt} {x qual : Str} {dvs : List V} {f : Addr} {fd : FuncData} (F : FunD K x qual (defArgs st) (defBody st) (defScope st) dvs [] f fd) (B : Bi mg) (sc : FnScope N ps (defScope st)) (cb : ctxB (defScope st) (fun _ => true) N M L G = true)
    (len : ∀ vs H Q E, sp vs H Q E → vs.length = ps.length)
    (body : ∀ X : Cx, X.prog = P → X.w = w → X.K = K → X.mg = mg → X.base = base → Sd X (defScope st) N M L G n → ∀ vs H Q E, sp vs H Q E → WB X (defBody st) { nx := fun _ H' => Q .non H', rt := Q } (start N vs) H) : FnOk P w K mg base CX0 (n + 1) f fd ps sp :=
  F.ok sc len fun cdv A outer s H vs Q E hr hsp => ⟨_, PSs.nox (pb_wb), body _ rfl rfl rfl rfl rfl ⟨ctx_of cb rfl rfl (fun _ _ => rfl), B, rfl, PassesOwn.never, hr⟩ vs H Q E hsp⟩
/-- one that may let an exception out -/
theorem fn_okE {st : Stmt} {x qual : Str} {dvs : List V} {f : Addr} {fd : FuncData} (F : FunD K x qual (defArgs st) (defBody st) (defScope st) dvs [] f fd) (B : Bi mg) (sc : FnScope N ps (defScope st)) (cb : ctxB (defScope st) (fun _ => true) N M L G = true)
    (len : ∀ vs H Q E, sp vs H Q E → vs.length = ps.length)
    (body : ∀ X : Cx, X.prog = P → X.w = w → X.K = K → X.mg = mg → X.base = base → Sd X (defScope st) N M L G n → ∀ vs H Q E, L2N.Takes X (fun cls d _ H => E cls d H) → sp vs H Q E → WB X (defBody st) { nx := fun _ H' => Q .non H', rt := Q } (start N vs) H) : FnOk P w K mg base (L2N.CX P w) (n + 1) f fd ps sp :=
  F.ok sc len fun cdv A outer s H vs Q E hr hsp => ⟨_, pb_wb, body _ rfl rfl rfl rfl rfl ⟨ctx_of cb rfl rfl (fun _ _ => rfl), B, rfl, passes_of rfl, hr⟩ vs H Q E (L2N.takes_of rfl rfl rfl rfl) hsp⟩
theorem df_ok (h : Has K mg nm i) (B : Bi mg) (sc : FnScope N ps (defScope (topS i))) (cb : ctxB (defScope (topS i)) (fun _ => true) N M L G = true)
    (bd : ∀ (kV doc pm : Value) (an : Option Addr) (cdv ct : Value) (us : List Value), us.length = ps.length → bindArgs (PySem.W.fnOf nm nm (defArgs (topS i)) (defBody (topS i)) (defScope (topS i)) .none kV doc pm an cdv ct) ⟨us, []⟩ = pure (ps.zip us))
    (len : ∀ vs H Q E, sp vs H Q E → vs.length = ps.length)
    (body : ∀ X : Cx, X.prog = P → X.w = w → X.K = K → X.mg = mg → X.base = base → Sd X (defScope (topS i)) N M L G n → ∀ vs H Q E, sp vs H Q E → WB X (defBody (topS i)) { nx := fun _ H' => Q .non H', rt := Q } (start N vs) H) : Df P w K mg base CX0 (n + 1) nm sp := by
  obtain ⟨f, fd, F, gm⟩ := h.ex
  exact ⟨f, fd, ps, fn_ok F B sc cb len body, gm, F.kp, F.bindsN bd⟩
theorem df_okE (h : Has K mg nm i) (B : Bi mg) (sc : FnScope N ps (defScope (topS i))) (cb : ctxB (defScope (topS i)) (fun _ => true) N M L G = true)
    (bd : ∀ (kV doc pm : Value) (an : Option Addr) (cdv ct : Value) (us : List Value), us.length = ps.length → bindArgs (PySem.W.fnOf nm nm (defArgs (topS i)) (defBody (topS i)) (defScope (topS i)) .none kV doc pm an cdv ct) ⟨us, []⟩ = pure (ps.zip us))
    (len : ∀ vs H Q E, sp vs H Q E → vs.length = ps.length)
    (body : ∀ X : Cx, X.prog = P → X.w = w → X.K = K → X.mg = mg → X.base = base → Sd X (defScope (topS i)) N M L G n → ∀ vs H Q E, L2N.Takes X (fun cls d _ H => E cls d H) → sp vs H Q E → WB X (defBody (topS i)) { nx := fun _ H' => Q .non H', rt := Q } (start N vs) H) : Df P w K mg base (L2N.CX P w) (n + 1) nm sp := by
  obtain ⟨f, fd, F, gm⟩ := h.ex
  exact ⟨f, fd, ps, fn_okE F B sc cb len body, gm, F.kp, F.bindsN bd⟩
end
theorem Sd.blk {X Y : Cx} {S scope : Scope} {N M L G M' L' G' : List Str} {n : Nat} (Z : Sd X S N M L G n) (b : Blk X scope Y)
    (h : ctxB (relS scope S) (fun x => scope.names.lookup x == some .cell) N M' L' G' = true) : Sd Y (relS scope S) N M' L' G' n := by
  refine ⟨b.ctx Z.C h, ?_, ?_, ?_, ?_⟩
  · rw [b.mg]; exact Z.B
  · rw [b.calm]; exact Z.calm
  · obtain ⟨s, H, A, cl, fp, rfl⟩ := b.ex
    exact PassesOwn.never
  · rw [b.A]; exact Z.room
theorem Df.blk {X Y : Cx} {scope : Scope} {k : Nat} {nm : Str} {sp : Sp} {CX : CXT} (d : Df X.prog X.w X.K X.mg X.base CX k nm sp) (b : Blk X scope Y) : Df Y.prog Y.w Y.K Y.mg Y.base CX k nm sp := by
  obtain ⟨s, H, A, cl, fp, rfl⟩ := b.ex
  exact d
theorem Sd.cal {X : Cx} {S : Scope} {N M L G : List Str} {n k : Nat} {nm : Str} {sp : Sp} (Z : Sd X S N M L G n) (d : Df X.prog X.w X.K X.mg X.base CX0 k nm sp) (hk : k ≤ n := by decide) (hd : (nm == ("__debug__" : Str)) = false := by decide) : Cal X nm sp := d.cal Z.room hk pass0 hd
/-- what is new -/
def nw (H H' : Hp) : Hp := fun a => match H a with
  | none => H' a
  | some _ => none
theorem nw_at {H H' : Hp} {a : Addr} (h : H a = none) : nw H H' a = H' a := by unfold nw; rw [h]
theorem nw_old {H H' : Hp} {a : Addr} {o : HO} (h : H a = some o) : nw H H' a = none := by unfold nw; rw [h]
theorem nw_ex {H H' : Hp} : Ex (nw H H') H' := fun a o e => by
  cases h : H a with
  | none => rw [nw_at h] at e; exact e
  | some u => rw [nw_old h] at e; cases e
theorem nw_mono {H H' H'' : Hp} (e : Ex H' H'') : Ex (nw H H') (nw H H'') := fun a o q => by
  cases h : H a with
  | none => rw [nw_at h] at q ⊢; exact e a o q
  | some u => rw [nw_old h] at q; cases q
theorem nw_back {H0 H H' : Hp} (e : Ex H0 H) : Ex (nw H H') (nw H0 H') := fun a o q => by
  cases h : H a with
  | none => rw [nw_at h] at q; rw [nw_at (e.fresh h)]; exact q
  | some u => rw [nw_old h] at q; cases q
theorem nw_new {H H' : Hp} {a : Addr} {o : HO} (h : H a = none) (h' : H' a = some o) : nw H H' a = some o := (nw_at h).trans h'
/-- new objects, one by one, in what is new -/
theorem kids_tup {H1 H : Hp} {α : Type} {f : α → List Int} : ∀ {l : List α} {ps : List Addr}, Paired (fun q c => H q = some c ∧ H1 q = none) ps (l.map fun x => HO.tup ((f x).map V.int)) → RepL (nw H1 H) (ps.map V.ref) (l.map fun x => D.tup ((f x).map D.int))
  | [], _, h => by cases h; exact .nil
  | x :: l, _, h => by
    cases h with
    | cons q h => exact .cons (.tup (nw_new q.2 q.1) RepL.ints) (kids_tup h)
theorem kids_lst {H1 H : Hp} {α : Type} {f : α → List Int} : ∀ {l : List α} {ps : List Addr}, Paired (fun q c => H q = some c ∧ H1 q = none) ps (l.map fun x => HO.lst ((f x).map V.int)) → RepL (nw H1 H) (ps.map V.ref) (l.map fun x => D.lst ((f x).map D.int))
  | [], _, h => by cases h; exact .nil
  | x :: l, _, h => by
    cases h with
    | cons q h => exact .cons (.lst (nw_new q.2 q.1) RepL.ints) (kids_lst h)
end RC
/-! The names of each def and of its comprehensions (printed by scopes.py). -/
namespace RC
open PySem PySem.Spec PyProof.Rows L2
abbrev N3c0 : List Str := ["self", "pins"]
abbrev M3c0 : List Str := ["self", "pins"]
abbrev G3c0 : List Str := []
theorem sc3c0 : FnScope N3c0 ["self", "pins"] (defScope (topM 3 0)) := ⟨rfl, rfl, rfl, by decide +kernel, rfl, by decide +kernel, by decide +kernel⟩
theorem cb3c0 : ctxB (defScope (topM 3 0)) (fun _ => true) N3c0 M3c0 M3c0 G3c0 = true := by decide +kernel
abbrev N9c0 : List Str := ["self", "row", "column"]
abbrev M9c0 : List Str := ["self", "row", "column"]
abbrev G9c0 : List Str := []
theorem sc9c0 : FnScope N9c0 ["self", "row", "column"] (defScope (topM 9 0)) := ⟨rfl, rfl, rfl, by decide +kernel, rfl, by decide +kernel, by decide +kernel⟩
theorem cb9c0 : ctxB (defScope (topM 9 0)) (fun _ => true) N9c0 M9c0 M9c0 G9c0 = true := by decide +kernel
abbrev N10c0 : List Str := ["self", "a", "b", "twice"]
abbrev M10c0 : List Str := ["self", "a", "b", "twice"]
abbrev G10c0 : List Str := []
theorem sc10c0 : FnScope N10c0 ["self", "a", "b", "twice"] (defScope (topM 10 0)) := ⟨rfl, rfl, rfl, by decide +kernel, rfl, by decide +kernel, by decide +kernel⟩
theorem cb10c0 : ctxB (defScope (topM 10 0)) (fun _ => true) N10c0 M10c0 M10c0 G10c0 = true := by decide +kernel
abbrev N12 : List Str := ["pins"]
abbrev M12 : List Str := ["pins"]
abbrev G12 : List Str := ["max"]
theorem sc12 : FnScope N12 ["pins"] (defScope (topS 12)) := ⟨rfl, rfl, rfl, by decide +kernel, rfl, by decide +kernel, by decide +kernel⟩
theorem cb12 : ctxB (defScope (topS 12)) (fun _ => true) N12 M12 M12 G12 = true := by decide +kernel
abbrev N14 : List Str := ["value"]
abbrev M14 : List Str := ["value"]
abbrev G14 : List Str := ["isinstance", "int", "bool"]
theorem sc14 : FnScope N14 ["value"] (defScope (topS 14)) := ⟨rfl, rfl, rfl, by decide +kernel, rfl, by decide +kernel, by decide +kernel⟩
theorem cb14 : ctxB (defScope (topS 14)) (fun _ => true) N14 M14 M14 G14 = true := by decide +kernel
abbrev N15 : List Str := ["triples", "many", "a", "b", "n", "pair"]
abbrev M15 : List Str := ["triples", "many", "a", "b", "n", "pair"]
abbrev G15 : List Str := ["min", "max", "tuple", "sorted"]
theorem sc15 : FnScope N15 ["triples"] (defScope (topS 15)) := ⟨rfl, rfl, rfl, by decide +kernel, rfl, by decide +kernel, by decide +kernel⟩
theorem cb15 : ctxB (defScope (topS 15)) (fun _ => true) N15 M15 M15 G15 = true := by decide +kernel
abbrev M15_0 : List Str := ["many", "a", "b"]
abbrev L15_0 : List Str := ["a", "b"]
abbrev G15_0 : List Str := []
abbrev N16 : List Str := ["cords", "i", "j", "a", "b", "n"]
abbrev M16 : List Str := ["cords", "i", "j"]
abbrev G16 : List Str := ["sum"]
theorem sc16 : FnScope N16 ["cords", "i", "j"] (defScope (topS 16)) := ⟨rfl, rfl, rfl, by decide +kernel, rfl, by decide +kernel, by decide +kernel⟩
theorem cb16 : ctxB (defScope (topS 16)) (fun _ => true) N16 M16 M16 G16 = true := by decide +kernel
abbrev M16_0 : List Str := ["i", "j", "a", "b", "n"]
abbrev L16_0 : List Str := ["a", "b", "n"]
abbrev G16_0 : List Str := []
abbrev N17 : List Str := ["pins", "cords", "size", "i", "j"]
abbrev M17 : List Str := ["pins", "cords", "size"]
abbrev G17 : List Str := ["gaps", "tuple", "range"]
theorem sc17 : FnScope N17 ["pins", "cords"] (defScope (topS 17)) := ⟨rfl, rfl, rfl, by decide +kernel, rfl, by decide +kernel, by decide +kernel⟩
theorem cb17 : ctxB (defScope (topS 17)) (fun _ => true) N17 M17 M17 G17 = true := by decide +kernel
abbrev M17_0 : List Str := ["cords", "i", "j"]
abbrev L17_0 : List Str := ["j"]
abbrev G17_0 : List Str := ["raw_passing"]
abbrev M17_1 : List Str := ["cords", "size", "i"]
abbrev L17_1 : List Str := ["i"]
abbrev G17_1 : List Str := ["tuple", "range"]
abbrev N18 : List Str := ["pins", "table", "found", "a", "before", "b", "twice"]
abbrev M18 : List Str := ["pins", "table", "found", "a", "before", "b", "twice"]
abbrev G18 : List Str := ["range", "tuple"]
theorem sc18 : FnScope N18 ["pins", "table"] (defScope (topS 18)) := ⟨rfl, rfl, rfl, by decide +kernel, rfl, by decide +kernel, by decide +kernel⟩
theorem cb18 : ctxB (defScope (topS 18)) (fun _ => true) N18 M18 M18 G18 = true := by decide +kernel
abbrev N19 : List Str := ["pins", "table", "a", "b", "twice"]
abbrev M19 : List Str := ["pins", "table"]
abbrev G19 : List Str := ["tuple", "raw_doubles"]
theorem sc19 : FnScope N19 ["pins", "table"] (defScope (topS 19)) := ⟨rfl, rfl, rfl, by decide +kernel, rfl, by decide +kernel, by decide +kernel⟩
theorem cb19 : ctxB (defScope (topS 19)) (fun _ => true) N19 M19 M19 G19 = true := by decide +kernel
abbrev M19_0 : List Str := ["a", "b", "twice"]
abbrev L19_0 : List Str := ["a", "b", "twice"]
abbrev G19_0 : List Str := []
abbrev N24 : List Str := ["pins", "value"]
abbrev M24 : List Str := ["pins", "value"]
abbrev G24 : List Str := ["is_whole"]
theorem sc24 : FnScope N24 ["pins", "value"] (defScope (topS 24)) := ⟨rfl, rfl, rfl, by decide +kernel, rfl, by decide +kernel, by decide +kernel⟩
theorem cb24 : ctxB (defScope (topS 24)) (fun _ => true) N24 M24 M24 G24 = true := by decide +kernel
abbrev N25 : List Str := ["pins", "entry", "a", "b", "n"]
abbrev M25 : List Str := ["pins", "entry", "a", "b", "n"]
abbrev G25 : List Str := ["isinstance", "list", "tuple", "len", "is_pin", "is_whole"]
theorem sc25 : FnScope N25 ["pins", "entry"] (defScope (topS 25)) := ⟨rfl, rfl, rfl, by decide +kernel, rfl, by decide +kernel, by decide +kernel⟩
theorem cb25 : ctxB (defScope (topS 25)) (fun _ => true) N25 M25 M25 G25 = true := by decide +kernel
abbrev N27c0 : List Str := ["self", "pins", "cords", "entry"]
abbrev M27c0 : List Str := ["self", "pins", "cords", "entry"]
abbrev G27c0 : List Str := ["is_whole", "BadPins", "is_entry", "BadCord", "combined"]
theorem sc27c0 : FnScope N27c0 ["self", "pins", "cords"] (defScope (topM 27 0)) := ⟨rfl, rfl, rfl, by decide +kernel, rfl, by decide +kernel, by decide +kernel⟩
theorem cb27c0 : ctxB (defScope (topM 27 0)) (fun _ => true) N27c0 M27c0 M27c0 G27c0 = true := by decide +kernel
abbrev N27c3 : List Str := ["self", "other"]
abbrev M27c3 : List Str := ["self", "other"]
abbrev G27c3 : List Str := ["isinstance", "Lot"]
theorem sc27c3 : FnScope N27c3 ["self", "other"] (defScope (topM 27 3)) := ⟨rfl, rfl, rfl, by decide +kernel, rfl, by decide +kernel, by decide +kernel⟩
theorem cb27c3 : ctxB (defScope (topM 27 3)) (fun _ => true) N27c3 M27c3 M27c3 G27c3 = true := by decide +kernel
abbrev N27c8 : List Str := ["self"]
abbrev M27c8 : List Str := ["self"]
abbrev G27c8 : List Str := ["raw_table"]
theorem sc27c8 : FnScope N27c8 ["self"] (defScope (topM 27 8)) := ⟨rfl, rfl, rfl, by decide +kernel, rfl, by decide +kernel, by decide +kernel⟩
theorem cb27c8 : ctxB (defScope (topM 27 8)) (fun _ => true) N27c8 M27c8 M27c8 G27c8 = true := by decide +kernel
abbrev N27c11 : List Str := ["self", "a", "b", "n"]
abbrev M27c11 : List Str := ["self"]
abbrev G27c11 : List Str := ["sum"]
theorem sc27c11 : FnScope N27c11 ["self"] (defScope (topM 27 11)) := ⟨rfl, rfl, rfl, by decide +kernel, rfl, by decide +kernel, by decide +kernel⟩
theorem cb27c11 : ctxB (defScope (topM 27 11)) (fun _ => true) N27c11 M27c11 M27c11 G27c11 = true := by decide +kernel
abbrev M27c11_0 : List Str := ["a", "b", "n"]
abbrev L27c11_0 : List Str := ["a", "b", "n"]
abbrev G27c11_0 : List Str := []
abbrev N29 : List Str := ["table", "i", "j"]
abbrev M29 : List Str := ["table", "i", "j"]
abbrev G29 : List Str := ["len", "is_whole"]
theorem sc29 : FnScope N29 ["table", "i", "j"] (defScope (topS 29)) := ⟨rfl, rfl, rfl, by decide +kernel, rfl, by decide +kernel, by decide +kernel⟩
theorem cb29 : ctxB (defScope (topS 29)) (fun _ => true) N29 M29 M29 G29 = true := by decide +kernel
abbrev N30 : List Str := ["size", "table", "i", "j"]
abbrev M30 : List Str := ["size", "table", "i", "j"]
abbrev G30 : List Str := ["isinstance", "list", "tuple", "BadTable", "range", "len", "is_good_place"]
theorem sc30 : FnScope N30 ["size", "table"] (defScope (topS 30)) := ⟨rfl, rfl, rfl, by decide +kernel, rfl, by decide +kernel, by decide +kernel⟩
theorem cb30 : ctxB (defScope (topS 30)) (fun _ => true) N30 M30 M30 G30 = true := by decide +kernel
abbrev N31 : List Str := ["pins", "table", "a", "b", "twice"]
abbrev M31 : List Str := ["pins", "table", "a", "b", "twice"]
abbrev G31 : List Str := ["is_whole", "BadPins", "check_table", "gaps", "raw_doubles", "NoLot", "Lot", "raw_cords"]
theorem sc31 : FnScope N31 ["pins", "table"] (defScope (topS 31)) := ⟨rfl, rfl, rfl, by decide +kernel, rfl, by decide +kernel, by decide +kernel⟩
theorem cb31 : ctxB (defScope (topS 31)) (fun _ => true) N31 M31 M31 G31 = true := by decide +kernel
abbrev N33 : List Str := ["_law_value"]
abbrev M33 : List Str := ["_law_value"]
abbrev G33 : List Str := ["isinstance", "int", "bool"]
theorem sc33 : FnScope N33 ["_law_value"] (defScope (topS 33)) := ⟨rfl, rfl, rfl, by decide +kernel, rfl, by decide +kernel, by decide +kernel⟩
theorem cb33 : ctxB (defScope (topS 33)) (fun _ => true) N33 M33 M33 G33 = true := by decide +kernel
abbrev N34 : List Str := ["_law_script", "_law_k", "_law_seed", "_law_cell_here"]
abbrev M34 : List Str := ["_law_script", "_law_k", "_law_seed", "_law_cell_here"]
abbrev G34 : List Str := ["len", "int"]
theorem sc34 : FnScope N34 ["_law_script", "_law_k"] (defScope (topS 34)) := ⟨rfl, rfl, rfl, by decide +kernel, rfl, by decide +kernel, by decide +kernel⟩
theorem cb34 : ctxB (defScope (topS 34)) (fun _ => true) N34 M34 M34 G34 = true := by decide +kernel
abbrev N35 : List Str := ["_law_cell_here", "_law_sizes", "_law_row", "_law_rest", "_law_size", "_law_seed", "_law_k", "_law_twice"]
abbrev M35 : List Str := ["_law_cell_here", "_law_sizes", "_law_row", "_law_rest", "_law_size", "_law_seed", "_law_k", "_law_twice"]
abbrev G35 : List Str := ["int", "range", "len"]
theorem sc35 : FnScope N35 ["_law_cell_here", "_law_sizes"] (defScope (topS 35)) := ⟨rfl, rfl, rfl, by decide +kernel, rfl, by decide +kernel, by decide +kernel⟩
theorem cb35 : ctxB (defScope (topS 35)) (fun _ => true) N35 M35 M35 G35 = true := by decide +kernel
abbrev N36 : List Str := ["_law_value", "_law_due", "_law_k"]
abbrev M36 : List Str := ["_law_value", "_law_due", "_law_k"]
abbrev G36 : List Str := ["isinstance", "bool", "int", "_law_whole", "str", "dict", "list", "tuple", "len", "range", "_law_same"]
theorem sc36 : FnScope N36 ["_law_value", "_law_due"] (defScope (topS 36)) := ⟨rfl, rfl, rfl, by decide +kernel, rfl, by decide +kernel, by decide +kernel⟩
theorem cb36 : ctxB (defScope (topS 36)) (fun _ => true) N36 M36 M36 G36 = true := by decide +kernel
abbrev N37 : List Str := ["_law_triples", "_law_pairs", "_law_entry", "_law_low", "_law_high", "_law_row", "_law_pair", "_law_many"]
abbrev M37 : List Str := ["_law_triples", "_law_pairs", "_law_entry", "_law_low", "_law_high", "_law_row", "_law_pair", "_law_many"]
abbrev G37 : List Str := ["min", "max", "sorted", "tuple"]
theorem sc37 : FnScope N37 ["_law_triples"] (defScope (topS 37)) := ⟨rfl, rfl, rfl, by decide +kernel, rfl, by decide +kernel, by decide +kernel⟩
theorem cb37 : ctxB (defScope (topS 37)) (fun _ => true) N37 M37 M37 G37 = true := by decide +kernel
abbrev N38 : List Str := ["_law_rim", "_law_bunch", "_law_size", "_law_i", "_law_j", "_law_grid", "_law_met", "_law_step", "_law_entry", "_law_row"]
abbrev M38 : List Str := ["_law_rim", "_law_bunch", "_law_size", "_law_i", "_law_j", "_law_grid", "_law_met", "_law_step"]
abbrev G38 : List Str := ["max", "range", "int", "sum", "tuple"]
theorem sc38 : FnScope N38 ["_law_rim", "_law_bunch"] (defScope (topS 38)) := ⟨rfl, rfl, rfl, by decide +kernel, rfl, by decide +kernel, by decide +kernel⟩
theorem cb38 : ctxB (defScope (topS 38)) (fun _ => true) N38 M38 M38 G38 = true := by decide +kernel
abbrev M38_0 : List Str := ["_law_j"]
abbrev L38_0 : List Str := ["_law_j"]
abbrev G38_0 : List Str := []
abbrev M38_1 : List Str := ["_law_size", "_law_i"]
abbrev L38_1 : List Str := ["_law_i"]
abbrev G38_1 : List Str := ["range"]
abbrev M38_2 : List Str := ["_law_j"]
abbrev L38_2 : List Str := ["_law_j"]
abbrev G38_2 : List Str := []
abbrev M38_3 : List Str := ["_law_met", "_law_entry"]
abbrev L38_3 : List Str := ["_law_entry"]
abbrev G38_3 : List Str := []
abbrev M38_4 : List Str := ["_law_row"]
abbrev L38_4 : List Str := ["_law_row"]
abbrev G38_4 : List Str := ["tuple"]
abbrev N39 : List Str := ["_law_lot_here", "_law_rim", "_law_bunch"]
abbrev M39 : List Str := ["_law_lot_here", "_law_rim", "_law_bunch"]
abbrev G39 : List Str := ["isinstance", "Lot", "_law_same"]
theorem sc39 : FnScope N39 ["_law_lot_here", "_law_rim", "_law_bunch"] (defScope (topS 39)) := ⟨rfl, rfl, rfl, by decide +kernel, rfl, by decide +kernel, by decide +kernel⟩
theorem cb39 : ctxB (defScope (topS 39)) (fun _ => true) N39 M39 M39 G39 = true := by decide +kernel
abbrev N40 : List Str := ["_law_cell_here", "_law_row"]
abbrev M40 : List Str := ["_law_cell_here", "_law_row"]
abbrev G40 : List Str := ["_law_digits", "int"]
theorem sc40 : FnScope N40 ["_law_cell_here"] (defScope (topS 40)) := ⟨rfl, rfl, rfl, by decide +kernel, rfl, by decide +kernel, by decide +kernel⟩
theorem cb40 : ctxB (defScope (topS 40)) (fun _ => true) N40 M40 M40 G40 = true := by decide +kernel
abbrev N41 : List Str := ["_law_script", "_law_rim", "_law_row", "_law_k", "_law_draw", "_law_other"]
abbrev M41 : List Str := ["_law_script", "_law_rim", "_law_row", "_law_k", "_law_draw", "_law_other"]
abbrev G41 : List Str := ["range", "_law_digits", "_law_cell", "int", "_law_norm"]
theorem sc41 : FnScope N41 ["_law_script", "_law_rim"] (defScope (topS 41)) := ⟨rfl, rfl, rfl, by decide +kernel, rfl, by decide +kernel, by decide +kernel⟩
theorem cb41 : ctxB (defScope (topS 41)) (fun _ => true) N41 M41 M41 G41 = true := by decide +kernel
abbrev N42 : List Str := ["_law_cell_here", "_law_size", "_law_times", "_law_k", "_law_draw", "_law_i", "_law_j", "_law_rows"]
abbrev M42 : List Str := ["_law_cell_here", "_law_size", "_law_times", "_law_draw", "_law_i", "_law_j", "_law_rows"]
abbrev G42 : List Str := ["_law_digits", "range"]
theorem sc42 : FnScope N42 ["_law_cell_here", "_law_size", "_law_times"] (defScope (topS 42)) := ⟨rfl, rfl, rfl, by decide +kernel, rfl, by decide +kernel, by decide +kernel⟩
theorem cb42 : ctxB (defScope (topS 42)) (fun _ => true) N42 M42 M42 G42 = true := by decide +kernel
abbrev M42_0 : List Str := ["_law_k"]
abbrev L42_0 : List Str := ["_law_k"]
abbrev G42_0 : List Str := []
abbrev M42_1 : List Str := ["_law_j"]
abbrev L42_1 : List Str := ["_law_j"]
abbrev G42_1 : List Str := []
abbrev M42_2 : List Str := ["_law_size", "_law_i"]
abbrev L42_2 : List Str := ["_law_i"]
abbrev G42_2 : List Str := ["range"]
abbrev N43 : List Str := ["_law_value", "_law_by"]
abbrev M43 : List Str := ["_law_value", "_law_by"]
abbrev G43 : List Str := ["str", "int"]
theorem sc43 : FnScope N43 ["_law_value", "_law_by"] (defScope (topS 43)) := ⟨rfl, rfl, rfl, by decide +kernel, rfl, by decide +kernel, by decide +kernel⟩
theorem cb43 : ctxB (defScope (topS 43)) (fun _ => true) N43 M43 M43 G43 = true := by decide +kernel
abbrev N44 : List Str := ["_law_size", "_law_by"]
abbrev M44 : List Str := ["_law_size", "_law_by"]
abbrev G44 : List Str := ["int"]
theorem sc44 : FnScope N44 ["_law_size", "_law_by"] (defScope (topS 44)) := ⟨rfl, rfl, rfl, by decide +kernel, rfl, by decide +kernel, by decide +kernel⟩
theorem cb44 : ctxB (defScope (topS 44)) (fun _ => true) N44 M44 M44 G44 = true := by decide +kernel
abbrev N45 : List Str := ["_law_size", "_law_by", "_law_k"]
abbrev M45 : List Str := ["_law_size", "_law_by"]
abbrev G45 : List Str := ["range", "int"]
theorem sc45 : FnScope N45 ["_law_size", "_law_by"] (defScope (topS 45)) := ⟨rfl, rfl, rfl, by decide +kernel, rfl, by decide +kernel, by decide +kernel⟩
theorem cb45 : ctxB (defScope (topS 45)) (fun _ => true) N45 M45 M45 G45 = true := by decide +kernel
abbrev M45_0 : List Str := ["_law_k"]
abbrev L45_0 : List Str := ["_law_k"]
abbrev G45_0 : List Str := []
abbrev N46 : List Str := ["_law_value", "_law_way", "_law_by", "_law_more", "_law_less"]
abbrev M46 : List Str := ["_law_value", "_law_way", "_law_by", "_law_more", "_law_less"]
abbrev G46 : List Str := ["int", "max"]
theorem sc46 : FnScope N46 ["_law_value", "_law_way", "_law_by"] (defScope (topS 46)) := ⟨rfl, rfl, rfl, by decide +kernel, rfl, by decide +kernel, by decide +kernel⟩
theorem cb46 : ctxB (defScope (topS 46)) (fun _ => true) N46 M46 M46 G46 = true := by decide +kernel
abbrev N47 : List Str := ["_law_rows", "_law_kind", "_law_i", "_law_j", "_law_by", "_law_row", "_law_new", "_law_k", "_law_value", "_law_far"]
abbrev M47 : List Str := ["_law_rows", "_law_kind", "_law_i", "_law_j", "_law_by", "_law_row", "_law_new", "_law_value", "_law_far"]
abbrev G47 : List Str := ["range", "len", "int", "isinstance", "list", "_law_behind", "_law_no_row", "_law_whole", "_law_strange", "_law_changed"]
theorem sc47 : FnScope N47 ["_law_rows", "_law_kind", "_law_i", "_law_j", "_law_by"] (defScope (topS 47)) := ⟨rfl, rfl, rfl, by decide +kernel, rfl, by decide +kernel, by decide +kernel⟩
theorem cb47 : ctxB (defScope (topS 47)) (fun _ => true) N47 M47 M47 G47 = true := by decide +kernel
abbrev M47_0 : List Str := ["_law_row"]
abbrev L47_0 : List Str := ["_law_row"]
abbrev G47_0 : List Str := []
abbrev M47_1 : List Str := ["_law_k"]
abbrev L47_1 : List Str := ["_law_k"]
abbrev G47_1 : List Str := []
abbrev N48 : List Str := ["_law_size", "_law_rows", "_law_i", "_law_j", "_law_value"]
abbrev M48 : List Str := ["_law_size", "_law_rows", "_law_i", "_law_j", "_law_value"]
abbrev G48 : List Str := ["range", "len", "isinstance", "list", "_law_whole"]
theorem sc48 : FnScope N48 ["_law_size", "_law_rows"] (defScope (topS 48)) := ⟨rfl, rfl, rfl, by decide +kernel, rfl, by decide +kernel, by decide +kernel⟩
theorem cb48 : ctxB (defScope (topS 48)) (fun _ => true) N48 M48 M48 G48 = true := by decide +kernel
abbrev N49 : List Str := ["_law_rim", "_law_rows", "_law_a", "_law_b", "_law_before", "_law_twice"]
abbrev M49 : List Str := ["_law_rim", "_law_rows", "_law_a", "_law_b", "_law_before", "_law_twice"]
abbrev G49 : List Str := ["range", "int"]
theorem sc49 : FnScope N49 ["_law_rim", "_law_rows"] (defScope (topS 49)) := ⟨rfl, rfl, rfl, by decide +kernel, rfl, by decide +kernel, by decide +kernel⟩
theorem cb49 : ctxB (defScope (topS 49)) (fun _ => true) N49 M49 M49 G49 = true := by decide +kernel
abbrev N50 : List Str := ["_law_rows", "_law_form", "_law_row", "_law_grid", "_law_k"]
abbrev M50 : List Str := ["_law_rows", "_law_form", "_law_grid", "_law_k"]
abbrev G50 : List Str := ["range", "len", "isinstance", "list", "int", "tuple"]
theorem sc50 : FnScope N50 ["_law_rows", "_law_form"] (defScope (topS 50)) := ⟨rfl, rfl, rfl, by decide +kernel, rfl, by decide +kernel, by decide +kernel⟩
theorem cb50 : ctxB (defScope (topS 50)) (fun _ => true) N50 M50 M50 G50 = true := by decide +kernel
abbrev M50_0 : List Str := ["_law_row"]
abbrev L50_0 : List Str := ["_law_row"]
abbrev G50_0 : List Str := []
abbrev N51 : List Str := ["_law_rim", "_law_grid", "_law_kept", "_law_place", "e"]
abbrev M51 : List Str := ["_law_rim", "_law_grid", "_law_kept", "_law_place", "e"]
abbrev G51 : List Str := ["lot_of", "BadTable", "isinstance", "NoLot", "BadPins", "BadCord", "BadNumber", "RimError", "ValueError", "_law_same"]
theorem sc51 : FnScope N51 ["_law_rim", "_law_grid", "_law_kept", "_law_place"] (defScope (topS 51)) := ⟨rfl, rfl, rfl, by decide +kernel, rfl, by decide +kernel, by decide +kernel⟩
theorem cb51 : ctxB (defScope (topS 51)) (fun _ => true) N51 M51 M51 G51 = true := by decide +kernel
abbrev N52 : List Str := ["_law_rim", "_law_rows", "_law_form", "_law_due", "_law_grid", "e"]
abbrev M52 : List Str := ["_law_rim", "_law_rows", "_law_form", "_law_due", "_law_grid", "e"]
abbrev G52 : List Str := ["_law_passed", "lot_of", "NoLot", "isinstance", "BadTable", "BadPins", "BadCord", "BadNumber", "RimError", "ValueError", "_law_same"]
theorem sc52 : FnScope N52 ["_law_rim", "_law_rows", "_law_form", "_law_due"] (defScope (topS 52)) := ⟨rfl, rfl, rfl, by decide +kernel, rfl, by decide +kernel, by decide +kernel⟩
theorem cb52 : ctxB (defScope (topS 52)) (fun _ => true) N52 M52 M52 G52 = true := by decide +kernel
abbrev N53 : List Str := ["_law_rim", "_law_rows", "_law_grid", "e"]
abbrev M53 : List Str := ["_law_rim", "_law_rows", "_law_grid", "e"]
abbrev G53 : List Str := ["_law_passed", "lot_of", "BadPins", "isinstance", "BadTable", "NoLot", "BadCord", "BadNumber", "RimError", "ValueError", "_law_same"]
theorem sc53 : FnScope N53 ["_law_rim", "_law_rows"] (defScope (topS 53)) := ⟨rfl, rfl, rfl, by decide +kernel, rfl, by decide +kernel, by decide +kernel⟩
theorem cb53 : ctxB (defScope (topS 53)) (fun _ => true) N53 M53 M53 G53 = true := by decide +kernel
abbrev N54 : List Str := ["_law_lot_here", "_law_rim", "_law_before", "_law_entry"]
abbrev M54 : List Str := ["_law_lot_here", "_law_rim", "_law_before", "_law_entry"]
abbrev G54 : List Str := ["_law_same", "isinstance", "tuple", "len", "_law_whole"]
theorem sc54 : FnScope N54 ["_law_lot_here", "_law_rim"] (defScope (topS 54)) := ⟨rfl, rfl, rfl, by decide +kernel, rfl, by decide +kernel, by decide +kernel⟩
theorem cb54 : ctxB (defScope (topS 54)) (fun _ => true) N54 M54 M54 G54 = true := by decide +kernel
abbrev N55 : List Str := ["_law_rim", "_law_rows", "_law_form", "_law_grid", "_law_row", "_law_due", "_law_lot_here", "_law_entry", "_law_bunch", "_law_k"]
abbrev M55 : List Str := ["_law_rim", "_law_rows", "_law_form", "_law_grid", "_law_due", "_law_lot_here", "_law_bunch", "_law_k"]
abbrev G55 : List Str := ["_law_passed", "tuple", "lot_of", "_law_normal", "_law_table", "_law_same", "range", "len", "isinstance", "list", "sum", "_law_lot_is", "Lot"]
theorem sc55 : FnScope N55 ["_law_rim", "_law_rows", "_law_form"] (defScope (topS 55)) := ⟨rfl, rfl, rfl, by decide +kernel, rfl, by decide +kernel, by decide +kernel⟩
theorem cb55 : ctxB (defScope (topS 55)) (fun _ => true) N55 M55 M55 G55 = true := by decide +kernel
abbrev M55_0 : List Str := ["_law_row"]
abbrev L55_0 : List Str := ["_law_row"]
abbrev G55_0 : List Str := ["tuple"]
abbrev M55_1 : List Str := ["_law_entry"]
abbrev L55_1 : List Str := ["_law_entry"]
abbrev G55_1 : List Str := []
abbrev M55_2 : List Str := ["_law_entry"]
abbrev L55_2 : List Str := ["_law_entry"]
abbrev G55_2 : List Str := []
abbrev N56 : List Str := ["_law_rim", "_law_rows", "_law_form", "_law_place", "_law_due"]
abbrev M56 : List Str := ["_law_rim", "_law_rows", "_law_form", "_law_place", "_law_due"]
abbrev G56 : List Str := ["_law_wrong", "max", "_law_refused", "_law_passed", "_law_none", "_law_no_lot", "_law_found"]
theorem sc56 : FnScope N56 ["_law_rim", "_law_rows", "_law_form"] (defScope (topS 56)) := ⟨rfl, rfl, rfl, by decide +kernel, rfl, by decide +kernel, by decide +kernel⟩
theorem cb56 : ctxB (defScope (topS 56)) (fun _ => true) N56 M56 M56 G56 = true := by decide +kernel
abbrev N57 : List Str := ["_law_script", "_law_rim", "_law_rows", "_law_other", "_law_form", "_law_size", "_law_k", "_law_draw", "_law_spoilt_here", "_law_by", "_law_turn", "_law_i"]
abbrev M57 : List Str := ["_law_script", "_law_rim", "_law_rows", "_law_other", "_law_form", "_law_size", "_law_k", "_law_draw", "_law_spoilt_here", "_law_by", "_law_turn", "_law_i"]
abbrev G57 : List Str := ["max", "range", "_law_digits", "_law_cell", "int", "_law_spoilt", "_law_judged"]
theorem sc57 : FnScope N57 ["_law_script", "_law_rim", "_law_rows", "_law_other", "_law_form"] (defScope (topS 57)) := ⟨rfl, rfl, rfl, by decide +kernel, rfl, by decide +kernel, by decide +kernel⟩
theorem cb57 : ctxB (defScope (topS 57)) (fun _ => true) N57 M57 M57 G57 = true := by decide +kernel
abbrev N58 : List Str := ["_law_script", "_law_rim", "_law_bunch", "_law_form", "_law_size", "_law_own", "_law_times", "_law_row", "_law_c", "_law_value", "_law_rows", "_law_other", "_law_kind", "_law_grid", "_law_k", "_law_thing", "_law_lower", "_law_wrong_here"]
abbrev M58 : List Str := ["_law_script", "_law_rim", "_law_bunch", "_law_form", "_law_size", "_law_own", "_law_times", "_law_rows", "_law_other", "_law_kind", "_law_grid", "_law_k", "_law_thing", "_law_lower", "_law_wrong_here"]
abbrev G58 : List Str := ["_law_pins", "_law_cell", "_law_lot", "int", "max", "_law_table", "tuple", "_law_lot_is", "lot_of", "_law_passed", "_law_found", "_law_free", "_law_judged", "_law_all_spoilt", "range", "_law_refused", "str", "_law_bad_pins"]
theorem sc58 : FnScope N58 ["_law_script"] (defScope (topS 58)) := ⟨rfl, rfl, rfl, by decide +kernel, rfl, by decide +kernel, by decide +kernel⟩
theorem cb58 : ctxB (defScope (topS 58)) (fun _ => true) N58 M58 M58 G58 = true := by decide +kernel
abbrev M58_0 : List Str := ["_law_row"]
abbrev L58_0 : List Str := ["_law_row"]
abbrev G58_0 : List Str := ["max"]
abbrev M58_1 : List Str := ["_law_times", "_law_c"]
abbrev L58_1 : List Str := ["_law_c"]
abbrev G58_1 : List Str := []
abbrev M58_2 : List Str := ["_law_times", "_law_value"]
abbrev L58_2 : List Str := ["_law_value"]
abbrev G58_2 : List Str := []
abbrev M58_3 : List Str := ["_law_times", "_law_row"]
abbrev L58_3 : List Str := ["_law_row"]
abbrev G58_3 : List Str := []
end RC
local macro_rules | `(tactic| walk_at "mem") => `(tactic| (first | with_reducible exact List.mem_cons_self | (with_reducible refine List.mem_cons_of_mem _ ?_; walk_at "mem")))
local macro_rules | `(tactic| walk_at "at") => `(tactic| (first | with_reducible exact RC.At.here | (with_reducible apply RC.At.there; walk_at "at")))
local macro_rules | `(tactic| walk_at "set") => `(tactic| (first | (intro _; walk_at "set1") | walk_at "set1"))
local macro_rules | `(tactic| walk_at "set1") => `(tactic| (first | with_reducible exact RC.SetAt.here | (with_reducible apply RC.SetAt.there; walk_at "set1")))
local macro_rules | `(tactic| walk_at "ev") => `(tactic| (first
  | exact RC.ev_name (by assumption) (by walk_at "mem") (by walk_at "at")
  | exact RC.ev_int
  | exact RC.ev_bl
  | exact RC.ev_non
  | exact RC.ev_str
  | ((apply RC.ev_add) <;> walk_at "ev")
  | ((apply RC.ev_sub) <;> walk_at "ev")
  | ((apply RC.ev_neg) <;> walk_at "ev")
  | (apply RC.ev_c; walk_at "cv")
  | ((apply RC.ev_not) <;> walk_at "ev")
  | ((apply RC.ev_one) <;> walk_at "ev")
  | assumption))
local macro_rules | `(tactic| walk_at "cv") => `(tactic| (first
  | ((apply RC.cv_lt) <;> walk_at "ev")
  | ((apply RC.cv_le) <;> walk_at "ev")
  | ((apply RC.cv_gt) <;> walk_at "ev")
  | ((apply RC.cv_ge) <;> walk_at "ev")
  | ((apply RC.cv_isN) <;> walk_at "ev")
  | ((apply RC.cv_notN) <;> walk_at "ev")
  | ((apply RC.cv_eqI) <;> walk_at "ev")
  | ((apply RC.cv_neI) <;> walk_at "ev")
  | assumption))
local macro_rules | `(tactic| walk_at "tv") => `(tactic| (first
  | (apply RC.tv_c; walk_at "cv")
  | ((apply RC.tv_not) <;> walk_at "tv")
  | ((apply RC.tv_val) <;> walk_at "ev")
  | assumption))
local macro_rules | `(tactic| walk_at "wipe") => `(tactic| (first | exact RC.Wiped.nil | exact RC.WipeAt.here | ((apply RC.Wiped.cons) <;> walk_at "wipe") | ((apply RC.WipeAt.there) <;> walk_at "wipe")))
local macro_rules | `(tactic| walk_at "set2") => `(tactic| exact fun x y => ⟨_, by walk_at "set1", by walk_at "set1"⟩)
local macro_rules | `(tactic| walk_at "set3") => `(tactic| exact fun x y z => ⟨_, _, by walk_at "set1", by walk_at "set1", by walk_at "set1"⟩)
/-! What the program computes, in plain Lean. -/
namespace RC
abbrev T3 := Int × Int × Int
def inC (t : T3) (i : Int) : Bool := decide (t.1 ≤ i) && decide (i < t.2.1)
/-- the cords that part two gaps -/
def passing (L : List T3) (i j : Int) : Int := ((L.filter fun t => !decide (inC t i = inC t j)).map (·.2.2)).sum
def tabR (n : Nat) (L : List T3) : List (List Int) := (List.range n).map fun (i : Nat) => (List.range n).map fun (j : Nat) => passing L (i : Int) (j : Int)
def tget (T : List (List Int)) (i j : Nat) : Int := (T.getD i []).getD j 0
/-- the gap before a pin -/
def bef (r a : Nat) : Nat := if a = 0 then r - 1 else a - 1
def twice (r : Nat) (T : List (List Int)) (a b : Nat) : Int := tget T a b + tget T (bef r a) (b - 1) - tget T a (b - 1) - tget T (bef r a) b
def dblRow (r : Nat) (T : List (List Int)) (a : Nat) : List T3 := (List.range (r - (a + 1))).map fun (k : Nat) => (((a : Nat) : Int), (((a + 1 + k : Nat)) : Int), twice r T a (a + 1 + k))
def doubles (r : Nat) (T : List (List Int)) : List T3 := (List.range r).flatMap (dblRow r T)
def cordsOf (r : Nat) (T : List (List Int)) : List T3 := (doubles r T).filterMap fun t => if 0 < t.2.2 then some (t.1, t.2.1, t.2.2 / 2) else none
/-- a square table of n rows -/
def Sqr (n : Nat) (T : List (List Int)) : Prop := T.length = n ∧ ∀ row ∈ T, row.length = n
/-- cords in normal form on r pins -/
def t3lt (s t : T3) : Prop := s.1 < t.1 ∨ (s.1 = t.1 ∧ s.2.1 < t.2.1)
structure Nf (r : Nat) (L : List T3) : Prop where
  inr : ∀ t ∈ L, 0 ≤ t.1 ∧ t.1 < t.2.1 ∧ t.2.1 < (r : Int) ∧ 1 ≤ t.2.2
  asc : L.Pairwise t3lt
end RC
/-! The cords of a table are in normal form. -/
namespace RC
def noT (t : T3) : Bool := decide (t.2.2 < 0) || decide (t.2.2 % 2 = 1)
def firstNo (r : Nat) (T : List (List Int)) : Option T3 := (doubles r T).find? noT
theorem mem_dbl {r : Nat} {T : List (List Int)} {t : T3} (h : t ∈ doubles r T) : ∃ a b : Nat, a < b ∧ b < r ∧ t = ((a : Int), (b : Int), twice r T a b) := by
  unfold doubles at h
  obtain ⟨a, ha, h⟩ := List.mem_flatMap.mp h
  unfold dblRow at h
  obtain ⟨k, hk, rfl⟩ := List.mem_map.mp h
  have h1 := List.mem_range.mp ha
  have h2 := List.mem_range.mp hk
  exact ⟨a, a + 1 + k, by omega, by omega, rfl⟩
theorem dbl_asc (r : Nat) (T : List (List Int)) : (doubles r T).Pairwise t3lt := by
  unfold doubles
  rw [List.pairwise_flatMap]
  refine ⟨fun a ha => ?_, List.pairwise_lt_range.imp fun {a b} hab x hx y hy => ?_⟩
  · unfold dblRow
    rw [List.pairwise_map]
    refine List.pairwise_lt_range.imp fun {u v} huv => .inr ⟨rfl, ?_⟩
    show ((a + 1 + u : Nat) : Int) < ((a + 1 + v : Nat) : Int)
    omega
  · unfold dblRow at hx hy
    obtain ⟨k, _, rfl⟩ := List.mem_map.mp hx
    obtain ⟨l, _, rfl⟩ := List.mem_map.mp hy
    unfold t3lt
    simp only
    omega
theorem nf_cords {r : Nat} {T : List (List Int)} (h : ∀ t ∈ doubles r T, noT t = false) : Nf r (cordsOf r T) := by
  refine ⟨fun t ht => ?_, ?_⟩
  · unfold cordsOf at ht
    obtain ⟨u, hu, e⟩ := List.mem_filterMap.mp ht
    obtain ⟨a, b, h1, h2, rfl⟩ := mem_dbl hu
    have hn := h _ hu
    unfold noT at hn
    simp only [Bool.or_eq_false_iff, decide_eq_false_iff_not] at hn
    simp only at e
    split at e
    · rename_i hp
      obtain rfl := Option.some.inj e
      simp only
      refine ⟨by omega, by omega, by omega, ?_⟩
      have := hn.2
      omega
    · cases e
  · unfold cordsOf
    refine List.Pairwise.filterMap _ (fun a b hab x hx y hy => ?_) (dbl_asc r T)
    split at hx
    · split at hy
      · obtain rfl := Option.some.inj hx
        obtain rfl := Option.some.inj hy
        exact hab
      · cases hy
    · cases hx
theorem find_ix {α : Type} {p : α → Bool} : ∀ {l : List α} {i : Nat} {t : α}, l[i]? = some t → p t = true → (∀ k, k < i → ∀ u, l[k]? = some u → p u = false) → l.find? p = some t
  | [], i, t, h, _, _ => by simp at h
  | x :: l, 0, t, h, hp, _ => by
    rw [List.getElem?_cons_zero] at h
    cases h
    rw [List.find?_cons, hp]
  | x :: l, i + 1, t, h, hp, hk => by
    rw [List.getElem?_cons_succ] at h
    rw [List.find?_cons, hk 0 (by omega) x rfl]
    exact find_ix h hp fun k hk' u hu => hk (k + 1) (by omega) u hu
theorem find_none_ix {α : Type} {p : α → Bool} {l : List α} (h : ∀ (k : Nat) (u : α), l[k]? = some u → p u = false) : l.find? p = none := by
  rw [List.find?_eq_none]
  intro x hx
  obtain ⟨k, hk, e⟩ := List.getElem_of_mem hx
  rw [h k x (by rw [List.getElem?_eq_getElem hk, e])]
  exact Bool.false_ne_true
end RC
/-! A: a valid table is its cords' table. B: cords in normal form are their table's cords. -/
namespace RC
/-- 1 if the cord parts, else 0, times n -/
def part (t : T3) (i j : Int) : Int := if inC t i = inC t j then 0 else t.2.2
theorem passing_cons (t : T3) (L : List T3) (i j : Int) : passing (t :: L) i j = part t i j + passing L i j := by
  unfold passing part
  rw [List.filter_cons]
  by_cases h : inC t i = inC t j
  · simp [h]
  · simp [h]
theorem passing_nil (i j : Int) : passing [] i j = 0 := rfl
theorem passing_app (L M : List T3) (i j : Int) : passing (L ++ M) i j = passing L i j + passing M i j := by
  induction L with
  | nil => rw [List.nil_append, passing_nil, Int.zero_add]
  | cons t L ih => rw [List.cons_append, passing_cons, passing_cons, ih]; omega
theorem part_sym (t : T3) (i j : Int) : part t i j = part t j i := by
  unfold part
  by_cases h : inC t i = inC t j
  · rw [if_pos h, if_pos h.symm]
  · rw [if_neg h, if_neg fun z => h z.symm]
theorem passing_sym (L : List T3) (i j : Int) : passing L i j = passing L j i := by
  induction L with
  | nil => rfl
  | cons t L ih => rw [passing_cons, passing_cons, ih, part_sym]
theorem tget_tabR {n : Nat} {L : List T3} {i j : Nat} (hi : i < n) (hj : j < n) : tget (tabR n L) i j = passing L (i : Int) (j : Int) := by
  unfold tget tabR
  simp [List.getD_eq_getElem?_getD, List.getElem?_map, List.getElem?_range hi, List.getElem?_range hj]
theorem bef_lt' {r a : Nat} (h : a < r) : bef r a < r := by unfold bef; split <;> omega
/-- what one cord gives to twice at a pair -/
def tw1 (r : Nat) (t : T3) (a b : Nat) : Int := part t a b + part t (bef r a) ((b - 1 : Nat) : Int) - part t a ((b - 1 : Nat) : Int) - part t (bef r a) b
def chi (t : T3) (i : Int) : Int := if inC t i = true then 1 else 0
theorem part_chi (t : T3) (i j : Int) : part t i j = t.2.2 * (chi t i + chi t j - 2 * (chi t i * chi t j)) := by
  unfold part chi
  cases inC t i <;> cases inC t j <;> simp <;> omega
def ind (p : Prop) [Decidable p] : Int := if p then 1 else 0
theorem chi_a {r : Nat} {x y a : Nat} {m : Int} (h1 : x < y) (h2 : y < r) (ha : a < r) : chi ((x : Int), (y : Int), m) (a : Int) - chi ((x : Int), (y : Int), m) ((bef r a : Nat) : Int) = ind (a = x) - ind (a = y) := by
  have hbef : (a = 0 ∧ bef r a = r - 1) ∨ (0 < a ∧ bef r a = a - 1) := by unfold bef; split <;> omega
  generalize bef r a = c at hbef
  unfold chi inC ind
  simp only [Bool.and_eq_true, decide_eq_true_eq]
  by_cases p1 : (x : Int) ≤ (a : Int) ∧ (a : Int) < (y : Int) <;> by_cases p2 : (x : Int) ≤ (c : Int) ∧ (c : Int) < (y : Int) <;> by_cases p3 : a = x <;> by_cases p4 : a = y <;> first | (rw [if_pos p1] ; skip) | (rw [if_neg p1] ; skip)
  all_goals first | rw [if_pos p2] | rw [if_neg p2]
  all_goals first | rw [if_pos p3] | rw [if_neg p3]
  all_goals first | rw [if_pos p4] | rw [if_neg p4]
  all_goals omega
theorem chi_b {x y b : Nat} {m : Int} (h1 : x < y) (hb : 0 < b) : chi ((x : Int), (y : Int), m) (b : Int) - chi ((x : Int), (y : Int), m) ((b - 1 : Nat) : Int) = ind (b = x) - ind (b = y) := by
  unfold chi inC ind
  simp only [Bool.and_eq_true, decide_eq_true_eq]
  by_cases p1 : (x : Int) ≤ (b : Int) ∧ (b : Int) < (y : Int) <;> by_cases p2 : (x : Int) ≤ ((b - 1 : Nat) : Int) ∧ ((b - 1 : Nat) : Int) < (y : Int) <;> by_cases p3 : b = x <;> by_cases p4 : b = y <;> first | (rw [if_pos p1] ; skip) | (rw [if_neg p1] ; skip)
  all_goals first | rw [if_pos p2] | rw [if_neg p2]
  all_goals first | rw [if_pos p3] | rw [if_neg p3]
  all_goals first | rw [if_pos p4] | rw [if_neg p4]
  all_goals omega
theorem tw_alg (n a b c d : Int) : n * (a + b - 2 * (a * b)) + n * (c + d - 2 * (c * d)) - n * (a + d - 2 * (a * d)) - n * (c + b - 2 * (c * b)) = -(2 * n * ((a - c) * (b - d))) := by
  have e1 : n * (a + b - 2 * (a * b)) = n * a + n * b - 2 * (n * (a * b)) := by rw [Int.mul_sub, Int.mul_add, Int.mul_left_comm]
  have e2 : n * (c + d - 2 * (c * d)) = n * c + n * d - 2 * (n * (c * d)) := by rw [Int.mul_sub, Int.mul_add, Int.mul_left_comm]
  have e3 : n * (a + d - 2 * (a * d)) = n * a + n * d - 2 * (n * (a * d)) := by rw [Int.mul_sub, Int.mul_add, Int.mul_left_comm]
  have e4 : n * (c + b - 2 * (c * b)) = n * c + n * b - 2 * (n * (c * b)) := by rw [Int.mul_sub, Int.mul_add, Int.mul_left_comm]
  have e5 : (a - c) * (b - d) = a * b - a * d - (c * b - c * d) := by rw [Int.sub_mul, Int.mul_sub, Int.mul_sub]
  have e6 : 2 * n * ((a - c) * (b - d)) = 2 * (n * (a * b)) - 2 * (n * (a * d)) - (2 * (n * (c * b)) - 2 * (n * (c * d))) := by
    have e7 : n * (a * b - a * d - (c * b - c * d)) = n * (a * b) - n * (a * d) - (n * (c * b) - n * (c * d)) := by rw [Int.mul_sub, Int.mul_sub, Int.mul_sub]
    rw [e5, Int.mul_assoc, e7]
    omega
  rw [e1, e2, e3, e4, e6]
  omega
theorem tw1_eq {r : Nat} {t : T3} {a b : Nat} (h0 : 0 ≤ t.1) (h1 : t.1 < t.2.1) (h2 : t.2.1 < (r : Int)) (hab : a < b) (hb : b < r) : tw1 r t a b = if t.1 = (a : Int) ∧ t.2.1 = (b : Int) then 2 * t.2.2 else 0 := by
  obtain ⟨x, y, m⟩ := t
  simp only at h0 h1 h2
  obtain ⟨x, rfl⟩ : ∃ z : Nat, x = (z : Int) := ⟨x.toNat, by omega⟩
  obtain ⟨y, rfl⟩ : ∃ z : Nat, y = (z : Int) := ⟨y.toNat, by omega⟩
  unfold tw1
  rw [part_chi, part_chi, part_chi, part_chi, tw_alg, chi_a (by omega) (by omega) (by omega), chi_b (by omega) (by omega)]
  unfold ind
  simp only
  by_cases p1 : a = x <;> by_cases p2 : a = y <;> by_cases p3 : b = x <;> by_cases p4 : b = y
  all_goals first | rw [if_pos p1] | rw [if_neg p1]
  all_goals first | rw [if_pos p2] | rw [if_neg p2]
  all_goals first | rw [if_pos p3] | rw [if_neg p3]
  all_goals first | rw [if_pos p4] | rw [if_neg p4]
  all_goals first | (exfalso; omega) | (rw [if_pos (by omega)]; omega) | (rw [if_neg (by omega)]; omega)
/-- twice of a table of cords -/
theorem twice_tabR {r n : Nat} {L : List T3} {a b : Nat} (hn : r ≤ n) (hab : a < b) (hb : b < r) : twice r (tabR n L) a b = (L.map fun t => tw1 r t a b).sum := by
  have hc := bef_lt' (r := r) (a := a) (by omega)
  unfold twice
  rw [tget_tabR (by omega) (by omega), tget_tabR (by omega) (by omega), tget_tabR (by omega) (by omega), tget_tabR (by omega) (by omega)]
  induction L with
  | nil => rfl
  | cons t L ih =>
    rw [passing_cons, passing_cons, passing_cons, passing_cons, List.map_cons, List.sum_cons, ← ih]
    unfold tw1
    omega
/-- B: the sum of one pair's doubles in a normal form -/
theorem sum_pair {r : Nat} {L : List T3} (h : Nf r L) {a b : Nat} (hab : a < b) (hb : b < r) : (L.map fun t => tw1 r t a b).sum = match L.find? (fun t => decide (t.1 = (a : Int) ∧ t.2.1 = (b : Int))) with
    | some t => 2 * t.2.2
    | none => 0 := by
  have hin := h.inr
  have hasc := h.asc
  clear h
  induction L with
  | nil => rfl
  | cons t L ih =>
    obtain ⟨k1, k2, k3, k4⟩ := hin t List.mem_cons_self
    rw [List.map_cons, List.sum_cons, tw1_eq k1 k2 k3 hab hb, List.find?_cons]
    have ih' := ih (fun u hu => hin u (List.mem_cons_of_mem _ hu)) (List.pairwise_cons.mp hasc).2
    by_cases ht : t.1 = (a : Int) ∧ t.2.1 = (b : Int)
    · rw [if_pos ht, decide_eq_true ht]
      have : L.find? (fun t => decide (t.1 = (a : Int) ∧ t.2.1 = (b : Int))) = none := by
        rw [List.find?_eq_none]
        intro u hu
        have := (List.pairwise_cons.mp hasc).1 u hu
        unfold t3lt at this
        simp only [decide_eq_true_eq]
        omega
      rw [this] at ih'
      simp only at ih' ⊢
      omega
    · rw [if_neg ht, decide_eq_false ht, ih', Int.zero_add]
/-- two ascending lists of the same members are one -/
theorem asc_ext {L M : List T3} (hL : L.Pairwise t3lt) (hM : M.Pairwise t3lt) (h : ∀ t, t ∈ L ↔ t ∈ M) : L = M := by
  induction L generalizing M with
  | nil =>
    cases M with
    | nil => rfl
    | cons m M => exact absurd ((h m).mpr List.mem_cons_self) (by simp)
  | cons t L ih =>
    cases M with
    | nil => exact absurd ((h t).mp List.mem_cons_self) (by simp)
    | cons m M =>
      have lt_irr : ∀ u : T3, ¬ t3lt u u := fun u => by unfold t3lt; omega
      have lt_asym : ∀ u v : T3, t3lt u v → ¬ t3lt v u := fun u v => by unfold t3lt; omega
      have e : t = m := by
        rcases List.mem_cons.mp ((h t).mp List.mem_cons_self) with e | h1
        · exact e
        rcases List.mem_cons.mp ((h m).mpr List.mem_cons_self) with e | h2
        · exact e.symm
        exact absurd ((List.pairwise_cons.mp hL).1 m h2) (lt_asym _ _ ((List.pairwise_cons.mp hM).1 t h1))
      subst e
      have hL' := List.pairwise_cons.mp hL
      have hM' := List.pairwise_cons.mp hM
      rw [ih hL'.2 hM'.2 fun u => ⟨fun hu => ?_, fun hu => ?_⟩]
      · rcases List.mem_cons.mp ((h u).mp (List.mem_cons_of_mem _ hu)) with rfl | h1
        · exact absurd (hL'.1 _ hu) (lt_irr _)
        · exact h1
      · rcases List.mem_cons.mp ((h u).mpr (List.mem_cons_of_mem _ hu)) with rfl | h1
        · exact absurd (hM'.1 _ hu) (lt_irr _)
        · exact h1
/-- all of a normal form's doubles are even and not below 0 -/
theorem dbl_tabR {r n : Nat} {L : List T3} (h : Nf r L) (hn : r ≤ n) : ∀ t ∈ doubles r (tabR n L), noT t = false := fun t ht => by
  obtain ⟨a, b, h1, h2, rfl⟩ := mem_dbl ht
  unfold noT
  rw [twice_tabR hn h1 h2, sum_pair h h1 h2]
  cases hf : L.find? (fun t => decide (t.1 = (a : Int) ∧ t.2.1 = (b : Int))) with
  | none => simp
  | some t =>
    have := (h.inr t (List.mem_of_find?_eq_some hf)).2.2.2
    simp only [Bool.or_eq_false_iff, decide_eq_false_iff_not]
    omega
theorem cords_tabR {r n : Nat} {L : List T3} (h : Nf r L) (hn : r ≤ n) : cordsOf r (tabR n L) = L := by
  refine asc_ext (nf_cords (dbl_tabR h hn)).asc h.asc fun t => ⟨fun ht => ?_, fun ht => ?_⟩
  · unfold cordsOf at ht
    obtain ⟨u, hu, e⟩ := List.mem_filterMap.mp ht
    obtain ⟨a, b, h1, h2, rfl⟩ := mem_dbl hu
    simp only at e
    rw [twice_tabR hn h1 h2, sum_pair h h1 h2] at e
    cases hf : L.find? (fun t => decide (t.1 = (a : Int) ∧ t.2.1 = (b : Int))) with
    | none => rw [hf] at e; simp at e
    | some v =>
      rw [hf] at e
      dsimp only at e
      have hv := List.find?_some hf
      have hv2 := of_decide_eq_true hv
      split at e
      · obtain rfl := Option.some.inj e
        have : ((a : Int), (b : Int), 2 * v.2.2 / 2) = v := by
          obtain ⟨v1, v2, v3⟩ := v
          simp only at hv2
          rw [hv2.1, hv2.2]
          congr 2
          simp only
          omega
        rw [this]
        exact List.mem_of_find?_eq_some hf
      · cases e
  · obtain ⟨k1, k2, k3, k4⟩ := h.inr t ht
    obtain ⟨x, y, m⟩ := t
    simp only at k1 k2 k3 k4
    obtain ⟨x, rfl⟩ : ∃ z : Nat, x = (z : Int) := ⟨x.toNat, by omega⟩
    obtain ⟨y, rfl⟩ : ∃ z : Nat, y = (z : Int) := ⟨y.toNat, by omega⟩
    have hxy : x < y := by omega
    have hyr : y < r := by omega
    have htw : twice r (tabR n L) x y = 2 * m := by
      rw [twice_tabR hn hxy hyr, sum_pair h hxy hyr]
      have : L.find? (fun t => decide (t.1 = (x : Int) ∧ t.2.1 = (y : Int))) = some ((x : Int), (y : Int), m) := by
        cases hf : L.find? (fun t => decide (t.1 = (x : Int) ∧ t.2.1 = (y : Int))) with
        | none =>
          rw [List.find?_eq_none] at hf
          exact absurd (hf _ ht) (by simp)
        | some v =>
          have hv := List.find?_some hf
          have hv2 := of_decide_eq_true hv
          have hvm := List.mem_of_find?_eq_some hf
          obtain ⟨i, hi, ei⟩ := List.getElem_of_mem hvm
          obtain ⟨j, hj, ej⟩ := List.getElem_of_mem ht
          have pw := List.pairwise_iff_getElem.mp h.asc
          rcases Nat.lt_trichotomy i j with hlt | rfl | hlt
          · have := pw i j hi hj hlt
            rw [ei, ej] at this
            unfold t3lt at this
            simp only at this
            omega
          · rw [ei] at ej
            rw [ej]
          · have := pw j i hj hi hlt
            rw [ei, ej] at this
            unfold t3lt at this
            simp only at this
            omega
      rw [this]
    unfold cordsOf doubles
    refine List.mem_filterMap.mpr ⟨((x : Int), (y : Int), twice r (tabR n L) x y), List.mem_flatMap.mpr ⟨x, List.mem_range.mpr (by omega), ?_⟩, ?_⟩
    · unfold dblRow
      exact List.mem_map.mpr ⟨y - (x + 1), List.mem_range.mpr (by omega), by rw [show x + 1 + (y - (x + 1)) = y by omega]⟩
    · simp only
      rw [htw, if_pos (by omega)]
      congr 3
      omega
end RC
/-! A: a valid table is its cords' table. -/
namespace RC
theorem uniq {r : Nat} {E : Nat → Nat → Int} (sym : ∀ i j, i < r → j < r → E i j = E j i) (diag : ∀ i, i < r → E i i = 0) (tw : ∀ a b, a < b → b < r → E a b + E (bef r a) (b - 1) - E a (b - 1) - E (bef r a) b = 0) : ∀ i j, i < r → j < r → E i j = 0 := by
  -- the rise along a row does not hang on the row
  have rise : ∀ a b, a < b → b < r → E a b - E a (b - 1) = E 0 b - E 0 (b - 1) := by
    intro a
    induction a with
    | zero => intro b _ _; rfl
    | succ a ih =>
      intro b hab hb
      have h1 := tw (a + 1) b hab hb
      have hbf : bef r (a + 1) = a := by unfold bef; simp
      rw [hbf] at h1
      have h2 := ih b (by omega) hb
      omega
  have last : ∀ b, 0 < b → b < r → E (r - 1) b - E (r - 1) (b - 1) = E 0 b - E 0 (b - 1) := fun b h0 hb => by
    have h1 := tw 0 b h0 hb
    have hbf : bef r 0 = r - 1 := by unfold bef; simp
    rw [hbf] at h1
    omega
  have row : ∀ a k, a + k < r → E a (a + k) = E 0 (a + k) - E 0 a := by
    intro a k
    induction k with
    | zero =>
      intro h
      rw [Nat.add_zero, diag a (by omega)]
      omega
    | succ k ih =>
      intro h
      have h1 := rise a (a + (k + 1)) (by omega) h
      have h2 := ih (by omega)
      rw [show a + (k + 1) - 1 = a + k by omega] at h1
      omega
  have lastRow : ∀ b, b < r → E (r - 1) b = E (r - 1) 0 + E 0 b - E 0 0 := by
    intro b
    induction b with
    | zero => intro _; omega
    | succ b ih =>
      intro h
      have h1 := last (b + 1) (by omega) h
      have h2 := ih (by omega)
      rw [show b + 1 - 1 = b by omega] at h1
      omega
  have zero : ∀ b, b < r → E 0 b = 0 := fun b hb => by
    have d0 := diag 0 (by omega)
    have h1 := lastRow (r - 1) (by omega)
    have h2 := diag (r - 1) (by omega)
    have h3 := sym (r - 1) 0 (by omega) (by omega)
    have h4 : E 0 (r - 1) = 0 := by omega
    have h5 := lastRow b hb
    have h6 := sym (r - 1) b (by omega) hb
    have h7 := row b (r - 1 - b) (by omega)
    rw [show b + (r - 1 - b) = r - 1 by omega] at h7
    omega
  intro i j hi hj
  rcases Nat.le_total i j with h | h
  · have := row i (j - i) (by omega)
    rw [show i + (j - i) = j by omega, zero j hj, zero i hi] at this
    omega
  · have := row j (i - j) (by omega)
    rw [show j + (i - j) = i by omega, zero j hj, zero i hi] at this
    rw [sym i j hi hj]
    omega
theorem tab_ext {n : Nat} {T U : List (List Int)} (hT : Sqr n T) (hU : Sqr n U) (h : ∀ i j, i < n → j < n → tget T i j = tget U i j) : T = U := by
  apply List.ext_getElem
  · rw [hT.1, hU.1]
  · intro i h1 h2
    have hi : i < n := by rw [← hT.1]; exact h1
    have l1 := hT.2 _ (List.getElem_mem h1)
    have l2 := hU.2 _ (List.getElem_mem h2)
    apply List.ext_getElem
    · rw [l1, l2]
    · intro j k1 k2
      have := h i j hi (by omega)
      unfold tget at this
      simpa [List.getD_eq_getElem?_getD, List.getElem?_eq_getElem h1, List.getElem?_eq_getElem h2, List.getElem?_eq_getElem k1, List.getElem?_eq_getElem k2] using this
theorem sqr_tabR (n : Nat) (L : List T3) : Sqr n (tabR n L) := ⟨by unfold tabR; simp, fun row h => by
  unfold tabR at h
  obtain ⟨i, _, rfl⟩ := List.mem_map.mp h
  simp⟩
/-- a table that is whole and symmetric, its diagonal 0, its doubles even and not below 0, is the table of its cords -/
theorem tabR_cords {r n : Nat} {T : List (List Int)} (hn : n = max r 1) (hq : Sqr n T) (diag : ∀ i, i < n → tget T i i = 0) (sym : ∀ i j, i < n → j < n → tget T i j = tget T j i) (hd : ∀ t ∈ doubles r T, noT t = false) : tabR n (cordsOf r T) = T := by
  have hnf := nf_cords hd
  refine tab_ext (sqr_tabR _ _) hq fun i j hi hj => ?_
  by_cases hr : r = 0
  · have h1 : n = 1 := by omega
    obtain rfl : i = 0 := by omega
    obtain rfl : j = 0 := by omega
    rw [tget_tabR hi hi, diag 0 hi]
    have : cordsOf r T = [] := by subst hr; rfl
    rw [this]; rfl
  have hrn : n = r := by omega
  subst hrn
  have tw2 : ∀ a b, a < b → b < n → twice n (tabR n (cordsOf n T)) a b = twice n T a b := fun a b hab hb => by
    rw [twice_tabR (Nat.le_refl _) hab hb, sum_pair hnf hab hb]
    have hmem : ((a : Int), (b : Int), twice n T a b) ∈ doubles n T := by
      unfold doubles
      refine List.mem_flatMap.mpr ⟨a, List.mem_range.mpr (by omega), ?_⟩
      unfold dblRow
      exact List.mem_map.mpr ⟨b - (a + 1), List.mem_range.mpr (by omega), by rw [show a + 1 + (b - (a + 1)) = b by omega]⟩
    have hno := hd _ hmem
    unfold noT at hno
    simp only [Bool.or_eq_false_iff, decide_eq_false_iff_not] at hno
    have only : ∀ u ∈ cordsOf n T, u.1 = (a : Int) → u.2.1 = (b : Int) → u.2.2 = twice n T a b / 2 := fun u hu h1 h2 => by
      unfold cordsOf at hu
      obtain ⟨v, hv, e⟩ := List.mem_filterMap.mp hu
      obtain ⟨a', b', k1, k2, rfl⟩ := mem_dbl hv
      simp only at e
      split at e
      · obtain rfl := Option.some.inj e
        simp only at h1 h2 ⊢
        obtain rfl : a' = a := by omega
        obtain rfl : b' = b := by omega
        rfl
      · cases e
    cases hf : (cordsOf n T).find? (fun t => decide (t.1 = (a : Int) ∧ t.2.1 = (b : Int))) with
    | some u =>
      have hv := List.find?_some hf
      have hv2 := of_decide_eq_true hv
      have := only u (List.mem_of_find?_eq_some hf) hv2.1 hv2.2
      simp only
      omega
    | none =>
      simp only
      by_cases hp : 0 < twice n T a b
      · rw [List.find?_eq_none] at hf
        refine absurd (hf ((a : Int), (b : Int), twice n T a b / 2) ?_) (by simp)
        unfold cordsOf
        exact List.mem_filterMap.mpr ⟨_, hmem, by simp only; rw [if_pos hp]⟩
      · omega
  have key := uniq (r := n) (E := fun i j => tget (tabR n (cordsOf n T)) i j - tget T i j) (fun i j hi hj => by
    rw [tget_tabR hi hj, tget_tabR hj hi, passing_sym, sym i j hi hj]) (fun i hi => by
    rw [tget_tabR hi hi, diag i hi]
    have : passing (cordsOf n T) (i : Int) (i : Int) = 0 := by
      unfold passing
      have : ((cordsOf n T).filter fun t => !decide (inC t (i : Int) = inC t (i : Int))) = [] := List.filter_eq_nil_iff.mpr fun t _ => by simp
      rw [this]; rfl
    omega) (fun a b hab hb => by
    have := tw2 a b hab hb
    unfold twice at this
    omega) i j hi hj
  omega
end RC
/-! Data in the heap, read and built. -/
namespace RC
open PySem PySem.Spec PyProof.Rows L2
def D.seq : D → Option (List D)
  | .lst l => some l | .tup l => some l | _ => none
section
variable {X : Cx} {S : Scope} {N M L G : List Str} {σ σ2 : St} {H H' H1 : Hp} {a b c e : Expr} {es : List Expr} {rest body els : List Stmt} {pos pos2 pos3 pos4 : Pos} {v x y z : V} {i j k : Int} {t u : Bool} {En : Ends} {nm : Str} {Q : VK} {d : D} {ds : List D}
/-- evaluates to a standing datum -/
structure Eh (X : Cx) (e : Expr) (σ : St) (H : Hp) (d : D) : Prop where
  ex : ∃ v, Ev X e σ H v ∧ Rep H v d
theorem Eh.mono (h : Eh X e σ H d) (q : Ex H H1) : Eh X e σ H1 d := by obtain ⟨v, h1, h2⟩ := h.ex; exact ⟨v, h1.mono q, h2.mono q⟩
theorem eh_ev (h : Ev X e σ H v) (r : Rep H v d) : Eh X e σ H d := ⟨v, h, r⟩
theorem eh_int (h : Ev X e σ H (.int i)) : Eh X e σ H (.int i) := ⟨_, h, .int i⟩
theorem eh_bl (h : Ev X e σ H (.bl t)) : Eh X e σ H (.bl t) := ⟨_, h, .bl t⟩
theorem Eh.int (h : Eh X e σ H (.int i)) : Ev X e σ H (.int i) := by obtain ⟨v, h1, h2⟩ := h.ex; rw [h2.int_inv] at h1; exact h1
theorem Rep.seq_inv (r : Rep H v d) (h : d.seq = some ds) : ∃ a xs, v = .ref a ∧ (H a = some (.lst xs) ∨ H a = some (.tup xs)) ∧ RepL H xs ds := by
  cases d <;> cases h
  · obtain ⟨a, xs, rfl, h, r⟩ := r.lst_inv; exact ⟨a, xs, rfl, .inl h, r⟩
  · obtain ⟨a, xs, rfl, h, r⟩ := r.tup_inv; exact ⟨a, xs, rfl, .inr h, r⟩
theorem eh_ix {n : Nat} (ha : Eh X a σ H d) (hs : d.seq = some ds) (hb : Ev X b σ H (.int (n : Int))) (hx : ds[n]? = some d2) (hi : PlainIx b := by exact fun _ _ => rfl) : Eh X (.Subscript a b pos) σ H d2 := by
  obtain ⟨v, h1, r⟩ := ha.ex
  obtain ⟨p, xs, rfl, h, rx⟩ := r.seq_inv hs
  obtain ⟨x, hx1, hx2⟩ := rx.at hx
  rcases h with h | h
  · exact ⟨x, ev_ixL h1 hb (sqL h) (L2.atI_nat hx1) hi, hx2⟩
  · exact ⟨x, ev_ixT h1 hb (sqT h) (L2.atI_nat hx1) hi, hx2⟩
theorem eh_len (C : Ctx X S N M L G) (B : Bi X.mg) (hg : ("len" : Str) ∈ G) (ha : Eh X a σ H d) (hs : d.seq = some ds) (he : starEach (a :: []) X.env = (false, eval a X.env) :: starEach [] X.env := by rfl) : Ev X (.Call (.Name "len" pos2) [a] [] pos) σ H (.int (ds.length : Int)) := by
  obtain ⟨v, h1, r⟩ := ha.ex
  obtain ⟨p, xs, rfl, h, rx⟩ := r.seq_inv hs
  rw [← rx.len]
  exact ev_len C B hg h1 (h.elim (fun h => .inl (sqL h)) fun h => .inr (sqT h)) he
theorem eh_isInt (C : Ctx X S N M L G) (B : Bi X.mg) (hg : ("isinstance" : Str) ∈ G) (hg2 : ("int" : Str) ∈ G) (ha : Eh X a σ H d) (he : starEach (a :: (.Name "int" pos3) :: []) X.env = (false, eval a X.env) :: starEach ((.Name "int" pos3) :: []) X.env := by rfl) : Ev X (.Call (.Name "isinstance" pos2) [a, .Name "int" pos3] [] pos) σ H (.bl d.isInt) := by
  obtain ⟨v, h1, r⟩ := ha.ex; exact ev_isInt C B hg hg2 h1 r he
theorem eh_isBool (C : Ctx X S N M L G) (B : Bi X.mg) (hg : ("isinstance" : Str) ∈ G) (hg2 : ("bool" : Str) ∈ G) (ha : Eh X a σ H d) (he : starEach (a :: (.Name "bool" pos3) :: []) X.env = (false, eval a X.env) :: starEach ((.Name "bool" pos3) :: []) X.env := by rfl) : Ev X (.Call (.Name "isinstance" pos2) [a, .Name "bool" pos3] [] pos) σ H (.bl d.isBool) := by
  obtain ⟨v, h1, r⟩ := ha.ex; exact ev_isBool C B hg hg2 h1 r he
theorem eh_isStr (C : Ctx X S N M L G) (B : Bi X.mg) (hg : ("isinstance" : Str) ∈ G) (hg2 : ("str" : Str) ∈ G) (ha : Eh X a σ H d) (he : starEach (a :: (.Name "str" pos3) :: []) X.env = (false, eval a X.env) :: starEach ((.Name "str" pos3) :: []) X.env := by rfl) : Ev X (.Call (.Name "isinstance" pos2) [a, .Name "str" pos3] [] pos) σ H (.bl d.isStr) := by
  obtain ⟨v, h1, r⟩ := ha.ex; exact ev_isStr C B hg hg2 h1 r he
theorem eh_isDict (C : Ctx X S N M L G) (B : Bi X.mg) (hg : ("isinstance" : Str) ∈ G) (hg2 : ("dict" : Str) ∈ G) (ha : Eh X a σ H d) (he : starEach (a :: (.Name "dict" pos3) :: []) X.env = (false, eval a X.env) :: starEach ((.Name "dict" pos3) :: []) X.env := by rfl) : Ev X (.Call (.Name "isinstance" pos2) [a, .Name "dict" pos3] [] pos) σ H (.bl d.isDict) := by
  obtain ⟨v, h1, r⟩ := ha.ex; exact ev_isDict C B hg hg2 h1 r he
theorem eh_isList (C : Ctx X S N M L G) (B : Bi X.mg) (hg : ("isinstance" : Str) ∈ G) (hg2 : ("list" : Str) ∈ G) (ha : Eh X a σ H d) (he : starEach (a :: (.Name "list" pos3) :: []) X.env = (false, eval a X.env) :: starEach ((.Name "list" pos3) :: []) X.env := by rfl) : Ev X (.Call (.Name "isinstance" pos2) [a, .Name "list" pos3] [] pos) σ H (.bl d.isList) := by
  obtain ⟨v, h1, r⟩ := ha.ex; exact ev_isList C B hg hg2 h1 r he
theorem eh_isTup (C : Ctx X S N M L G) (B : Bi X.mg) (hg : ("isinstance" : Str) ∈ G) (hg2 : ("tuple" : Str) ∈ G) (ha : Eh X a σ H d) (he : starEach (a :: (.Name "tuple" pos3) :: []) X.env = (false, eval a X.env) :: starEach ((.Name "tuple" pos3) :: []) X.env := by rfl) : Ev X (.Call (.Name "isinstance" pos2) [a, .Name "tuple" pos3] [] pos) σ H (.bl d.isTup) := by
  obtain ⟨v, h1, r⟩ := ha.ex; exact ev_isTup C B hg hg2 h1 r he
theorem eh_isSeq {n : Nat} (C : Ctx X S N M L G) (B : Bi X.mg) (hg : ("isinstance" : Str) ∈ G) (hg2 : ("list" : Str) ∈ G) (hg3 : ("tuple" : Str) ∈ G) (ha : Eh X a σ H d) {c_pos : Pos}
    (he : starEach (a :: (.Tuple [.Name "list" pos3, .Name "tuple" pos4] n c_pos) :: []) X.env = (false, eval a X.env) :: starEach ((.Tuple [.Name "list" pos3, .Name "tuple" pos4] n c_pos) :: []) X.env := by rfl) :
    Ev X (.Call (.Name "isinstance" pos2) [a, .Tuple [.Name "list" pos3, .Name "tuple" pos4] n c_pos] [] pos) σ H (.bl (d.isList || d.isTup)) := by
  obtain ⟨v, h1, r⟩ := ha.ex; exact ev_isSeq C B hg hg2 hg3 h1 r he
/-! ### new data -/
structure Er (X : Cx) (e : Expr) (σ : St) (H : Hp) (d : D) : Prop where
  run : ∀ H1, Ex H H1 → ∀ Q : VK, (∀ v H2, Ex H1 H2 → Rep (nw H1 H2) v d → Q v H2) → WE X e σ H1 Q
theorem Er.mono (h : Er X e σ H d) (q : Ex H H1) : Er X e σ H1 d := ⟨fun H2 e2 => h.run H2 (q.trans e2)⟩
theorem Er.go (h : Er X e σ H d) (q : ∀ v H2, Ex H H2 → Rep (nw H H2) v d → Q v H2) : WE X e σ H Q := h.run H Ex.rfl' Q q
theorem Er.is {d' : D} (h : Er X e σ H d) (q : d = d') : Er X e σ H d' := q ▸ h
theorem er_ev (h : Ev X e σ H v) (r : Rep noHp v d) : Er X e σ H d := ⟨fun H1 e1 Q k => h.run H1 e1 Q fun H2 e2 => k v H2 e2 (r.mono noHp_ex)⟩
theorem er_int (h : Ev X e σ H (.int i)) : Er X e σ H (.int i) := er_ev h (.int i)
theorem er_eo {ns : List Int} (h : Eo X e σ H (.tup (ns.map V.int))) : Er X e σ H (.tup (ns.map D.int)) := ⟨fun H1 e1 Q k => h.run H1 e1 Q fun p H2 hp e2 h2 => k _ H2 e2 (.tup (nw_new hp h2) RepL.ints)⟩
theorem er_eol {ns : List Int} (h : Eo X e σ H (.lst (ns.map V.int))) : Er X e σ H (.lst (ns.map D.int)) := ⟨fun H1 e1 Q k => h.run H1 e1 Q fun p H2 hp e2 h2 => k _ H2 e2 (.lst (nw_new hp h2) RepL.ints)⟩
theorem er_tup {n : Nat} {ns : List Int} (h : Av X es σ H (ns.map V.int)) (hl : (ns.map V.int).length ≤ 100000 := by simp) : Er X (.Tuple es n pos) σ H (.tup (ns.map D.int)) := er_eo (eo_tup h hl)
theorem er_call {sp : Sp} {vs : List V} (C : Ctx X S N M L G) (c : Cal X nm sp) (hg : nm ∈ G) (h : Av X (e :: es) σ H vs) (q : ∀ H1, Ex H H1 → ∀ Q : VK, (∀ v H2, Ex H1 H2 → Rep (nw H1 H2) v d → Q v H2) → sp vs H1 Q E0)
    (he : starEach (e :: es) X.env = (false, eval e X.env) :: starEach es X.env := by rfl) (hp : (backTo pos (starEach es X.env)).any (·.1) = false := by rfl) : Er X (.Call (.Name nm pos2) (e :: es) [] pos) σ H d :=
  ⟨fun H1 e1 Q k => we_call C c hg (h.run H1 e1 _ fun H2 e2 => q H2 (e1.trans e2) Q fun v H3 e3 r => k v H3 (e2.trans e3) (r.mono (nw_back e2))) he hp⟩
/-- a new list of data (a fresh outer list; its items new, too) -/
theorem er_ec {α : Type} {f : α → List Int} {l : List α} (h : Ec X e σ H (l.map fun x => HO.lst ((f x).map V.int))) : Er X e σ H (.lst (l.map fun x => D.lst ((f x).map D.int))) := ⟨fun H1 e1 Q k => h.run H1 e1 Q fun p ps H2 hp e2 h2 hk => k _ H2 e2 (.lst (nw_new hp h2) (kids_lst hk.1))⟩
theorem er_ecT {α : Type} {f : α → List Int} {l : List α} (h : Ec X e σ H (l.map fun x => HO.tup ((f x).map V.int))) : Er X e σ H (.lst (l.map fun x => D.tup ((f x).map D.int))) := ⟨fun H1 e1 Q k => h.run H1 e1 Q fun p ps H2 hp e2 h2 hk => k _ H2 e2 (.lst (nw_new hp h2) (kids_tup hk.1))⟩
theorem er_et {α : Type} {f : α → List Int} {l : List α} (h : Et X e σ H (l.map fun x => HO.tup ((f x).map V.int))) : Er X e σ H (.tup (l.map fun x => D.tup ((f x).map D.int))) := ⟨fun H1 e1 Q k => h.run H1 e1 Q fun p ps H2 hp e2 h2 hk => k _ H2 e2 (.tup (nw_new hp h2) (kids_tup hk.1))⟩
/-! ### a list that grows -/
structure Gl (H : Hp) (p : Addr) (ds : List D) (H1 : Hp) : Prop where
  new : H p = none
  ext : Ex H (hid p H1)
  lst : ∃ xs, H1 p = some (.lst xs) ∧ RepL (nw H (hid p H1)) xs ds
theorem Gl.ex {p : Addr} (g : Gl H p ds H1) : Ex H H1 := g.ext.trans hid_ex
theorem gl_nil {p : Addr} (h : H p = none) (e : Ex H H1) (h1 : H1 p = some (.lst [])) : Gl H p [] H1 := ⟨h, hid_of e h, [], h1, .nil⟩
theorem Gl.mono {p : Addr} {H2 : Hp} (g : Gl H p ds H1) (e : Ex H1 H2) : Gl H p ds H2 := by
  obtain ⟨xs, h1, r⟩ := g.lst
  exact ⟨g.new, g.ext.trans (hid_mono e), xs, e _ _ h1, r.mono (nw_mono (hid_mono e))⟩
theorem Gl.push {p : Addr} {xs : List V} {H2 : Hp} (g : Gl H p ds H1) (e : Ex H2 H1) (hp : ∃ o, H2 p = some o) (e2 : Ex H H2) (r : Rep (nw H2 H1) v d) (hx : H1 p = some (.lst xs)) : Gl H p (ds ++ [d]) (upd H1 p (.lst (xs ++ [v]))) := by
  obtain ⟨ys, h1, ry⟩ := g.lst
  rw [hx] at h1
  obtain rfl : xs = ys := by cases h1; rfl
  refine ⟨g.new, by rw [hid_upd]; exact g.ext, _, upd_same, ?_⟩
  rw [hid_upd]
  refine ry.app (.cons (r.mono fun a o h => ?_) .nil)
  obtain ⟨u, hu⟩ := hp
  have n2 : H2 a = none := by
    cases q : H2 a with
    | none => rfl
    | some w => rw [nw_old q] at h; cases h
  rw [nw_at n2] at h
  have ne : a ≠ p := fun z => by rw [z, hu] at n2; cases n2
  rw [nw_at (e2.fresh n2), hid_ne ne]
  exact h
theorem Gl.rep {p : Addr} (g : Gl H p ds H1) : Rep (nw H H1) (.ref p) (.lst ds) := by
  obtain ⟨xs, h1, r⟩ := g.lst
  exact .lst (nw_new g.new h1) (r.mono fun a o h => by
    cases q : H a with
    | none => rw [nw_at q] at h ⊢; exact hid_ex a o h
    | some w => rw [nw_old q] at h; cases h)
theorem Gl.rep' {p : Addr} (g : Gl H p ds H1) : Rep H1 (.ref p) (.lst ds) := g.rep.mono nw_ex
theorem Gl.len {p : Addr} {xs : List V} (g : Gl H p ds H1) (h : H1 p = some (.lst xs)) : xs.length = ds.length := by
  obtain ⟨ys, h1, r⟩ := g.lst
  rw [h] at h1
  cases h1
  exact r.len
/-- l.append(e), l a list that grows -/
theorem b_appX {p : Addr} {H0 : Hp} {cpos apos epos : Pos} (g : Gl H0 p ds H) (ha : Ev X a σ H (.ref p)) (he : Er X e σ H d) (hl : ds.length < 100000) (q : ∀ H2, Gl H0 p (ds ++ [d]) H2 → Ex (hid p H) (hid p H2) → WB X rest En σ H2)
    (hbase : attributeBase a "append" X.env (eval a X.env) = eval a X.env := by rfl)
    (hfew : ((backTo cpos (starEach (e :: []) X.env)).all (fun x => !x.1) && (backToKw cpos (keywordEach [] X.env)).all (fun x => x.1.isSome)
      && decide ((e :: ([] : List Expr)).length + ([] : List Keyword).length + (if ([] : List Keyword).isEmpty then 0 else 1) < 30)) = true := by rfl)
    (hline : (apos.endLine == cpos.line) = true := by rfl) (hs : starEach (e :: []) X.env = (false, eval e X.env) :: starEach [] X.env := by rfl) (hsw : swapsWith (.Call (.Attribute a "append" apos) [e] [] cpos) none epos.line X.env = pure false := by rfl) :
    WB X (.Expr (.Call (.Attribute a "append" apos) [e] [] cpos) epos :: rest) En σ H := by
  refine b_drop (we_app ?_ hbase hfew hline hs) hsw
  refine ha.go fun H1 e1 => ?_
  have g1 := g.mono e1
  obtain ⟨xs, h1, _⟩ := g1.lst
  refine ⟨p, xs, rfl, h1, ?_⟩
  refine (he.mono e1).go fun v H2 e2 r => ?_
  have g2 := g1.mono e2
  refine ⟨xs, e2 _ _ h1, szLt (by rw [g1.len h1]; exact hl), q _ (g2.push e2 ⟨_, h1⟩ g1.ex r (e2 _ _ h1)) (by rw [hid_upd]; exact hid_mono (e1.trans e2))⟩
/-- l.append(e), l a list that grows -/
theorem b_app {p : Addr} {H0 : Hp} {cpos apos epos : Pos} (g : Gl H0 p ds H) (ha : Ev X a σ H (.ref p)) (he : Er X e σ H d) (hl : ds.length < 100000) (q : ∀ H2, Gl H0 p (ds ++ [d]) H2 → WB X rest En σ H2)
    (hbase : attributeBase a "append" X.env (eval a X.env) = eval a X.env := by rfl)
    (hfew : ((backTo cpos (starEach (e :: []) X.env)).all (fun x => !x.1) && (backToKw cpos (keywordEach [] X.env)).all (fun x => x.1.isSome)
      && decide ((e :: ([] : List Expr)).length + ([] : List Keyword).length + (if ([] : List Keyword).isEmpty then 0 else 1) < 30)) = true := by rfl)
    (hline : (apos.endLine == cpos.line) = true := by rfl) (hs : starEach (e :: []) X.env = (false, eval e X.env) :: starEach [] X.env := by rfl) (hsw : swapsWith (.Call (.Attribute a "append" apos) [e] [] cpos) none epos.line X.env = pure false := by rfl) :
    WB X (.Expr (.Call (.Attribute a "append" apos) [e] [] cpos) epos :: rest) En σ H := b_appX g ha he hl (fun H2 g2 _ => q H2 g2) hbase hfew hline hs hsw
/-- x = [] : a list begins to grow -/
theorem b_new {f : V → St} (C : Ctx X S N M L G) (hl : nm ∈ L) (hs : ∀ v, SetAt N σ nm v (f v)) (q : ∀ p H1, Ex H H1 → Gl H p [] H1 → WB X rest En (f (.ref p)) H1) (hw : swapsWith (.List [] pos) (some (.Name nm pos2)) pos3.line X.env = pure false := by rfl) :
    WB X (.Assign [.Name nm pos2] (.List [] pos) pos3 :: rest) En σ H :=
  b_set C hl hs ((eo_lst av_nil).go fun p H1 hp e1 h1 => q p H1 e1 (gl_nil hp e1 h1)) hw
/-- x = e, e a call or a value of new data -/
theorem b_setR {f : V → St} (C : Ctx X S N M L G) (hl : nm ∈ L) (hs : ∀ v, SetAt N σ nm v (f v)) (h : Er X e σ H d) (q : ∀ v H1, Ex H H1 → Rep (nw H H1) v d → WB X rest En (f v) H1) (hw : swapsWith e (some (.Name nm pos2)) pos.line X.env = pure false := by rfl) :
    WB X (.Assign [.Name nm pos2] e pos :: rest) En σ H := b_set C hl hs (h.go q) hw
theorem b_setV {f : V → St} (C : Ctx X S N M L G) (hl : nm ∈ L) (hs : ∀ v, SetAt N σ nm v (f v)) (h : Ev X e σ H v) (q : ∀ H1, Ex H H1 → WB X rest En (f v) H1) (hw : swapsWith e (some (.Name nm pos2)) pos.line X.env = pure false := by rfl) :
    WB X (.Assign [.Name nm pos2] e pos :: rest) En σ H := b_set C hl hs (h.go q) hw
/-- tuple(l) of data -/
theorem er_tupleOf {H0 : Hp} {l : List D} (C : Ctx X S N M L G) (B : Bi X.mg) (hg : ("tuple" : Str) ∈ G) {p : Addr} (g : Gl H0 p l H) (ha : Ev X a σ H (.ref p)) (q : ∀ v H2, Ex H H2 → Rep (nw H0 H2) v (.tup l) → Q v H2) (he : starEach (a :: []) X.env = (false, eval a X.env) :: starEach [] X.env := by rfl) :
    WE X (.Call (.Name "tuple" pos2) [a] [] pos) σ H Q := by
  obtain ⟨xs, h1, r⟩ := g.lst
  refine (eo_tupleOf C B hg ha (sqL h1) he).go fun c H2 hc e2 h2 => ?_
  refine q _ H2 e2 (.tup (nw_new (g.ex.fresh hc) h2) (r.mono ?_))
  exact fun a o h => by
    cases z : H0 a with
    | none => rw [nw_at z] at h ⊢; exact e2 a o (hid_ex a o h)
    | some w => rw [nw_old z] at h; cases h
/-- the index of range(n) -/
theorem rng_ix {n k : Nat} {i : Nat} (h : (List.range n)[k]? = some i) : k = i := by
  rw [List.getElem?_eq_some_iff] at h
  obtain ⟨_, h⟩ := h
  rw [List.getElem_range] at h
  exact h
end
end RC
/-! Loops of the standard contexts; tables. -/
namespace RC
open PySem PySem.Spec PyProof.Rows L2
section
variable {X : Cx} {S : Scope} {N M L G : List Str} {n : Nat} {σ σ2 : St} {H H' H1 : Hp} {a b c e iter : Expr} {es : List Expr} {rest body els : List Stmt} {pos pos2 pos3 pos4 pos5 : Pos} {v x y z : V} {i j k : Int} {t u : Bool} {En : Ends} {nm : Str} {Q : VK} {d : D} {ds : List D}
theorem b_rng1 {m : Nat} (Z : Sd X S N M L G n) (hg : ("range" : Str) ∈ G) (hx : nm ∈ L) (h : Ev X a σ H (.int (m : Int))) (hm : m < 100000) (Pv : Nat → St → Hp → Prop) (h0 : ∀ H1, Ex H H1 → Pv 0 σ H1)
    (hs : ∀ i σ' H', i < m → Pv i σ' H' → gN N nm (.int (i : Int)) σ' H' fun σ2 H2 => WB X body { En with nx := Pv (i + 1), ct := Pv (i + 1), bk := fun σ' H' => WB X rest En σ' H' } σ2 H2) (hd : ∀ σ' H', Pv m σ' H' → WB X rest En σ' H')
    (he : starEach [a] X.env = [(false, eval a X.env)] := by rfl) (hf : ∀ x, foldedSetIterable (.Call (.Name "range" pos2) [a] [] pos3) X.env x = pure x := by intro _; rfl) :
    WB X (.For (.Name nm pos) (.Call (.Name "range" pos2) [a] [] pos3) body [] pos4 :: rest) En σ H := by
  refine b_for Z.calm Z.pas (sr_rng1 Z.C hg Z.B.range h hm he) (pgN Z.C hx) (fun B i σ' H' => B = noHp ∧ Pv i σ' H') (fun H1 B e _ hB => ⟨hB, h0 H1 e⟩) (fun B i σ' H' p => p.1 ▸ noHp_ex) (fun B i x σ' H' h1 p => ?_) (fun B σ' H' p => hd σ' H' (by rw [rgI_len] at p; exact p.2)) hf
  obtain ⟨hi, rfl⟩ := rgI_get.mp h1
  obtain ⟨rfl, p⟩ := p
  obtain ⟨σ2, s, w⟩ := hs i σ' H' hi p
  refine ⟨σ2, by simpa using s, ?_⟩
  simpa using w
theorem b_rng2 {lo hi : Nat} (Z : Sd X S N M L G n) (hg : ("range" : Str) ∈ G) (hx : nm ∈ L) (h : Ev X a σ H (.int (lo : Int))) (h' : Ev X b σ H (.int (hi : Int))) (hm : lo < 100000 ∧ hi < 100000) (Pv : Nat → St → Hp → Prop) (h0 : ∀ H1, Ex H H1 → Pv 0 σ H1)
    (hs : ∀ i σ' H', i < hi - lo → Pv i σ' H' → gN N nm (.int ((lo + i : Nat) : Int)) σ' H' fun σ2 H2 => WB X body { En with nx := Pv (i + 1), ct := Pv (i + 1), bk := fun σ' H' => WB X rest En σ' H' } σ2 H2) (hd : ∀ σ' H', Pv (hi - lo) σ' H' → WB X rest En σ' H')
    (he : starEach [a, b] X.env = [(false, eval a X.env), (false, eval b X.env)] := by rfl) (he2 : starEach [b] X.env = [(false, eval b X.env)] := by rfl) (hf : ∀ x, foldedSetIterable (.Call (.Name "range" pos2) [a, b] [] pos3) X.env x = pure x := by intro _; rfl) :
    WB X (.For (.Name nm pos) (.Call (.Name "range" pos2) [a, b] [] pos3) body [] pos4 :: rest) En σ H := by
  refine b_for Z.calm Z.pas (sr_rng2 Z.C hg Z.B.range h h' hm he he2) (pgN Z.C hx) (fun B i σ' H' => B = noHp ∧ Pv i σ' H') (fun H1 B e _ hB => ⟨hB, h0 H1 e⟩) (fun B i σ' H' p => p.1 ▸ noHp_ex) (fun B i x σ' H' h1 p => ?_) (fun B σ' H' p => hd σ' H' (by rw [rgI_len] at p; exact p.2)) hf
  obtain ⟨hi, rfl⟩ := rgI_get.mp h1
  obtain ⟨rfl, p⟩ := p
  obtain ⟨σ2, s, w⟩ := hs i σ' H' hi p
  have e : ((lo + i : Nat) : Int) = (lo : Int) + (i : Int) := by omega
  rw [e] at s
  refine ⟨σ2, s, ?_⟩
  simpa using w
/-- for target in iter, of items that are told at the loop's start -/
theorem b_forX {tg : Expr} {g : TG} {Bx : List V → Hp → Prop} (Z : Sd X S N M L G n) (hZ : SrX X tg iter σ H Bx) (hg : PG X tg g) (Pv : List V → Hp → Nat → St → Hp → Prop) (h0 : ∀ H1 B xs, Ex H H1 → Ex B H1 → Bx xs B → Pv xs B 0 σ H1)
    (hb : ∀ xs B i σ' H', Pv xs B i σ' H' → Ex B H') (hs : ∀ xs B i x σ' H', xs[i]? = some x → Bx xs B → Pv xs B i σ' H' → g x σ' H' fun σ2 H2 => WB X body { En with nx := Pv xs B (i + 1), ct := Pv xs B (i + 1), bk := fun σ' H' => WB X rest En σ' H' } σ2 H2) (hd : ∀ xs B σ' H', Bx xs B → Pv xs B xs.length σ' H' → WB X rest En σ' H')
    (hf : ∀ x, foldedSetIterable iter X.env x = pure x := by intro _; rfl) : WB X (.For tg iter body [] pos :: rest) En σ H := by
  obtain ⟨wi, hi, k⟩ := hZ.ex
  refine b_cons (ws_of (ps_for Z.pas Z.calm hi hg pb_wb hf) ?_)
  refine k H Ex.rfl' _ fun J H2 B xs e2 eB hB W => ?_
  refine ⟨fun i m σ' H' => m = xs.length - i ∧ i ≤ xs.length ∧ Pv xs B i σ' H', ⟨xs.length, by simp, Nat.zero_le _, h0 H2 B xs e2 eB hB⟩, ?_⟩
  rintro i m σ' H' ⟨rfl, hi, p⟩
  have eb := hb xs B i σ' H' p
  by_cases hlt : i < xs.length
  · refine .inr ⟨W.go i H' eb hlt, Pv xs B (i + 1), fun σ2 H2 p2 => ⟨xs.length - (i + 1), by omega, rfl, hlt, p2⟩, fun x H2 y => ?_⟩
    obtain ⟨rfl, hx⟩ := W.yl i H' x H2 eb y hlt
    exact hs xs B i x σ' _ hx hB p
  · have e : i = xs.length := by omega
    subst e
    exact .inl ⟨W.st H' eb, hd xs B σ' H' hB p⟩
/-- a standing list or tuple, walked: Hb is what is known to stand -/
theorem srx_eh {tg : Expr} {Hb : Hp} (h : Ev X a σ H v) (r : Rep Hb v d) (hb : Ex Hb H) (hq : d.seq = some ds) : SrX X tg a σ H (fun xs B => B = Hb ∧ RepL Hb xs ds) := by
  obtain ⟨p, xs, rfl, hp, rx⟩ := r.seq_inv hq
  rcases hp with hp | hp
  · obtain ⟨wi, h1, k⟩ := (sr_list (tg := tg) h (sqL hp) hb).ex
    exact ⟨wi, h1, fun H1 e1 R q => k H1 e1 R fun J H2 B e2 eB hB W => q J H2 B xs e2 eB ⟨hB, rx⟩ W⟩
  · obtain ⟨wi, h1, k⟩ := (sr_tup (tg := tg) h (sqT hp) hb).ex
    exact ⟨wi, h1, fun H1 e1 R q => k H1 e1 R fun J H2 B e2 eB hB W => q J H2 B xs e2 eB ⟨hB, rx⟩ W⟩
/-- what is made on the way, a list or a tuple -/
theorem srx_tup {tg : Expr} (h : Er X a σ H (.tup ds)) : SrX X tg a σ H (fun xs B => RepL B xs ds ∧ ∀ q o, B q = some o → H q = none) :=
  ⟨_, pi_tup pe_we, fun H1 e1 R k => h.run H1 e1 _ fun v H2 e2 r => by
    obtain ⟨p, xs, rfl, hp, rx⟩ := r.tup_inv
    refine ⟨p, rfl, ⟨xs, sqT (nw_ex _ _ hp)⟩, k _ H2 (nw H1 H2) xs e2 nw_ex ⟨rx, fun q o h => ?_⟩ (wk_tup (K := X.K) (sqT hp))⟩
    cases z : H1 q with
    | none => exact e1.fresh z
    | some w => rw [nw_old z] at h; cases h⟩
theorem srx_lst {tg : Expr} (h : Er X a σ H (.lst ds)) : SrX X tg a σ H (fun xs B => RepL B xs ds ∧ ∀ q o, B q = some o → H q = none) :=
  ⟨_, pi_list pe_we, fun H1 e1 R k => h.run H1 e1 _ fun v H2 e2 r => by
    obtain ⟨p, xs, rfl, hp, rx⟩ := r.lst_inv
    refine ⟨p, rfl, ⟨xs, sqL (nw_ex _ _ hp)⟩, k _ H2 (nw H1 H2) xs e2 nw_ex ⟨rx, fun q o h => ?_⟩ (wk_list (K := X.K) (sqL hp))⟩
    cases z : H1 q with
    | none => exact e1.fresh z
    | some w => rw [nw_old z] at h; cases h⟩
/-- over the items of a standing list or tuple -/
theorem b_eachD (Z : Sd X S N M L G n) {tg : Expr} {g : TG} {Hb : Hp} (hg : PG X tg g) (h : Ev X a σ H v) (r : Rep Hb v d) (hb : Ex Hb H) (hq : d.seq = some ds) (Pv : Nat → St → Hp → Prop) (h0 : ∀ H1, Ex H H1 → Pv 0 σ H1)
    (hk : ∀ i σ' H', Pv i σ' H' → Ex Hb H')
    (hs : ∀ i x dx σ' H', ds[i]? = some dx → Rep Hb x dx → Pv i σ' H' → g x σ' H' fun σ2 H2 => WB X body { En with nx := Pv (i + 1), ct := Pv (i + 1), bk := fun σ' H' => WB X rest En σ' H' } σ2 H2) (hd : ∀ σ' H', Pv ds.length σ' H' → WB X rest En σ' H')
    (hf : ∀ x, foldedSetIterable a X.env x = pure x := by intro _; rfl) :
    WB X (.For tg a body [] pos4 :: rest) En σ H := by
  refine b_forX Z (srx_eh h r hb hq) hg (fun xs B i σ' H' => B = Hb ∧ RepL Hb xs ds ∧ Pv i σ' H') (fun H1 B xs e _ q => ⟨q.1, q.2, h0 H1 e⟩) (fun xs B i σ' H' p => p.1 ▸ hk i σ' H' p.2.2) (fun xs B i x σ' H' h1 q p => ?_) (fun xs B σ' H' q p => hd σ' H' (by rw [← q.2.len]; exact p.2.2)) hf
  obtain ⟨dx, h2, q3⟩ := q.2.get h1
  have e : ∀ j : Nat, (fun σ' H' => B = Hb ∧ RepL Hb xs ds ∧ Pv j σ' H') = fun σ' H' => Pv j σ' H' := fun j => by funext σ' H'; simp [q.1, q.2]
  have := hs i x dx σ' H' h2 q3 p.2.2
  rw [e]
  exact this
/-! ### tables -/
def RowsD (ds : List D) (T : List (List Int)) : Prop := ds.length = T.length ∧ ∀ (i : Nat) (dr : D) (row : List Int), ds[i]? = some dr → T[i]? = some row → dr.seq = some (row.map D.int)
def TabD (d : D) (T : List (List Int)) : Prop := ∃ ds, d.seq = some ds ∧ RowsD ds T
theorem Sqr.row {m i : Nat} {T : List (List Int)} (h : Sqr m T) (hi : i < m) : ∃ row, T[i]? = some row ∧ row.length = m ∧ T.getD i [] = row := by
  have hl : i < T.length := by rw [h.1]; exact hi
  refine ⟨T[i], List.getElem?_eq_getElem hl, h.2 _ (List.getElem_mem hl), ?_⟩
  rw [List.getD_eq_getElem?_getD, List.getElem?_eq_getElem hl]; rfl
theorem Sqr.get {m i j : Nat} {T : List (List Int)} (h : Sqr m T) (hi : i < m) (hj : j < m) : ∃ row, T[i]? = some row ∧ row[j]? = some (tget T i j) := by
  obtain ⟨row, h1, h2, h3⟩ := h.row hi
  refine ⟨row, h1, ?_⟩
  have hl : j < row.length := by omega
  unfold tget
  rw [h3, List.getD_eq_getElem?_getD, List.getElem?_eq_getElem hl]; rfl
theorem eh_tab {T : List (List Int)} {m p q : Nat} (ha : Eh X a σ H d) (ht : TabD d T) (hq : Sqr m T) (hb : Ev X b σ H (.int (p : Int))) (hc : Ev X c σ H (.int (q : Int))) (hp : p < m) (hq' : q < m) (hi : PlainIx b := by exact fun _ _ => rfl) (hi' : PlainIx c := by exact fun _ _ => rfl) :
    Ev X (.Subscript (.Subscript a b pos) c pos2) σ H (.int (tget T p q)) := by
  obtain ⟨ds, h1, h2, h3⟩ := ht
  obtain ⟨row, r1, r2⟩ := hq.get hp hq'
  have hl : p < ds.length := by rw [h2, hq.1]; exact hp
  have e := List.getElem?_eq_getElem hl
  exact (eh_ix (eh_ix ha h1 hb e hi) (h3 p _ row e r1) hc (by rw [List.getElem?_map, r2]; rfl) hi').int
theorem bef_eq {r p : Nat} (h : p < r) : ((p : Int) - 1) % (r : Int) = ((bef r p : Nat) : Int) := by
  unfold bef
  split
  · subst p
    rw [show ((0 : Nat) : Int) - 1 = -1 from rfl, Int.emod_eq_add_self_emod, show (-1 : Int) + r = ((r - 1 : Nat) : Int) by omega, Int.emod_eq_of_lt (by omega) (by omega)]
  · rw [Int.emod_eq_of_lt (by omega) (by omega)]; omega
theorem bef_lt {r p : Nat} (h : p < r) : bef r p < r := by unfold bef; split <;> omega
end
end RC
/-! sorted(d), d a dict whose keys are pairs of ints. -/
namespace RC
open PySem PySem.Spec PyProof.Rows L2 PySem.W
def pk (p : Int × Int) : List Key := [Sum.inl p.1, Sum.inl p.2]
/-- the pair that stands at a value -/
def prAt (H : Hp) : V → Int × Int
  | .ref b => match H b with
    | some (.tup [.int i, .int j]) => (i, j)
    | _ => (0, 0)
  | _ => (0, 0)
def rSortedDT : List V → Hp → VK → Prop := fun vs H Q => ∃ (d : Addr) (kvs : List (List Key × V)) (prs : List (Int × Int)), vs = [V.ref d] ∧ Rd H d (.dT kvs) ∧ kvs.map (·.1) = prs.map pk ∧
  ∀ (p : Addr) (ys : List V) (qs : List (Int × Int)), H p = none → qs.Perm prs → qs.Pairwise (fun a b => SrtO.lexB b a = false) → Paired (fun y (q : Int × Int) => ∃ b, y = V.ref b ∧ H b = some (.tup [.int q.1, .int q.2])) ys qs → Q (.ref p) (upd H p (.lst ys))
theorem vals_refs' : ∀ bs : List Addr, Vals (bs.map V.ref) (bs.map Value.ref)
  | [] => .nil
  | _ :: r => .cons rfl (vals_refs' r)
theorem pkOf {H : Hp} : ∀ {kvs : List (List Key × V)} {ks : List (List Key × Addr × Value)} {prs : List (Int × Int)}, KT H kvs ks → kvs.map (·.1) = prs.map pk → Paired (fun (x : List Key × Addr × Value) (q : Int × Int) => H x.2.1 = some (.tup [.int q.1, .int q.2])) ks prs
  | [], _, [], h, _ => by cases h; exact .nil
  | [], _, _ :: _, _, e => by simp at e
  | _ :: _, _, [], _, e => by simp at e
  | a :: kvs, _, q :: prs, h, e => by
    cases h with
    | cons h t =>
      rw [List.map_cons, List.map_cons] at e
      obtain ⟨e1, e2⟩ := List.cons.inj e
      refine .cons ?_ (pkOf t e2)
      have := h.2.1
      rw [e1] at this
      exact this
theorem prAt_of {H : Hp} {b : Addr} {q : Int × Int} (h : H b = some (.tup [.int q.1, .int q.2])) : prAt H (.ref b) = q := by
  simp only [prAt]
  rw [h]
theorem prs_of {H : Hp} {ks : List (List Key × Addr × Value)} {prs : List (Int × Int)} (h : Paired (fun (x : List Key × Addr × Value) (q : Int × Int) => H x.2.1 = some (.tup [.int q.1, .int q.2])) ks prs) : ks.map ((fun b => prAt H (.ref b)) ∘ fun x => x.2.1) = prs := by
  induction h with
  | nil => rfl
  | cons h _ ih =>
    rw [List.map_cons, ih]
    exact congrArg (· :: _) (prAt_of h)
section
variable {X : Cx}
theorem cr_sortedDT (hc : X.calm = true) : CallR X (.builtin "sorted") rSortedDT := by
  intro pins s σ H xs us Q I r h
  obtain ⟨d, kvs, prs, rfl, hd, hk, q⟩ := h
  obtain ⟨u, rfl, rx⟩ := r.one
  cases rx
  obtain ⟨z, hs, ks, pr, o, es, ep, ho, hx, hdt, he, hn⟩ := (show ObjOk X.prog X.w H s.heap d (.dT kvs) from hd.ok I.hok)
  have l1 : es.size = ks.length := size_of_entries he
  have l2 : kvs.length = ks.length := Paired.length pr
  refine Calls.call_function_entry PyProof.Rows.kind_sorted PyProof.Rows.plain_sorted PyProof.Rows.entry_sorted (PyProof.Rows.args_sorted1 _) ?_
  unfold Builtin.«sorted»
  refine wpAny_bind (m := checkCount "sorted" 1 1 _) (wpAny_pure ?_)
  refine wpAny_bind (PySem.W.kdu_collect (A := X.A.in1) (kdl_raw hs hx hdt) (I.ok.hd hc) ho (by omega) fun h' tk acc' kp it => ?_)
  have ea : acc'.toList = ks.map fun x => Value.ref x.2.1 := by
    have hl : acc'.toList.length = ks.length := by rw [Array.length_toList, it.1]; exact l1
    apply List.ext_getElem?
    intro j
    rw [List.getElem?_map]
    cases hj : acc'.toList[j]? with
    | none =>
      have h1 := List.getElem?_eq_none_iff.mp hj
      rw [List.getElem?_eq_none (by omega)]
      all_goals rfl
    | some v =>
      obtain ⟨en, hen, hv⟩ := it.2 j v (by rw [← Array.getElem?_toList]; exact hj)
      have qe := entry_at he j
      rw [hen] at qe
      cases hb : ks[j]? with
      | none =>
        rw [hb] at qe
        exact nomatch (show some en = none from qe)
      | some b =>
        rw [hb] at qe
        have e2 : en = entryOfKey (tupleKind (mixKind X.prog X.w)) b := Option.some.inj qe
        rw [hv, e2]
        all_goals rfl
  have hlen : acc'.toList.length = kvs.length := by rw [ea, List.length_map, l2]
  have hz : acc'.toList.length ≤ sizeLine := by rw [hlen]; exact z
  have I1 : Inv X pins σ H { s with heap := h', toks := tk } := I.kept kp
  refine wpAny_bind (wpAny_newList ?_ hz)
  have hoL : (h'.push (seqObj "list" acc'.toList.toArray 0)).get? h'.objs.size = some (seqObj "list" acc'.toList.toArray 0) := Heap.get?_push_size _ rfl
  show wpAny _ _ _ _ _ { s with heap := h'.push (seqObj "list" acc'.toList.toArray 0), toks := tk }
  have pq := pkOf pr hk
  have pairAt : ∀ v ∈ acc'.toList, ∃ b q, v = Value.ref b ∧ H b = some (.tup [.int (q : Int × Int).1, .int q.2]) := fun v hv => by
    rw [ea] at hv
    obtain ⟨x, hx, rfl⟩ := List.mem_map.mp hv
    obtain ⟨q, hq⟩ := paired_mem pq hx
    exact ⟨x.2.1, q, rfl, hq⟩
  have isP : ∀ v ∈ acc'.toList, Srt.IsPair (h'.push (seqObj "list" acc'.toList.toArray 0)) v (prAt H (backV v)).1 (prAt H (backV v)).2 := fun v hv => by
    obtain ⟨b, q, rfl, hb⟩ := pairAt v hv
    have e : prAt H (backV (Value.ref b)) = q := prAt_of hb
    rw [e]
    obtain ⟨_, its2, r2, o, ho, hc, n, hd⟩ := I1.hok _ _ hb
    obtain ⟨u1, u2, rfl, ri, rj⟩ := vals2 r2
    obtain ⟨t1, rfl⟩ := ri
    obtain ⟨t2, rfl⟩ := rj
    exact ⟨b, o, t1, t2, n, rfl, Heap.get?_push_of_some _ ho, hc, hd⟩
  refine wpAny_bind (wpAny_holding (wpAny_call_entry PyProof.Rows.slot_list_sort ⟨_, hoL, rfl⟩ PyProof.Rows.entry_list_sort
    (SrtO.list_sort_ord (s := { s with heap := h'.push (seqObj "list" acc'.toList.toArray 0), toks := tk }) (SrtO.swo_lex fun v => prAt H (backV v)) hoL hz (fun h2 => SrtO.pairs_sortableO (by omega) isP fun o e => ?_) fun out hs hb => ⟨_, rfl, ?_⟩) (PyProof.Rows.args_list_sort _)))
  · rw [hoL] at e
    cases e
    intro c
    exact absurd (Value.type.inj c) (by decide)
  obtain ⟨e', he'⟩ := PyProof.Rows.sortedHeap_at (vs := acc'.toList) (out := out.toArray) hoL
  have perm : out.Perm acc'.toList := hb.perm
  have back : ∃ bs : List Addr, out = bs.map Value.ref ∧ bs.Perm (ks.map fun x => x.2.1) := by
    have hm : ∀ v ∈ out, ∃ b, v = Value.ref b := fun v hv => by
      obtain ⟨b, _, e, _⟩ := pairAt v (perm.mem_iff.mp hv)
      exact ⟨b, e⟩
    have : ∃ bs : List Addr, out = bs.map Value.ref := by
      clear hb he' hs perm
      induction out with
      | nil => exact ⟨[], rfl⟩
      | cons v out ih =>
        obtain ⟨b, rfl⟩ := hm v List.mem_cons_self
        obtain ⟨bs, rfl⟩ := ih fun v hv => hm v (List.mem_cons_of_mem _ hv)
        exact ⟨b :: bs, rfl⟩
    obtain ⟨bs, rfl⟩ := this
    refine ⟨bs, rfl, ?_⟩
    rw [ea] at perm
    have pm := perm.map fun v : Value => match v with | .ref b => b | _ => 0
    rw [List.map_map, List.map_map] at pm
    have e1 : (bs.map ((fun v : Value => match v with | .ref b => b | _ => 0) ∘ Value.ref)) = bs := by
      conv => rhs; rw [← List.map_id bs]
      rfl
    rw [e1] at pm
    exact pm
  obtain ⟨bs, rfl, pbs⟩ := back
  have hqs : Paired (fun y (q : Int × Int) => ∃ b, y = V.ref b ∧ H b = some (.tup [.int q.1, .int q.2])) (bs.map V.ref) (bs.map fun b => prAt H (.ref b)) := by
    have hm : ∀ b ∈ bs, ∃ q : Int × Int, H b = some (.tup [.int q.1, .int q.2]) := fun b hb => by
      obtain ⟨x, hx, rfl⟩ := List.mem_map.mp (pbs.mem_iff.mp hb)
      exact paired_mem pq hx
    clear pbs hb he' hs perm
    induction bs with
    | nil => exact .nil
    | cons b bs ih =>
      obtain ⟨q, hq⟩ := hm b List.mem_cons_self
      refine .cons ⟨b, rfl, ?_⟩ (ih fun b hb => hm b (List.mem_cons_of_mem _ hb))
      show H b = some (.tup [.int (prAt H (.ref b)).1, .int (prAt H (.ref b)).2])
      rw [prAt_of hq]; exact hq
  have hpm : (bs.map fun b => prAt H (.ref b)).Perm prs := by
    have h1 := pbs.map fun b => prAt H (.ref b)
    rw [List.map_map] at h1
    have e : ks.map ((fun b => prAt H (.ref b)) ∘ fun x => x.2.1) = prs := prs_of pq
    rw [e] at h1
    exact h1
  have hsrt : (bs.map fun b => prAt H (.ref b)).Pairwise (fun a b => SrtO.lexB b a = false) := by
    rw [List.pairwise_map]
    have h1 := List.pairwise_map.mp hs
    exact h1
  refine wpAny_pure ⟨_, rfl, .ref h'.objs.size, upd H h'.objs.size (.lst (bs.map V.ref)), I1.laid (t' := tk) (fun b u e => ?_) (Nat.le_refl _)
    (show ObjOk X.prog X.w _ _ _ (.lst (bs.map V.ref)) from ⟨?_, bs.map Value.ref, e', vals_refs' bs, ?_⟩), rfl, q _ _ _ (I1.hok.fresh (Nat.le_refl _)) hpm hsrt hqs⟩
  · have hb : b < h'.objs.size := Heap.lt_size e
    rw [PyProof.Rows.sortedHeap_old (Nat.ne_of_lt hb) (by rw [size_push']; exact Nat.lt_succ_of_lt hb)]
    exact Heap.get?_push_of_some _ e
  · rw [List.length_map, pbs.length_eq, List.length_map, ← l2]; exact z
  · exact he'
end
end RC
/-! Exceptions of the text's own classes: made, raised. -/
namespace RC
open PySem PySem.Spec PyProof.Rows L2
section
variable {X : Cx} {S : Scope} {N M L G : List Str} {n k : Nat} {σ : St} {H H' : Hp} {a b c e : Expr} {es : List Expr} {rest : List Stmt} {p p' pos pos2 pos3 : Pos} {v x y z : V} {En : Ends} {nm f : Str} {fs : List (Str × V)} {ad d C fI : Addr} {W : WX} {fd : FuncData} {ps : List Str} {sp : Sp} {ta : TA}
/-- C(e, ..), C an own class over ValueError with its own __init__; its context is None -/
theorem pmkN (T : OexC X.K C) (iC : PySem.W.findIn X.K (.ref C) "__init__" = some (some (.ref fI))) (tI : PySem.W.typeIn X.K (.ref fI) = some (.type "function")) (F1 : FnOk X.prog X.w X.K X.mg X.base CX0 k fI fd ps sp)
    (hr : Room (k + 1) X.A) (hb : Binds X.K fd ps []) (hg : L2.Gl X nm) (hm : X.mg nm = some (.ref C)) (ha : PA X (e :: es) ta) (hdb : (nm == ("__debug__" : Str)) = false) (he : starEach (e :: es) X.env = (false, eval e X.env) :: starEach es X.env)
    (hpl : (backTo pos (starEach es X.env)).any (·.1) = false) : L2N.PMk X (.Call (.Name nm p) (e :: es) [] pos) (tMkO C sp [] ta) := fun pn s σ H Q I h => by
  have ⟨_, _, _, _, bm, _, _, _, _, _, _, _, _, _, _, lkC, ve⟩ := T.cls
  apply wpAny_Call_Name_kw
  apply ld_glob I hg hm _ hdb
  apply PySem.W.callWith_K (h₀ := X.base) I.ok.mod.kin T.kC _ he hpl
  refine wpAny_mono (ha.run pos pn s σ H _ I h) (fun us s1 z => ?_) fun _ _ x => x
  obtain ⟨vs, H1, I1, rv, vsz, q1⟩ := z
  refine ⟨I1.kIn, ?_⟩
  show wpAny _ _ (call (.ref C) us) _ _ _
  obtain ⟨h1, g1, d1, t1, o1⟩ := s1
  have fresh : H1 (h1.objs.size + 1) = none := I1.hok.fresh (Nat.le_succ _)
  have init := q1 _ fresh
  have old : ∀ b o, h1.get? b = some o → ((h1.push (PySem.W.kdv_tup us)).push (PySem.HandSPX.excO C h1.objs.size)).get? b = some o := fun b o z => Heap.get?_push_of_some _ (Heap.get?_push_of_some _ z)
  have there : ((h1.push (PySem.W.kdv_tup us)).push (PySem.HandSPX.excO C h1.objs.size)).get? (h1.objs.size + 1) = some (PySem.HandSPX.excO C h1.objs.size) := by heap_get
  have J : Inv X pn σ (upd H1 (h1.objs.size + 1) (exo (h1.objs.size + 1) C none)) ⟨(h1.push (PySem.W.kdv_tup us)).push (PySem.HandSPX.excO C h1.objs.size), g1, d1, t1, o1⟩ := I1.laid old (Nat.le_succ _) (exo_ok there)
  have rv2 : Vals (V.ref (h1.objs.size + 1) :: (vs ++ [])) (Value.ref (h1.objs.size + 1) :: (us ++ [])) := .cons rfl (rv.append .nil)
  have len : (Value.ref (h1.objs.size + 1) :: us ++ []).length = ps.length := by
    have z := F1.len _ _ _ _ init
    rw [← z, rv2.length, List.cons_append]
  have small : us.length ≤ sizeLine := by
    rw [sizeLine_eq, ← Paired.length rv]
    omega
  have body := F1.run (A := X.A.under (.builtin "type.__call__" ⟨.ref C :: us, []⟩)) X.stack _ _ ⟨Value.ref (h1.objs.size + 1) :: us, []⟩ _ _ _ (fun _ _ _ => False) (hr.make C us []) (J.env0.make C us []) (hb _ (Value.ref (h1.objs.size + 1) :: us) J.kIn len) rv2 init
  apply wpAny_call
  refine PySem.HandSPX.call_own F.excBase_ValueError (fun T' => PySem.HandSPX.refsVE_contains T' bm ve) (I1.kIn _ _ lkC) (PySem.W.looks_findIn I1.kIn iC) (fun self => PySem.W.bind_fn I1.kIn self tI) small (codeAny_mono body fun r s2 z => ?_)
  match r, z with
  | .error _, z => exact False.elim z
  | .ok .next, z => exact False.elim z
  | .ok .brk, z => exact False.elim z
  | .ok .cont, z => exact False.elim z
  | .ok (.ret u), z =>
    obtain ⟨v, H2, os2, bare, un, hok, ru, ev, dd, fs, ea, ed, hd1, q2⟩ := z
    subst ev
    refine ⟨ru, ?_⟩
    obtain ⟨h2, g2, d2, t2, o2⟩ := s2
    obtain ⟨t0, Gh, JG, kG, gone, oe, na⟩ := mk_end0 (d2 := d2) (t2 := t2) I1 (Nat.le_succ _) old un hok os2 bare ea ed hd1
    refine ⟨_, _, _, ⟨Gh, g2, d2, t2, o2⟩, _, _, _, rfl, JG, kG, gone, oe, ⟨rfl, rfl, ?_⟩, rfl, rfl, na, rfl, bare, raises_own T.exC T.tyC, q2⟩
    intro vs' e'
    cases e'
    rfl
/-- self.f = e: the first one -/
theorem b_ost1 (T : OexC X.K C) (hno : PySem.W.findIn X.K (.ref C) f = some none) (he : Ev X e σ H v) (ho : Ev X a σ H (.ref ad)) (h1 : H ad = some (exo ad C none))
    (q : ∀ d H2, H d = none → Ex (hid ad H) H2 → H2 ad = some (exo ad C (some d)) → H2 d = some (exd d [(f, v)]) → WB X rest En σ H2) (hs : swapsWith e (some (.Attribute a f p')) pos.line X.env = pure false := by rfl) :
    WB X (.Assign [.Attribute a f p'] e pos :: rest) En σ H := by
  refine b_cons (ws_of (ps_ost pe_we pe_we hs) ?_)
  refine he.go fun H1 e1 => (ho.mono e1).go fun H2 e2 => ⟨ad, C, rfl, T, hno, .inl ⟨e2 _ _ (e1 _ _ h1), fun d hd dn => ?_⟩⟩
  refine q d _ ((e1.trans e2).fresh hd) (fun x o h => ?_) upd_same (by rw [upd_ne dn, upd_same])
  have xa : x ≠ ad := fun z => by rw [z, hid_same] at h; cases h
  rw [hid_ne xa] at h
  have h2 := e2 _ _ (e1 _ _ h)
  rw [upd_ne xa, upd_ne (ne_of_none h2 hd)]
  exact h2
/-- a further one -/
theorem b_ost2 {H0 : Hp} (T : OexC X.K C) (hno : PySem.W.findIn X.K (.ref C) f = some none) (he : Ev X e σ H v) (ho : Ev X a σ H (.ref ad)) (h1 : H ad = some (exo ad C (some d))) (h2 : H d = some (exd d fs)) (hl : fs.length ≤ 900) (ne : ad ≠ d) (e0 : Ex (hid ad H0) H) (n0 : H0 d = none)
    (q : ∀ H2, Ex (hid ad H0) H2 → H2 ad = some (exo ad C (some d)) → H2 d = some (exd d ((f, v) :: fs)) → WB X rest En σ H2) (hs : swapsWith e (some (.Attribute a f p')) pos.line X.env = pure false := by rfl) :
    WB X (.Assign [.Attribute a f p'] e pos :: rest) En σ H := by
  refine b_cons (ws_of (ps_ost pe_we pe_we hs) ?_)
  refine he.go fun H1 e1 => (ho.mono e1).go fun H2 e2 => ?_
  have a2 := e2 _ _ (e1 _ _ h1)
  have d2 := e2 _ _ (e1 _ _ h2)
  refine ⟨ad, C, rfl, T, hno, .inr ⟨d, fs, a2, d2, hl, ?_⟩⟩
  refine q _ (fun x o h => ?_) (by rw [upd_ne ne]; exact a2) upd_same
  have xd : x ≠ d := fun z => by
    subst z
    by_cases xa : x = ad
    · rw [xa, hid_same] at h; cases h
    · rw [hid_ne xa, n0] at h; cases h
  rw [upd_ne xd]
  exact e2 _ _ (e1 _ _ (e0 _ _ h))
/-- what an own __init__ that stores its parameters promises -/
def spIni (C : Addr) (fl : List Str) : Sp := fun vs H Q _ => ∃ (a : Addr) (vals : List V), vs = .ref a :: vals ∧ vals.length = fl.length ∧ H a = some (exo a C none) ∧ ∀ H' d, Ex (hid a H) H' → H' a = some (exo a C (some d)) → H' d = some (exd d (fl.zip vals).reverse) → H d = none → Q .non H'
/-- the class of an exception, as the text leaves it -/
structure ExK (K : PySem.W.Frag) (mg : Str → Option Value) (nm qual : Str) (i : Nat) (C : Addr) (fl : List Str) : Prop where
  mg : mg nm = some (.ref C)
  T : OexC K C
  init : ∃ (fI : Addr) (fd : FuncData), PySem.W.findIn K (.ref C) "__init__" = some (some (.ref fI)) ∧ PySem.W.typeIn K (.ref fI) = some (.type "function") ∧ FunD K "__init__" qual (defArgs (topM i 0)) (defBody (topM i 0)) (defScope (topM i 0)) [] [] fI fd
  nof : ∀ f ∈ fl, PySem.W.findIn K (.ref C) f = some none
/-- nm(..) may be raised -/
structure Rz (X : Cx) (nm : Str) (C : Addr) (fl : List Str) : Prop where
  run : ∀ (e : Expr) (es : List Expr) (p pos : Pos), starEach (e :: es) X.env = (false, eval e X.env) :: starEach es X.env → (backTo pos (starEach es X.env)).any (·.1) = false → L2.Gl X nm → L2N.PMk X (.Call (.Name nm p) (e :: es) [] pos) (tMkO C (spIni C fl) [] (WA X (e :: es)))
/-- its __init__ is walked -/
structure ExD (P : Program) (w : World) (K : PySem.W.Frag) (mg : Str → Option Value) (base : Heap) (k : Nat) (nm : Str) (C : Addr) (fl : List Str) : Prop where
  ex : mg nm = some (.ref C) ∧ OexC K C ∧ ∃ (fI : Addr) (fd : FuncData) (ps : List Str), PySem.W.findIn K (.ref C) "__init__" = some (some (.ref fI)) ∧ PySem.W.typeIn K (.ref fI) = some (.type "function") ∧ FnOk P w K mg base CX0 k fI fd ps (spIni C fl) ∧ Binds K fd ps []
theorem ExD.rz {fl : List Str} (E : ExD X.prog X.w X.K X.mg X.base k nm C fl) (hr : Room n X.A) (hk : k + 1 ≤ n) (hdb : (nm == ("__debug__" : Str)) = false := by decide) : Rz X nm C fl := by
  obtain ⟨hm, T, fI, fd, ps, iC, tI, F, b⟩ := E.ex
  exact ⟨fun e es p pos he hpl hg => pmkN T iC tI F (hr.mono hk) b hg hm pa_wa hdb he hpl⟩
theorem b_raise {fl : List Str} {vals : List V} (Z : Sd X S N M L G n) (tk : L2N.Takes X W) (rz : Rz X nm C fl) (hg : nm ∈ G) (h : Av X (e :: es) σ H vals) (hl : vals.length = fl.length)
    (q : ∀ d H', Ex H H' → H d = none → H' d = some (.xd (fl.zip vals).reverse) → W (.ref C) (some d) σ H')
    (he : starEach (e :: es) X.env = (false, eval e X.env) :: starEach es X.env := by rfl) (hp : (backTo pos (starEach es X.env)).any (·.1) = false := by rfl) (hl2 : vals.length ≤ 1000 := by first | decide | simp) :
    WB X (.Raise (some (.Call (.Name nm p) (e :: es) [] pos)) none pos2 :: rest) En σ H := by
  refine b_cons (ws_of (L2N.ps_raise Z.calm tk (rz.run e es p pos he hp (Z.C.glo hg))) ?_)
  refine h.go fun H1 e1 => ⟨hl2, fun a ha => ⟨a, vals, by rw [List.append_nil], hl, upd_same, fun H' d e' a' d' n' => ⟨rfl, d, _, a', d', ?_, ?_⟩⟩⟩
  · have da : d ≠ a := fun z => by rw [z, upd_same] at n'; cases n'
    rw [upd_ne da] at n'
    exact n'
  · have da : d ≠ a := fun z => by rw [z, upd_same] at n'; cases n'
    rw [upd_ne da] at n'
    refine q d _ (fun x o hx => ?_) (e1.fresh n') upd_same
    have h1 := e1 _ _ hx
    have xa := ne_of_none h1 ha
    rw [upd_ne (ne_of_none h1 n'), del_ne xa]
    refine e' _ _ ?_
    rw [hid_ne xa, upd_ne xa]
    exact h1
end
section
variable {P : Program} {w : World} {K : PySem.W.Frag} {mg : Str → Option Value} {base : Heap} {C : Addr} {qual : Str}
theorem ex_pins (E : ExK K mg "BadPins" qual 3 C ["pins"]) (B : Bi mg) : ExD P w K mg base 1 "BadPins" C ["pins"] := by
  obtain ⟨fI, fd, h1, h2, F⟩ := E.init
  refine ⟨E.mg, E.T, fI, fd, _, h1, h2, fn_ok F B sc3c0 cb3c0 (fun vs H Q E ⟨a, vals, e, h, _⟩ => by rw [e, List.length_cons, h]; rfl) ?_, F.bindsN (fun _ _ _ _ _ _ us hl => match us, hl with | [_, _], _ => rfl)⟩
  rintro X rfl rfl rfl rfl rfl Z vs H Q E' ⟨a, vals, rfl, hl, ha, q⟩
  match vals, hl with
  | [v1], _ =>
  have hC := Z.C
  show WB X _ _ [some _, some _] _
  refine b_ost1 E.T (E.nof _ (by walk_at "mem")) (by walk_at "ev") (by walk_at "ev") ha fun d H1 n1 e1 a1 d1 => ?_
  exact b_nil (q H1 d e1 a1 d1 n1)
theorem ex_table (E : ExK K mg "BadTable" qual 9 C ["row", "column"]) (B : Bi mg) : ExD P w K mg base 1 "BadTable" C ["row", "column"] := by
  obtain ⟨fI, fd, h1, h2, F⟩ := E.init
  refine ⟨E.mg, E.T, fI, fd, _, h1, h2, fn_ok F B sc9c0 cb9c0 (fun vs H Q E ⟨a, vals, e, h, _⟩ => by rw [e, List.length_cons, h]; rfl) ?_, F.bindsN (fun _ _ _ _ _ _ us hl => match us, hl with | [_, _, _], _ => rfl)⟩
  rintro X rfl rfl rfl rfl rfl Z vs H Q E' ⟨a, vals, rfl, hl, ha, q⟩
  match vals, hl with
  | [v1, v2], _ =>
  have hC := Z.C
  show WB X _ _ [some _, some _, some _] _
  refine b_ost1 E.T (E.nof _ (by walk_at "mem")) (by walk_at "ev") (by walk_at "ev") ha fun d H1 n1 e1 a1 d1 => ?_
  refine b_ost2 E.T (E.nof _ (by walk_at "mem")) (by walk_at "ev") (by walk_at "ev") a1 d1 (by simp) (ne_of_none ha n1) e1 n1 fun H2 e2 a2 d2 => ?_
  exact b_nil (q H2 d e2 a2 d2 n1)
theorem ex_lot (E : ExK K mg "NoLot" qual 10 C ["a", "b", "twice"]) (B : Bi mg) : ExD P w K mg base 1 "NoLot" C ["a", "b", "twice"] := by
  obtain ⟨fI, fd, h1, h2, F⟩ := E.init
  refine ⟨E.mg, E.T, fI, fd, _, h1, h2, fn_ok F B sc10c0 cb10c0 (fun vs H Q E ⟨a, vals, e, h, _⟩ => by rw [e, List.length_cons, h]; rfl) ?_, F.bindsN (fun _ _ _ _ _ _ us hl => match us, hl with | [_, _, _, _], _ => rfl)⟩
  rintro X rfl rfl rfl rfl rfl Z vs H Q E' ⟨a, vals, rfl, hl, ha, q⟩
  match vals, hl with
  | [v1, v2, v3], _ =>
  have hC := Z.C
  show WB X _ _ [some _, some _, some _, some _] _
  refine b_ost1 E.T (E.nof _ (by walk_at "mem")) (by walk_at "ev") (by walk_at "ev") ha fun d H1 n1 e1 a1 d1 => ?_
  refine b_ost2 E.T (E.nof _ (by walk_at "mem")) (by walk_at "ev") (by walk_at "ev") a1 d1 (by simp) (ne_of_none ha n1) e1 n1 fun H2 e2 a2 d2 => ?_
  refine b_ost2 E.T (E.nof _ (by walk_at "mem")) (by walk_at "ev") (by walk_at "ev") a2 d2 (by simp) (ne_of_none ha n1) e2 n1 fun H3 e3 a3 d3 => ?_
  exact b_nil (q H3 d e3 a3 d3 n1)
end
end RC
/-! isinstance of a caught exception that has its dict. -/
namespace RC
open PySem PySem.Spec PySem.Calls PyProof.Rows PySem.W
section
variable {prog : Program} {w : World} {A : Around} {E : Value → Shared → Prop} {s : Shared} {K : Frag} {x D : Addr} {ox od : Obj}
/-- x.__class__ -/
theorem excClass {Q : Option Value → Shared → Prop} (C : L2.ExcC K D) (X : K.In s.heap) (I : InstAt s.heap x ox D (some od)) (h : Q (some (.ref D)) { s with toks := s.toks + 1 }) : wpAny (model prog w) A (getAttr? (.ref x) "__class__") Q E s := by
  have found : findObj K D (some od) "__class__" = some (.bind (.builtin "getset_descriptor.__get__") (.builtin "object.__class__")) := findObj_data (by obtain ⟨cd, hc, _⟩ := any_some C.hd; rw [hc]; rfl) C.ha C.hn C.ht
  obtain ⟨hp, gs, dr, tk, os⟩ := s
  have LT := I.type (M := model prog w)
  have LF := looks_find (M := model prog w) X I found
  have isE : Looks (model prog w) hp (isInstance (.ref x) (.type "BaseException")) true := LT.andThen (looks_subIn X C.hs)
  have no2 : (Value.builtin "BaseException.__getattribute__" == Value.builtin "object.__getattribute__") = false := by decide +kernel
  unfold getAttr? getAttrBy? getAttrBy
  refine wpAny_bind (wpAny_mkText (wpAny_bind (wpAny_attempt (wpAny_holding (wpAny_bind (LT.at (wpAny_bind ((looks_findIn (M := model prog w) X C.hg).at ?_))))))))
  show wpAny _ _ (if (onTheHeap (Value.ref D) && (Value.builtin "BaseException.__getattribute__" == Value.builtin "object.__getattribute__")) = true then _ else _) _ _ _
  rw [no2, Bool.and_false, if_neg Bool.false_ne_true]
  unfold getAttrByItsOwn hookBefore
  apply wpAny_bind
  rw [if_pos (show onTheHeap (Value.ref D) = true from rfl)]
  apply (looks_findIn (M := model prog w) X C.hk).at
  refine wpAny_bind (wpAny_attempt (wpAny_holding ?_))
  unfold callGetattribute
  rw [show (false && onTheHeap (Value.builtin "BaseException.__getattribute__")) = false from rfl, if_neg Bool.false_ne_true]
  unfold boundAndCalled
  rw [PySem.F.excAttr_ValueError.ga.bind (.ref x)]
  refine wpAny_bind (wpAny_pure ?_)
  show wpAny _ _ (call (.builtin "BaseException.__getattribute__") [.ref x, .str "__class__" tk]) _ _ _
  refine wpAny_call (codeAny_call_builtin PySem.F.excAttr_ValueError.ga.plain PySem.F.entry_bexc_ga (@check_slot (model prog w) _ _ ⟨hp, gs, dr, tk + 1, os⟩ "BaseException.__getattribute__" "BaseException" "__getattribute__" (.ref x) [.str "__class__" tk] [] _ (by decide +kernel) (by decide +kernel) isE (PySem.F.args_bexc_ga (.ref x) (.str "__class__" tk)) ?_))
  unfold Builtin.«object.__getattribute__»
  refine wpAny_bind (wpAny_of_eq (a := ((Value.ref x : Value), [Value.str "__class__" tk])) (by first | rfl | (simp only [slotArgs]; rfl)) (wpAny_bind (wpAny_pure (wpAny_bind (LT.at (wpAny_bind (LF.at ?_)))))))
  show wpAny _ _ (holding [Value.builtin "object.__class__"] (call (.builtin "getset_descriptor.__get__") [.builtin "object.__class__", .ref x, .ref D]) >>= ret) _ _ _
  refine wpAny_bind (wpAny_holding (wpAny_call (class_get (s := ⟨hp, gs, dr, tk + 1, os⟩) (ox := ox) (od := some od) X I C.hm (wpAny_pure ?_))))
  show wpAny _ _ (handedOut (.ref D)) _ _ _
  rw [handedOut_of (v := .ref D) rfl]
  first
    | exact wpAny_pure (wpAny_pure h)
    | exact wpAny_pure h
    | exact wpAny_pure (wpAny_bind (wpAny_pure (wpAny_pure h)))
theorem kitExc (C : L2.ExcC K D) : KitX K (.ref x) (.ref D) (fun h => InstAt h x ox D (some od)) := by
  obtain ⟨cd, hcd, _⟩ := any_some C.hd
  unfold clsIn at hcd
  split at hcd
  · rename_i c' d' cd' sl' ho
    refine ⟨fun _ _ _ I => I.type, fun _ _ X _ => fun {A' Q' E' s'} k q => ?_, fun h tp dd its n sl X htp => Bool.eq_false_iff.mpr fun q => ?_, fun X I k => excClass C X I k⟩
    · unfold isType loadHead
      exact wpAny_bind (wpAny_loadPart (k _ _ (X _ _ ho)) (wpAny_pure q))
    · have e : D = tp := Value.ref.inj (beq_iff_eq.mp q)
      subst e
      have z := (X _ _ ho).symm.trans htp
      cases z
  · cases hcd
end
end RC
/-! While an exception is handled: a comprehension over a list. -/
namespace RC
open PySem PySem.Spec PyProof.Rows L2 HotX L2H
section
variable {prog : Program} {w : World} {A : Around} {E : Value → Shared → Prop} {s : Shared}
/-- a list iterator's end while x1 is handled -/
theorem hotListEnd {it x1 lp : Addr} {i : Nat} {items : Array Value} {Q : Option Value → Shared → Prop} (hot : HotAt A x1 s.heap) (hx : x1 ≠ it) (hit : s.heap.IsListIter it lp i) (hl : s.heap.IsList lp items) (hend : items[i]? = none)
    (hQ : ∀ h', (∀ b o, b ≠ it → s.heap.get? b = some o → h'.get? b = some o) → Q none { s with heap := h' }) : wpAny (model prog w) A (pyNext (.ref it)) Q E s := by
  have ⟨o, ho, hc, hd⟩ := hit
  have ⟨ol, hol, _, nl, hdl⟩ := hl
  have ⟨hh, o1, vs1, h1, d1, c1⟩ := hot
  unfold pyNext
  apply wpAny_bind
  apply wpAny_attempt
  refine wpAny_callSpecial?_slot (name := Str.ofString "__next__") hit.typeIs slot_listiter_next (wpAny_call_entry slot_listiter_next hit.typeIs entry_listiter_next ?_ (args_listiter_next _))
  show wpAny (model prog w) A.in1 (field (.ref it) 0 >>= _) _ _ s
  refine wpAny_bind (wpAny_field ho hd (x := .ref lp) rfl ?_)
  show wpAny (model prog w) A.in1 (if (Value.ref lp == Value.none) = true then _ else _) _ _ _
  rw [if_neg (show ¬(Value.ref lp == Value.none) = true from fun z => Bool.noConfusion z)]
  show wpAny (model prog w) A.in1 (field (.ref it) 1 >>= _) _ _ s
  refine wpAny_bind (wpAny_field ho hd (x := .int (i : Int) 0) rfl ?_)
  show wpAny (model prog w) A.in1 (seqItems? (.ref lp) >>= _) _ _ s
  refine wpAny_bind (wpAny_seqItems hol hdl ?_)
  simp only [Int.toNat_natCast, hend]
  refine wpAny_bind (wpAny_rule (wpAny_bind (wpAny_setField ho hd (by simp) ?_)))
  show wpAny (model prog w) A.in1 (newExc (.type "StopIteration") [] >>= _) _ _ _
  apply wpAny_bind
  simp only [newExc, newTuple]
  refine wpAny_bind ?_
  refine wpAny_newObj_type ?_ (by size_fits)
  apply wpAny_bind (m := firstArgMember _ _)
  apply wpAny_of_eq (a := Value.none) (by first | rfl | (simp only [firstArgMember]; rfl))
  refine wpAny_newObj_type ?_ (by size_fits)
  have up1 := (Heap.get?_update_other s.heap (Obj.mapFields (·.setIfInBounds 0 Value.none)) (Ne.symm hx)).trans h1
  refine raiseNew_hot ⟨hh, o1, vs1, Heap.get?_push_of_some _ (Heap.get?_push_of_some _ up1), d1, c1⟩ (Nat.ne_of_lt (Heap.lt_size (Heap.get?_push_of_some _ up1))) (Heap.get?_push_size _ rfl) rfl (by first | (simp; done) | (simp; omega) | (simp only [Array.size_append]; simp; omega)) ?_
  refine wpAny_bind (wpAny_isInstance (T := "StopIteration") (b := true) ⟨_, Heap.get?_update_self _ (Heap.get?_push_size _ rfl) rfl, rfl⟩ isSubtype_stop ?_)
  refine wpAny_pure (hQ _ fun b ob hb e => ?_)
  have e2 := (Heap.get?_update_other s.heap (Obj.mapFields (·.setIfInBounds 0 Value.none)) (Ne.symm hb)).trans e
  rw [Heap.get?_update_other _ _ (Nat.ne_of_gt (Heap.lt_size (Heap.get?_push_of_some _ e2)))]
  exact Heap.get?_push_of_some _ (Heap.get?_push_of_some _ e2)
end
/-- a list that is walked: the turns; its end asks who is handled -/
structure TurnQ (P : Program) (w : World) (K : PySem.W.Frag) (tg : Expr) (J : It) (fp : List Addr) (it : Addr) (tn : Nat → Heap → Prop) : Prop where
  mem : it ∈ fp
  obj : ∀ i h, tn i h → ∀ b ∈ fp, ∃ o, h.get? b = some o ∧ ∀ v, o.data ≠ .cell v
  keep : ∀ i h h', tn i h → (∀ b ∈ fp, ∀ o, h.get? b = some o → h'.get? b = some o) → tn i h'
  item : ∀ (X : Cx), X.prog = P → X.w = w → X.K = K → ∀ (i : Nat) (pins : List (Addr × Obj)) (s : Shared) (σ : St) (H : Hp) (E : Value → Shared → Prop), Inv X pins σ H s → (∀ b ∈ fp, FpOk X pins H b) → tn i s.heap → J.go i H →
    wpAny (model P w) X.A (pyNext (.ref it)) (fun r s1 => ∃ u, r = some u ∧ wpAny (model P w) X.A (letOwnedTupleGo tg (.ref it) u) (fun _ s2 => ∃ x H', Inv X pins σ H' s2 ∧ RelV x u ∧ J.yld i H x H' ∧ tn (i + 1) s2.heap ∧ ∀ b ∈ fp, H' b = none) E s1) E s
  done : ∀ (X : Cx), X.prog = P → X.w = w → X.K = K → ∀ (x1 : Addr) (i : Nat) (pins : List (Addr × Obj)) (s : Shared) (σ : St) (H : Hp) (E : Value → Shared → Prop), HotAt X.A x1 s.heap → x1 ∉ fp → Inv X pins σ H s → (∀ b ∈ fp, FpOk X pins H b) → tn i s.heap → J.stop i H →
    wpAny (model P w) X.A (pyNext (.ref it)) (fun r s1 => r = none ∧ Inv X pins σ H s1) E s
  self : ∀ (A : Around) (i : Nat) (s : Shared) (Q : Value → Shared → Prop) (E : Value → Shared → Prop), tn i s.heap → Q (.ref it) s → wpAny (model P w) A (pyIter (.ref it)) Q E s
theorem turnQ_list {P : Program} {w : World} {K : PySem.W.Frag} {tg : Expr} (a it : Addr) : TurnQ P w K tg (Itl K a) [it] it (fun i h => h.IsListIter it a i) := by
  refine ⟨by simp, fun i h st b hb => ?_, fun i h h' st k => st.at fun o e => k it (by simp) o e, ?_, ?_, fun _ _ _ _ _ st h => wpAny_pyIter_listiter st h⟩
  · obtain rfl : b = it := by simpa using hb
    obtain ⟨o, e, c, d⟩ := st
    exact ⟨o, e, fun v z => by rw [d] at z; cases z⟩
  · rintro X rfl rfl rfl i pins s σ H E I hf st ⟨xs, x, hq, hx⟩
    obtain ⟨its, rv, pl, _⟩ := I.list hq
    obtain ⟨u, hu, ru⟩ := rv.get hx
    obtain ⟨n0, n1, n2, n3, n4, n5⟩ := hf it (by simp)
    refine wpAny_pyNext_list_item st pl.isList (x := u) (by simpa using hu) fun h2 st2 sb => ?_
    have J1 : Inv X pins σ H { s with heap := h2 } := I.turned (t' := s.toks) (fun b o hb e => (sb.2 b hb).trans e) n0 n1 n3 n4 n5
    have ⟨o, e, c, d⟩ := st2
    refine ⟨u, rfl, go_of (s := { s with heap := h2 }) e c d (by decide) ⟨x, H, J1, ru, ⟨rfl, fun ys hy => ?_⟩, st2, fun b hb => (hf b hb).1⟩⟩
    rw [I.list_inj hy hq]
    exact hx
  · rintro X rfl rfl rfl x1 i pins s σ H E hot hx1 I hf st ⟨xs, hq, hx⟩
    obtain ⟨its, rv, pl, _⟩ := I.list hq
    obtain ⟨n0, n1, n2, n3, n4, n5⟩ := hf it (by simp)
    have hl := rv.length
    exact hotListEnd hot (fun z => hx1 (by simp [z])) st pl.isList (by simp; omega) fun h2 eb => ⟨rfl, I.turned (t' := s.toks) (fun b o hb e => eb b o hb e) n0 n1 n3 n4 n5⟩
/-- iter walks by such turns -/
structure PIQ (X : Cx) (tg iter : Expr) (wi : TI) : Prop where
  run : ∀ (pins : List (Addr × Obj)) (s : Shared) (σ : St) (H : Hp) (R : It → Hp → Prop), Inv X pins σ H s → wi σ H R → wpAny (model X.prog X.w) X.A (eval iter X.env) (fun v s1 => wpAny (model X.prog X.w) X.A (pyIter v) (fun itv s2 =>
    ∃ (it : Addr) (fp : List Addr) (tn : Nat → Heap → Prop) (J : It) (H' : Hp), itv = .ref it ∧ Inv X pins σ H' s2 ∧ TurnQ X.prog X.w X.K tg J fp it tn ∧ tn 0 s2.heap ∧ (∀ b ∈ fp, FpOk X pins H' b) ∧ R J H') X.xe s1) X.xe s
theorem piq_list {X : Cx} {tg l : Expr} {tl : TE} (hl : PE X l tl) : PIQ X tg l (iList X.K tl) := by
  refine ⟨fun pins s σ H R I h => thn (hl.run pins s σ H _ I h) fun v s1 ⟨x, H1, I1, r1, a, e, ⟨xs, hq⟩, q⟩ => ?_⟩
  subst e
  obtain rfl : v = Value.ref a := r1
  obtain ⟨its, rv, pl, _⟩ := I1.list hq
  refine wpAny_pyIter_list pl.isList ⟨s1.heap.objs.size, [s1.heap.objs.size], _, _, H1, rfl, I1.kept (t' := s1.toks) fun b o e => Heap.get?_push_of_some _ e, turnQ_list a _, ⟨_, Heap.get?_push_size _ rfl, rfl, rfl⟩, fun b hb => ?_, q⟩
  obtain rfl : b = s1.heap.objs.size := by simpa using hb
  exact I1.fpOk (Nat.le_refl _) (I1.hok.fresh (Nat.le_refl _))
section
variable {X : Cx} {pins : List (Addr × Obj)} {s : Shared} {σ : St} {H : Hp} {Q : VK} {elt tg iter : Expr} {ifs : List Expr} {scope : Scope} {own : List (Str × Nat)} {pos pos' : Pos} {wi : TI} {g : TG} {tt : TT} {te : TE} {use : Option (Value → Sem Unit)} {Qf : Value → Shared → Prop}
/-- a list comprehension of one clause, while an exception is handled -/
theorem lcQ (hot : HotC X) (hN : X.N.Nodup) (I : Inv X pins σ H s) (hi : PIQ X tg iter wi) (ok : BlkOk X.N X.env.scope scope own)
    (hg : ∀ (s : Shared) (H : Hp) (C : Addr) (cl : List (Str × Addr)) (fp : List Addr), PG (X.blk s H scope (compEnvC scope cl C X.env) fp) tg g)
    (ht : ∀ (s : Shared) (H : Hp) (C : Addr) (cl : List (Str × Addr)) (fp : List Addr), PTs (X.blk s H scope (compEnvC scope cl C X.env) fp) ifs tt)
    (he : ∀ (s : Shared) (H : Hp) (C : Addr) (cl : List (Str × Addr)) (fp : List Addr), PE (X.blk s H scope (compEnvC scope cl C X.env) fp) elt te)
    (hs : ∀ x, foldedSetIterable iter X.env x = pure x) (h : tLc wi g tt te (own.map (·.2)) σ H Q)
    (back : ∀ D C s' m H', Inv X pins σ H' s' → Q (.ref D) H' → s'.heap.Ns C m → FpOk X pins H' C → compPost (model X.prog X.w) X.A X.xe use Qf (.ref D) C (.ok .next) s') :
    wpAny (model X.prog X.w) X.A (comprehension (.ListComp elt [⟨tg, iter, ifs, 0⟩] scope pos) scope X.env pos' (newList []) false (eval iter X.env) use) Qf X.xe s := by
  obtain ⟨p0, ⟨hh0, v0, dv0, cv0⟩, hp0⟩ := hot
  have free_ok : ∀ y ∈ scope.names, y.2 = .free → ∃ c, X.env.cells.lookup y.1 = some c := fun y hy e => (ok.free y hy e).elim (fun k => I.ok.has _ (.inl k)) fun k => I.ok.has _ (.inr k)
  refine wpAny_comprehension_free (use := use) rfl hs (closure_ok free_ok) ok.kind (fun y hy e => by rw [ok.uniq y hy, e]) (thn (hi.run pins s σ H _ I h) fun xv sA hA => thn hA fun itv sB hB => ?_)
  obtain ⟨it, fp, tn, J, HB, eit, IB, T, stB, fB, qB⟩ := hB
  subst eit
  refine wpAny_newObj_type (newEnv_comp ?_) (by show 0 ≤ sizeLine; decide)
  generalize eD : sB.heap.objs.size = D
  have freshD : HB D = none := IB.hok.fresh (Nat.le_of_eq eD)
  obtain ⟨W, ⟨m0, wStart⟩, turn⟩ := qB D freshD
  generalize eC : ({ sB with heap := sB.heap.push { cls := .type "list", data := .seq ([] : List Value).toArray } } : Shared) = sC
  have IC : Inv X pins σ (upd HB D (.lst [])) sC := by
    subst eC
    refine IB.laid (t' := sB.toks) (fun b o e => Heap.get?_push_of_some _ e) (Nat.le_of_eq eD) ⟨Nat.zero_le _, [], 0, .nil, ?_⟩
    subst eD
    exact Heap.get?_push_size _ rfl
  have hC : sC.heap = sB.heap.push { cls := .type "list", data := .seq ([] : List Value).toArray } := by subst eC; rfl
  have below : ∀ b ∈ fp, b < sB.heap.objs.size := fun b hb => by
    obtain ⟨o, e, _⟩ := T.obj _ _ stB b hb
    exact Heap.lt_size e
  have fC : ∀ b ∈ fp, FpOk X pins (upd HB D (.lst [])) b ∧ b < sC.heap.objs.size := fun b hb => by
    have lt := below b hb
    refine ⟨⟨(upd_ne (by subst eD; exact Nat.ne_of_lt lt)).trans (fB b hb).1, (fB b hb).2⟩, ?_⟩
    rw [hC, Heap.size_push]
    exact Nat.lt_succ_of_lt lt
  have stC : tn 0 sC.heap := T.keep _ _ _ stB fun b _ o e => by rw [hC]; exact Heap.get?_push_of_some _ e
  have ID := block_start IC ok hN fC
  have pg := hg sC (upd HB D (.lst [])) sC.heap.objs.size (cellsFrom (sC.heap.objs.size + 1) scope.names (cloFrom X.env.cells scope.names [])) fp
  have pt := ht sC (upd HB D (.lst [])) sC.heap.objs.size (cellsFrom (sC.heap.objs.size + 1) scope.names (cloFrom X.env.cells scope.names [])) fp
  have pe := he sC (upd HB D (.lst [])) sC.heap.objs.size (cellsFrom (sC.heap.objs.size + 1) scope.names (cloFrom X.env.cells scope.names [])) fp
  show codeAny _ _ (.compStart (.ListComp elt [⟨tg, iter, ifs, 0⟩] scope pos) 0 (.ref it) (.ref D) (compEnvC scope (cellsFrom (sC.heap.objs.size + 1) scope.names (cloFrom X.env.cells scope.names [])) sC.heap.objs.size X.env)) (compPost (model X.prog X.w) X.A X.xe use Qf (.ref D) sC.heap.objs.size) { sC with heap := pushCells (sC.heap.push { cls := .type "dict", data := .dict #[] }) scope.names }
  have noneFp : ∀ b ∈ fp, (upd HB D (.lst [])) b = none := fun b hb => (fC b hb).1.1
  generalize eE : compEnvC scope (cellsFrom (sC.heap.objs.size + 1) scope.names (cloFrom X.env.cells scope.names [])) sC.heap.objs.size X.env = ce at ID pg pt pe ⊢
  have ceL : ce.locals = sC.heap.objs.size := by subst eE; rfl
  have p0C := IC.pin p0 (List.mem_append_left _ hp0)
  have p0fp : ∀ b ∈ fp, p0.1 ≠ b := fun b hb => (fC b hb).1.2.2.2.2.2 p0 (List.mem_append_left _ hp0)
  generalize eH : upd HB D (.lst []) = HC at IC ID pg pt pe wStart noneFp fC p0C
  generalize eS : ({ sC with heap := pushCells (sC.heap.push { cls := .type "dict", data := .dict #[] }) scope.names } : Shared) = sD at ID ⊢
  have stD : tn 0 sD.heap := T.keep _ _ _ stC fun b _ o e => by subst eS; exact pushCells_keeps _ _ _ _ (Heap.get?_push_of_some _ e)
  have fpBlk : ∀ {σ' : St} {H' : Hp} {s' : Shared}, Inv (X.blk sC HC scope ce fp) [] σ' H' s' → (∀ b ∈ fp, H' b = none) → ∀ b ∈ fp, FpOk (X.blk sC HC scope ce fp) [] H' b := fun {σ' H' s'} I' hn b hb =>
    ⟨hn b hb, (I'.ok.exf b hb).1, I'.ok.exfs b hb, .inl hb, fun x c e => (I'.ok.exf b hb).2 x c e, fun p hp => absurd (show p ∈ ([] : List (Addr × Obj)) ++ [] from hp) (by simp)⟩
  -- the handled exception stands through the block
  have hotAt : ∀ {σ' : St} {H' : Hp} {s' : Shared}, Inv (X.blk sC HC scope ce fp) [] σ' H' s' → HotAt (X.blk sC HC scope ce fp).A p0.1 s'.heap := fun {σ' H' s'} I' => by
    refine ⟨hh0, p0.2, v0, ?_, dv0, cv0⟩
    exact I'.base.keep p0.1 p0.2 p0C.1 p0C.2.1 (fun hm => (List.mem_cons.mp (IC.stkSub _ hm)).elim (fun z => p0C.2.2.1 z) fun z => p0C.2.2.2.1 z) (fun z => p0fp _ z rfl)
  have loop : codeAny (model X.prog X.w) X.A (.compLoop (.ListComp elt [⟨tg, iter, ifs, 0⟩] scope pos) 0 (.ref it) (.ref D) ce) (compPost (model X.prog X.w) X.A X.xe use Qf (.ref D) sC.heap.objs.size) sD := by
    refine compLoop_any (fun n s' => ∃ i H', Inv (X.blk sC HC scope ce fp) [] (wipe σ (own.map (·.2))) H' s' ∧ tn i s'.heap ∧ (∀ b ∈ fp, H' b = none) ∧ W i n H') ?_ m0 ⟨0, HC, ID, stD, noneFp, wStart⟩
    rintro n sE ⟨i, HE, IE, stE, nE, wE⟩
    rcases turn i n HE wE with ⟨stop, qq⟩ | ⟨go, Nx, hNx, step⟩
    · have td := T.done (X.blk sC HC scope ce fp) rfl rfl rfl p0.1 i [] sE _ HE (fun _ _ => False) (hotAt IE) (fun z => p0fp _ z rfl) IE (fpBlk IE nE) stE stop
      refine thnF td fun r sF ⟨hr, IF⟩ => ?_
      subst hr
      have IG : Inv X pins σ HE sF := IC.call' (ch := fp) IF.os IF.base IF.hok IF.bare fun b hb => ⟨(fC b hb).1.2.2.2.1, (fC b hb).1.2.1, (fC b hb).1.2.2.2.2.1, (fC b hb).1.2.2.2.2.2⟩
      have nC : HE sC.heap.objs.size = none := by
        have z : HE ce.locals = none := IF.free
        rwa [ceL] at z
      obtain ⟨m, hn, _⟩ := IF.loc
      have hn : sF.heap.Ns ce.locals m := hn
      rw [ceL] at hn
      exact back D sC.heap.objs.size sF m HE IG qq hn (IC.fpOk (Nat.le_refl _) nC)
    · have ti := T.item (X.blk sC HC scope ce fp) rfl rfl rfl i [] sE _ HE (fun _ _ => False) IE (fpBlk IE nE) stE go
      refine thnF ti fun r sF ⟨u, hr, hF⟩ => ?_
      subst hr
      refine thnF hF fun _ sG ⟨x, HG, IG, rG, yG, stG, nG⟩ => ?_
      have IGp := IG.pinned (fpBlk IG nG) (T.obj _ _ stG)
      refine thnF (pg.run _ sG _ HG x u _ IGp rG (step x HG yG)) fun _ sH ⟨σH, HH, IH, hwH, qH⟩ => ?_
      refine thnF (pt.run _ sH σH HH _ IH qH) fun b sI ⟨HI, II, qI⟩ => ?_
      have turnEnd : ∀ {s' : Shared} {H' : Hp}, Inv (X.blk sC HC scope ce fp) ([] ++ pinsAt fp sG.heap) σH H' s' → Nx H' → ∃ m, m < n ∧ ∃ i H', Inv (X.blk sC HC scope ce fp) [] (wipe σ (own.map (·.2))) H' s' ∧ tn i s'.heap ∧ (∀ b ∈ fp, H' b = none) ∧ W i m H' := fun {s' H'} I' nx => by
        obtain ⟨m', hm, w'⟩ := hNx H' nx
        have pinned : ∀ b ∈ fp, ∀ o, sG.heap.get? b = some o → s'.heap.get? b = some o ∧ H' b = none := fun b hb o e => by
          have z := I'.pin (b, o) (List.mem_append_right _ (List.mem_append_right _ (mem_pinsAt hb e)))
          exact ⟨z.1, z.2.1⟩
        have hl : (wipe σ (own.map (·.2))).length = σH.length := by rw [← hwH, wipe_length]
        refine ⟨m', hm, i + 1, H', (I'.unpinned (pins := [])).weak hl (fun j v e => (wipe_some (by rw [hwH]; exact e)).1), T.keep _ _ _ stG fun b hb o e => (pinned b hb o e).1, fun b hb => ?_, w'⟩
        obtain ⟨o, e, _⟩ := T.obj _ _ stG b hb
        exact (pinned b hb o e).2
      cases b with
      | false =>
        rw [if_neg Bool.false_ne_true] at qI
        exact turnEnd II qI
      | true =>
        rw [if_pos rfl] at qI
        refine thnF (pe.run _ sI σH HI _ II qI) fun z sJ ⟨yv, HJ, IJ, rJ, acc, hDJ, hzJ, nx⟩ => ?_
        exact app_ok (X := X.blk sC HC scope ce fp) IJ hDJ hzJ rJ fun sK IK => turnEnd IK nx
  exact codeAny_compStart_list loop (T.self X.A 0 _ _ _ stD loop)
/-- name = [..] on one line, the name a local -/
theorem ps_setLcQ {i : Nat} {y : Str} {py spos : Pos} (hot : HotC X) (hN : X.N.Nodup) (hy : X.N[i]? = some y) (hyl : X.env.scope.names.lookup y = some .local) (hsw : swapsWith (.ListComp elt [⟨tg, iter, ifs, 0⟩] scope pos) (some (.Name y py)) spos.line X.env = pure true) (hi : PIQ X tg iter wi) (ok : BlkOk X.N X.env.scope scope own)
    (hg : ∀ (s : Shared) (H : Hp) (C : Addr) (cl : List (Str × Addr)) (fp : List Addr), PG (X.blk s H scope (compEnvC scope cl C X.env) fp) tg g)
    (ht : ∀ (s : Shared) (H : Hp) (C : Addr) (cl : List (Str × Addr)) (fp : List Addr), PTs (X.blk s H scope (compEnvC scope cl C X.env) fp) ifs tt)
    (he : ∀ (s : Shared) (H : Hp) (C : Addr) (cl : List (Str × Addr)) (fp : List Addr), PE (X.blk s H scope (compEnvC scope cl C X.env) fp) elt te) (hs : ∀ x, foldedSetIterable iter X.env x = pure x) :
    PS X (.Assign [.Name y py] (.ListComp elt [⟨tg, iter, ifs, 0⟩] scope pos) spos) (tAsg (tLc wi g tt te (own.map (·.2))) (gName i)) := ⟨fun pins s σ H D I h => by
  rw [exec_Assign_Name_used _ _ _ _ hsw]
  apply wpAny_bind
  apply wpAny_standAt
  apply wpAny_bind
  show wpAny _ X.A (do let _ ← comprehension (.ListComp elt [⟨tg, iter, ifs, 0⟩] scope pos) scope X.env (firstIterPos [⟨tg, iter, ifs, 0⟩] pos) (newList []) false (eval iter X.env) (some (assign (.Name y py) X.env))) _ _ s
  have h : tLc wi g tt te (own.map (·.2)) σ H (fun x H1 => gName i x σ H1 D.nx) := h
  refine wpAny_bind (thn (lcQ (Qf := fun _ s' => SP X pins D .next s') hot hN I hi ok hg ht he hs h fun L C s' m H' I' q hn f => ?_) fun _ s' hq => wpAny_pure (wpAny_pure hq))
  show wpAny _ _ (assign (.Name y py) X.env (.ref L)) _ _ _
  refine wpAny_assign_Name (store_ok2 (v := V.ref L) I' hN hy (.inl hyl) rfl (fun s2 I2 ⟨a, sb, ha⟩ => ?_) (.inr hyl))
  obtain ⟨n0, n1, n2, n3, n4, n5⟩ := f
  have cA : C ≠ a := ha.elim (fun z => by rw [z]; exact n1) fun z e => n4 y a z e.symm
  exact ⟨m, hn.sameBut sb cA, fun h3 sb3 => ⟨_, H', I2.turned (t' := s2.toks) (fun b o hb e => (sb3.2 b hb).trans e) n0 n1 n3 n4 n5, q⟩⟩⟩
end
end RC
namespace RC
open PySem PySem.Spec PyProof.Rows L2
def t3D (t : T3) : D := .tup ([t.1, t.2.1, t.2.2].map D.int)
def crdD (L : List T3) : D := .tup (L.map t3D)
def rowsT (T : List (List Int)) : D := .tup (T.map fun r => D.tup (r.map D.int))
theorem crd_inv {H : Hp} {v : V} {L : List T3} (r : Rep H v (crdD L)) : ∃ p xs, v = .ref p ∧ H p = some (.tup xs) ∧ xs.length = L.length ∧ ∀ (i : Nat) (x : V) (t : T3), xs[i]? = some x → L[i]? = some t → ∃ q, x = .ref q ∧ H q = some (.tup [.int t.1, .int t.2.1, .int t.2.2]) := by
  obtain ⟨p, xs, rfl, hp, rx⟩ := Rep.tup_inv r
  refine ⟨p, xs, rfl, hp, by rw [rx.len, List.length_map], fun i x t h1 h2 => ?_⟩
  obtain ⟨d, hd, q⟩ := rx.get h1
  rw [List.getElem?_map, h2] at hd
  obtain rfl : t3D t = d := Option.some.inj hd
  obtain ⟨a, ys, rfl, hq, ry⟩ := Rep.tup_inv q
  have e := ry.ints_inv
  rw [e] at hq
  exact ⟨a, rfl, hq⟩
section
variable {P : Program} {w : World} {K : PySem.W.Frag} {mg : Str → Option Value} {base : Heap}
/-! ### gaps -/
def spGaps : Sp := fun vs H Q _ => ∃ n : Nat, vs = [.int n] ∧ ∀ H', Ex H H' → Q (.int ((max n 1 : Nat) : Int)) H'
theorem df_gaps (h : Has K mg "gaps" 12) (B : Bi mg) : Df P w K mg base CX0 1 "gaps" spGaps := by
  refine df_ok h B sc12 cb12 (fun _ _ _ _ _ _ us hl => match us, hl with | [_], _ => rfl) (fun vs H Q E ⟨n, e, _⟩ => by rw [e]; rfl) ?_
  rintro X rfl rfl rfl rfl rfl Z vs H Q E ⟨n, rfl, q⟩
  have hC := Z.C
  show WB X _ _ [some _] _
  refine b_ret ?_
  refine ((ev_max2 hC Z.B Z.calm (by walk_at "mem") (by walk_at "ev") (by walk_at "ev")).is (z := .int ((max n 1 : Nat) : Int)) ?_).go q
  congr 1
  split <;> omega
/-! ### is_whole -/
def spWhole : Sp := fun vs H Q _ => ∃ v d, vs = [v] ∧ Rep H v d ∧ ∀ H', Ex H H' → Q (.bl d.whole) H'
theorem whole_eq (d : D) : (d.isInt && !d.isBool) = d.whole := by cases d <;> rfl
theorem df_whole (h : Has K mg "is_whole" 14) (B : Bi mg) : Df P w K mg base CX0 1 "is_whole" spWhole := by
  refine df_ok h B sc14 cb14 (fun _ _ _ _ _ _ us hl => match us, hl with | [_], _ => rfl) (fun vs H Q E ⟨n, d, e, _⟩ => by rw [e]; rfl) ?_
  rintro X rfl rfl rfl rfl rfl Z vs H Q E ⟨v, d, rfl, r, q⟩
  have hC := Z.C
  show WB X _ _ [some _] _
  refine b_ret ?_
  refine ((ev_and (ev_isInt hC Z.B (by walk_at "mem") (by walk_at "mem") (by walk_at "ev") r) fun _ => ev_one (ev_not (ev_isBool hC Z.B (by walk_at "mem") (by walk_at "mem") (by walk_at "ev") r))).is (z := .bl d.whole) ?_).go q
  rw [whole_eq]
/-! ### raw_passing -/
def spPass : Sp := fun vs H Q _ => ∃ (c : V) (L : List T3) (i j : Int), vs = [c, .int i, .int j] ∧ Rep H c (crdD L) ∧ L.length < 100000 ∧ ∀ H', Ex H H' → Q (.int (passing L i j)) H'
theorem filterMap_if {α β : Type} (p : α → Bool) (f : α → β) (l : List α) : (l.filterMap fun x => if p x then some (f x) else none) = (l.filter p).map f := by
  induction l with
  | nil => rfl
  | cons a l ih =>
    rw [List.filterMap_cons, List.filter_cons]
    cases p a with
    | true => simp [ih]
    | false => simp [ih]
theorem df_pass (h : Has K mg "raw_passing" 16) (B : Bi mg) : Df P w K mg base CX0 1 "raw_passing" spPass := by
  refine df_ok h B sc16 cb16 (fun _ _ _ _ _ _ us hl => match us, hl with | [_, _, _], _ => rfl) (fun vs H Q E ⟨c, L, i, j, e, _⟩ => by rw [e]; rfl) ?_
  rintro X rfl rfl rfl rfl rfl Z vs H Q E ⟨c, L, i, j, rfl, r, hl, q⟩
  have hC := Z.C
  obtain ⟨p, xs, rfl, hp, hx, hat⟩ := crd_inv r
  show WB X _ _ [some _, some _, some _, none, none, none] _
  refine b_ret ?_
  refine ((ev_sumO (ns := (L.filter fun t => !decide (inC t i = inC t j)).map fun t : T3 => t.2.2) hC Z.B Z.calm (by walk_at "mem") ?_)).go q
  have e : (((L.filter fun t => !decide (inC t i = inC t j)).map fun t : T3 => t.2.2).map V.int) = L.filterMap fun t => if (!decide (inC t i = inC t j)) = true then some (V.int t.2.2) else none := by
    rw [filterMap_if (fun t => !decide (inC t i = inC t j)), List.map_map]; rfl
  rw [e]
  refine eo_comp (own := [("a", 3), ("b", 4), ("n", 5)]) L _ hC Z.calm (by decide +kernel) (sr_tup (Hb := H) (by walk_at "ev") (sqT hp) Ex.rfl') gT3_mon (fun Y b => pgT3B b (b.ctx (M' := M16_0) (L' := L16_0) (G' := G16_0) hC (by decide +kernel)) Z.calm (by walk_at "mem") (by walk_at "mem") (by walk_at "mem")) hx.symm (by omega) (by walk_at "wipe") ?_
  intro k x t Hc h1 h2 ex
  obtain ⟨q, rfl, hq⟩ := hat k x t h1 h2
  refine g3_of (by walk_at "set3") (sqT (ex _ _ hq)) ⟨rfl, fun Y b => ?_⟩
  have hY := b.ctx (M' := M16_0) (L' := L16_0) (G' := G16_0) hC (by decide +kernel)
  exact st_if (tsv_one (tv_c (cv_neB (ev_leLt (by walk_at "ev") (by walk_at "ev") (by walk_at "ev")) (ev_leLt (by walk_at "ev") (by walk_at "ev") (by walk_at "ev"))))) fun _ => by walk_at "ev"
/-! ### raw_table -/
def spTable : Sp := fun vs H Q _ => ∃ (r : Nat) (c : V) (L : List T3), vs = [.int r, c] ∧ r ≤ 1000 ∧ Rep H c (crdD L) ∧ L.length < 100000 ∧ ∀ v H', Ex H H' → Rep (nw H H') v (rowsT (tabR (max r 1) L)) → Q v H'
theorem filterMap_some {α β : Type} (f : α → β) (l : List α) : (l.filterMap fun x => some (f x)) = l.map f := by
  induction l with
  | nil => rfl
  | cons a l ih => simp [ih]
theorem df_table (h : Has K mg "raw_table" 17) (B : Bi mg) (dG : Df P w K mg base CX0 1 "gaps" spGaps) (dP : Df P w K mg base CX0 1 "raw_passing" spPass) : Df P w K mg base CX0 2 "raw_table" spTable := by
  refine df_ok h B sc17 cb17 (fun _ _ _ _ _ _ us hl => match us, hl with | [_, _], _ => rfl) (fun vs H Q E ⟨r, c, L, e, _⟩ => by rw [e]; rfl) ?_
  rintro X rfl rfl rfl rfl rfl Z vs H Q E ⟨r, c, L, rfl, hr, rc, hl, q⟩
  have hC := Z.C
  show WB X _ _ [some _, some _, none, none, none] _
  refine b_set hC (by walk_at "mem") (by walk_at "set") ?_
  refine (ev_call (v := .int ((max r 1 : Nat) : Int)) hC (Z.cal dG) (by walk_at "mem") (av_cons (by walk_at "ev") av_nil) fun H1 e1 Q k => ⟨r, rfl, fun H' e' => k H' e'⟩).go fun H1 e1 => ?_
  refine b_ret ?_
  have rc1 := rc.mono e1
  have hz : max r 1 < 100000 := by omega
  refine (et_tupleO (cs := (List.range (max r 1)).filterMap fun (i : Nat) => some (HO.tup (((List.range (max r 1)).map fun (j : Nat) => passing L (i : Int) (j : Int)).map V.int))) hC Z.B (by walk_at "mem") ?_).run H1 Ex.rfl' _ fun p ps H2 hp e2 h2 hk => ?_
  · refine ec_comp (own := [("i", 3)]) _ _ hC Z.calm (by decide +kernel) (sr_rng1 hC (by walk_at "mem") Z.B.range (by walk_at "ev") hz) gN_mon (fun Y b => pgN (b.ctx (M' := M17_1) (L' := L17_1) (G' := G17_1) hC (by decide +kernel)) (by walk_at "mem")) (by rw [List.length_range, rgI_len]) (by rw [rgI_len]; exact hz) (by walk_at "wipe") ?_
    intro k x i Hc h1 h2 ex
    obtain ⟨_, rfl⟩ := rgI_get.mp h1
    obtain rfl : k = i := by
      rw [List.getElem?_eq_some_iff] at h2
      obtain ⟨_, h2⟩ := h2
      rw [List.getElem_range] at h2
      exact h2
    refine g1_of (by walk_at "set") ⟨rfl, fun Y b => ?_⟩
    have ZY := Z.blk (M' := M17_1) (L' := L17_1) (G' := G17_1) b (by decide +kernel)
    have hY := ZY.C
    have dY := dP.blk b
    refine st_allo (eo_tupleO hY ZY.B (by walk_at "mem") ?_)
    rw [List.map_map, ← filterMap_some]
    refine eo_comp (own := [("j", 4)]) _ _ hY ZY.calm (by decide +kernel) (sr_rng1 hY (by walk_at "mem") ZY.B.range (by walk_at "ev") hz) gN_mon (fun W b' => pgN (b'.ctx (M' := M17_0) (L' := L17_0) (G' := G17_0) hY (by decide +kernel)) (by walk_at "mem")) (by rw [List.length_range, rgI_len]) (by rw [rgI_len]; exact hz) (by walk_at "wipe") ?_
    intro k2 x2 j Hd h3 h4 ex2
    obtain ⟨_, rfl⟩ := rgI_get.mp h3
    obtain rfl : k2 = j := by
      rw [List.getElem?_eq_some_iff] at h4
      obtain ⟨_, h4⟩ := h4
      rw [List.getElem_range] at h4
      exact h4
    refine g1_of (by walk_at "set") ⟨rfl, fun W b' => ?_⟩
    have ZW := ZY.blk (M' := M17_0) (L' := L17_0) (G' := G17_0) b' (by decide +kernel)
    have hW := ZW.C
    refine st_all (ev_call hW (ZW.cal (dY.blk b')) (by walk_at "mem") (av_cons (by walk_at "ev") (av_cons (by walk_at "ev") (av_cons (by walk_at "ev") av_nil))) fun H1 e1 Q kk => ?_)
    refine ⟨c, L, _, _, rfl, ((rc1.mono ex).mono ex2).mono e1, hl, fun H' e' => ?_⟩
    have := kk H' e'
    simpa using this
  · refine q _ _ (e1.trans e2) ?_
    rw [filterMap_some] at hk
    exact Rep.mono (nw_back e1) (.tup (nw_new hp h2) (by
      have := kids_tup hk.1
      unfold tabR
      rw [List.map_map]
      exact this))
end
end RC
namespace RC
open PySem PySem.Spec PyProof.Rows L2
section
variable {P : Program} {w : World} {K : PySem.W.Frag} {mg : Str → Option Value} {base : Heap}
def spDoubles : Sp := fun vs H Q _ => ∃ (r : Nat) (tv : V) (d : D) (T : List (List Int)), vs = [.int r, tv] ∧ r ≤ 100 ∧ Rep H tv d ∧ TabD d T ∧ Sqr (max r 1) T ∧ ∀ v H', Ex H H' → Rep (nw H H') v (crdD (doubles r T)) → Q v H'
theorem flatMap_snoc {α β : Type} (f : α → List β) (l : List α) (x : α) : (l ++ [x]).flatMap f = l.flatMap f ++ f x := by simp
theorem dblRow_len {r a : Nat} {T : List (List Int)} : (dblRow r T a).length = r - (a + 1) := by unfold dblRow; simp
theorem doubles_le (r : Nat) (T : List (List Int)) : ∀ n : Nat, ((List.range n).flatMap (dblRow r T)).length ≤ n * r := by
  intro n
  induction n with
  | zero => simp
  | succ n ih =>
    rw [List.range_succ, flatMap_snoc, List.length_append, dblRow_len, Nat.succ_mul]
    omega
theorem df_doubles (h : Has K mg "raw_doubles" 18) (B : Bi mg) : Df P w K mg base CX0 1 "raw_doubles" spDoubles := by
  refine df_ok h B sc18 cb18 (fun _ _ _ _ _ _ us hl => match us, hl with | [_, _], _ => rfl) (fun vs H Q E ⟨r, tv, d, T, e, _⟩ => by rw [e]; rfl) ?_
  rintro X rfl rfl rfl rfl rfl Z vs H Q E ⟨r, tv, d, T, rfl, hr, rt, ht, hq, q⟩
  have hC := Z.C
  show WB X _ _ [some _, some _, none, none, none, none, none] _
  refine b_new hC (by walk_at "mem") (by walk_at "set") fun p H1 e1 g1 => ?_
  refine b_rng1 Z (by walk_at "mem") (by walk_at "mem") (by walk_at "ev") (m := r) (by omega) (fun a σ' H' => (∃ oa ob oc od, σ' = [some (.int r), some tv, some (.ref p), oa, ob, oc, od]) ∧ Gl H p (((List.range a).flatMap (dblRow r T)).map t3D) H')
    (fun H2 e2 => ⟨⟨_, _, _, _, rfl⟩, g1.mono e2⟩) ?_ ?_
  · rintro a σ' H2 ha ⟨⟨oa, ob, oc, od, rfl⟩, g2⟩
    refine g1_of (by walk_at "set") ?_
    refine b_setV (v := .int ((bef r a : Nat) : Int)) hC (by walk_at "mem") (by walk_at "set") ((ev_mod (by walk_at "ev") (by walk_at "ev") (by omega)).is (by rw [bef_eq ha])) fun H3 e3 => ?_
    refine b_rng2 (lo := a + 1) (hi := r) Z (by walk_at "mem") (by walk_at "mem") ((ev_add (by walk_at "ev") (by walk_at "ev")).is (by simp)) (by walk_at "ev") (by omega) (fun k σ' H' => (∃ oc od, σ' = [some (.int r), some tv, some (.ref p), some (.int (a : Int)), some (.int ((bef r a : Nat) : Int)), oc, od]) ∧ Gl H p (((List.range a).flatMap (dblRow r T) ++ (dblRow r T a).take k).map t3D) H')
      (fun H4 e4 => ⟨⟨_, _, rfl⟩, by rw [List.take_zero, List.append_nil]; exact (g2.mono e3).mono e4⟩) ?_ ?_
    · rintro k σ' H4 hk ⟨⟨oc, od, rfl⟩, g4⟩
      refine g1_of (by walk_at "set") ?_
      have b1 : (((a + 1 + k : Nat) : Int) - 1) = ((a + 1 + k - 1 : Nat) : Int) := by omega
      have hbl := bef_lt (r := r) ha
      refine b_setV (v := .int (twice r T a (a + 1 + k))) hC (by walk_at "mem") (by walk_at "set") ?_ fun H5 e5 => ?_
      · refine (ev_sub (ev_sub (ev_add (eh_tab (p := a) (q := a + 1 + k) (eh_ev (by walk_at "ev") (rt.mono g4.ex)) ht hq (by walk_at "ev") (by walk_at "ev") (by omega) (by omega)) (eh_tab (p := bef r a) (q := a + 1 + k - 1) (eh_ev (by walk_at "ev") (rt.mono g4.ex)) ht hq (by walk_at "ev") ((ev_sub (by walk_at "ev") (by walk_at "ev")).is (by rw [b1])) (by omega) (by omega))) (eh_tab (p := a) (q := a + 1 + k - 1) (eh_ev (by walk_at "ev") (rt.mono g4.ex)) ht hq (by walk_at "ev") ((ev_sub (by walk_at "ev") (by walk_at "ev")).is (by rw [b1])) (by omega) (by omega))) (eh_tab (p := bef r a) (q := a + 1 + k) (eh_ev (by walk_at "ev") (rt.mono g4.ex)) ht hq (by walk_at "ev") (by walk_at "ev") (by omega) (by omega))).is ?_
        rfl
      · have g5 := g4.mono e5
        refine b_app g5 (by walk_at "ev") (er_tup (ns := [(a : Int), ((a + 1 + k : Nat) : Int), twice r T a (a + 1 + k)]) (av_cons (by walk_at "ev") (av_cons (by walk_at "ev") (av_cons (by walk_at "ev") av_nil)))) ?_ fun H6 g6 => b_nil ⟨⟨_, _, rfl⟩, ?_⟩
        · rw [List.length_map, List.length_append, List.length_take]
          have h1 := doubles_le r T a
          have h2 : a * r ≤ 100 * 100 := Nat.mul_le_mul (by omega) hr
          omega
        · have eT : (dblRow r T a).take (k + 1) = (dblRow r T a).take k ++ [((a : Int), ((a + 1 + k : Nat) : Int), twice r T a (a + 1 + k))] := by
            refine take_snoc ?_
            unfold dblRow
            rw [List.getElem?_map, List.getElem?_range hk]
            rfl
          rw [eT, ← List.append_assoc, List.map_append]
          exact g6
    · rintro σ' H4 ⟨⟨oc, od, rfl⟩, g4⟩
      refine b_nil ⟨⟨_, _, _, _, rfl⟩, ?_⟩
      rw [List.range_succ, flatMap_snoc]
      have eT : (dblRow r T a).take (r - (a + 1)) = dblRow r T a := List.take_of_length_le (by rw [dblRow_len]; exact Nat.le_refl _)
      rw [eT] at g4
      exact g4
  · rintro σ' H2 ⟨⟨oa, ob, oc, od, rfl⟩, g2⟩
    refine b_ret ?_
    exact er_tupleOf hC Z.B (by walk_at "mem") g2 (by walk_at "ev") fun v H3 e3 r3 => q v H3 (g2.ex.trans e3) r3
/-! ### raw_cords -/
def spCords : Sp := fun vs H Q _ => ∃ (r : Nat) (tv : V) (d : D) (T : List (List Int)), vs = [.int r, tv] ∧ r ≤ 100 ∧ Rep H tv d ∧ TabD d T ∧ Sqr (max r 1) T ∧ ∀ v H', Ex H H' → Rep (nw H H') v (crdD (cordsOf r T)) → Q v H'
theorem t3_inv {H : Hp} {x : V} {t : T3} (r : Rep H x (t3D t)) : ∃ q, x = .ref q ∧ H q = some (.tup [.int t.1, .int t.2.1, .int t.2.2]) := by
  obtain ⟨a, ys, rfl, hq, ry⟩ := Rep.tup_inv r
  rw [ry.ints_inv] at hq
  exact ⟨a, rfl, hq⟩
theorem df_cords (h : Has K mg "raw_cords" 19) (B : Bi mg) (dD : Df P w K mg base CX0 1 "raw_doubles" spDoubles) : Df P w K mg base CX0 2 "raw_cords" spCords := by
  refine df_ok h B sc19 cb19 (fun _ _ _ _ _ _ us hl => match us, hl with | [_, _], _ => rfl) (fun vs H Q E ⟨r, tv, d, T, e, _⟩ => by rw [e]; rfl) ?_
  rintro X rfl rfl rfl rfl rfl Z vs H Q E ⟨r, tv, d, T, rfl, hr, rt, ht, hq, q⟩
  have hC := Z.C
  show WB X _ _ [some _, some _, none, none, none] _
  refine b_ret ?_
  refine ((er_et (l := cordsOf r T) (f := fun t : T3 => [t.1, t.2.1, t.2.2]) (et_tupleO hC Z.B (by walk_at "mem") ?_)).is (d' := crdD (cordsOf r T)) rfl).go q
  have e : ((cordsOf r T).map fun t => HO.tup ([t.1, t.2.1, t.2.2].map V.int)) = (doubles r T).filterMap fun t => if decide (0 < t.2.2) = true then some (HO.tup [V.int t.1, .int t.2.1, .int (t.2.2 / 2)]) else none := by
    unfold cordsOf
    rw [List.map_filterMap]
    congr 1
    funext t
    by_cases h : 0 < t.2.2
    · simp [h]
    · simp [h]
  rw [e]
  refine ec_compX (own := [("a", 2), ("b", 3), ("twice", 4)]) (doubles r T) _ hC Z.calm (by decide +kernel) (srx_tup (ds := (doubles r T).map t3D) (er_call (d := crdD (doubles r T)) hC (Z.cal dD) (by walk_at "mem") (av_cons (by walk_at "ev") (av_cons (by walk_at "ev") av_nil)) fun H1 e1 Q k => ⟨r, tv, d, T, rfl, hr, rt.mono e1, ht, hq, k⟩)) gT3_mon (fun Y b => pgT3B b (b.ctx (M' := M19_0) (L' := L19_0) (G' := G19_0) hC (by decide +kernel)) Z.calm (by walk_at "mem") (by walk_at "mem") (by walk_at "mem")) (fun xs B h => by rw [h.1.len, List.length_map]) ?_ (by walk_at "wipe") ?_
  · have h1 := doubles_le r T r
    have h2 : r * r ≤ 100 * 100 := Nat.mul_le_mul hr hr
    unfold doubles
    omega
  intro xs B hB k x t Hc h1 h2 ex eB
  obtain ⟨dx, h3, rx⟩ := hB.1.get h1
  rw [List.getElem?_map, h2] at h3
  obtain rfl : t3D t = dx := Option.some.inj h3
  obtain ⟨q, rfl, hq⟩ := t3_inv rx
  refine g3_of (by walk_at "set3") (sqT (eB _ _ hq)) ⟨rfl, fun Y b => ?_⟩
  have hY := b.ctx (M' := M19_0) (L' := L19_0) (G' := G19_0) hC (by decide +kernel)
  exact st_ifo (tsv_one (by walk_at "tv")) fun _ => eo_tup (av_cons (by walk_at "ev") (av_cons (by walk_at "ev") (av_cons (ev_fdiv (by walk_at "ev") (by walk_at "ev") (by decide)) av_nil)))
end
end RC
/-! combined -/
namespace RC
open PySem PySem.Spec PyProof.Rows L2
theorem perm_uniq {α : Type} {le : α → α → Prop} (as : ∀ a b, le a b → le b a → a = b) : ∀ {l m : List α}, l.Perm m → l.Pairwise le → m.Pairwise le → l = m
  | [], m, h, _, _ => (List.Perm.eq_nil h.symm).symm
  | x :: l, [], h, _, _ => absurd h.length_eq (by simp)
  | x :: l, y :: m, h, hl, hm => by
    have e : x = y := by
      rcases List.mem_cons.mp (h.mem_iff.mp (List.mem_cons_self (a := x) (l := l))) with e | hx
      · exact e
      rcases List.mem_cons.mp (h.mem_iff.mpr (List.mem_cons_self (a := y) (l := m))) with e | hy
      · exact e.symm
      exact as x y ((List.pairwise_cons.mp hl).1 y hy) ((List.pairwise_cons.mp hm).1 x hx)
    subst e
    rw [perm_uniq as h.cons_inv (List.pairwise_cons.mp hl).2 (List.pairwise_cons.mp hm).2]
theorem paired_get {α β : Type} {F : α → β → Prop} {l : List α} {m : List β} (h : Paired F l m) : ∀ {i : Nat} {x : α}, l[i]? = some x → ∃ y, m[i]? = some y ∧ F x y := by
  induction h with
  | nil => intro i x hx; simp at hx
  | cons r _ ih =>
    intro i x hx
    cases i with
    | zero =>
      rw [List.getElem?_cons_zero] at hx
      cases hx
      exact ⟨_, rfl, r⟩
    | succ i =>
      rw [List.getElem?_cons_succ] at hx
      exact ih hx
def prK (t : T3) : Int × Int := (t.1, t.2.1)
theorem asc_sorted {L : List T3} (h : L.Pairwise t3lt) : (L.map prK).Pairwise (fun a b => SrtO.lexB b a = false) := by
  rw [List.pairwise_map]
  refine h.imp fun {a b} q => ?_
  rw [SrtO.lexB_no]
  unfold t3lt at q
  simp only [prK]
  omega
theorem sorted_asc {L : List T3} {qs : List (Int × Int)} (h : L.Pairwise t3lt) (p : qs.Perm (L.map prK)) (s : qs.Pairwise (fun a b => SrtO.lexB b a = false)) : qs = L.map prK := by
  refine perm_uniq (le := fun a b : Int × Int => SrtO.lexB b a = false) (fun a b h1 h2 => ?_) p s (asc_sorted h)
  rw [SrtO.lexB_no] at h1 h2
  obtain ⟨a1, a2⟩ := a
  obtain ⟨b1, b2⟩ := b
  simp only at h1 h2
  simp only [Prod.mk.injEq]
  omega
theorem pk_inj {p q : Int × Int} (h : pk p = pk q) : p = q := by
  unfold pk at h
  injection h with h1 h2
  injection h2 with h2 _
  exact Prod.ext (Sum.inl.inj h1) (Sum.inl.inj h2)
def kvL (L : List T3) : List (List Key × V) := L.map fun t => (pk (prK t), V.int t.2.2)
theorem kvL_none {L : List T3} {t : T3} (h : ∀ u ∈ L, prK u ≠ prK t) : valV (kvL L) (pk (prK t)) = none := by
  induction L with
  | nil => rfl
  | cons u L ih =>
    show valV ((pk (prK u), _) :: kvL L) _ = none
    rw [valV_neg fun e => h u List.mem_cons_self (pk_inj e)]
    exact ih fun v hv => h v (List.mem_cons_of_mem _ hv)
theorem kvL_put {L : List T3} {t : T3} (h : ∀ u ∈ L, prK u ≠ prK t) : putK (kvL L) (pk (prK t)) (.int t.2.2) = kvL (L ++ [t]) := by
  have e : ((kvL L).any fun kv => decide (kv.1 = pk (prK t))) = false := by
    rw [List.any_eq_false]
    intro kv hkv
    obtain ⟨u, hu, rfl⟩ := List.mem_map.mp hkv
    simpa using fun e => h u hu (pk_inj e)
  unfold putK
  rw [e, if_neg Bool.false_ne_true]
  unfold kvL
  rw [List.map_append]; rfl
theorem kvL_get {L : List T3} {t : T3} (ht : t ∈ L) (h : L.Pairwise fun a b => prK a ≠ prK b) : valV (kvL L) (pk (prK t)) = some (.int t.2.2) := by
  induction L with
  | nil => cases ht
  | cons u L ih =>
    show valV ((pk (prK u), V.int u.2.2) :: kvL L) _ = _
    by_cases e : prK u = prK t
    · rw [valV_pos (by rw [e])]
      rcases List.mem_cons.mp ht with rfl | ht
      · rfl
      · exact absurd e ((List.pairwise_cons.mp h).1 t ht)
    · rw [valV_neg fun z => e (pk_inj z)]
      rcases List.mem_cons.mp ht with rfl | ht
      · exact absurd rfl e
      · exact ih ht (List.pairwise_cons.mp h).2
theorem asc_ne {L : List T3} (h : L.Pairwise t3lt) : L.Pairwise fun a b => prK a ≠ prK b := h.imp fun {a b} q e => by
  unfold t3lt at q
  unfold prK at e
  obtain ⟨e1, e2⟩ := Prod.mk.inj e
  omega
theorem srx_sortedDT {X : Cx} {S : Scope} {N M Ls G : List Str} {σ : St} {H : Hp} {tg a : Expr} {p : Addr} {L : List T3} {pos pos2 : Pos} (C : Ctx X S N M Ls G) (hc : X.calm = true) (hm : X.mg "sorted" = none) (hg : ("sorted" : Str) ∈ G) (ha : Ev X a σ H (.ref p)) (h1 : H p = some (.dT (kvL L))) (asc : L.Pairwise t3lt)
    (he : starEach (a :: []) X.env = (false, eval a X.env) :: starEach [] X.env := by rfl) :
    SrX X tg (.Call (.Name "sorted" pos2) [a] [] pos) σ H (fun xs B => Paired (fun y (q : Int × Int) => ∃ b, y = V.ref b ∧ B b = some (.tup [.int q.1, .int q.2])) xs (L.map prK)) := by
  refine ⟨_, pi_list pe_we, fun H2 e2 R k => we_of (pe_callB (cr_sortedDT hc) (C.glo hg) hm bt_sorted pa_wa (by decide) (by decide) he rfl) ?_⟩
  refine a_cons (ha.run H2 e2 _ fun H3 e3 => a_nil ?_) he
  have h3 := e3 _ _ (e2 _ _ h1)
  refine ⟨p, kvL L, L.map prK, rfl, .inl h3, ?_, fun l ys qs hl' pm st pr => ?_⟩
  · unfold kvL
    rw [List.map_map, List.map_map]; rfl
  obtain rfl := sorted_asc asc pm st
  exact ⟨l, rfl, ⟨_, sqL upd_same⟩, k _ _ (upd H3 l (.lst ys)) ys (e3.trans (Ex.new hl')) Ex.rfl' (paired_mapM pr fun y _ q ⟨b, e, h⟩ => ⟨b, e, (upd_ne (ne_of_none h hl')).trans h⟩) (wk_list (K := X.K) (sqL upd_same))⟩
section
variable {P : Program} {w : World} {K : PySem.W.Frag} {mg : Str → Option Value} {base : Heap}
def spComb : Sp := fun vs H Q _ => ∃ (c : V) (r : Nat) (L : List T3), vs = [c] ∧ Nf r L ∧ Rep H c (crdD L) ∧ L.length < 100000 ∧ ∀ v H', Ex H H' → Rep (nw H H') v (crdD L) → Q v H'
theorem df_comb (h : Has K mg "combined" 15) (B : Bi mg) : Df P w K mg base CX0 1 "combined" spComb := by
  refine df_ok h B sc15 cb15 (fun _ _ _ _ _ _ us hl => match us, hl with | [_], _ => rfl) (fun vs H Q E ⟨c, r, L, e, _⟩ => by rw [e]; rfl) ?_
  rintro X rfl rfl rfl rfl rfl Z vs H Q E ⟨c, r, L, rfl, hn, rc, hl, q⟩
  have hC := Z.C
  have hu : X.A.units + 1 < cLine := by have := Z.room.units; omega
  show WB X _ _ [some _, none, none, none, none, none] _
  refine b_set hC (by walk_at "mem") (by walk_at "set") (we_of pe_dnewT fun p hp => ?_)
  refine b_eachD (g := gT3 X.K N15 "a" "b" "n") Z (pgT3 hC Z.calm (by walk_at "mem") (by walk_at "mem") (by walk_at "mem")) (by walk_at "ev") rc (Ex.new hp) rfl (fun i σ' H' => (∃ oa ob oc od, σ' = [some c, some (.ref p), oa, ob, oc, od]) ∧ Ex H (hid p H') ∧ H' p = some (.dT (kvL (L.take i)))) ?_ ?_ ?_ ?_
  · exact fun H1 e1 => ⟨⟨_, _, _, _, rfl⟩, (hid_of (Ex.new hp) hp).trans (hid_mono e1), e1 _ _ upd_same⟩
  · exact fun i σ' H' z => z.2.1.trans hid_ex
  · rintro i x dx σ' H1 hi rx ⟨⟨oa, ob, oc, od, rfl⟩, e1, h1⟩
    rw [List.getElem?_map] at hi
    obtain ⟨t, ht, rfl⟩ := Option.map_eq_some_iff.mp hi
    obtain ⟨u, rfl, hu'⟩ := t3_inv rx
    have tin := hn.inr t (List.mem_of_getElem? ht)
    refine g3_of (by walk_at "set3") (sqT ((e1.trans hid_ex) _ _ hu')) ?_
    have eT : L.take (i + 1) = L.take i ++ [t] := take_snoc ht
    have hne : ∀ v ∈ L.take i, prK v ≠ prK t := fun v hv e => by
      have pw := asc_ne hn.asc
      rw [← List.take_append_drop (i + 1) L, eT, List.append_assoc, List.pairwise_append] at pw
      exact pw.2.2 v hv t (by simp) e
    refine b_yes (tv_w ((tw_and (t := true) (u := true) ((tv_c (cv_neI (by walk_at "ev") (by walk_at "ev"))).is (by simp; omega)) fun _ => tw_and1 ((tv_c (cv_gt (by walk_at "ev") (by walk_at "ev"))).is (by simp; omega)))) ) fun H2 e2 => ?_
    refine b_set hC (by walk_at "mem") (by walk_at "set") ((eo_tup (vs := [.int t.1, .int t.2.1]) (av_cons ((ev_min2 hC Z.B Z.calm (by walk_at "mem") (by walk_at "ev") (by walk_at "ev")).is (by rw [if_neg (by omega)])) (av_cons ((ev_max2 hC Z.B Z.calm (by walk_at "mem") (by walk_at "ev") (by walk_at "ev")).is (by rw [if_pos (by omega)])) av_nil))).go fun tp H3 htp e3 h3 => ?_)
    refine b_cons (ws_of (ps_dput hu pe_we pe_we pe_we rfl) ?_)
    refine ((ev_add (i := 0) (j := t.2.2) ?_ (by walk_at "ev")).is (z := .int t.2.2) (by rw [Int.zero_add])).go fun H7 e37 => ?_
    · refine ⟨fun Ha ea Qa ka => we_of (pe_dget2 hu pe_we pe_we pe_we ⟨rfl, rfl, rfl, rfl⟩) ?_⟩
      refine (show Ev X _ _ H3 (.ref p) from by walk_at "ev").run Ha ea _ fun H4 e4 => ⟨p, rfl, .inr ⟨_, .inl (e4 _ _ (ea _ _ (e3 _ _ (e2 _ _ h1))))⟩, ?_⟩
      refine (show Ev X _ _ H3 (.ref tp) from by walk_at "ev").run H4 (ea.trans e4) _ fun H5 e5 => ?_
      refine (show Ev X _ _ H3 (.int 0) from by walk_at "ev").run H5 ((ea.trans e4).trans e5) _ fun H6 e6 => ?_
      have e46 : Ex Ha H6 := (e4.trans e5).trans e6
      have e36 : Ex H3 H6 := ea.trans e46
      refine ⟨none, by rw [← kvL_none hne]; exact DGet.t (e36 _ _ (e3 _ _ (e2 _ _ h1))) (e36 _ _ h3), ka H6 e46⟩
    refine (show Ev X _ _ H7 (.ref p) from by walk_at "ev").go fun H8 e8 => ?_
    refine (show Ev X _ _ H8 (.ref tp) from by walk_at "ev").go fun H9 e9 => ?_
    have e39 : Ex H3 H9 := (e37.trans e8).trans e9
    have h9 := e39 _ _ (e3 _ _ (e2 _ _ h1))
    refine ⟨p, _, rfl, DPut.t (k := pk (prK t)) h9 (e39 _ _ h3) ?_, b_nil (b_nil ⟨⟨_, _, _, _, rfl⟩, ?_, ?_⟩)⟩
    · unfold kvL
      rw [List.length_map, List.length_take]
      exact szLt (by omega)
    · rw [hid_upd]
      exact e1.trans (hid_mono ((e2.trans e3).trans e39))
    · rw [upd_same, eT, ← kvL_put hne]
  · rintro σ' H1 ⟨⟨oa, ob, oc, od, rfl⟩, e1, h1⟩
    rw [List.length_map, List.take_length] at h1
    refine b_ret ?_
    have pH1 := h1
    refine ((er_et (l := L) (f := fun t : T3 => [t.1, t.2.1, t.2.2]) (et_tupleO hC Z.B (by walk_at "mem") ?_)).is (d' := crdD L) rfl).go fun v H2 e2 r2 => q v H2 ((e1.trans hid_ex).trans e2) (r2.mono (nw_back (e1.trans hid_ex)))
    rw [← filterMap_some]
    refine ec_compX (own := [("a", 2), ("b", 3)]) L _ hC Z.calm (by decide +kernel) (srx_sortedDT hC Z.calm Z.B.sorted (by walk_at "mem") (by walk_at "ev") h1 hn.asc) gT2_mon (fun Y b => pgT2B b (b.ctx (M' := M15_0) (L' := L15_0) (G' := G15_0) hC (by decide +kernel)) Z.calm (by walk_at "mem") (by walk_at "mem")) (fun xs B h => by rw [paired_len h, List.length_map]) hl (by walk_at "wipe") ?_
    intro xs B hB k x t Hc k1 k2 ex eB
    obtain ⟨b, rfl, hb⟩ : ∃ b, x = V.ref b ∧ B b = some (.tup [.int t.1, .int t.2.1]) := by
      obtain ⟨y, hy, f⟩ := paired_get hB k1
      rw [List.getElem?_map, k2] at hy
      obtain rfl : prK t = y := Option.some.inj hy
      exact f
    refine g2_of (by walk_at "set2") (sqT (eB _ _ hb)) ⟨rfl, fun Y bk => ?_⟩
    have ZY := Z.blk (M' := M15_0) (L' := L15_0) (G' := G15_0) bk (by decide +kernel)
    have hY := ZY.C
    have hu' : Y.A.units + 1 < cLine := by have := ZY.room.units; omega
    refine st_allo (eo_tup (av_cons (by walk_at "ev") (av_cons (by walk_at "ev") (av_cons (v := .int t.2.2) ?_ av_nil))))
    refine ⟨fun H2 e2 Q2 kk => we_of (pe_dget hu' pe_we pe_we (by intro _ _; rfl)) ?_⟩
    refine (show Ev Y _ _ Hc (.ref p) from by walk_at "ev").run H2 e2 _ fun H3 e3 => ?_
    refine (eo_tup (vs := [.int t.1, .int t.2.1]) (av_cons (by walk_at "ev") (av_cons (by walk_at "ev") av_nil))).run H3 (e2.trans e3) _ fun tp H4 htp e4 h4 => ?_
    refine ⟨p, .int t.2.2, rfl, ?_, kk H4 (e3.trans e4)⟩
    rw [← kvL_get (List.mem_of_getElem? k2) (asc_ne hn.asc)]
    exact DGet.t (e4 _ _ (e3 _ _ (e2 _ _ (ex _ _ h1)))) h4
end
end RC
/-! is_pin, is_entry; the class Lot. -/
namespace RC
open PySem PySem.Spec PyProof.Rows L2
def D.pin (r : Nat) : D → Bool
  | .int i => decide (0 ≤ i) && decide (i < (r : Int))
  | _ => false
theorem D.whole_int {d : D} (h : d.whole = true) : ∃ i, d = .int i := by cases d <;> first | exact ⟨_, rfl⟩ | cases h
section
variable {X : Cx} {S : Scope} {N M L G : List Str} {n k : Nat} {σ : St} {H H' Hb : Hp} {a b c e : Expr} {es : List Expr} {rest : List Stmt} {p p' pos pos2 pos3 : Pos} {v x y z : V} {En : Ends} {nm f : Str} {g : TG} {tg : Expr}
/-- target = e -/
theorem b_setG (hg : PG X tg g) (h : WE X e σ H fun v H1 => g v σ H1 fun σ2 H2 => WB X rest En σ2 H2) (hs : swapsWithSole [tg] e pos.line X.env = pure false := by rfl) (hw : swappedStores [tg] e X.env = pure none := by rfl)
    (h1 : (assignEach [tg] X.env).map (·.2) = [assign tg X.env] := by rfl) : WB X (.Assign [tg] e pos :: rest) En σ H := b_cons (ws_of (ps_asg pe_we hg hs hw h1) h)
theorem Eh.go {d : D} {Q : VK} (h : Eh X e σ H d) (q : ∀ v H2, Ex H H2 → Rep H2 v d → Q v H2) : WE X e σ H Q := by
  obtain ⟨v, h1, r⟩ := h.ex
  exact h1.go fun H2 e2 => q v H2 e2 (r.mono e2)
end
section
variable {P : Program} {w : World} {K : PySem.W.Frag} {mg : Str → Option Value} {base : Heap}
def spPin : Sp := fun vs H Q _ => ∃ (r : Nat) (v : V) (d : D), vs = [.int r, v] ∧ Rep H v d ∧ ∀ H', Ex H H' → Q (.bl (d.pin r)) H'
theorem df_pin (h : Has K mg "is_pin" 24) (B : Bi mg) (dW : Df P w K mg base CX0 1 "is_whole" spWhole) : Df P w K mg base CX0 2 "is_pin" spPin := by
  refine df_ok h B sc24 cb24 (fun _ _ _ _ _ _ us hl => match us, hl with | [_, _], _ => rfl) (fun vs H Q E ⟨r, v, d, e, _⟩ => by rw [e]; rfl) ?_
  rintro X rfl rfl rfl rfl rfl Z vs H Q E ⟨r, v, d, rfl, rv, q⟩
  have hC := Z.C
  show WB X _ _ [some _, some _] _
  refine b_ret ?_
  refine ((ev_and (t := d.whole) (u := d.pin r) (ev_call hC (Z.cal dW) (by walk_at "mem") (av_cons (by walk_at "ev") av_nil) fun H1 e1 Q k => ⟨v, d, rfl, rv.mono e1, k⟩) fun hw => ?_).is (z := .bl (d.pin r)) ?_).go q
  · obtain ⟨i, rfl⟩ := D.whole_int hw
    obtain rfl := rv.int_inv
    exact ev_one (ev_leLt (by walk_at "ev") (by walk_at "ev") (by walk_at "ev"))
  · cases d <;> rfl
def goodT (r : Nat) (t : T3) : Prop := 0 ≤ t.1 ∧ t.1 < (r : Int) ∧ 0 ≤ t.2.1 ∧ t.2.1 < (r : Int) ∧ t.1 ≠ t.2.1 ∧ 1 ≤ t.2.2
def spEntry : Sp := fun vs H Q _ => ∃ (r : Nat) (v : V) (t : T3), vs = [.int r, v] ∧ Rep H v (t3D t) ∧ goodT r t ∧ ∀ H', Ex H H' → Q (.bl true) H'
theorem df_entry (h : Has K mg "is_entry" 25) (B : Bi mg) (dW : Df P w K mg base CX0 1 "is_whole" spWhole) (dP : Df P w K mg base CX0 2 "is_pin" spPin) : Df P w K mg base CX0 3 "is_entry" spEntry := by
  refine df_ok h B sc25 cb25 (fun _ _ _ _ _ _ us hl => match us, hl with | [_, _], _ => rfl) (fun vs H Q E ⟨r, v, d, e, _⟩ => by rw [e]; rfl) ?_
  rintro X rfl rfl rfl rfl rfl Z vs H Q E ⟨r, v, t, rfl, rv, ⟨g1, g2, g3, g4, g5, g6⟩, q⟩
  have hC := Z.C
  show WB X _ _ [some _, some _, none, none, none] _
  have eE : ∀ {H1 : Hp} {e : Expr} {σ : St}, Ex H H1 → Ev X e σ H1 v → Eh X e σ H1 (t3D t) := fun e1 he => eh_ev he (rv.mono e1)
  refine b_no (tv_w ((tw_or (t := false) (u := false) ((tv_not (tv_val (eh_isSeq hC Z.B (by walk_at "mem") (by walk_at "mem") (by walk_at "mem") (eE Ex.rfl' (by walk_at "ev"))))).is rfl) fun _ => tw_or1 ((tv_c (cv_neI (eh_len hC Z.B (by walk_at "mem") (eE Ex.rfl' (by walk_at "ev")) rfl) (by walk_at "ev"))).is rfl)))) fun H1 e1 => ?_
  obtain ⟨u, rfl, hu⟩ := t3_inv (rv.mono e1)
  refine b_setG (g := gT3 X.K N25 "a" "b" "n") (pgT3 hC Z.calm (by walk_at "mem") (by walk_at "mem") (by walk_at "mem")) ((show Ev X _ _ H1 (.ref u) from by walk_at "ev").go fun H2 e2 => g3_of (by walk_at "set3") (sqT (e2 _ _ hu)) ?_)
  refine b_ret ?_
  have pin : ∀ {e : Expr} {p1 p2 p3 : Pos} {i : Int} {σ : St}, 0 ≤ i → i < (r : Int) → Ev X (.Name "pins" p3) σ H2 (.int r) → Ev X e σ H2 (.int i) → starEach [e] X.env = [(false, eval e X.env)] → Ev X (.Call (.Name "is_pin" p1) [.Name "pins" p3, e] [] p2) σ H2 (.bl true) := fun {e p1 p2 p3 i σ} h0 h1 hp he hs =>
    ev_call hC (Z.cal dP) (by walk_at "mem") (av_cons hp (av_cons he av_nil hs)) (fun H3 e3 Q k => ⟨r, _, .int i, rfl, .int i, fun H' e' => by
      have : (D.int i).pin r = true := by simp only [D.pin]; rw [decide_eq_true h0, decide_eq_true h1]; rfl
      rw [this]; exact k H' e'⟩) rfl (by rw [hs]; rfl)
  refine ((ev_and (t := true) (u := true) (pin g1 g2 (by walk_at "ev") (by walk_at "ev") rfl) fun _ => ev_and (t := true) (u := true) (pin g3 g4 (by walk_at "ev") (by walk_at "ev") rfl) fun _ => ev_and (t := true) (u := true) ((ev_c (cv_neI (by walk_at "ev") (by walk_at "ev"))).is (by simp [g5])) fun _ => ev_and (t := true) (u := true) (ev_call hC (Z.cal dW) (by walk_at "mem") (av_cons (by walk_at "ev") av_nil) fun H1 e1 Q k => ⟨_, .int _, rfl, .int _, k⟩) fun _ => ev_one ((ev_c (cv_ge (by walk_at "ev") (by walk_at "ev"))).is (by simp [g6])))).go fun H3 e3 => q _ ((e1.trans e2).trans e3)
/-! ### Lot -/
structure LotK (K : PySem.W.Frag) (mg : Str → Option Value) (C : Addr) : Prop where
  mg : mg "Lot" = some (.ref C)
  cls : Cls K C
  nP : NoAttr K C "pins"
  nC : NoAttr K C "cords"
  init : ∃ (f : Addr) (fd : FuncData) (dv : V), Mk K C f ∧ FunD K "__init__" "Lot.__init__" (defArgs (topM 27 0)) (defBody (topM 27 0)) (defScope (topM 27 0)) [dv] [] f fd
  eq : ∃ (f : Addr) (fd : FuncData), PySem.W.findIn K (.ref C) "__eq__" = some (some (.ref f)) ∧ PySem.W.isFn K (.ref f) = true ∧ FunD K "__eq__" "Lot.__eq__" (defArgs (topM 27 3)) (defBody (topM 27 3)) (defScope (topM 27 3)) [] [] f fd
  table : ∃ (p f : Addr) (fd : FuncData), PropOf K C "table" p f ∧ FunD K "table" "Lot.table" (defArgs (topM 27 8)) (defBody (topM 27 8)) (defScope (topM 27 8)) [] [] f fd
  total : ∃ (f : Addr) (fd : FuncData), Meth K C "total" f ∧ FunD K "total" "Lot.total" (defArgs (topM 27 11)) (defBody (topM 27 11)) (defScope (topM 27 11)) [] [] f fd
  ha : PySem.W.findIn K (.ref C) "__class__" = some (some (.builtin "object.__class__"))
  hn : PySem.W.specialIn K (.builtin "object.__class__") "__get__" = some (some (.builtin "getset_descriptor.__get__"))
  htk : PySem.W.takesIn K (.builtin "object.__class__") = some true
  hm : PySem.W.mroIn K C (.type "object") = some true
/-- a lot on r pins of the cords L stands at v -/
def LotAt (C : Addr) (H : Hp) (v : V) (r : Nat) (L : List T3) : Prop := ∃ (x dx : Addr) (fs : List (Str × V)) (cv : V), v = .ref x ∧ H x = some (.ins C dx fs) ∧ fs.lookup (Str.ofString "pins") = some (.int r) ∧ fs.lookup (Str.ofString "cords") = some cv ∧ fs.lookup (Str.ofString "total") = none ∧ Rep H cv (crdD L)
theorem LotAt.mono {C : Addr} {H H' : Hp} {v : V} {r : Nat} {L : List T3} (h : LotAt C H v r L) (e : Ex H H') : LotAt C H' v r L := by
  obtain ⟨x, dx, fs, cv, h1, h2, h3, h4, h5, h6⟩ := h
  exact ⟨x, dx, fs, cv, h1, e _ _ h2, h3, h4, h5, h6.mono e⟩
section
variable {X : Cx} {S : Scope} {N M G Ls : List Str} {n : Nat} {σ : St} {H : Hp} {e : Expr} {v : V} {C : Addr} {r : Nat} {L : List T3} {pos pos2 pos3 : Pos}
theorem ev_pins (k : LotK X.K X.mg C) (he : Ev X e σ H v) (l : LotAt C H v r L) (hb : attributeBase e "pins" X.env (eval e X.env) = eval e X.env := by rfl) : Ev X (.Attribute e "pins" pos) σ H (.int r) := by
  obtain ⟨x, dx, fs, cv, rfl, h2, h3, h4, h5, h6⟩ := l
  exact ev_pe (pe_fld pe_we hb) fun H1 e1 Q q => he.run H1 e1 _ fun H2 e2 => ⟨x, C, dx, fs, _, rfl, e2 _ _ (e1 _ _ h2), k.cls, k.nP, h3, q H2 e2⟩
theorem eh_cords (k : LotK X.K X.mg C) (he : Ev X e σ H v) (l : LotAt C H v r L) (hb : attributeBase e "cords" X.env (eval e X.env) = eval e X.env := by rfl) : Eh X (.Attribute e "cords" pos) σ H (crdD L) := by
  obtain ⟨x, dx, fs, cv, rfl, h2, h3, h4, h5, h6⟩ := l
  exact ⟨cv, ev_pe (pe_fld pe_we hb) fun H1 e1 Q q => he.run H1 e1 _ fun H2 e2 => ⟨x, C, dx, fs, _, rfl, e2 _ _ (e1 _ _ h2), k.cls, k.nC, h4, q H2 e2⟩, h6⟩
theorem ev_cords {x dx : Addr} {fs : List (Str × V)} {cv : V} (k : LotK X.K X.mg C) (he : Ev X e σ H (.ref x)) (hx : H x = some (.ins C dx fs)) (hf : fs.lookup (Str.ofString "cords") = some cv) (hb : attributeBase e "cords" X.env (eval e X.env) = eval e X.env := by rfl) : Ev X (.Attribute e "cords" pos) σ H cv :=
  ev_pe (pe_fld pe_we hb) fun H1 e1 Q q => he.run H1 e1 _ fun H2 e2 => ⟨x, C, dx, fs, _, rfl, e2 _ _ (e1 _ _ hx), k.cls, k.nC, hf, q H2 e2⟩
/-- isinstance(lot, Lot) -/
theorem ev_isLot (C' : Ctx X S N M Ls G) (B : Bi X.mg) (k : LotK X.K X.mg C) (hg : ("isinstance" : Str) ∈ G) (hg2 : ("Lot" : Str) ∈ G) (he : Ev X e σ H v) (l : LotAt C H v r L) (hs : starEach (e :: (.Name "Lot" pos3) :: []) X.env = (false, eval e X.env) :: starEach ((.Name "Lot" pos3) :: []) X.env := by rfl) :
    Ev X (.Call (.Name "isinstance" pos2) [e, .Name "Lot" pos3] [] pos) σ H (.bl true) := by
  obtain ⟨x, dx, fs, cv, rfl, h2, h3, h4, h5, h6⟩ := l
  have hc : Ev X (.Name "Lot" pos3) σ H (.ref C) := ev_pe (pe_glob (v := .ref C) (C'.glo hg2) k.mg rfl) fun H1 _ Q k => k H1 Ex.rfl'
  exact ev_callB C' call_isi hg B.isinstance bt_isinstance (av_cons he (av_cons hc av_nil) hs) (fun H1 e1 Q q => ⟨.ref x, .ref C, .ref C, .ref C, true, rfl, .own C, .base (.ins (e1 _ _ h2) k.cls k.ha k.hn k.htk k.hm), by unfold PySem.W.kitOne; rw [if_pos (by simp)], q⟩) (by decide) (by decide) hs rfl
end
end
end RC
/-! Tuples of tuples of ints compared; Lot's methods. -/
namespace RC
open PySem PySem.Spec PyProof.Rows L2
def ttD (ll : List (List Int)) : D := .tup (ll.map fun l => D.tup (l.map D.int))
def iP (l : List Int) : PyData := .tuple (l.map PyData.int)
def ttP (ll : List (List Int)) : PyData := .tuple (ll.map iP)
theorem crd_tt (L : List T3) : crdD L = ttD (L.map fun t => [t.1, t.2.1, t.2.2]) := by
  unfold crdD ttD
  rw [List.map_map]; rfl
theorem rows_tt (T : List (List Int)) : rowsT T = ttD T := rfl
theorem lay_i : ∀ l : List Int, PyData.canLayAll0 (l.map PyData.int) = true
  | [] => rfl
  | _ :: l => by rw [List.map_cons, PyData.canLayAll0, lay_i l]; rfl
theorem lay_t : ∀ ll : List (List Int), PyData.canLayAll0 (ll.map iP) = true
  | [] => rfl
  | l :: ll => by
    rw [List.map_cons, PyData.canLayAll0, lay_t ll, iP, PyData.canLay0, lay_i l]; rfl
theorem dep_i : ∀ l : List Int, PyData.depthAll (l.map PyData.int) = 0
  | [] => rfl
  | _ :: l => by rw [List.map_cons, PyData.depthAll, dep_i l]; rfl
theorem dep_t : ∀ ll : List (List Int), PyData.depthAll (ll.map iP) ≤ 1
  | [] => Nat.zero_le _
  | l :: ll => by
    rw [List.map_cons, PyData.depthAll, iP, PyData.depth, dep_i l]
    have := dep_t ll
    omega
theorem shaped_tt (ll : List (List Int)) : SeqAt.shaped (ttP ll) = true := by
  unfold SeqAt.shaped ttP
  rw [PyData.canLay0, lay_t ll, PyData.depth]
  have := dep_t ll
  rw [decide_eq_true (by omega)]; rfl
theorem eqv_tt (ll : List (List Int)) : PyData.eqv (ttP ll) (ttP ll) = true := SeqAt.eqv_refl _ (SeqAt.canLay_of_shaped (shaped_tt ll))
theorem dp_i {K : PySem.W.Frag} {H : Hp} : ∀ (l : List Int), DpAll K H (l.map V.int) (l.map PyData.int)
  | [] => .nil
  | i :: l => .cons (.int i) (dp_i l)
theorem dp_t {K : PySem.W.Frag} {H : Hp} : ∀ {ll : List (List Int)} {xs : List V}, RepL H xs (ll.map fun l => D.tup (l.map D.int)) → DpAll K H xs (ll.map iP)
  | [], _, h => by cases h; exact .nil
  | l :: ll, _, h => by
    cases h with
    | cons q h =>
      obtain ⟨a, ys, rfl, hy, ry⟩ := q.tup_inv
      rw [ry.ints_inv] at hy
      exact .cons (.tup (sqT hy) (dp_i l)) (dp_t h)
theorem dp_tt {K : PySem.W.Frag} {H : Hp} {v : V} {ll : List (List Int)} (r : Rep H v (ttD ll)) : Dp K H v (ttP ll) := by
  obtain ⟨a, xs, rfl, h, rx⟩ := Rep.tup_inv (ds := ll.map fun l => D.tup (l.map D.int)) r
  exact .tup (sqT h) (dp_t rx)
section
variable {X : Cx} {S : Scope} {N M G Ls : List Str} {n k : Nat} {σ : St} {H : Hp} {a b e o : Expr} {es : List Expr} {rest : List Stmt} {v : V} {C x dx : Addr} {f : Str} {fs : List (Str × V)} {r : Nat} {L : List T3} {p pos pos2 pos3 : Pos} {ll : List (List Int)} {En : Ends} {Q : VK}
theorem cv_eqT (hu : X.A.units + 64 < cLine) (ha : Eh X a σ H (ttD ll)) (hb : Eh X b σ H (ttD ll)) : Cv X .Eq a b σ H true := by
  obtain ⟨x, h1, r1⟩ := ha.ex
  obtain ⟨y, h2, r2⟩ := hb.ex
  exact cv_of (op_eqD hu) h1 h2 (fun H1 e1 Q q => ⟨ttP ll, ttP ll, dp_tt (r1.mono e1), dp_tt (r2.mono e1), shaped_tt ll, shaped_tt ll, by rw [eqv_tt]; exact q⟩) (nomark _)
theorem cv_neT (hu : X.A.units + 64 < cLine) (ha : Er X a σ H (ttD ll)) (hb : Eh X b σ H (ttD ll)) : Cv X .NotEq a b σ H false := by
  obtain ⟨y, h2, r2⟩ := hb.ex
  exact ⟨_, op_neD hu, nomark _, fun H1 e1 Q q => ha.run H1 e1 _ fun v H2 e2 r => h2.run H2 (e1.trans e2) _ fun H3 e3 =>
    ⟨ttP ll, ttP ll, dp_tt (r.mono (nw_ex.trans e3)), dp_tt (r2.mono ((e1.trans e2).trans e3)), shaped_tt ll, shaped_tt ll, by rw [eqv_tt]; exact q H3 (e2.trans e3)⟩⟩
/-- o.f = e, an own instance's -/
theorem b_fld (c : Cls X.K C) (hno : NoAttr X.K C f) (ho : Ev X o σ H (.ref x)) (hx : H x = some (.ins C dx fs)) (hl : fs.length < 1000) (h : WE X e σ H fun y H1 => Ex H H1 ∧ ∀ H2, Ex H1 H2 → WB X rest En σ (upd H2 x (.ins C dx (putF f y fs))))
    (hs : swapsWith e (some (.Attribute o f p)) pos.line X.env = pure false := by rfl) : WB X (.Assign [.Attribute o f p] e pos :: rest) En σ H := by
  refine b_cons (ws_of (ps_fld pe_we pe_we hs) (WE.mono h fun y H1 q => (ho.mono q.1).go fun H2 e2 => ?_))
  exact ⟨x, C, dx, fs, rfl, e2 _ _ (q.1 _ _ hx), c, hno, hl, q.2 H2 e2⟩
end
theorem nf_good {r : Nat} {L : List T3} (h : Nf r L) {t : T3} (ht : t ∈ L) : goodT r t := by
  have := h.inr t ht
  unfold goodT
  omega
section
variable {P : Program} {w : World} {K : PySem.W.Frag} {mg : Str → Option Value} {base : Heap} {C : Addr}
def spLInit (C : Addr) : Sp := fun vs H Q _ => ∃ (x dx : Addr) (r : Nat) (cv : V) (L : List T3), vs = [.ref x, .int r, cv] ∧ H x = some (.ins C dx []) ∧ Rep (hid x H) cv (crdD L) ∧ Nf r L ∧ L.length < 100000 ∧
  ∀ H' v', Ex (hid x H) H' → v' = V.ref x → LotAt C H' v' r L → Q .non H'
theorem lot_init (k : LotK K mg C) (B : Bi mg) (dW : Df P w K mg base CX0 1 "is_whole" spWhole) (dE : Df P w K mg base CX0 3 "is_entry" spEntry) (dC : Df P w K mg base CX0 1 "combined" spComb) :
    ∃ (f : Addr) (fd : FuncData) (ps : List Str), Mk K C f ∧ FnOk P w K mg base CX0 4 f fd ps (spLInit C) ∧ Binds K fd ps [] := by
  obtain ⟨f, fd, dv, mk, F⟩ := k.init
  obtain ⟨ds, rd, b⟩ := F.binds1 (ps := ["self", "pins", "cords"]) 3 1 (by simp) (by rfl) (fun T kV doc pm an cdv ct us its hl hi => ⟨_, rfl, by
    match us, hl, its, hi with
    | [_, _, _], _, [_], _ => rfl⟩)
  cases rd
  refine ⟨f, fd, _, mk, fn_ok F B sc27c0 cb27c0 (fun vs H Q E ⟨x, dx, r, cv, L, e, _⟩ => by rw [e]; rfl) ?_, b⟩
  rintro X rfl rfl rfl rfl rfl Z vs H Q E ⟨x, dx, r, cv, L, rfl, hx, rc, hn, hl, q⟩
  have hC := Z.C
  show WB X _ _ [some _, some _, some _, none] _
  refine b_no (tv_w ((tw_or (t := false) (u := false) ((tv_not (tv_val (t := true) (ev_call hC (Z.cal dW) (by walk_at "mem") (av_cons (by walk_at "ev") av_nil) fun H1 e1 Q k => ⟨_, .int r, rfl, .int _, k⟩))).is rfl) fun _ => tw_or1 ((tv_c (cv_lt (by walk_at "ev") (by walk_at "ev"))).is (by simp))))) fun H1 e1 => ?_
  refine b_eachD (g := gN N27c0 "entry") Z (pgN hC (by walk_at "mem")) (by walk_at "ev") rc (hid_ex.trans e1) rfl (fun i σ' H' => (∃ oe, σ' = [some (.ref x), some (.int (r : Int)), some cv, oe]) ∧ Ex H H') (fun H2 e2 => ⟨⟨_, rfl⟩, e1.trans e2⟩) (fun i σ' H' z => hid_ex.trans z.2) ?_ ?_
  · rintro i xe dxe σ' H2 hi rx ⟨⟨oe, rfl⟩, e2⟩
    rw [List.getElem?_map] at hi
    obtain ⟨t, ht, rfl⟩ := Option.map_eq_some_iff.mp hi
    refine g1_of (by walk_at "set") ?_
    refine b_no ((tv_not (tv_val (t := true) (ev_call hC (Z.cal dE) (by walk_at "mem") (av_cons (by walk_at "ev") (av_cons (by walk_at "ev") av_nil)) fun H3 e3 Q k => ⟨r, xe, t, rfl, (rx.mono (hid_ex.trans e2)).mono e3, nf_good hn (List.mem_of_getElem? ht), k⟩))).is rfl) fun H3 e3 => b_nil ⟨⟨_, rfl⟩, e2.trans e3⟩
  · rintro σ' H2 ⟨⟨oe, rfl⟩, e2⟩
    refine b_fld (x := x) k.cls k.nP (by walk_at "ev") (e2 _ _ hx) (by decide) ((show Ev X _ _ H2 (.int r) from by walk_at "ev").go fun H3 e3 => ⟨e3, fun H4 e4 => ?_⟩)
    have e24 : Ex H H4 := (e2.trans e3).trans e4
    have eh : Ex (hid x H) (hid x H4) := hid_mono e24
    have eu : ∀ o, Ex (hid x H) (upd H4 x o) := fun o => by
      have z : hid x (upd H4 x o) = hid x H4 := hid_upd
      exact (z ▸ eh).trans hid_ex
    refine b_fld (x := x) k.cls k.nC (by walk_at "ev") upd_same (by simp [putF]) ?_
    refine we_call hC (Z.cal dC) (by walk_at "mem") ((show Av X [_] _ (upd H4 x _) [cv] from av_cons (by walk_at "ev") av_nil).go fun H5 e5 => ⟨cv, r, L, rfl, hn, rc.mono ((eu _).trans e5), hl, fun cv' H6 e6 r6 => ⟨e5.trans e6, fun H7 e7 => ?_⟩⟩)
    refine b_nil (q _ _ (fun y o hy => ?_) rfl ?_)
    · have yx : y ≠ x := fun z => by rw [z, hid_same] at hy; cases hy
      rw [upd_ne yx]
      exact ((e5.trans e6).trans e7) _ _ (eu _ _ _ hy)
    · refine ⟨x, dx, _, cv', rfl, upd_same, by rfl, by rfl, by rfl, ?_⟩
      refine r6.mono fun y o hy => ?_
      have yx : y ≠ x := fun z => by
        subst z
        rw [nw_old (e5 _ _ upd_same)] at hy
        cases hy
      rw [upd_ne yx]
      exact e7 _ _ (nw_ex _ _ hy)
def LotEq (C : Addr) : Addr → Addr → Hp → Prop := fun a b H => ∃ r L, LotAt C H (.ref a) r L ∧ LotAt C H (.ref b) r L
theorem lot_eq (k : LotK K mg C) (B : Bi mg) : ∃ (f : Addr) (fd : FuncData) (ps : List Str), PySem.W.findIn K (.ref C) "__eq__" = some (some (.ref f)) ∧ PySem.W.isFn K (.ref f) = true ∧ FnOk P w K mg base CX0 1 f fd ps (spEq (LotEq C)) ∧ Binds K fd ps [] := by
  obtain ⟨f, fd, h1, h2, F⟩ := k.eq
  refine ⟨f, fd, _, h1, h2, fn_ok F B sc27c3 cb27c3 (fun vs H Q E ⟨a, b, e, _⟩ => by rw [e]; rfl) ?_, F.bindsN (fun _ _ _ _ _ _ us hl => match us, hl with | [_, _], _ => rfl)⟩
  rintro X rfl rfl rfl rfl rfl Z vs H Q E ⟨a, b, rfl, ⟨r, L, l1, l2⟩, q⟩
  have hC := Z.C
  show WB X _ _ [some _, some _] _
  refine b_ret ?_
  refine ((ev_and (t := true) (u := true) (ev_isLot hC Z.B k (by walk_at "mem") (by walk_at "mem") (by walk_at "ev") l2) fun _ => ev_and (t := true) (u := true) ((ev_c (cv_eqI (ev_pins k (by walk_at "ev") l1) (ev_pins k (by walk_at "ev") l2))).is (by simp)) fun _ => ev_one (ev_c (cv_eqT Z.room.units (crd_tt L ▸ eh_cords k (by walk_at "ev") l1) (crd_tt L ▸ eh_cords k (by walk_at "ev") l2))))).go q
def spLTable (C : Addr) : Sp := fun vs H Q _ => ∃ (v : V) (r : Nat) (L : List T3), vs = [v] ∧ LotAt C H v r L ∧ r ≤ 1000 ∧ L.length < 100000 ∧ ∀ v H', Ex H H' → Rep (nw H H') v (rowsT (tabR (max r 1) L)) → Q v H'
theorem lot_table (k : LotK K mg C) (B : Bi mg) (dT : Df P w K mg base CX0 2 "raw_table" spTable) : ∃ (p f : Addr) (fd : FuncData) (ps : List Str), PropOf K C "table" p f ∧ FnOk P w K mg base CX0 3 f fd ps (spLTable C) ∧ Binds K fd ps [] := by
  obtain ⟨p, f, fd, h1, F⟩ := k.table
  refine ⟨p, f, fd, _, h1, fn_ok F B sc27c8 cb27c8 (fun vs H Q E ⟨v, r, L, e, _⟩ => by rw [e]; rfl) ?_, F.bindsN (fun _ _ _ _ _ _ us hl => match us, hl with | [_], _ => rfl)⟩
  rintro X rfl rfl rfl rfl rfl Z vs H Q E ⟨v, r, L, rfl, l, hr, hl, q⟩
  have hC := Z.C
  show WB X _ _ [some _] _
  refine b_ret ?_
  have l0 := l
  obtain ⟨x, dx, fs, cv, rfl, k2, k3, k4, k5, rc⟩ := l0
  exact (er_call hC (Z.cal dT) (by walk_at "mem") (av_cons (ev_pins k (by walk_at "ev") l) (av_cons (ev_cords k (by walk_at "ev") k2 k4) av_nil)) fun H1 e1 Q kk => ⟨r, cv, L, rfl, hr, rc.mono e1, hl, kk⟩).go q
def spLTotal (C : Addr) : Sp := fun vs H Q _ => ∃ (v : V) (r : Nat) (L : List T3), vs = [v] ∧ LotAt C H v r L ∧ L.length < 100000 ∧ ∀ H', Ex H H' → Q (.int (L.map fun t => t.2.2).sum) H'
theorem lot_total (k : LotK K mg C) (B : Bi mg) : ∃ (f : Addr) (fd : FuncData) (ps : List Str), Meth K C "total" f ∧ FnOk P w K mg base CX0 1 f fd ps (spLTotal C) ∧ Binds K fd ps [] := by
  obtain ⟨f, fd, h1, F⟩ := k.total
  refine ⟨f, fd, _, h1, fn_ok F B sc27c11 cb27c11 (fun vs H Q E ⟨v, r, L, e, _⟩ => by rw [e]; rfl) ?_, F.bindsN (fun _ _ _ _ _ _ us hl => match us, hl with | [_], _ => rfl)⟩
  rintro X rfl rfl rfl rfl rfl Z vs H Q E ⟨v, r, L, rfl, l, hl, q⟩
  have hC := Z.C
  show WB X _ _ [some _, none, none, none] _
  refine b_ret ?_
  obtain ⟨y, dy, fs, cv, rfl, k2, k3, k4, k5, rc⟩ := l
  obtain ⟨p, xs, rfl, hp, hx, hat⟩ := crd_inv rc
  refine ((ev_sumO (ns := L.map fun t : T3 => t.2.2) hC Z.B Z.calm (by walk_at "mem") ?_)).go q
  rw [List.map_map, ← filterMap_some]
  refine eo_comp (own := [("a", 1), ("b", 2), ("n", 3)]) L _ hC Z.calm (by decide +kernel) (sr_tup (Hb := H) (ev_cords k (by walk_at "ev") k2 k4) (sqT hp) Ex.rfl') gT3_mon (fun Y b => pgT3B b (b.ctx (M' := M27c11_0) (L' := L27c11_0) (G' := G27c11_0) hC (by decide +kernel)) Z.calm (by walk_at "mem") (by walk_at "mem") (by walk_at "mem")) hx.symm (by omega) (by walk_at "wipe") ?_
  intro i x t Hc h1 h2 ex
  obtain ⟨q, rfl, hq⟩ := hat i x t h1 h2
  refine g3_of (by walk_at "set3") (sqT (ex _ _ hq)) ⟨rfl, fun Y b => ?_⟩
  have hY := b.ctx (M' := M27c11_0) (L' := L27c11_0) (G' := G27c11_0) hC (by decide +kernel)
  exact st_all (Ev.is (v := .int t.2.2) (by walk_at "ev") rfl)
end
end RC
/-! The places of a table; is_good_place, check_table. -/
namespace RC
open PySem PySem.Spec PyProof.Rows L2
def rowAt (ds : List D) (i : Nat) : Option (List D) := ds[i]?.bind D.seq
def D.toI : D → Int
  | .int i => i
  | _ => 0
/-- the int that stands at a place -/
def intAt (ds : List D) (i j : Nat) : Option Int := (rowAt ds i).bind fun es => es[j]?.bind fun d => match d with
  | .int v => some v
  | _ => none
def goodAt (ds : List D) (i j : Nat) : Bool := match intAt ds i j with
  | some v => decide (0 ≤ v) && (if i = j then decide (v = 0) else decide (i < j) || decide (some v = intAt ds j i))
  | none => false
def rowBad (n : Nat) (ds : List D) (i : Nat) : Option (Nat × Nat) := match rowAt ds i with
  | none => some (i, 0)
  | some es => match (List.range n).find? (fun j => !goodAt ds i j) with
    | some j => some (i, j)
    | none => if n < es.length then some (i, n) else none
def badT (n : Nat) (d : D) : Option (Nat × Nat) := match d.seq with
  | none => some (0, 0)
  | some ds => match (List.range n).findSome? (rowBad n ds) with
    | some p => some p
    | none => if n < ds.length then some (n, 0) else none
def tabOf (d : D) : List (List Int) := (d.seq.getD []).map fun r => (r.seq.getD []).map D.toI
theorem isSeq_eq (d : D) : (d.isList || d.isTup) = d.seq.isSome := by cases d <;> rfl
theorem intAt_some {ds : List D} {i j : Nat} {v : Int} (h : intAt ds i j = some v) : ∃ dr es, ds[i]? = some dr ∧ dr.seq = some es ∧ es[j]? = some (.int v) := by
  unfold intAt rowAt at h
  cases h1 : ds[i]? with
  | none => rw [h1] at h; cases h
  | some dr =>
    rw [h1, Option.bind_some] at h
    cases h2 : dr.seq with
    | none => rw [h2] at h; cases h
    | some es =>
      rw [h2, Option.bind_some] at h
      cases h3 : es[j]? with
      | none => rw [h3] at h; cases h
      | some d =>
        rw [h3, Option.bind_some] at h
        cases d <;> cases h
        exact ⟨dr, es, rfl, h2, h3⟩
theorem find_at {p : Nat → Bool} {n i : Nat} (hi : i < n) (h : ∀ k, k < i → p k = false) (hp : p i = true) : (List.range n).find? p = some i := by
  rw [List.find?_range_eq_some]
  exact ⟨hp, by simpa using hi, fun k hk => by simp [h k hk]⟩
theorem find_no {p : Nat → Bool} {n : Nat} (h : ∀ k, k < n → p k = false) : (List.range n).find? p = none := by
  rw [List.find?_eq_none]
  intro k hk
  rw [h k (List.mem_range.mp hk)]
  exact Bool.false_ne_true
theorem findS_no {β : Type} {f : Nat → Option β} {n : Nat} (h : ∀ k, k < n → f k = none) : (List.range n).findSome? f = none := by
  rw [List.findSome?_eq_none_iff]
  exact fun k hk => h k (List.mem_range.mp hk)
theorem findS_at {β : Type} {f : Nat → Option β} {n i : Nat} {b : β} (hi : i < n) (h : ∀ k, k < i → f k = none) (hp : f i = some b) : (List.range n).findSome? f = some b := by
  have e : List.range n = List.range i ++ (i :: (List.range (n - i - 1)).map (i + 1 + ·)) := by
    apply List.ext_getElem
    · simp; omega
    · intro k h1 h2
      rw [List.getElem_range]
      by_cases hk : k < i
      · rw [List.getElem_append_left (by simpa using hk), List.getElem_range]
      · rw [List.getElem_append_right (by simpa using hk)]
        by_cases hk2 : k = i
        · subst hk2; simp
        · rw [List.getElem_cons]
          rw [dif_neg (by simp; omega)]
          simp; omega
  rw [e, List.findSome?_append, findS_no h]
  simp [hp]
theorem rowBad_none {n : Nat} {ds : List D} {i : Nat} (h : rowBad n ds i = none) : ∃ dr es, ds[i]? = some dr ∧ dr.seq = some es ∧ es.length ≤ n ∧ ∀ j, j < n → goodAt ds i j = true := by
  unfold rowBad at h
  cases h1 : rowAt ds i with
  | none => rw [h1] at h; cases h
  | some es =>
    rw [h1] at h
    cases h2 : (List.range n).find? (fun j => !goodAt ds i j) with
    | some j => rw [h2] at h; cases h
    | none =>
      rw [h2] at h
      unfold rowAt at h1
      cases h3 : ds[i]? with
      | none => rw [h3] at h1; cases h1
      | some dr =>
        rw [h3, Option.bind_some] at h1
        refine ⟨dr, es, rfl, h1, ?_, fun j hj => ?_⟩
        · by_cases q : n < es.length
          · simp [q] at h
          · omega
        · rw [List.find?_eq_none] at h2
          have := h2 j (List.mem_range.mpr hj)
          simpa using this
theorem good_int {ds : List D} {i j : Nat} (h : goodAt ds i j = true) : ∃ v, intAt ds i j = some v ∧ 0 ≤ v ∧ (i = j → v = 0) ∧ (j < i → intAt ds j i = some v) := by
  unfold goodAt at h
  cases h1 : intAt ds i j with
  | none => rw [h1] at h; cases h
  | some v =>
    rw [h1] at h
    simp only [Bool.and_eq_true, decide_eq_true_eq] at h
    refine ⟨v, rfl, h.1, fun e => ?_, fun e => ?_⟩
    · rw [if_pos e, decide_eq_true_eq] at h; exact h.2
    · rw [if_neg (by omega), Bool.or_eq_true, decide_eq_true_eq, decide_eq_true_eq] at h
      rcases h.2 with q | q
      · omega
      · exact q.symm
theorem ev_call1 {X : Cx} {S : Scope} {N M Ls G : List Str} {σ : St} {H : Hp} {nm : Str} {a : Expr} {d : D} {z : V} {pos pos2 : Pos} {sp : Sp} (C : Ctx X S N M Ls G) (c : Cal X nm sp) (hg : nm ∈ G) (h : Eh X a σ H d) (q : ∀ v H1, Ex H H1 → Rep H1 v d → ∀ Q : VK, (∀ H2, Ex H1 H2 → Q z H2) → sp [v] H1 Q E0)
    (he : starEach (a :: []) X.env = (false, eval a X.env) :: starEach [] X.env := by rfl) : Ev X (.Call (.Name nm pos2) [a] [] pos) σ H z := by
  obtain ⟨v, hv, r⟩ := h.ex
  exact ev_call C c hg (av_cons hv av_nil he) (fun H1 e1 Q k => q v H1 e1 (r.mono e1) Q k) he rfl
section
variable {P : Program} {w : World} {K : PySem.W.Frag} {mg : Str → Option Value} {base : Heap}
def spGood : Sp := fun vs H Q _ => ∃ (tv : V) (d : D) (ds : List D) (dr : D) (es : List D) (i j : Nat), vs = [tv, .int i, .int j] ∧ Rep H tv d ∧ d.seq = some ds ∧ ds[i]? = some dr ∧ dr.seq = some es ∧ (j < i → ∃ u, intAt ds j i = some u) ∧ ∀ H', Ex H H' → Q (.bl (goodAt ds i j)) H'
theorem df_good (h : Has K mg "is_good_place" 29) (B : Bi mg) (dW : Df P w K mg base CX0 1 "is_whole" spWhole) : Df P w K mg base CX0 2 "is_good_place" spGood := by
  refine df_ok h B sc29 cb29 (fun _ _ _ _ _ _ us hl => match us, hl with | [_, _, _], _ => rfl) (fun vs H Q E ⟨tv, d, ds, dr, es, i, j, e, _⟩ => by rw [e]; rfl) ?_
  rintro X rfl rfl rfl rfl rfl Z vs H Q E ⟨tv, d, ds, dr, es, i, j, rfl, rt, hd, hi, hr, hj, q⟩
  have hC := Z.C
  show WB X _ _ [some _, some _, some _] _
  have row : ∀ {e1 e2 : Expr} {p : Pos} {H1 : Hp} {σ : St}, Ex H H1 → Ev X e1 σ H1 tv → Ev X e2 σ H1 (.int (i : Int)) → PlainIx e2 → Eh X (.Subscript e1 e2 p) σ H1 dr := fun e h1 h2 hp => eh_ix (eh_ev h1 (rt.mono e)) hd h2 hi hp
  have cell : ∀ {e1 e2 e3 : Expr} {p p2 : Pos} {H1 : Hp} {σ : St} {c : D}, es[j]? = some c → Ex H H1 → Ev X e1 σ H1 tv → Ev X e2 σ H1 (.int (i : Int)) → Ev X e3 σ H1 (.int (j : Int)) → PlainIx e2 → PlainIx e3 → Eh X (.Subscript (.Subscript e1 e2 p) e3 p2) σ H1 c := fun hc e h1 h2 h3 hp hp3 => eh_ix (row e h1 h2 hp) hr h3 hc hp3
  have ia : ∀ v, es[j]? = some (.int v) → intAt ds i j = some v := fun v hv => by
    unfold intAt rowAt
    rw [hi, Option.bind_some, hr, Option.bind_some, hv]; rfl
  by_cases hlt : j < es.length
  · have hc : es[j]? = some es[j] := List.getElem?_eq_getElem hlt
    generalize es[j] = c at hc
    refine b_when (t := !c.whole || decide (c.toI < 0)) (tv_w ((tw_or (t := false) (u := !c.whole || decide (c.toI < 0)) ((tv_c (cv_ge (by walk_at "ev") (eh_len hC Z.B (by walk_at "mem") (row Ex.rfl' (by walk_at "ev") (by walk_at "ev") (fun _ _ => rfl)) hr))).is (by simp; omega)) fun _ => tw_or (t := !c.whole) (u := decide (c.toI < 0)) (tv_not (tv_val (ev_call1 hC (Z.cal dW) (by walk_at "mem") (cell hc Ex.rfl' (by walk_at "ev") (by walk_at "ev") (by walk_at "ev") (fun _ _ => rfl) (fun _ _ => rfl)) fun v H1 e1 r Q k => ⟨v, c, rfl, r, k⟩))) fun hw => tw_or1 ?_))) ?_ ?_
    · obtain ⟨v, rfl⟩ := D.whole_int (d := c) (by simpa using hw)
      exact tv_c (cv_lt (cell hc Ex.rfl' (by walk_at "ev") (by walk_at "ev") (by walk_at "ev") (fun _ _ => rfl) (fun _ _ => rfl)).int (by walk_at "ev"))
    · intro hb H1 e1
      refine b_ret ((ev_bl).go fun H2 e2 => ?_)
      have : goodAt ds i j = false := by
        cases hw : c.whole with
        | true =>
          obtain ⟨v, rfl⟩ := D.whole_int hw
          unfold goodAt
          rw [ia v hc]
          simp only [D.whole, D.toI, Bool.not_true, Bool.false_or] at hb
          have hv : v < 0 := of_decide_eq_true hb
          show (decide (0 ≤ v) && _) = false
          rw [decide_eq_false (by omega)]; rfl
        | false =>
          unfold goodAt intAt rowAt
          rw [hi, Option.bind_some, hr, Option.bind_some, hc]
          cases c <;> first | rfl | cases hw
      have q' := q H2 (e1.trans e2)
      rw [this] at q'
      exact q'
    · intro hb H1 e1
      obtain ⟨v, rfl⟩ := D.whole_int (d := c) (by cases h : c.whole with | true => rfl | false => rw [h] at hb; cases hb)
      simp only [D.whole, D.toI, Bool.not_true, Bool.false_or] at hb
      have hv' : ¬ v < 0 := of_decide_eq_false hb
      have hv : 0 ≤ v := by omega
      refine b_when (t := decide (i = j)) ((tv_c (cv_eqI (by walk_at "ev") (by walk_at "ev"))).is (by rw [decide_eq_decide]; omega)) ?_ ?_
      · intro hij H2 e2
        have hij : i = j := of_decide_eq_true hij
        refine b_ret (((ev_c (cv_eqI (cell hc (e1.trans e2) (by walk_at "ev") (by walk_at "ev") (by walk_at "ev") (fun _ _ => rfl) (fun _ _ => rfl)).int (by walk_at "ev"))).is (z := .bl (goodAt ds i j)) ?_).go fun H3 e3 => q H3 ((e1.trans e2).trans e3))
        unfold goodAt
        rw [ia v hc]
        simp [hij, hv]
      · intro hij H2 e2
        have hij : i ≠ j := of_decide_eq_false hij
        refine b_ret (((ev_or (t := decide (i < j)) (u := goodAt ds i j) ((ev_c (cv_lt (by walk_at "ev") (by walk_at "ev"))).is (by simp)) fun h => ?_).is (z := .bl (goodAt ds i j)) ?_).go fun H3 e3 => q H3 ((e1.trans e2).trans e3))
        · have hlt2 : j < i := by have := of_decide_eq_false h; omega
          obtain ⟨u, hu⟩ := hj hlt2
          obtain ⟨dr2, es2, k1, k2, k3⟩ := intAt_some hu
          refine ev_one ((ev_c (cv_eqI (cell hc (e1.trans e2) (by walk_at "ev") (by walk_at "ev") (by walk_at "ev") (fun _ _ => rfl) (fun _ _ => rfl)).int (eh_ix (eh_ix (eh_ev (by walk_at "ev") (rt.mono (e1.trans e2))) hd (by walk_at "ev") k1) k2 (by walk_at "ev") k3).int)).is ?_)
          unfold goodAt
          rw [ia v hc, hu]
          simp [hij, hv]
          omega
        · unfold goodAt
          rw [ia v hc]
          by_cases h : i < j <;> simp [hij, hv, h]
  · refine b_yes (tv_w ((tw_or (t := true) (u := false) ((tv_c (cv_ge (by walk_at "ev") (eh_len hC Z.B (by walk_at "mem") (row Ex.rfl' (by walk_at "ev") (by walk_at "ev") (fun _ _ => rfl)) hr))).is (by simp; omega)) fun h => Bool.noConfusion h))) fun H1 e1 => ?_
    refine b_ret ((ev_bl).go fun H2 e2 => ?_)
    have : goodAt ds i j = false := by
      unfold goodAt intAt rowAt
      rw [hi, Option.bind_some, hr, Option.bind_some, List.getElem?_eq_none (by omega)]; rfl
    have q' := q H2 (e1.trans e2)
    rw [this] at q'
    exact q'
/-! ### check_table -/
def xdT (i j : Nat) : HO := .xd [(Str.ofString "column", .int j), (Str.ofString "row", .int i)]
def spCheck (CT : Addr) : Sp := fun vs H Q E => ∃ (n : Nat) (tv : V) (d : D), vs = [.int n, tv] ∧ Rep H tv d ∧ n ≤ 1000 ∧ (badT n d = none → ∀ H', Ex H H' → Q .non H') ∧
  ∀ i j, badT n d = some (i, j) → ∀ dx H', Ex H H' → H' dx = some (xdT i j) → E (.ref CT) (some dx) H'
theorem df_check {CT : Addr} (h : Has K mg "check_table" 30) (B : Bi mg) (dG : Df P w K mg base CX0 2 "is_good_place" spGood) (dX : ExD P w K mg base 1 "BadTable" CT ["row", "column"]) : Df P w K mg base (L2N.CX P w) 3 "check_table" (spCheck CT) := by
  refine df_okE h B sc30 cb30 (fun _ _ _ _ _ _ us hl => match us, hl with | [_, _], _ => rfl) (fun vs H Q E ⟨n, tv, d, e, _⟩ => by rw [e]; rfl) ?_
  rintro X rfl rfl rfl rfl rfl Z vs H Q E tk ⟨n, tv, d, rfl, rt, hn, q, qE⟩
  have hC := Z.C
  have rz := dX.rz Z.room (by decide) (by decide)
  show WB X _ _ [some _, some _, none, none] _
  have hT : ∀ {H1 : Hp} {e : Expr} {σ : St}, Ex H H1 → Ev X e σ H1 tv → Eh X e σ H1 d := fun e1 he => eh_ev he (rt.mono e1)
  have rs : ∀ {H1 : Hp} {σ : St} {e1 e2 : Expr} {es : List Expr} {p : Pos} {rest : List Stmt} {En : Ends} {p1 p2 p3 : Pos} (i j : Nat), Ex H H1 → badT n d = some (i, j) → Ev X e1 σ H1 (.int i) → Ev X e2 σ H1 (.int j) → starEach [e1, e2] X.env = (false, eval e1 X.env) :: starEach [e2] X.env → starEach [e2] X.env = (false, eval e2 X.env) :: starEach [] X.env →
      WB X (.Raise (some (.Call (.Name "BadTable" p1) [e1, e2] [] p2)) none p3 :: rest) En σ H1 := fun {H1 σ e1 e2 es p rest En p1 p2 p3} i j ex hb h1 h2 hs hs2 => by
    refine b_raise (fl := ["row", "column"]) (vals := [.int i, .int j]) Z tk rz (by walk_at "mem") (av_cons h1 (av_cons h2 av_nil hs2) hs) rfl (fun dx H' e' _ hd => qE i j hb dx H' (ex.trans e') hd) hs (by rw [hs2]; rfl)
  cases hq : d.seq with
  | none =>
    refine b_yes ((tv_not (tv_val (eh_isSeq hC Z.B (by walk_at "mem") (by walk_at "mem") (by walk_at "mem") (hT Ex.rfl' (by walk_at "ev"))))).is (by rw [isSeq_eq, hq]; rfl)) fun H1 e1 => ?_
    refine rs (es := []) (p := ⟨0, 0, 0, 0⟩) 0 0 e1 (by unfold badT; rw [hq]) (by walk_at "ev") (by walk_at "ev") rfl rfl
  | some ds =>
    refine b_no ((tv_not (tv_val (eh_isSeq hC Z.B (by walk_at "mem") (by walk_at "mem") (by walk_at "mem") (hT Ex.rfl' (by walk_at "ev"))))).is (by rw [isSeq_eq, hq]; rfl)) fun H1 e1 => ?_
    refine b_rng1 (m := n) Z (by walk_at "mem") (by walk_at "mem") (by walk_at "ev") (by omega) (fun i σ' H' => (∃ oi oj, σ' = [some (.int (n : Int)), some tv, oi, oj]) ∧ Ex H H' ∧ ∀ k, k < i → rowBad n ds k = none) (fun H2 e2 => ⟨⟨_, _, rfl⟩, e1.trans e2, fun k hk => absurd hk (Nat.not_lt_zero _)⟩) ?_ ?_
    · rintro i σ' H2 hi ⟨⟨oi, oj, rfl⟩, e2, hpre⟩
      refine g1_of (by walk_at "set") ?_
      have bad : ∀ p, rowBad n ds i = some p → badT n d = some p := fun p hp => by
        unfold badT
        rw [hq]
        show (match (List.range n).findSome? (rowBad n ds) with
          | some p => some p
          | none => if n < ds.length then some (n, 0) else none) = _
        rw [findS_at hi hpre hp]
      cases hr : ds[i]? with
      | none =>
        have hlen := List.getElem?_eq_none_iff.mp hr
        refine b_yes (tv_w (tw_or (t := true) (u := false) ((tv_c (cv_ge (by walk_at "ev") (eh_len hC Z.B (by walk_at "mem") (hT e2 (by walk_at "ev")) hq))).is (by simp; omega)) fun h => Bool.noConfusion h)) fun H3 e3 => ?_
        exact rs (es := []) (p := ⟨0, 0, 0, 0⟩) i 0 (e2.trans e3) (bad _ (by unfold rowBad rowAt; rw [hr]; rfl)) (by walk_at "ev") (by walk_at "ev") rfl rfl
      | some dr =>
        have hlen := (List.getElem?_eq_some_iff.mp hr).1
        have hrow : ∀ {H1 : Hp} {e1 e2 : Expr} {σ : St} {p : Pos}, Ex H H1 → Ev X e1 σ H1 tv → Ev X e2 σ H1 (.int (i : Int)) → PlainIx e2 → Eh X (.Subscript e1 e2 p) σ H1 dr := fun e h1 h2 hp => eh_ix (hT e h1) hq h2 hr hp
        cases hs : dr.seq with
        | none =>
          refine b_yes (tv_w (tw_or (t := false) (u := true) ((tv_c (cv_ge (by walk_at "ev") (eh_len hC Z.B (by walk_at "mem") (hT e2 (by walk_at "ev")) hq))).is (by simp; omega)) fun _ => tw_or1 ((tv_not (tv_val (eh_isSeq hC Z.B (by walk_at "mem") (by walk_at "mem") (by walk_at "mem") (hrow e2 (by walk_at "ev") (by walk_at "ev") (fun _ _ => rfl))))).is (by rw [isSeq_eq, hs]; rfl)))) fun H3 e3 => ?_
          exact rs (es := []) (p := ⟨0, 0, 0, 0⟩) i 0 (e2.trans e3) (bad _ (by unfold rowBad rowAt; rw [hr, Option.bind_some, hs])) (by walk_at "ev") (by walk_at "ev") rfl rfl
        | some es =>
          refine b_no (tv_w (tw_or (t := false) (u := false) ((tv_c (cv_ge (by walk_at "ev") (eh_len hC Z.B (by walk_at "mem") (hT e2 (by walk_at "ev")) hq))).is (by simp; omega)) fun _ => tw_or1 ((tv_not (tv_val (eh_isSeq hC Z.B (by walk_at "mem") (by walk_at "mem") (by walk_at "mem") (hrow e2 (by walk_at "ev") (by walk_at "ev") (fun _ _ => rfl))))).is (by rw [isSeq_eq, hs]; rfl)))) fun H3 e3 => ?_
          have rowEq : rowAt ds i = some es := by unfold rowAt; rw [hr, Option.bind_some, hs]
          refine b_rng1 (m := n) Z (by walk_at "mem") (by walk_at "mem") (by walk_at "ev") (by omega) (fun j σ' H' => (∃ oj, σ' = [some (.int (n : Int)), some tv, some (.int (i : Int)), oj]) ∧ Ex H H' ∧ ∀ k, k < j → goodAt ds i k = true) (fun H4 e4 => ⟨⟨_, rfl⟩, (e2.trans e3).trans e4, fun k hk => absurd hk (Nat.not_lt_zero _)⟩) ?_ ?_
          · rintro j σ' H4 hj ⟨⟨oj, rfl⟩, e4, hgood⟩
            refine g1_of (by walk_at "set") ?_
            refine b_when (t := !goodAt ds i j) (tv_not (tv_val (ev_call hC (Z.cal dG) (by walk_at "mem") (av_cons (by walk_at "ev") (av_cons (by walk_at "ev") (av_cons (by walk_at "ev") av_nil))) fun H5 e5 Q k => ⟨tv, d, ds, dr, es, i, j, rfl, rt.mono (e4.trans e5), hq, hr, hs, fun hji => ?_, k⟩))) ?_ ?_
            · obtain ⟨_, _, _, _, _, hg⟩ := rowBad_none (hpre j hji)
              obtain ⟨v, hv, _⟩ := good_int (hg i hi)
              exact ⟨v, hv⟩
            · intro hb H5 e5
              refine rs (es := []) (p := ⟨0, 0, 0, 0⟩) i j (e4.trans e5) (bad _ ?_) (by walk_at "ev") (by walk_at "ev") rfl rfl
              unfold rowBad
              rw [rowEq]
              show (match (List.range n).find? (fun j => !goodAt ds i j) with
                | some j => some (i, j)
                | none => if n < es.length then some (i, n) else none) = _
              rw [find_at (p := fun j => !goodAt ds i j) hj (fun k hk => by simp [hgood k hk]) hb]
            · intro hb H5 e5
              refine b_nil ⟨⟨_, rfl⟩, e4.trans e5, fun k hk => ?_⟩
              by_cases e : k = j
              · subst e; simpa using hb
              · exact hgood k (by omega)
          · rintro σ' H4 ⟨⟨oj, rfl⟩, e4, hgood⟩
            have hfn : (List.range n).find? (fun j => !goodAt ds i j) = none := find_no fun k hk => by simp [hgood k hk]
            refine b_when (t := decide (n < es.length)) ((tv_c (cv_gt (eh_len hC Z.B (by walk_at "mem") (hrow e4 (by walk_at "ev") (by walk_at "ev") (fun _ _ => rfl)) hs) (by walk_at "ev"))).is (by rw [decide_eq_decide]; omega)) ?_ ?_
            · intro hb H5 e5
              refine rs (es := []) (p := ⟨0, 0, 0, 0⟩) i n (e4.trans e5) (bad _ ?_) (by walk_at "ev") (by walk_at "ev") rfl rfl
              unfold rowBad
              rw [rowEq]
              show (match (List.range n).find? (fun j => !goodAt ds i j) with
                | some j => some (i, j)
                | none => if n < es.length then some (i, n) else none) = _
              rw [hfn]
              exact if_pos (of_decide_eq_true hb)
            · intro hb H5 e5
              refine b_nil ⟨⟨_, _, rfl⟩, e4.trans e5, fun k hk => ?_⟩
              by_cases e : k = i
              · subst e
                unfold rowBad
                rw [rowEq]
                show (match (List.range n).find? (fun j => !goodAt ds k j) with
                  | some j => some (k, j)
                  | none => if n < es.length then some (k, n) else none) = _
                rw [hfn]
                exact if_neg (of_decide_eq_false hb)
              · exact hpre k (by omega)
    · rintro σ' H2 ⟨⟨oi, oj, rfl⟩, e2, hpre⟩
      have hb0 : badT n d = if n < ds.length then some (n, 0) else none := by
        unfold badT
        rw [hq]
        show (match (List.range n).findSome? (rowBad n ds) with
          | some p => some p
          | none => if n < ds.length then some (n, 0) else none) = _
        rw [findS_no hpre]
      refine b_when (t := decide (n < ds.length)) ((tv_c (cv_gt (eh_len hC Z.B (by walk_at "mem") (hT e2 (by walk_at "ev")) hq) (by walk_at "ev"))).is (by rw [decide_eq_decide]; omega)) ?_ ?_
      · intro hb H3 e3
        exact rs (es := []) (p := ⟨0, 0, 0, 0⟩) n 0 (e2.trans e3) (by rw [hb0, if_pos (of_decide_eq_true hb)]) (by walk_at "ev") (by walk_at "ev") rfl rfl
      · intro hb H3 e3
        exact b_nil (q (by rw [hb0, if_neg (of_decide_eq_false hb)]) H3 (e2.trans e3))
end
end RC
/-! lot_of -/
namespace RC
open PySem PySem.Spec PyProof.Rows L2
theorem intAt_tab {d : D} {ds : List D} (hq : d.seq = some ds) {i j : Nat} {v : Int} (h : intAt ds i j = some v) : tget (tabOf d) i j = v := by
  obtain ⟨dr, es, h1, h2, h3⟩ := intAt_some h
  unfold tget tabOf
  rw [hq]
  simp [List.getD_eq_getElem?_getD, List.getElem?_map, h1, h2, h3, D.toI]
theorem badT_none {n : Nat} {d : D} (h : badT n d = none) : ∃ ds, d.seq = some ds ∧ ds.length = n ∧ ∀ i, i < n → ∃ dr es, ds[i]? = some dr ∧ dr.seq = some es ∧ es.length = n ∧ ∀ j, j < n → goodAt ds i j = true := by
  unfold badT at h
  cases hq : d.seq with
  | none => rw [hq] at h; cases h
  | some ds =>
    rw [hq] at h
    dsimp only at h
    cases h1 : (List.range n).findSome? (rowBad n ds) with
    | some p => rw [h1] at h; cases h
    | none =>
      rw [h1] at h
      rw [List.findSome?_eq_none_iff] at h1
      have hrows : ∀ i, i < n → ∃ dr es, ds[i]? = some dr ∧ dr.seq = some es ∧ es.length ≤ n ∧ ∀ j, j < n → goodAt ds i j = true := fun i hi => rowBad_none (h1 i (List.mem_range.mpr hi))
      have hle : ds.length ≤ n := by
        by_cases q : n < ds.length
        · simp [q] at h
        · omega
      have hge : n ≤ ds.length := by
        cases n with
        | zero => omega
        | succ m =>
          obtain ⟨dr, es, hd, _⟩ := hrows m (by omega)
          have := (List.getElem?_eq_some_iff.mp hd).1
          omega
      refine ⟨ds, rfl, by omega, fun i hi => ?_⟩
      obtain ⟨dr, es, a1, a2, a3, a4⟩ := hrows i hi
      refine ⟨dr, es, a1, a2, ?_, a4⟩
      have : n ≤ es.length := by
        cases n with
        | zero => omega
        | succ m =>
          obtain ⟨v, hv, _⟩ := good_int (a4 m (by omega))
          obtain ⟨dr', es', b1, b2, b3⟩ := intAt_some hv
          rw [a1] at b1
          cases b1
          rw [a2] at b2
          cases b2
          have := (List.getElem?_eq_some_iff.mp b3).1
          omega
      omega
structure TabOk (n : Nat) (T : List (List Int)) : Prop where
  sqr : Sqr n T
  nonneg : ∀ i j, i < n → j < n → 0 ≤ tget T i j
  diag : ∀ i, i < n → tget T i i = 0
  sym : ∀ i j, i < n → j < n → tget T i j = tget T j i
theorem tab_ok {n : Nat} {d : D} (h : badT n d = none) : TabD d (tabOf d) ∧ TabOk n (tabOf d) := by
  obtain ⟨ds, hq, hl, hr⟩ := badT_none h
  have hm : tabOf d = ds.map fun r => (r.seq.getD []).map D.toI := by unfold tabOf; rw [hq]; rfl
  have allI : ∀ i j, i < n → j < n → ∃ v, intAt ds i j = some v ∧ tget (tabOf d) i j = v ∧ 0 ≤ v ∧ (i = j → v = 0) ∧ (j < i → intAt ds j i = some v) := fun i j hi hj => by
    obtain ⟨_, _, _, _, _, hg⟩ := hr i hi
    obtain ⟨v, h1, h2, h3, h4⟩ := good_int (hg j hj)
    exact ⟨v, h1, intAt_tab hq h1, h2, h3, h4⟩
  refine ⟨⟨ds, hq, by rw [hm, List.length_map], fun i dr row h1 h2 => ?_⟩, ⟨⟨by rw [hm, List.length_map, hl], fun row hrow => ?_⟩, fun i j hi hj => ?_, fun i hi => ?_, fun i j hi hj => ?_⟩⟩
  · have hi : i < n := by rw [← hl]; exact (List.getElem?_eq_some_iff.mp h1).1
    obtain ⟨dr', es, a1, a2, a3, a4⟩ := hr i hi
    rw [h1] at a1
    cases a1
    rw [hm, List.getElem?_map, h1, Option.map_some, a2] at h2
    have h2 := Option.some.inj h2
    rw [a2, ← h2]
    congr 1
    rw [Option.getD_some, List.map_map]
    apply List.ext_getElem
    · rw [List.length_map]
    · intro j k1 k2
      rw [List.getElem_map]
      obtain ⟨v, hv, _⟩ := allI i j hi (by omega)
      obtain ⟨dr2, es2, b1, b2, b3⟩ := intAt_some hv
      rw [h1] at b1
      cases b1
      rw [a2] at b2
      cases b2
      rw [List.getElem?_eq_getElem k1] at b3
      have b3 := Option.some.inj b3
      show es[j] = D.int (D.toI es[j])
      rw [b3]; rfl
  · rw [hm] at hrow
    obtain ⟨dr, hdr, rfl⟩ := List.mem_map.mp hrow
    obtain ⟨i, hi, e⟩ := List.getElem_of_mem hdr
    obtain ⟨dr', es, a1, a2, a3, a4⟩ := hr i (by omega)
    rw [List.getElem?_eq_getElem hi, e] at a1
    cases a1
    rw [a2, Option.getD_some, List.length_map, a3]
  · obtain ⟨v, _, e, h0, _⟩ := allI i j hi hj
    rw [e]; exact h0
  · obtain ⟨v, _, e, h0, h1, _⟩ := allI i i hi hi
    rw [e]; exact h1 rfl
  · rcases Nat.lt_trichotomy i j with hlt | rfl | hlt
    · obtain ⟨v, _, e, _, _, h4⟩ := allI j i hj hi
      rw [e]
      exact intAt_tab hq (h4 hlt)
    · rfl
    · obtain ⟨v, _, e, _, _, h4⟩ := allI i j hi hj
      rw [e]
      exact (intAt_tab hq (h4 hlt)).symm
inductive Out where
  | pins | table (i j : Nat) | nolot (t : T3) | lot (r : Nat) (L : List T3)
def lotOut (pd d : D) : Out := match pd with
  | .int p => if p < 0 then .pins else match badT (max p.toNat 1) d with
    | some (i, j) => .table i j
    | none => match firstNo p.toNat (tabOf d) with
      | some t => .nolot t
      | none => .lot p.toNat (cordsOf p.toNat (tabOf d))
  | _ => .pins
theorem lotOut_nat {r : Nat} {d : D} : lotOut (.int (r : Int)) d = match badT (max r 1) d with
    | some (i, j) => .table i j
    | none => match firstNo r (tabOf d) with
      | some t => .nolot t
      | none => .lot r (cordsOf r (tabOf d)) := by
  unfold lotOut
  simp only
  rw [if_neg (by omega)]
  rfl
theorem cords_len {r : Nat} {T : List (List Int)} (hr : r ≤ 100) : (cordsOf r T).length < 100000 := by
  have h1 := doubles_le r T r
  have h2 : r * r ≤ 100 * 100 := Nat.mul_le_mul hr hr
  have h3 : (cordsOf r T).length ≤ (doubles r T).length := List.length_filterMap_le _ _
  unfold doubles at h3
  omega
/-- a def that may let an exception out, called -/
structure CalE (X : Cx) (nm : Str) (sp : Sp) (W : WX) : Prop where
  run : ∀ (e : Expr) (es : List Expr) (p pos : Pos) (σ : St) (H : Hp) (Q : VK), starEach (e :: es) X.env = (false, eval e X.env) :: starEach es X.env → (backTo pos (starEach es X.env)).any (·.1) = false → L2.Gl X nm →
    WA X (e :: es) σ H (fun vs H1 => sp vs H1 Q (fun cls d H' => W cls d σ H')) → WE X (.Call (.Name nm p) (e :: es) [] pos) σ H Q
theorem Df.calE {X : Cx} {k n : Nat} {nm : Str} {sp : Sp} {W : WX} (d : Df X.prog X.w X.K X.mg X.base (L2N.CX X.prog X.w) k nm sp) (tk : L2N.Takes X W) (hr : Room n X.A) (hk : k ≤ n) (hd : (nm == ("__debug__" : Str)) = false := by decide) : CalE X nm sp W := by
  obtain ⟨f, fd, ps, F, hm, kp, b⟩ := d.ex
  exact ⟨fun e es p pos σ H Q he hpl hg h => we_of (pe_callS (E := fun σ cls d H => W cls d σ H) F (hr.mono hk) hg hm kp b (fun σ => L2N.passAt tk σ) pa_wa hd he hpl) h⟩
section
variable {X : Cx} {S : Scope} {N M G Ls : List Str} {n k : Nat} {σ : St} {H : Hp} {a b e : Expr} {es : List Expr} {C : Addr} {r : Nat} {L : List T3} {p pos : Pos} {Q : VK} {nm : Str} {sp : Sp} {W : WX}
theorem we_callE (C : Ctx X S N M Ls G) (c : CalE X nm sp W) (hg : nm ∈ G) (h : WA X (e :: es) σ H fun vs H1 => sp vs H1 Q (fun cls d H' => W cls d σ H')) (he : starEach (e :: es) X.env = (false, eval e X.env) :: starEach es X.env := by rfl) (hp : (backTo pos (starEach es X.env)).any (·.1) = false := by rfl) :
    WE X (.Call (.Name nm p) (e :: es) [] pos) σ H Q := c.run e es p pos σ H Q he hp (C.glo hg) h
/-- Lot(pins, cords) -/
theorem we_lot (Z : Sd X S N M Ls G n) (k : LotK X.K X.mg C) (lm : ∃ (f : Addr) (fd : FuncData) (ps : List Str), Mk X.K C f ∧ FnOk X.prog X.w X.K X.mg X.base CX0 4 f fd ps (spLInit C) ∧ Binds X.K fd ps []) (hr : 5 ≤ n) (hg : ("Lot" : Str) ∈ G) (hn : Nf r L) (hl : L.length < 100000)
    (h : WA X [a, b] σ H fun vs H1 => ∃ cv, vs = [.int r, cv] ∧ Rep H1 cv (crdD L) ∧ ∀ v H2, Ex H1 H2 → LotAt C H2 v r L → Q v H2) (he : starEach (a :: b :: []) X.env = (false, eval a X.env) :: starEach (b :: []) X.env := by rfl) (he2 : (backTo pos (starEach (b :: []) X.env)).any (·.1) = false := by rfl) :
    WE X (.Call (.Name "Lot" p) [a, b] [] pos) σ H Q := by
  obtain ⟨f, fd, ps, mk, F, bd⟩ := lm
  refine we_of (pe_make mk F (Z.room.mono hr) (Z.C.glo hg) k.mg bd .nil pass0 pa_wa (by decide) he he2) ?_
  refine (show WA X [a, b] σ H _ from ⟨fun pos pins s I => thn (h.run pos pins s I) fun us s1 ⟨vs, H1, I1, r1, q1⟩ => ⟨vs, H1, I1, r1, ?_⟩⟩)
  obtain ⟨cv, rfl, rc, q⟩ := q1
  intro x dx hx hdx hne
  have e1 : Ex H1 (hid x (upd (upd H1 dx (.own x)) x (.ins C dx []))) := fun y o hy => by
    rw [hid_ne (ne_of_none hy hx), upd_ne (ne_of_none hy hx), upd_ne (ne_of_none hy hdx)]
    exact hy
  exact ⟨x, dx, r, cv, L, rfl, upd_same, rc.mono e1, hn, hl, fun H' v' e' hv l => ⟨rfl, q _ _ (e1.trans e') (hv ▸ l)⟩⟩
end
section
variable {P : Program} {w : World} {K : PySem.W.Frag} {mg : Str → Option Value} {base : Heap} {C CP CT CN : Addr}
def xdP (v : V) : HO := .xd [(Str.ofString "pins", v)]
def xdN (t : T3) : HO := .xd [(Str.ofString "twice", .int t.2.2), (Str.ofString "b", .int t.2.1), (Str.ofString "a", .int t.1)]
def spLotOf (C CP CT CN : Addr) : Sp := fun vs H Q E => ∃ (pv : V) (pd : D) (tv : V) (d : D), vs = [pv, tv] ∧ Rep H pv pd ∧ Rep H tv d ∧ (∀ p, pd = .int p → p ≤ 100) ∧ (lotOut pd d = .pins → ∀ dx H', Ex H H' → H' dx = some (xdP pv) → E (.ref CP) (some dx) H') ∧
  (∀ i j, lotOut pd d = .table i j → ∀ dx H', Ex H H' → H' dx = some (xdT i j) → E (.ref CT) (some dx) H') ∧ (∀ t, lotOut pd d = .nolot t → ∀ dx H', Ex H H' → H' dx = some (xdN t) → E (.ref CN) (some dx) H') ∧ ∀ r L, lotOut pd d = .lot r L → ∀ v H', Ex H H' → LotAt C H' v r L → Q v H'
/-- the def and its promise -/
theorem fnd_okE {nm : Str} {i n : Nat} {N ps M L G : List Str} {sp : Sp} (h : Has K mg nm i) (B : Bi mg) (sc : FnScope N ps (defScope (topS i))) (cb : ctxB (defScope (topS i)) (fun _ => true) N M L G = true)
    (len : ∀ vs H Q E, sp vs H Q E → vs.length = ps.length)
    (body : ∀ X : Cx, X.prog = P → X.w = w → X.K = K → X.mg = mg → X.base = base → Sd X (defScope (topS i)) N M L G n → ∀ vs H Q E, L2N.Takes X (fun cls d _ H => E cls d H) → sp vs H Q E → WB X (defBody (topS i)) { nx := fun _ H' => Q .non H', rt := Q } (start N vs) H) :
    ∃ (f : Addr) (fd : FuncData), FunD K nm nm (defArgs (topS i)) (defBody (topS i)) (defScope (topS i)) [] [] f fd ∧ FnOk P w K mg base (L2N.CX P w) (n + 1) f fd ps sp ∧ mg nm = some (.ref f) := by
  obtain ⟨f, fd, F, gm⟩ := h.ex
  exact ⟨f, fd, F, fn_okE F B sc cb len body, gm⟩
theorem lotof_fn (h : Has K mg "lot_of" 31) (B : Bi mg) (k : LotK K mg C) (dW : Df P w K mg base CX0 1 "is_whole" spWhole) (dG : Df P w K mg base CX0 1 "gaps" spGaps) (dD : Df P w K mg base CX0 1 "raw_doubles" spDoubles) (dC : Df P w K mg base CX0 2 "raw_cords" spCords)
    (dT : Df P w K mg base (L2N.CX P w) 3 "check_table" (spCheck CT)) (xP : ExD P w K mg base 1 "BadPins" CP ["pins"]) (xN : ExD P w K mg base 1 "NoLot" CN ["a", "b", "twice"]) (lm : ∃ (f : Addr) (fd : FuncData) (ps : List Str), Mk K C f ∧ FnOk P w K mg base CX0 4 f fd ps (spLInit C) ∧ Binds K fd ps []) :
    ∃ (f : Addr) (fd : FuncData), FunD K "lot_of" "lot_of" (defArgs (topS 31)) (defBody (topS 31)) (defScope (topS 31)) [] [] f fd ∧ FnOk P w K mg base (L2N.CX P w) 6 f fd ["pins", "table"] (spLotOf C CP CT CN) ∧ mg "lot_of" = some (.ref f) := by
  refine fnd_okE h B sc31 cb31 (fun vs H Q E ⟨pv, pd, tv, d, e, _⟩ => by rw [e]; rfl) ?_
  rintro X rfl rfl rfl rfl rfl Z vs H Q E tk ⟨pv, pd, tv, d, rfl, rp, rt, hsmall, qP, qT, qN, qL⟩
  have hC := Z.C
  have rzP := xP.rz Z.room (by decide) (by decide)
  have rzN := xN.rz Z.room (by decide) (by decide)
  show WB X _ _ [some _, some _, none, none, none] _
  refine b_when (t := !pd.whole || decide (pd.toI < 0)) (tv_w (tw_or (t := !pd.whole) (u := decide (pd.toI < 0)) (tv_not (tv_val (ev_call hC (Z.cal dW) (by walk_at "mem") (av_cons (by walk_at "ev") av_nil) fun H1 e1 Q k => ⟨pv, pd, rfl, rp.mono e1, k⟩))) fun hw => tw_or1 ?_)) ?_ ?_
  · obtain ⟨v, rfl⟩ := D.whole_int (d := pd) (by simpa using hw)
    obtain rfl := rp.int_inv
    exact show Tv X _ _ _ (decide (v < 0)) from tv_c (cv_lt (by walk_at "ev") (by walk_at "ev"))
  · intro hb H1 e1
    refine b_raise (fl := ["pins"]) (vals := [pv]) Z tk rzP (by walk_at "mem") (av_cons (by walk_at "ev") av_nil) rfl (fun dx H' e' _ hd => qP ?_ dx H' (e1.trans e') hd)
    unfold lotOut
    cases pd <;> first | rfl | skip
    simp only [D.whole, D.toI, Bool.not_true, Bool.false_or] at hb
    exact if_pos (of_decide_eq_true hb)
  intro hb H1 e1
  obtain ⟨p, rfl⟩ := D.whole_int (d := pd) (by cases h : pd.whole with | true => rfl | false => rw [h] at hb; cases hb)
  simp only [D.whole, D.toI, Bool.not_true, Bool.false_or] at hb
  have hp0 := of_decide_eq_false hb
  have hp1 := hsmall p rfl
  obtain ⟨r, rfl⟩ : ∃ r : Nat, p = (r : Int) := ⟨p.toNat, by omega⟩
  obtain rfl := rp.int_inv
  have hr : r ≤ 100 := by omega
  have rt1 := rt.mono e1
  refine b_drop (we_callE hC (dT.calE tk Z.room (by decide)) (by walk_at "mem") ((show Av X [_, _] _ H1 [V.int ((max r 1 : Nat) : Int), tv] from av_cons (ev_call hC (Z.cal dG) (by walk_at "mem") (av_cons (by walk_at "ev") av_nil) fun H2 e2 Q k => ⟨r, rfl, k⟩) (av_cons (by walk_at "ev") av_nil)).go fun H2 e2 => ⟨max r 1, tv, d, rfl, rt1.mono e2, by omega, fun hok H3 e3 => ?_, fun i j hbad dx H3 e3 hd => qT i j ?_ dx H3 ((e1.trans e2).trans e3) hd⟩))
  rotate_left
  · rw [lotOut_nat, hbad]
  have e03 : Ex H H3 := (e1.trans e2).trans e3
  have rt3 := rt.mono e03
  obtain ⟨hTD, hTO⟩ := tab_ok hok
  have out : lotOut (.int (r : Int)) d = match firstNo r (tabOf d) with
      | some t => .nolot t
      | none => .lot r (cordsOf r (tabOf d)) := by rw [lotOut_nat, hok]
  refine b_forX (g := gT3 X.K N31 "a" "b" "twice") Z (srx_tup (ds := (doubles r (tabOf d)).map t3D) (er_call (d := crdD (doubles r (tabOf d))) hC (Z.cal dD) (by walk_at "mem") (av_cons (by walk_at "ev") (av_cons (by walk_at "ev") av_nil)) fun H4 e4 Q k => ⟨r, tv, d, tabOf d, rfl, hr, rt3.mono e4, hTD, hTO.sqr, k⟩)) (pgT3 hC Z.calm (by walk_at "mem") (by walk_at "mem") (by walk_at "mem"))
    (fun xs B i σ' H' => (∃ oa ob oc, σ' = [some (.int (r : Int)), some tv, oa, ob, oc]) ∧ Ex H H' ∧ Ex B H' ∧ ∀ k : Nat, k < i → ∀ u : T3, (doubles r (tabOf d))[k]? = some u → noT u = false) (fun H4 B xs e4 eB _ => ⟨⟨_, _, _, rfl⟩, e03.trans e4, eB, fun k hk => absurd hk (Nat.not_lt_zero _)⟩) (fun xs B i σ' H' z => z.2.2.1) ?_ ?_
  · rintro xs B i x σ' H4 hx hB ⟨⟨oa, ob, oc, rfl⟩, e4, eB, hpre⟩
    obtain ⟨dx, h3, rx⟩ := hB.1.get hx
    rw [List.getElem?_map] at h3
    obtain ⟨t, ht, rfl⟩ := Option.map_eq_some_iff.mp h3
    obtain ⟨u, rfl, hu⟩ := t3_inv rx
    refine g3_of (by walk_at "set3") (sqT (eB _ _ hu)) ?_
    refine b_when (t := noT t) (tv_w ((tw_or (t := decide (t.2.2 < 0)) (u := decide (t.2.2 % 2 = 1)) (by walk_at "tv") fun _ => tw_or1 (tv_c (cv_eqI (ev_mod (by walk_at "ev") (by walk_at "ev") (by decide)) (by walk_at "ev")))))) ?_ ?_
    · intro hno H5 e5
      refine b_raise (fl := ["a", "b", "twice"]) (vals := [.int t.1, .int t.2.1, .int t.2.2]) Z tk rzN (by walk_at "mem") (av_cons (by walk_at "ev") (av_cons (by walk_at "ev") (av_cons (by walk_at "ev") av_nil))) rfl (fun dx H' e' _ hd => qN t ?_ dx H' ((e4.trans e5).trans e') hd)
      rw [out, show firstNo r (tabOf d) = some t from find_ix ht hno hpre]
    · intro hno H5 e5
      refine b_nil ⟨⟨_, _, _, rfl⟩, e4.trans e5, eB.trans e5, fun k hk v hv => ?_⟩
      by_cases e : k = i
      · subst e
        rw [ht] at hv
        cases hv
        exact hno
      · exact hpre k (by omega) v hv
  · rintro xs B σ' H4 hB ⟨⟨oa, ob, oc, rfl⟩, e4, eB, hpre⟩
    have hlen : xs.length = (doubles r (tabOf d)).length := by rw [hB.1.len, List.length_map]
    have all : ∀ (k : Nat) (u : T3), (doubles r (tabOf d))[k]? = some u → noT u = false := fun k u hu => hpre k (by rw [hlen]; exact (List.getElem?_eq_some_iff.mp hu).1) u hu
    have hn : Nf r (cordsOf r (tabOf d)) := nf_cords fun t ht => by
      obtain ⟨k, hk, e⟩ := List.getElem_of_mem ht
      exact all k t (by rw [List.getElem?_eq_getElem hk, e])
    refine b_ret ?_
    refine we_lot Z k lm (by decide) (by walk_at "mem") hn (cords_len hr) (a_cons ((show Ev X _ _ H4 (.int (r : Int)) from by walk_at "ev").go fun H5 e5 => a_cons ((er_call (d := crdD (cordsOf r (tabOf d))) hC (Z.cal dC) (by walk_at "mem") (av_cons (by walk_at "ev") (av_cons (by walk_at "ev") av_nil)) fun H6 e6 Q k => ⟨r, tv, d, tabOf d, rfl, hr, rt.mono ((e4.trans e5).trans e6), hTD, hTO.sqr, k⟩).go fun cv H6 e6 r6 => a_nil ⟨cv, rfl, r6.mono nw_ex, fun v H7 e7 l => qL r _ ?_ v H7 (((e4.trans e5).trans e6).trans e7) l⟩)))
    rw [out, show firstNo r (tabOf d) = none from find_none_ix all]
theorem df_lotof (h : Has K mg "lot_of" 31) (B : Bi mg) (k : LotK K mg C) (dW : Df P w K mg base CX0 1 "is_whole" spWhole) (dG : Df P w K mg base CX0 1 "gaps" spGaps) (dD : Df P w K mg base CX0 1 "raw_doubles" spDoubles) (dC : Df P w K mg base CX0 2 "raw_cords" spCords)
    (dT : Df P w K mg base (L2N.CX P w) 3 "check_table" (spCheck CT)) (xP : ExD P w K mg base 1 "BadPins" CP ["pins"]) (xN : ExD P w K mg base 1 "NoLot" CN ["a", "b", "twice"]) (lm : ∃ (f : Addr) (fd : FuncData) (ps : List Str), Mk K C f ∧ FnOk P w K mg base CX0 4 f fd ps (spLInit C) ∧ Binds K fd ps []) :
    Df P w K mg base (L2N.CX P w) 6 "lot_of" (spLotOf C CP CT CN) := by
  obtain ⟨f, fd, F, ok, gm⟩ := lotof_fn h B k dW dG dD dC dT xP xN lm
  exact ⟨f, fd, _, ok, gm, F.kp, F.bindsN (fun _ _ _ _ _ _ us hl => match us, hl with | [_, _], _ => rfl)⟩
/-- lot_of(table = .., pins = ..) binds so -/
def kwG {α : Type} (us ws : List α) : List α := us ++ ws.reverse
theorem Vals.rev {vs : List V} {us : List Value} (h : Vals vs us) : Vals vs.reverse us.reverse := by
  induction h with
  | nil => exact .nil
  | cons r _ ih =>
    rw [List.reverse_cons, List.reverse_cons]
    exact ih.append (.cons r .nil)
theorem lotof_kb {f : Addr} {fd : FuncData} (F : FunD K "lot_of" "lot_of" (defArgs (topS 31)) (defBody (topS 31)) (defScope (topS 31)) [] [] f fd) : KBinds K fd ["pins", "table"] ["table", "pins"] kwG kwG := by
  refine ⟨fun s us ws hK hl => ?_, fun r rz => r.append (Vals.rev rz)⟩
  obtain ⟨oc, od, dV, kV, doc, pm, an, cdv, ct, osl, rfl, lk, hcd, hD, hKw⟩ := F.ex
  rcases hD with ⟨_, rfl⟩ | ⟨e, _⟩
  · refine .of_eq ?_
    match us, ws, hl with
    | [], [_, _], _ => rfl
    | [_], [_], _ => rfl
    | [_, _], [], _ => rfl
    | _ :: _ :: _ :: _, ws, hl => simp [kwG] at hl
    | [_, _], _ :: _, hl => simp [kwG] at hl
    | [_], [], hl => simp [kwG] at hl
    | [_], _ :: _ :: _, hl => simp [kwG] at hl
    | [], [], hl => simp [kwG] at hl
    | [], [_], hl => simp [kwG] at hl
    | [], _ :: _ :: _ :: _, hl => simp [kwG] at hl
  · exact absurd rfl e
end
end RC
/-! Ints that are not told exactly; the law's small functions. -/
namespace RC
open PySem PySem.Spec PyProof.Rows L2
section
variable {X : Cx} {S : Scope} {N M Ls G : List Str} {σ : St} {H H1 : Hp} {a b e : Expr} {es : List Expr} {rest : List Stmt} {pos pos2 pos3 : Pos} {v : V} {i j : Int} {P R T : Int → Prop} {En : Ends} {nm : Str} {sp : Sp}
/-- evaluates to some int of that kind -/
structure Ei (X : Cx) (e : Expr) (σ : St) (H : Hp) (P : Int → Prop) : Prop where
  run : ∀ H1, Ex H H1 → ∀ Q : VK, (∀ i H2, Ex H1 H2 → P i → Q (.int i) H2) → WE X e σ H1 Q
theorem Ei.mono (h : Ei X e σ H P) (q : Ex H H1) : Ei X e σ H1 P := ⟨fun H2 e2 => h.run H2 (q.trans e2)⟩
theorem Ei.go {Q : VK} (h : Ei X e σ H P) (q : ∀ i H2, Ex H H2 → P i → Q (.int i) H2) : WE X e σ H Q := h.run H Ex.rfl' Q q
theorem Ei.is (h : Ei X e σ H P) (q : ∀ i, P i → R i) : Ei X e σ H R := ⟨fun H1 e1 Q k => h.run H1 e1 Q fun i H2 e2 p => k i H2 e2 (q i p)⟩
theorem ei_ev (h : Ev X e σ H (.int i)) : Ei X e σ H (fun k => k = i) := ⟨fun H1 e1 Q k => h.run H1 e1 Q fun H2 e2 => k i H2 e2 rfl⟩
theorem ei_bin {op : Operator} {r : R2} (ho : OpR X (binaryOp op) r) (ha : Ei X a σ H P) (hb : Ei X b σ H R) (hr : ∀ i j, P i → R j → ∃ k, T k ∧ ∀ (H1 : Hp) (Q : VK), Q (.int k) H1 → r (.int i) (.int j) H1 Q) : Ei X (.BinOp a op b pos) σ H T :=
  ⟨fun H1 e1 Q k => we_of (pe_op ho pe_we pe_we) (ha.run H1 e1 _ fun i H2 e2 pi => hb.run H2 (e1.trans e2) _ fun j H3 e3 pj => by
    obtain ⟨z, tz, q⟩ := hr i j pi pj
    exact q H3 Q (k z H3 (e2.trans e3) tz))⟩
theorem ei_mod (ha : Ei X a σ H P) (hb : Ev X b σ H (.int j)) (hj : 0 < j) : Ei X (.BinOp a .Mod b pos) σ H (fun k => 0 ≤ k ∧ k < j) :=
  ei_bin op_mod ha (ei_ev hb) fun i j' _ e => ⟨i % j, ⟨Int.emod_nonneg _ (by omega), Int.emod_lt_of_pos _ hj⟩, fun H1 Q q => ⟨i, j, rfl, by rw [e], hj, q⟩⟩
theorem ei_fdiv (ha : Ei X a σ H P) (hb : Ev X b σ H (.int j)) (hj : 0 < j ∧ j < 1073741824) : Ei X (.BinOp a .FloorDiv b pos) σ H (fun k => ∃ i, P i ∧ k = i / j) :=
  ei_bin op_fdiv ha (ei_ev hb) fun i j' p e => ⟨i / j, ⟨i, p, rfl⟩, fun H1 Q q => ⟨i, j, rfl, by rw [e], hj, q⟩⟩
theorem ei_add (ha : Ei X a σ H P) (hb : Ei X b σ H R) : Ei X (.BinOp a .Add b pos) σ H (fun k => ∃ i j, P i ∧ R j ∧ k = i + j) :=
  ei_bin op_add ha hb fun i j p r => ⟨i + j, ⟨i, j, p, r, rfl⟩, fun H1 Q q => ⟨i, j, rfl, rfl, q⟩⟩
theorem ei_sub (ha : Ei X a σ H P) (hb : Ei X b σ H R) : Ei X (.BinOp a .Sub b pos) σ H (fun k => ∃ i j, P i ∧ R j ∧ k = i - j) :=
  ei_bin op_sub ha hb fun i j p r => ⟨i - j, ⟨i, j, p, r, rfl⟩, fun H1 Q q => ⟨i, j, rfl, rfl, q⟩⟩
theorem ei_mul (ha : Ei X a σ H P) (hb : Ei X b σ H R) (hm : ∀ i j, P i → R j → CMul i j) : Ei X (.BinOp a .Mult b pos) σ H (fun k => ∃ i j, P i ∧ R j ∧ k = i * j) :=
  ei_bin op_mul ha hb fun i j p r => ⟨i * j, ⟨i, j, p, r, rfl⟩, fun H1 Q q => ⟨i, j, rfl, rfl, hm i j p r, q⟩⟩
theorem ei_int (C : Ctx X S N M Ls G) (B : Bi X.mg) (hg : ("int" : Str) ∈ G) (ha : Ei X a σ H P) (he : starEach (a :: []) X.env = (false, eval a X.env) :: starEach [] X.env := by rfl) : Ei X (.Call (.Name "int" pos2) [a] [] pos) σ H P :=
  ⟨fun H1 e1 Q k => we_of (pe_callTy call_int1 (C.glo hg) B.int bt_int pa_wa (by decide) (by decide) he rfl) (a_cons (ha.run H1 e1 _ fun i H2 e2 p => a_nil (.inl ⟨i, rfl, k i H2 e2 p⟩)) he)⟩
/-- a call that answers with some int -/
theorem ei_call {vs : List V} (C : Ctx X S N M Ls G) (c : Cal X nm sp) (hg : nm ∈ G) (h : Av X (e :: es) σ H vs) (q : ∀ H1, Ex H H1 → ∀ Q : VK, (∀ i H2, Ex H1 H2 → P i → Q (.int i) H2) → sp vs H1 Q E0)
    (he : starEach (e :: es) X.env = (false, eval e X.env) :: starEach es X.env := by rfl) (hp : (backTo pos (starEach es X.env)).any (·.1) = false := by rfl) : Ei X (.Call (.Name nm pos2) (e :: es) [] pos) σ H P :=
  ⟨fun H1 e1 Q k => we_call C c hg (h.run H1 e1 _ fun H2 e2 => q H2 (e1.trans e2) Q fun i H3 e3 p => k i H3 (e2.trans e3) p) he hp⟩
theorem b_setI {f : V → St} (C : Ctx X S N M Ls G) (hl : nm ∈ Ls) (hs : ∀ v, SetAt N σ nm v (f v)) (h : Ei X e σ H P) (q : ∀ i H1, Ex H H1 → P i → WB X rest En (f (.int i)) H1) (hw : swapsWith e (some (.Name nm pos2)) pos.line X.env = pure false := by rfl) :
    WB X (.Assign [.Name nm pos2] e pos :: rest) En σ H := b_set C hl hs (h.go q) hw
/-- a list of ints that is made on the way, at a place: some int of it -/
theorem ei_ixR {P : List Int → Prop} {n : Nat} (ha : ∀ H1, Ex H H1 → ∀ Q : VK, (∀ ns v H2, Ex H1 H2 → P ns → Rep H2 v (.lst (ns.map D.int)) → Q v H2) → WE X a σ H1 Q) (hb : Ev X b σ H (.int (n : Int))) (hn : ∀ ns, P ns → n < ns.length) (hi : PlainIx b := by exact fun _ _ => rfl) :
    Ei X (.Subscript a b pos) σ H (fun i => ∃ ns : List Int, P ns ∧ ns[n]? = some i) :=
  ⟨fun H1 e1 Q k => we_of (pe_ix ix_list pe_we pe_we hi) (ha H1 e1 _ fun ns v H2 e2 p r => hb.run H2 (e1.trans e2) _ fun H3 e3 => by
    obtain ⟨a, xs, rfl, hx, rx⟩ := r.lst_inv
    have hlt := hn ns p
    have e := List.getElem?_eq_getElem hlt
    refine ⟨a, xs, n, .int ns[n], rfl, rfl, exL e3 (sqL hx), L2.atI_nat ?_, k ns[n] H3 (e2.trans e3) ⟨ns, p, e⟩⟩
    rw [rx.ints_inv, List.getElem?_map, e]; rfl)⟩
end
/-- the script -/
def Scr (K : PySem.W.Frag) (H : Hp) (v : V) : Prop := ∃ (p : Addr) (ns : List Int), v = .ref p ∧ SqL K H p (ns.map V.int) ∧ ns.length < 100000
theorem Scr.mono {K : PySem.W.Frag} {H H' : Hp} {v : V} (h : Scr K H v) (e : Ex H H') : Scr K H' v := by
  obtain ⟨p, ns, rfl, h, hl⟩ := h
  exact ⟨p, ns, rfl, exL e h, hl⟩
def Digs (ns ss : List Int) : Prop := Paired (fun n s => 0 ≤ n ∧ n < s) ns ss
section
variable {P : Program} {w : World} {K : PySem.W.Frag} {mg : Str → Option Value} {base : Heap}
theorem df_lwhole (h : Has K mg "_law_whole" 33) (B : Bi mg) : Df P w K mg base CX0 1 "_law_whole" spWhole := by
  refine df_ok h B sc33 cb33 (fun _ _ _ _ _ _ us hl => match us, hl with | [_], _ => rfl) (fun vs H Q E ⟨n, d, e, _⟩ => by rw [e]; rfl) ?_
  rintro X rfl rfl rfl rfl rfl Z vs H Q E ⟨v, d, rfl, r, q⟩
  have hC := Z.C
  show WB X _ _ [some _] _
  refine b_ret ?_
  refine ((ev_and (ev_isInt hC Z.B (by walk_at "mem") (by walk_at "mem") (by walk_at "ev") r) fun _ => ev_one (ev_not (ev_isBool hC Z.B (by walk_at "mem") (by walk_at "mem") (by walk_at "ev") r))).is (z := .bl d.whole) ?_).go q
  rw [whole_eq]
def spCell (K : PySem.W.Frag) : Sp := fun vs H Q _ => ∃ (sv : V) (k : Nat), vs = [sv, .int k] ∧ Scr K H sv ∧ ∀ i H', Ex H H' → Q (.int i) H'
theorem df_cell (h : Has K mg "_law_cell" 34) (B : Bi mg) : Df P w K mg base CX0 1 "_law_cell" (spCell K) := by
  refine df_ok h B sc34 cb34 (fun _ _ _ _ _ _ us hl => match us, hl with | [_, _], _ => rfl) (fun vs H Q E ⟨n, d, e, _⟩ => by rw [e]; rfl) ?_
  rintro X rfl rfl rfl rfl rfl Z vs H Q E ⟨sv, k, rfl, ⟨p, ns, rfl, hp, hl⟩, q⟩
  have hC := Z.C
  show WB X _ _ [some _, some _, none, none] _
  refine b_when (t := decide (k < ns.length)) ((tv_c (cv_lt (by walk_at "ev") (ev_len hC Z.B (by walk_at "mem") (by walk_at "ev") (.inl hp)))).is (by rw [decide_eq_decide, List.length_map]; omega)) ?_ ?_
  · intro hk H1 e1
    have hk := of_decide_eq_true hk
    refine b_ret ((ev_ixL (v := .int ns[k]) (by walk_at "ev") (by walk_at "ev") (exL e1 hp) (L2.atI_nat (by rw [List.getElem?_map, List.getElem?_eq_getElem hk]; rfl))).go fun H2 e2 => q _ H2 (e1.trans e2))
  · intro hk H1 e1
    refine b_setV (v := .int 17) hC (by walk_at "mem") (by walk_at "set") (by walk_at "ev") fun H2 e2 => ?_
    have e02 := e1.trans e2
    refine b_for Z.calm Z.pas (sr_list (Hb := H) (by walk_at "ev") hp e02) (pgN hC (by walk_at "mem")) (fun B i σ' H' => B = H ∧ Ex H H' ∧ ∃ s oc, σ' = [some (.ref p), some (.int (k : Int)), some (.int s), oc] ∧ 0 ≤ s ∧ s < 1000003) (fun H3 B e3 _ hB => ⟨hB, e02.trans e3, 17, _, rfl, by omega, by omega⟩) (fun B i σ' H' z => z.1 ▸ z.2.1) ?_ ?_
    · rintro B i x σ' H3 hx ⟨rfl, e3, s, oc, rfl, h0, h1⟩
      rw [List.getElem?_map] at hx
      obtain ⟨c, _, rfl⟩ := Option.map_eq_some_iff.mp hx
      refine g1_of (by walk_at "set") ?_
      refine b_setV (v := .int ((s * 31 + c % 1000003) % 1000003)) hC (by walk_at "mem") (by walk_at "set") (ev_mod (ev_intI hC Z.B (by walk_at "mem") (ev_add (ev_mul (by walk_at "ev") (by walk_at "ev") (.inl ⟨by omega, by omega⟩)) (ev_mod (ev_intI hC Z.B (by walk_at "mem") (by walk_at "ev")) (by walk_at "ev") (by decide)))) (by walk_at "ev") (by decide)) fun H4 e4 => ?_
      exact b_nil ⟨rfl, e3.trans e4, _, _, rfl, Int.emod_nonneg _ (by decide), Int.emod_lt_of_pos _ (by decide)⟩
    · rintro B σ' H3 ⟨rfl, e3, s, oc, rfl, h0, h1⟩
      refine b_ret ((ev_mod (ev_intI hC Z.B (by walk_at "mem") (ev_mul (ev_mul (ev_add (by walk_at "ev") (by walk_at "ev")) (ev_add (by walk_at "ev") (by walk_at "ev")) (.inl ⟨by omega, by omega⟩)) (by walk_at "ev") (.inr ⟨by decide, by decide⟩))) (by walk_at "ev") (by decide)).go fun H4 e4 => q _ H4 (e3.trans e4))
def spDigits : Sp := fun vs H Q _ => ∃ (c : Int) (p : Addr) (ss : List Int), vs = [.int c, .ref p] ∧ H p = some (.lst (ss.map V.int)) ∧ (∀ s ∈ ss, 0 < s ∧ s < 1073741824) ∧ ss.length < 10000 ∧ ∀ ns v H', Ex H H' → Digs ns ss → Rep (nw H H') v (.lst (ns.map D.int)) → Q v H'
theorem df_digits (h : Has K mg "_law_digits" 35) (B : Bi mg) : Df P w K mg base CX0 1 "_law_digits" spDigits := by
  refine df_ok h B sc35 cb35 (fun _ _ _ _ _ _ us hl => match us, hl with | [_, _], _ => rfl) (fun vs H Q E ⟨n, d, _, e, _⟩ => by rw [e]; rfl) ?_
  rintro X rfl rfl rfl rfl rfl Z vs H Q E ⟨c, p, ss, rfl, hp, hs, hl, q⟩
  have hC := Z.C
  show WB X _ _ [some _, some _, none, none, none, none, none, none] _
  refine b_new hC (by walk_at "mem") (by walk_at "set") fun r H1 e1 g1 => ?_
  refine b_setV (v := .int c) hC (by walk_at "mem") (by walk_at "set") (ev_intI hC Z.B (by walk_at "mem") (by walk_at "ev")) fun H2 e2 => ?_
  have e18 : ∀ {σ : St} {H : Hp} {p1 p2 p3 : Pos} {n1 n2 : Nat}, Ev X (.BinOp (.Constant (.int 10) n1 p1) .Pow (.Constant (.int 18) n2 p2) p3) σ H (.int (10 ^ 18)) := (ev_pow ev_int ev_int ⟨by decide, by decide, by decide⟩).is rfl
  refine b_when (t := decide ((10 : Int) ^ 18 ≤ c)) (tv_c (cv_ge (by walk_at "ev") e18)) ?_ ?_
  · intro hb H3 e3
    refine b_setV (v := .int (c - 10 ^ 18)) hC (by walk_at "mem") (by walk_at "set") (ev_sub (by walk_at "ev") e18) fun H4 e4 => ?_
    have g4 := ((g1.mono e2).mono e3).mono e4
    refine b_for Z.calm Z.pas (sr_list (Hb := H) (by walk_at "ev") (sqL hp) g4.ex) (pgN hC (by walk_at "mem")) (fun B i σ' H' => B = H ∧ ∃ rs os ns, σ' = [some (.int c), some (.ref p), some (.ref r), some (.int rs), os, none, none, none] ∧ Gl H r (ns.map D.int) H' ∧ Digs ns (ss.take i)) (fun H5 B e5 _ hB => ⟨hB, _, _, [], rfl, g4.mono e5, .nil⟩) (fun B i σ' H' ⟨rfl, _, _, _, _, g, _⟩ => g.ex) ?_ ?_
    · rintro B i x σ' H5 hx ⟨rfl, rs, os, ns, rfl, g5, dg⟩
      rw [List.getElem?_map] at hx
      obtain ⟨s, hsx, rfl⟩ := Option.map_eq_some_iff.mp hx
      have hs1 := hs s (List.mem_of_getElem? hsx)
      have hlen : ns.length = (ss.take i).length := paired_len dg
      rw [List.length_take] at hlen
      refine g1_of (by walk_at "set") ?_
      refine b_app g5 (by walk_at "ev") (er_int (ev_mod (ev_intI hC Z.B (by walk_at "mem") (by walk_at "ev")) (by walk_at "ev") hs1.1)) (by rw [List.length_map]; omega) fun H6 g6 => ?_
      refine b_setV (v := .int (rs / s)) hC (by walk_at "mem") (by walk_at "set") (ev_fdiv (ev_intI hC Z.B (by walk_at "mem") (by walk_at "ev")) (by walk_at "ev") hs1) fun H7 e7 => ?_
      refine b_nil ⟨rfl, _, _, ns ++ [rs % s], rfl, by rw [List.map_append]; exact g6.mono e7, by rw [take_snoc hsx]; exact paired_snoc dg ⟨Int.emod_nonneg _ (by omega), Int.emod_lt_of_pos _ hs1.1⟩⟩
    · rintro B σ' H5 ⟨rfl, rs, os, ns, rfl, g5, dg⟩
      rw [List.length_map, List.take_length] at dg
      exact b_ret ((show Ev X _ _ H5 (.ref r) from by walk_at "ev").go fun H6 e6 => q ns _ H6 (g5.ex.trans e6) dg (g5.mono e6).rep)
  · intro hb H3 e3
    refine b_setV (v := .int (c % 2147483629)) hC (by walk_at "mem") (by walk_at "set") (ev_mod (ev_intI hC Z.B (by walk_at "mem") (by walk_at "ev")) (by walk_at "ev") (by decide)) fun H4 e4 => ?_
    have g4 := ((g1.mono e2).mono e3).mono e4
    refine b_rng1 (m := ss.length) Z (by walk_at "mem") (by walk_at "mem") ((ev_len hC Z.B (by walk_at "mem") (by walk_at "ev") (.inl (sqL (g4.ex _ _ hp)))).is (by rw [List.length_map])) (by omega) (fun i σ' H' => ∃ sd ok ot ns, σ' = [some (.int c), some (.ref p), some (.ref r), some (.int c), none, some (.int sd), ok, ot] ∧ 0 ≤ sd ∧ sd < 2147483647 ∧ Gl H r (ns.map D.int) H' ∧ Digs ns (ss.take i))
      (fun H5 e5 => ⟨_, _, _, [], rfl, Int.emod_nonneg _ (by decide), by have := Int.emod_lt_of_pos c (show (0 : Int) < 2147483629 by decide); omega, g4.mono e5, .nil⟩) ?_ ?_
    · rintro i σ' H5 hi ⟨sd, ok, ot, ns, rfl, h0, h1, g5, dg⟩
      have hsx := List.getElem?_eq_getElem hi
      have hs1 := hs ss[i] (List.getElem_mem hi)
      have hlen : ns.length = (ss.take i).length := paired_len dg
      rw [List.length_take] at hlen
      refine g1_of (by walk_at "set") ?_
      have b1 := Int.emod_nonneg (sd * 48271 + 974711 * (i : Int) + 12345) (show (2147483647 : Int) ≠ 0 by decide)
      have b2 := Int.emod_lt_of_pos (sd * 48271 + 974711 * (i : Int) + 12345) (show (0 : Int) < 2147483647 by decide)
      refine b_setV (v := .int ((sd * 48271 + 974711 * (i : Int) + 12345) % 2147483647)) hC (by walk_at "mem") (by walk_at "set") (ev_mod (ev_intI hC Z.B (by walk_at "mem") (ev_add (ev_add (ev_mul (by walk_at "ev") (by walk_at "ev") (.inl ⟨by omega, by omega⟩)) (ev_mul (by walk_at "ev") (by walk_at "ev") (.inl ⟨by omega, by omega⟩))) (by walk_at "ev"))) (by walk_at "ev") (by decide)) fun H6 e6 => ?_
      generalize (sd * 48271 + 974711 * (i : Int) + 12345) % 2147483647 = sd2 at b1 b2
      refine b_setV (v := .int ((sd2 * (sd2 / 65537 + 3)) % 2147483629)) hC (by walk_at "mem") (by walk_at "set") (ev_mod (ev_intI hC Z.B (by walk_at "mem") (ev_mul (by walk_at "ev") (ev_add (ev_fdiv (by walk_at "ev") (by walk_at "ev") (by decide)) (by walk_at "ev")) (.inl ⟨by omega, by omega⟩))) (by walk_at "ev") (by decide)) fun H7 e7 => ?_
      have g7 := (g5.mono e6).mono e7
      refine b_app g7 (by walk_at "ev") (er_int (ev_mod (ev_fdiv (by walk_at "ev") (by walk_at "ev") (by decide)) (ev_ixL (v := .int ss[i]) (by walk_at "ev") (by walk_at "ev") (sqL (g7.ex _ _ hp)) (L2.atI_nat (by rw [List.getElem?_map, hsx]; rfl))) hs1.1)) (by rw [List.length_map]; omega) fun H8 g8 => ?_
      refine b_nil ⟨_, _, _, ns ++ [(sd2 * (sd2 / 65537 + 3)) % 2147483629 / 19 % ss[i]], rfl, b1, b2, by rw [List.map_append]; exact g8, by rw [take_snoc hsx]; exact paired_snoc dg ⟨Int.emod_nonneg _ (by omega), Int.emod_lt_of_pos _ hs1.1⟩⟩
    · rintro σ' H5 ⟨sd, ok, ot, ns, rfl, h0, h1, g5, dg⟩
      rw [List.take_length] at dg
      exact b_ret ((show Ev X _ _ H5 (.ref r) from by walk_at "ev").go fun H6 e6 => q ns _ H6 (g5.ex.trans e6) dg (g5.mono e6).rep)
end
end RC
/-! _law_norm, _law_pins, _law_lot -/
namespace RC
open PySem PySem.Spec PyProof.Rows L2
def prD (q : Int × Int) : D := .tup ([q.1, q.2].map D.int)
theorem pr_inv {H : Hp} {x : V} {q : Int × Int} (r : Rep H x (prD q)) : ∃ u, x = .ref u ∧ H u = some (.tup [.int q.1, .int q.2]) := by
  obtain ⟨a, ys, rfl, hq, ry⟩ := Rep.tup_inv r
  rw [ry.ints_inv] at hq
  exact ⟨a, rfl, hq⟩
theorem eqv_pr (p q : Int × Int) : PyData.eqv (iP [p.1, p.2]) (iP [q.1, q.2]) = decide (p = q) := by
  obtain ⟨a, b⟩ := p
  obtain ⟨c, d⟩ := q
  simp only [iP, List.map, PyData.eqv, PyData.eqvAll, Bool.and_true, Prod.mk.injEq]
  by_cases h1 : a = c <;> by_cases h2 : b = d <;> simp [h1, h2]
theorem shaped_pr (p : Int × Int) : SeqAt.shaped (iP [p.1, p.2]) = true := by
  unfold SeqAt.shaped iP
  rw [PyData.canLay0, lay_i, PyData.depth, dep_i]; rfl
theorem shaped_prs (l : List (Int × Int)) : SeqAt.shaped (.list (l.map fun p => iP [p.1, p.2])) = true := by
  unfold SeqAt.shaped
  have e : (l.map fun p : Int × Int => iP [p.1, p.2]) = (l.map fun p : Int × Int => [p.1, p.2]).map iP := by rw [List.map_map]; rfl
  rw [e, PyData.canLay0, lay_t, PyData.depth]
  have := dep_t (l.map fun p : Int × Int => [p.1, p.2])
  rw [decide_eq_true (by omega)]; rfl
theorem dp_prs {K : PySem.W.Frag} {H : Hp} : ∀ {l : List (Int × Int)} {xs : List V}, RepL H xs (l.map prD) → DpAll K H xs (l.map fun p => iP [p.1, p.2])
  | [], _, h => by cases h; exact .nil
  | p :: l, _, h => by
    cases h with
    | cons q h =>
      obtain ⟨u, rfl, hu⟩ := pr_inv q
      exact .cons (.tup (sqT hu) (dp_i [p.1, p.2])) (dp_prs h)
theorem map_prAt {H : Hp} : ∀ {ps : List (Int × Int)} {xs : List V}, RepL H xs (ps.map prD) → xs.map (prAt H) = ps
  | [], _, h => by cases h; rfl
  | q :: ps, _, h => by
    cases h with
    | cons q1 rx =>
      obtain ⟨u, rfl, hu⟩ := pr_inv q1
      rw [List.map_cons, prAt_of hu, map_prAt rx]
/-- the new list at l and the tuples that stand -/
def tupsOf (l : Addr) (ys : List V) (H : Hp) : Hp := fun a => if a = l then some (.lst ys) else match H a with
  | some (.tup zs) => some (.tup zs)
  | _ => none
theorem tupsOf_same {l : Addr} {ys : List V} {H : Hp} : tupsOf l ys H l = some (.lst ys) := if_pos rfl
theorem tupsOf_tup {l : Addr} {ys : List V} {H : Hp} {a : Addr} {zs : List V} (hl : H l = none) (h : H a = some (.tup zs)) : tupsOf l ys H a = some (.tup zs) := by
  unfold tupsOf
  rw [if_neg (ne_of_none h hl), h]
theorem tupsOf_get {l : Addr} {ys : List V} {H : Hp} {a : Addr} {o : HO} (h : tupsOf l ys H a = some o) : (a = l ∧ o = .lst ys) ∨ (a ≠ l ∧ H a = some o ∧ ∃ zs, o = .tup zs) := by
  unfold tupsOf at h
  by_cases e : a = l
  · rw [if_pos e] at h
    exact .inl ⟨e, (Option.some.inj h).symm⟩
  · rw [if_neg e] at h
    cases q : H a with
    | none => rw [q] at h; cases h
    | some u =>
      rw [q] at h
      cases u <;> cases h
      exact .inr ⟨e, rfl, _, rfl⟩
theorem tupsOf_ex {l : Addr} {ys : List V} {H : Hp} (hl : H l = none) : Ex (tupsOf l ys H) (upd H l (.lst ys)) := fun a o h => by
  rcases tupsOf_get h with ⟨rfl, rfl⟩ | ⟨e, h, _⟩
  · exact upd_same
  · rw [upd_ne e]; exact h
theorem tupsOf_or {l : Addr} {ys : List V} {H H0 : Hp} (hl : H0 l = none) {a : Addr} {o : HO} (h : tupsOf l ys H a = some o) : H0 a = none ∨ ∃ zs, o = .tup zs := by
  rcases tupsOf_get h with ⟨rfl, rfl⟩ | ⟨e, _, z⟩
  · exact .inl hl
  · exact .inr z
theorem hid_ofB {B H H2 : Hp} {l : Addr} {xs : List V} (eB : Ex B H2) (h : ∀ a o, B a = some o → H a = none ∨ ∃ zs, o = .tup zs) (hl : H l = some (.lst xs)) (h2 : H2 l = some (.lst xs)) : Ex B (hid l H2) := fun a o hb => by
  have e : a ≠ l := fun z => by
    subst z
    rcases h a o hb with h | ⟨zs, rfl⟩
    · rw [hl] at h; cases h
    · rw [eB _ _ hb] at h2; cases h2
  rw [hid_ne e]
  exact eB _ _ hb
section
variable {X : Cx} {S : Scope} {N M G Ls : List Str} {n k : Nat} {σ : St} {H H0 : Hp} {a b e : Expr} {p : Addr} {ps : List (Int × Int)} {pos pos2 : Pos} {tg : Expr}
/-- (i, j) not in l -/
theorem cv_notInP {q : Int × Int} (hu : X.A.units + 65 < cLine) (ha : Eo X a σ H (.tup [.int q.1, .int q.2])) (hb : Ev X b σ H (.ref p)) (r : Rep H (.ref p) (.lst (ps.map prD))) (hm : behindInMarks .NotIn b = false := by rfl) : Cv X .NotIn a b σ H (!decide (q ∈ ps)) :=
  ⟨_, op_notInD hu, hm, fun H1 e1 Q k => ha.run H1 e1 _ fun u H2 hu2 e2 h2 => hb.run H2 (e1.trans e2) _ fun H3 e3 => by
    obtain ⟨a', xs, e', hx, rx⟩ := (r.mono ((e1.trans e2).trans e3)).lst_inv
    cases e'
    refine ⟨iP [q.1, q.2], ps.map fun p => iP [p.1, p.2], .tup (sqT (e3 _ _ h2)) (dp_i [q.1, q.2]), .lst (sqL hx) (dp_prs rx), shaped_pr q, shaped_prs ps, ?_⟩
    have : ((ps.map fun p => iP [p.1, p.2]).any fun z => PyData.eqv z (iP [q.1, q.2])) = decide (q ∈ ps) := by
      rw [List.any_map]
      have : ((fun z => PyData.eqv z (iP [q.1, q.2])) ∘ fun p : Int × Int => iP [p.1, p.2]) = fun p => decide (p = q) := by funext p; exact eqv_pr p q
      rw [this]
      by_cases h : q ∈ ps
      · rw [decide_eq_true h, List.any_eq_true]; exact ⟨q, h, by simp⟩
      · rw [decide_eq_false h, List.any_eq_false]; intro x hx; simp; intro e; exact h (e ▸ hx)
    rw [this]
    exact k H3 (e2.trans e3)⟩
/-- over sorted(l), l a list of pairs -/
theorem srx_sortedL (C : Ctx X S N M Ls G) (hm : X.mg "sorted" = none) (hg : ("sorted" : Str) ∈ G) (ha : Ev X a σ H (.ref p)) (r : Rep H (.ref p) (.lst (ps.map prD))) (he : starEach (a :: []) X.env = (false, eval a X.env) :: starEach [] X.env := by rfl) :
    SrX X tg (.Call (.Name "sorted" pos2) [a] [] pos) σ H (fun xs B => ∃ qs, qs.Perm ps ∧ qs.Pairwise (fun a b => SrtO.lexB b a = false) ∧ Paired (fun y (q : Int × Int) => ∃ b, y = V.ref b ∧ B b = some (.tup [.int q.1, .int q.2])) xs qs ∧ ∀ a o, B a = some o → H a = none ∨ ∃ zs, o = .tup zs) := by
  obtain ⟨a', xs, e', hx, rx⟩ := r.lst_inv
  cases e'
  have hat : ∀ x ∈ xs, ∃ t, x = V.ref t ∧ ∃ q ∈ ps, H t = some (.tup [.int (q : Int × Int).1, .int q.2]) := fun x hx' => by
    obtain ⟨i, hi, e⟩ := List.getElem_of_mem hx'
    obtain ⟨d, hd, q⟩ := rx.get (i := i) (x := x) (by rw [List.getElem?_eq_getElem hi, e])
    rw [List.getElem?_map] at hd
    obtain ⟨pr, hp, rfl⟩ := Option.map_eq_some_iff.mp hd
    obtain ⟨u, rfl, hu⟩ := pr_inv q
    exact ⟨u, rfl, pr, List.mem_of_getElem? hp, hu⟩
  have hmap : xs.map (prAt H) = ps := map_prAt rx
  refine ⟨_, pi_list pe_we, fun H2 e2 R k => we_of (pe_callB cr_sortedPO (C.glo hg) hm bt_sorted pa_wa (by decide) (by decide) he rfl) ?_⟩
  refine a_cons (ha.run H2 e2 _ fun H3 e3 => a_nil ?_) he
  have e23 := e2.trans e3
  refine ⟨p, xs, prAt H, rfl, sqL (e23 _ _ hx), fun x hx' => ?_, fun ys l srt stb hl => ?_⟩
  · obtain ⟨t, rfl, q, _, ht⟩ := hat x hx'
    refine ⟨t, rfl, ?_⟩
    rw [prAt_of ht]
    exact e23 _ _ ht
  · refine ⟨l, rfl, ⟨_, sqL upd_same⟩, k _ _ (tupsOf l ys H3) ys (e3.trans (Ex.new hl)) (tupsOf_ex hl) ⟨ys.map (prAt H), ?_, ?_, ?_, fun a o h => tupsOf_or (e23.fresh hl) h⟩ (wk_list (K := X.K) (sqL tupsOf_same))⟩
    · rw [← hmap]
      exact stb.perm.map _
    · rw [List.pairwise_map]
      exact srt
    · have hys : ∀ y ∈ ys, ∃ t, y = V.ref t ∧ ∃ q : Int × Int, H t = some (.tup [.int q.1, .int q.2]) := fun y hy => by
        obtain ⟨t, e, q, _, ht⟩ := hat y (stb.perm.mem_iff.mp hy)
        exact ⟨t, e, q, ht⟩
      have e3l : ∀ t zs, H t = some (.tup zs) → tupsOf l ys H3 t = some (.tup zs) := fun t zs ht => tupsOf_tup hl (e23 _ _ ht)
      clear stb srt
      generalize tupsOf l ys H3 = HH at e3l
      induction ys with
      | nil => exact .nil
      | cons y ys ih =>
        obtain ⟨t, rfl, q, ht⟩ := hys y List.mem_cons_self
        refine .cons ⟨t, rfl, ?_⟩ (ih fun y hy => hys y (List.mem_cons_of_mem _ hy))
        rw [prAt_of ht]
        exact e3l _ _ ht
end
theorem sorted_strict {qs : List (Int × Int)} (nd : qs.Nodup) (s : qs.Pairwise (fun a b => SrtO.lexB b a = false)) : qs.Pairwise fun a b => a.1 < b.1 ∨ (a.1 = b.1 ∧ a.2 < b.2) := by
  refine List.Pairwise.imp₂ (fun a b h1 h2 => ?_) nd s
  rw [SrtO.lexB_no] at h2
  obtain ⟨a1, a2⟩ := a
  obtain ⟨b1, b2⟩ := b
  simp only [ne_eq, Prod.mk.injEq] at h1 h2 ⊢
  omega
def mn (i j : Int) : Int := if j < i then j else i
def mx (i j : Int) : Int := if j > i then j else i
def kOf (t : T3) : Int × Int := (mn t.1 t.2.1, mx t.1 t.2.1)
def sumAt (ts : List T3) (q : Int × Int) : Int := ((ts.filter fun t => decide (kOf t = q)).map fun t => t.2.2).sum
def cordAt (ts : List T3) (q : Int × Int) : T3 := (q.1, q.2, sumAt ts q)
theorem len_le {ts : List T3} (h : ∀ t ∈ ts, 1 ≤ t.2.2) : (ts.length : Int) ≤ (ts.map fun t => t.2.2).sum := by
  induction ts with
  | nil => simp
  | cons t ts ih =>
    have h1 := h t List.mem_cons_self
    have h2 := ih fun u hu => h u (List.mem_cons_of_mem _ hu)
    rw [List.map_cons, List.sum_cons, List.length_cons]
    omega
theorem sumAt_pos {ts : List T3} {q : Int × Int} (h : ∀ t ∈ ts, 1 ≤ t.2.2) (hq : ∃ t ∈ ts, kOf t = q) : 1 ≤ sumAt ts q := by
  unfold sumAt
  have h1 := len_le (ts := ts.filter fun t => decide (kOf t = q)) fun t ht => h t (List.mem_filter.mp ht).1
  obtain ⟨t, ht, e⟩ := hq
  have h2 : 0 < (ts.filter fun t => decide (kOf t = q)).length := List.length_pos_of_mem (List.mem_filter.mpr ⟨ht, by simpa using e⟩)
  omega
theorem sumAt_snoc {ts : List T3} {t : T3} {q : Int × Int} : sumAt (ts ++ [t]) q = sumAt ts q + if kOf t = q then t.2.2 else 0 := by
  unfold sumAt
  rw [List.filter_append, List.map_append, List.sum_append]
  by_cases h : kOf t = q <;> simp [h]
theorem kOf_good {r : Nat} {t : T3} (h : goodT r t) : 0 ≤ (kOf t).1 ∧ (kOf t).1 < (kOf t).2 ∧ (kOf t).2 < (r : Int) := by
  unfold goodT at h
  unfold kOf mn mx
  simp only
  split <;> split <;> omega
section
variable {X : Cx} {S : Scope} {N M G Ls : List Str} {σ : St} {H : Hp} {a : Expr} {u : Addr} {xs : List V} {k : Int} {v : V} {n : Nat} {pos pos2 : Pos}
theorem ev_tI (ha : Ev X a σ H (.ref u)) (hu : H u = some (.tup xs)) (hx : atI xs k = some v := by rfl) : Ev X (.Subscript a (.Constant (.int k) n pos2) pos) σ H v := ev_ixT ha ev_int (sqT hu) hx (fun _ _ => rfl)
end
section
variable {P : Program} {w : World} {K : PySem.W.Frag} {mg : Str → Option Value} {base : Heap}
/-- all their numbers together -/
def tot (L : List T3) : Int := (L.map fun t => t.2.2).sum
theorem tot_snoc (L : List T3) (t : T3) : tot (L ++ [t]) = tot L + t.2.2 := by
  unfold tot
  simp
theorem sum_pick {qs : List (Int × Int)} {q : Int × Int} {m : Int} (h0 : 0 ≤ m) (nd : qs.Nodup) : (qs.map fun p => if q = p then m else 0).sum ≤ m := by
  induction qs with
  | nil => exact h0
  | cons p ps ih =>
    rw [List.nodup_cons] at nd
    rw [List.map_cons, List.sum_cons]
    by_cases h : q = p
    · subst h
      have : (ps.map fun p => if q = p then m else 0) = ps.map fun _ => (0 : Int) := List.map_congr_left fun x hx => if_neg fun (e : q = x) => nd.1 (by rw [e]; exact hx)
      rw [this, if_pos rfl]
      have z : ∀ l : List (Int × Int), (l.map fun _ => (0 : Int)).sum = 0 := fun l => by induction l with
        | nil => rfl
        | cons _ _ ih => rw [List.map_cons, List.sum_cons, ih]; rfl
      rw [z]
      omega
    · rw [if_neg h, Int.zero_add]
      exact ih nd.2
theorem sum_add (f g : Int × Int → Int) : ∀ qs : List (Int × Int), (qs.map fun q => f q + g q).sum = (qs.map f).sum + (qs.map g).sum
  | [] => rfl
  | q :: qs => by
    rw [List.map_cons, List.sum_cons, sum_add f g qs, List.map_cons, List.sum_cons, List.map_cons, List.sum_cons]
    omega
theorem tot_cords {qs : List (Int × Int)} (nd : qs.Nodup) : ∀ {ts : List T3}, (∀ t ∈ ts, 1 ≤ t.2.2) → tot (qs.map (cordAt ts)) ≤ tot ts
  | [], _ => by
    have : ∀ l : List (Int × Int), tot (l.map (cordAt [])) = 0 := fun l => by induction l with
      | nil => rfl
      | cons q l ih =>
        unfold tot at ih ⊢
        rw [List.map_cons, List.map_cons, List.sum_cons, ih]
        rfl
    rw [this]
    exact Int.le_refl _
  | t :: ts, h => by
    have ih := tot_cords nd (ts := ts) fun u hu => h u (List.mem_cons_of_mem _ hu)
    have h1 := h t List.mem_cons_self
    have e : ∀ q, sumAt (t :: ts) q = (if kOf t = q then t.2.2 else 0) + sumAt ts q := fun q => by
      unfold sumAt
      by_cases hq : kOf t = q <;> simp [hq]
    have e2 : ∀ us : List T3, tot (qs.map (cordAt us)) = (qs.map (sumAt us)).sum := fun us => by
      unfold tot
      rw [List.map_map]; rfl
    have hp := sum_pick (q := kOf t) (m := t.2.2) (by omega) nd
    rw [e2] at ih ⊢
    rw [show sumAt (t :: ts) = fun q => (if kOf t = q then t.2.2 else 0) + sumAt ts q from funext e, sum_add]
    show _ ≤ ((t :: ts).map fun t => t.2.2).sum
    rw [List.map_cons, List.sum_cons]
    unfold tot at ih
    omega
def spNorm : Sp := fun vs H Q _ => ∃ (tv : V) (r : Nat) (ts : List T3), vs = [tv] ∧ Rep H tv (.lst (ts.map t3D)) ∧ (∀ t ∈ ts, goodT r t) ∧ ts.length ≤ 1000 ∧ ∀ L v H', Ex H H' → Nf r L → L.length ≤ 1000 → tot L ≤ tot ts → Rep (nw H H') v (crdD L) → Q v H'
theorem df_norm (h : Has K mg "_law_norm" 37) (B : Bi mg) : Df P w K mg base CX0 1 "_law_norm" spNorm := by
  refine df_ok h B sc37 cb37 (fun _ _ _ _ _ _ us hl => match us, hl with | [_], _ => rfl) (fun vs H Q E ⟨n, d, _, e, _⟩ => by rw [e]; rfl) ?_
  rintro X rfl rfl rfl rfl rfl Z vs H Q E ⟨tv, r, ts, rfl, rt, hg, hl, q⟩
  have hC := Z.C
  have hu : X.A.units + 65 < cLine := by have := Z.room.un; omega
  show WB X _ _ [some _, none, none, none, none, none, none, none] _
  refine b_new hC (by walk_at "mem") (by walk_at "set") fun p H1 e1 g1 => ?_
  refine b_eachD Z (pgN hC (by walk_at "mem")) (by walk_at "ev") rt e1 rfl (fun i σ' H' => ∃ oe ol oh ps, σ' = [some tv, some (.ref p), oe, ol, oh, none, none, none] ∧ Gl H p (ps.map prD) H' ∧ ps.Nodup ∧ ps.length ≤ i ∧ ∀ q ∈ ps, ∃ t ∈ ts, kOf t = q) (fun H2 e2 => ⟨_, _, _, [], rfl, g1.mono e2, .nil, Nat.le_refl _, fun q h => nomatch h⟩) (fun i σ' H' ⟨_, _, _, _, _, g, _⟩ => g.ex) ?_ ?_
  · rintro i x dx σ' H2 hi rx ⟨oe, ol, oh, ps, rfl, g2, nd, hpl, hps⟩
    rw [List.getElem?_map] at hi
    obtain ⟨t, ht, rfl⟩ := Option.map_eq_some_iff.mp hi
    have hit : i < ts.length := (List.getElem?_eq_some_iff.mp ht).1
    obtain ⟨u, rfl, hu0⟩ := t3_inv rx
    have gt := hg t (List.mem_of_getElem? ht)
    refine g1_of (by walk_at "set") ?_
    have hu2 := g2.ex _ _ hu0
    refine b_setV (v := .int (mn t.1 t.2.1)) hC (by walk_at "mem") (by walk_at "set") (ev_min2 hC Z.B Z.calm (by walk_at "mem") (ev_tI (by walk_at "ev") hu2) (ev_tI (by walk_at "ev") hu2)) fun H3 e3 => ?_
    have hu3 := e3 _ _ hu2
    refine b_setV (v := .int (mx t.1 t.2.1)) hC (by walk_at "mem") (by walk_at "set") (ev_max2 hC Z.B Z.calm (by walk_at "mem") (ev_tI (by walk_at "ev") hu3) (ev_tI (by walk_at "ev") hu3)) fun H4 e4 => ?_
    have hu4 := e4 _ _ hu3
    have g4 := (g2.mono e3).mono e4
    refine b_when (t := !decide (kOf t ∈ ps)) (tv_w ((tw_and (t := true) (u := !decide (kOf t ∈ ps)) ((tv_c (cv_gt (ev_tI (v := .int t.2.2) (by walk_at "ev") hu4) (by walk_at "ev"))).is (by unfold goodT at gt; simp; omega)) fun _ => tw_and1 (tv_c (cv_notInP (q := kOf t) hu (show Eo X _ _ _ (.tup [.int (mn t.1 t.2.1), .int (mx t.1 t.2.1)]) from eo_tup (av_cons (by walk_at "ev") (av_cons (by walk_at "ev") av_nil))) (by walk_at "ev") g4.rep'))))) ?_ ?_
    · intro hno H5 e5
      have hno : kOf t ∉ ps := by simpa using hno
      refine b_app (g4.mono e5) (by walk_at "ev") (er_tup (ns := [mn t.1 t.2.1, mx t.1 t.2.1]) (av_cons (by walk_at "ev") (av_cons (by walk_at "ev") av_nil))) (by rw [List.length_map]; omega) fun H6 g6 => ?_
      refine b_nil (b_nil ⟨_, _, _, ps ++ [kOf t], rfl, by rw [List.map_append]; exact g6, ?_, by rw [List.length_append]; simp; omega, fun q hq => ?_⟩)
      · rw [List.nodup_append]
        exact ⟨nd, by simp, fun a ha b hb e => hno (by rw [List.mem_singleton.mp hb] at e; exact e ▸ ha)⟩
      · rcases List.mem_append.mp hq with hq | hq
        · exact hps q hq
        · exact ⟨t, List.mem_of_getElem? ht, (List.mem_singleton.mp hq).symm⟩
    · intro _ H5 e5
      exact b_nil ⟨_, _, _, ps, rfl, g4.mono e5, nd, by omega, hps⟩
  · rintro σ' H2 ⟨oe, ol, oh, ps, rfl, g2, nd, hpl, hps⟩
    rw [List.length_map] at hpl
    refine b_new hC (by walk_at "mem") (by walk_at "set") fun rw_ H3 e3 g3 => ?_
    have g23 := g2.mono e3
    obtain ⟨ys3, hrw3, _⟩ := g3.lst
    have hrw0 : H rw_ = none := g2.ex.fresh g3.new
    refine b_forX Z (srx_sortedL hC Z.B.sorted (by walk_at "mem") (by walk_at "ev") g23.rep') (pgN hC (by walk_at "mem")) (fun xs B i σ' H' => ∃ oe op om qs, σ' = [some tv, some (.ref p), oe, ol, oh, some (.ref rw_), op, om] ∧ Ex B (hid rw_ H') ∧ qs.Perm ps ∧ qs.Pairwise (fun a b => SrtO.lexB b a = false) ∧ Paired (fun y (q : Int × Int) => ∃ b, y = V.ref b ∧ B b = some (.tup [.int q.1, .int q.2])) xs qs ∧ Gl H rw_ (((qs.take i).map (cordAt ts)).map t3D) H')
      (fun H4 B xs e4 eB ⟨qs, pm, st, pr, hor⟩ => ⟨_, _, _, qs, rfl, hid_ofB eB hor hrw3 (e4 _ _ hrw3), pm, st, pr, gl_nil hrw0 ((g2.ex.trans e3).trans e4) (e4 _ _ (by have := g3.len hrw3; rw [List.length_nil] at this; rw [hrw3, List.eq_nil_of_length_eq_zero this]))⟩) (fun xs B i σ' H' ⟨_, _, _, _, _, e, _⟩ => e.trans hid_ex) ?_ ?_
    · rintro xs B i x σ' H4 hx _ ⟨oe, op, om, qs, rfl, eB, pm, st, pr, g4⟩
      obtain ⟨qp, hqp, bq, rfl, hbq⟩ := paired_get pr hx
      refine g1_of (by walk_at "set") ?_
      refine b_setV (v := .int 0) hC (by walk_at "mem") (by walk_at "set") (by walk_at "ev") fun H5 e5 => ?_
      have g5 := g4.mono e5
      have eB5 := eB.trans (hid_mono e5)
      refine b_eachD Z (pgN hC (by walk_at "mem")) (by walk_at "ev") rt g5.ex rfl (fun j σ' H' => ∃ oe, σ' = [some tv, some (.ref p), oe, ol, oh, some (.ref rw_), some (.ref bq), some (.int (sumAt (ts.take j) qp))] ∧ Ex B (hid rw_ H') ∧ Gl H rw_ (((qs.take i).map (cordAt ts)).map t3D) H') (fun H6 e6 => ⟨_, rfl, eB5.trans (hid_mono e6), g5.mono e6⟩) (fun i σ' H' ⟨_, _, _, g⟩ => g.ex) ?_ ?_
      · rintro j x dx σ' H6 hj rx ⟨oe, rfl, eB6, g6⟩
        rw [List.getElem?_map] at hj
        obtain ⟨t, ht, rfl⟩ := Option.map_eq_some_iff.mp hj
        obtain ⟨u, rfl, hu0⟩ := t3_inv rx
        have hu6 := g6.ex _ _ hu0
        have hb6 := (eB6.trans hid_ex) _ _ hbq
        refine g1_of (by walk_at "set") ?_
        refine b_when (t := decide (kOf t = qp)) (tv_w ((tw_and (t := decide (mn t.1 t.2.1 = qp.1)) (u := decide (kOf t = qp)) (tv_c (cv_eqI (ev_min2 hC Z.B Z.calm (by walk_at "mem") (ev_tI (by walk_at "ev") hu6) (ev_tI (by walk_at "ev") hu6)) (ev_tI (by walk_at "ev") hb6))) fun h1 => tw_and1 ((tv_c (cv_eqI (ev_max2 hC Z.B Z.calm (by walk_at "mem") (ev_tI (by walk_at "ev") hu6) (ev_tI (by walk_at "ev") hu6)) (ev_tI (by walk_at "ev") hb6))).is ?_))) |>.is ?_) ?_ ?_
        · have h1 := of_decide_eq_true h1
          rw [decide_eq_decide]
          unfold kOf
          obtain ⟨q1, q2⟩ := qp
          simp only [Prod.mk.injEq] at h1 ⊢
          exact ⟨fun h => ⟨h1, h⟩, fun h => h.2⟩
        · by_cases h : kOf t = qp
          · have h1 : mn t.1 t.2.1 = qp.1 := by rw [← h]; rfl
            simp [h, h1]
          · simp [h]
        · intro hy H7 e7
          refine b_setV (v := .int (sumAt (ts.take j) qp + t.2.2)) hC (by walk_at "mem") (by walk_at "set") (ev_add (by walk_at "ev") (ev_tI (by walk_at "ev") (e7 _ _ hu6))) fun H8 e8 => ?_
          exact b_nil (b_nil ⟨some (V.ref u), by rw [take_snoc ht, sumAt_snoc, if_pos (of_decide_eq_true hy)], eB6.trans (hid_mono (e7.trans e8)), g6.mono (e7.trans e8)⟩)
        · intro hy H7 e7
          exact b_nil ⟨some (V.ref u), by rw [take_snoc ht, sumAt_snoc, if_neg (of_decide_eq_false hy), Int.add_zero], eB6.trans (hid_mono e7), g6.mono e7⟩
      · rintro σ' H6 ⟨oe, rfl, eB6, g6⟩
        rw [List.length_map, List.take_length]
        have hb6 := (eB6.trans hid_ex) _ _ hbq
        have hil : i < qs.length := (List.getElem?_eq_some_iff.mp hqp).1
        have hql : qs.length = ps.length := pm.length_eq
        refine b_appX g6 (by walk_at "ev") (er_tup (ns := [qp.1, qp.2, sumAt ts qp]) (av_cons (ev_tI (by walk_at "ev") hb6) (av_cons (ev_tI (by walk_at "ev") hb6) (av_cons (by walk_at "ev") av_nil)))) (by rw [List.length_map, List.length_map, List.length_take]; omega) fun H7 g7 e7 => ?_
        refine b_nil ⟨_, _, _, qs, rfl, eB6.trans e7, pm, st, pr, ?_⟩
        rw [take_snoc hqp, List.map_append, List.map_append]
        exact g7
    · rintro xs B σ' H4 _ ⟨oe, op, om, qs, rfl, eB, pm, st, pr, g4⟩
      have hxl : xs.length = qs.length := paired_len pr
      rw [hxl, List.take_length] at g4
      have hql : qs.length = ps.length := pm.length_eq
      have hB' : ∀ t ∈ ts, 1 ≤ t.2.2 := fun t ht => (hg t ht).2.2.2.2.2
      have hqs : ∀ q ∈ qs, (0 ≤ q.1 ∧ q.1 < q.2 ∧ q.2 < (r : Int)) ∧ 1 ≤ sumAt ts q := fun q hq => by
        obtain ⟨t, ht, e⟩ := hps q (pm.mem_iff.mp hq)
        refine ⟨?_, sumAt_pos hB' ⟨t, ht, e⟩⟩
        rw [← e]
        exact kOf_good (hg t ht)
      refine b_ret (er_tupleOf hC Z.B (by walk_at "mem") g4 (by walk_at "ev") fun v H5 e5 r5 => q (qs.map (cordAt ts)) v H5 (g4.ex.trans e5) ⟨fun t ht => ?_, ?_⟩ (by rw [List.length_map]; omega) (tot_cords (pm.nodup_iff.mpr nd) hB') r5)
      · obtain ⟨a, ha, rfl⟩ := List.mem_map.mp ht
        obtain ⟨⟨k1, k2, k3⟩, k4⟩ := hqs a ha
        exact ⟨k1, k2, k3, k4⟩
      · rw [List.pairwise_map]
        exact (sorted_strict (pm.nodup_iff.mpr nd) st).imp fun {a b} h => h
end
end RC
/-! _law_pins, _law_lot -/
namespace RC
open PySem PySem.Spec PyProof.Rows L2
section
variable {X : Cx} {S : Scope} {N M Ls G : List Str} {σ : St} {H H1 : Hp} {a b e : Expr} {es : List Expr} {rest : List Stmt} {pos pos2 pos3 : Pos} {v : V} {i j : Int} {P R T : Int → Prop} {En : Ends} {nm : Str} {sp : Sp} {ss : List Int}
/-- a new list of digits of those sizes -/
structure Ed (X : Cx) (e : Expr) (σ : St) (H : Hp) (ss : List Int) : Prop where
  run : ∀ H1, Ex H H1 → ∀ Q : VK, (∀ ns v H2, Ex H1 H2 → Digs ns ss → Rep (nw H1 H2) v (.lst (ns.map D.int)) → Q v H2) → WE X e σ H1 Q
theorem ed_call (C : Ctx X S N M Ls G) (c : Cal X "_law_digits" spDigits) (hg : ("_law_digits" : Str) ∈ G) (ha : Ei X a σ H P) (hb : Eo X b σ H (.lst (ss.map V.int))) (hs : ∀ s ∈ ss, 0 < s ∧ s < 1073741824) (hl : ss.length < 10000)
    (he : starEach (a :: b :: []) X.env = (false, eval a X.env) :: starEach (b :: []) X.env := by rfl) (he2 : starEach (b :: []) X.env = (false, eval b X.env) :: starEach [] X.env := by rfl) : Ed X (.Call (.Name "_law_digits" pos2) [a, b] [] pos) σ H ss :=
  ⟨fun H1 e1 Q k => we_call C c hg (a_cons (ha.run H1 e1 _ fun i H2 e2 _ => a_cons (hb.run H2 (e1.trans e2) _ fun p H3 hp e3 h3 => a_nil ⟨i, p, ss, rfl, h3, hs, hl, fun ns v H' e' d r => k ns v H' ((e2.trans e3).trans e') d (r.mono (nw_back (e2.trans e3)))⟩) he2) he) he (by rw [he2]; rfl)⟩
/-- one of them at once -/
theorem ei_ixD {n : Nat} {s : Int} (ha : Ed X a σ H ss) (hb : Ev X b σ H (.int (n : Int))) (hn : ss[n]? = some s) (hi : PlainIx b := by exact fun _ _ => rfl) : Ei X (.Subscript a b pos) σ H (fun i => 0 ≤ i ∧ i < s) :=
  Ei.is (ei_ixR (P := fun ns => Digs ns ss) (fun H1 e1 Q k => ha.run H1 e1 Q fun ns v H2 e2 d r => k ns v H2 e2 d (r.mono nw_ex)) hb (fun ns d => by rw [paired_len d]; exact (List.getElem?_eq_some_iff.mp hn).1) hi) fun i ⟨ns, d, h⟩ => by
    obtain ⟨y, hy, r⟩ := paired_get d h
    rw [hn] at hy
    cases hy
    exact r
theorem digs_at {ns ss : List Int} (d : Digs ns ss) {n : Nat} {s : Int} (h : ss[n]? = some s) : ∃ i, ns[n]? = some i ∧ 0 ≤ i ∧ i < s := by
  have hl := paired_len d
  have h1 := (List.getElem?_eq_some_iff.mp h).1
  have e := List.getElem?_eq_getElem (l := ns) (by omega : n < ns.length)
  obtain ⟨y, hy, r⟩ := paired_get d e
  rw [h] at hy
  cases hy
  exact ⟨_, e, r⟩
/-- range of some int below m -/
theorem srx_rngI {tg : Expr} {m : Int} (C : Ctx X S N M Ls G) (hg : ("range" : Str) ∈ G) (hm : X.mg "range" = none) (h : Ei X a σ H (fun i => 0 ≤ i ∧ i < m)) (hmm : m ≤ 100000) (hs : starEach [a] X.env = [(false, eval a X.env)] := by rfl) :
    SrX X tg (.Call (.Name "range" pos) [a] [] pos2) σ H (fun xs B => B = noHp ∧ ∃ n : Nat, (n : Int) < m ∧ xs = rgI 0 n) :=
  ⟨_, pi_range1 (C.glo hg) hm (pa_cons pe_we pa_nil hs) hs, fun H1 e1 R k => h.run H1 e1 _ fun i H2 e2 hi => ⟨i, rfl, by omega, by omega, k _ H2 _ _ e2 noHp_ex ⟨rfl, i.toNat, by omega, rfl⟩ wk_rng⟩⟩
/-- tests whose outcome is not told -/
structure Tz (X : Cx) (e : Expr) (σ : St) (H : Hp) (P : Bool → Prop) : Prop where
  run : ∀ H1, Ex H H1 → ∀ Q : Bool → Hp → Prop, (∀ b H2, Ex H1 H2 → P b → Q b H2) → WT X e σ H1 Q
structure Tzw (X : Cx) (e : Expr) (σ : St) (H : Hp) (P : Bool → Prop) : Prop where
  run : ∀ H1, Ex H H1 → ∀ Q : Bool → Hp → Prop, (∀ b H2, Ex H1 H2 → P b → Q b H2) → WW X e σ H1 Q
theorem tz_w {P : Bool → Prop} (h : Tzw X e σ H P) : Tz X e σ H P := ⟨fun H1 e1 Q k => wt_of (PW.pt pw_ww) (h.run H1 e1 Q k)⟩
theorem tz_tv {P : Bool → Prop} {t : Bool} (h : Tv X e σ H t) (p : P t) : Tz X e σ H P := ⟨fun H1 e1 Q k => h.run H1 e1 Q fun H2 e2 => k t H2 e2 p⟩
theorem tzw_and {P : Bool → Prop} {t : Bool} {rs : List Expr} (ha : Tv X a σ H t) (hb : t = true → Tzw X (.BoolOp .And (b :: rs) pos) σ H P) (hf : t = false → P false) : Tzw X (.BoolOp .And (a :: b :: rs) pos) σ H P :=
  ⟨fun H1 e1 Q k => ww_of (pw_and pt_wt pw_ww) (ha.run H1 e1 _ fun H2 e2 => by
    cases t with
    | true => exact (hb rfl).run H2 (e1.trans e2) Q fun b H3 e3 => k b H3 (e2.trans e3)
    | false => exact k false H2 e2 (hf rfl))⟩
theorem tzw_and1 {P : Bool → Prop} (h : Tz X a σ H P) : Tzw X (.BoolOp .And [a] pos) σ H P := ⟨fun H1 e1 Q k => ww_of (pw_and1 pt_wt) (h.run H1 e1 Q k)⟩
theorem tz_eq {P : Bool → Prop} {P1 P2 : Int → Prop} (ha : Ei X a σ H P1) (hb : Ei X b σ H P2) (hp : ∀ t, P t) (hm : behindInMarks .Eq b = false := by exact nomark _) : Tz X (.Compare a [.Eq] [b] pos) σ H P :=
  ⟨fun H1 e1 Q k => wt_of (pt_cmpR op_eq pe_we pe_we hm) (ha.run H1 e1 _ fun i H2 e2 _ => hb.run H2 (e1.trans e2) _ fun j H3 e3 _ => ⟨rfl, _, rfl, by rw [dI]; exact k _ H3 (e2.trans e3) (hp _)⟩)⟩
theorem b_whenZ {body : List Stmt} {P : Bool → Prop} {c : Expr} (h : Tz X c σ H P) (h1 : P true → ∀ H1, Ex H H1 → WB X body { En with nx := fun σ' H' => WB X rest En σ' H' } σ H1) (h2 : P false → ∀ H1, Ex H H1 → WB X rest En σ H1) : WB X (.If c body [] pos :: rest) En σ H :=
  b_if0 (h.run H Ex.rfl' _ fun b H1 e1 p => by
    cases b with
    | true => exact h1 p H1 e1
    | false => exact b_nil (h2 p H1 e1))
/-- x = _law_digits(..) -/
theorem b_setD {f : V → St} (C : Ctx X S N M Ls G) (hl : nm ∈ Ls) (hs : ∀ v, SetAt N σ nm v (f v)) (h : Ed X e σ H ss) (q : ∀ ns p H1, Ex H H1 → Digs ns ss → H p = none → H1 p = some (.lst (ns.map V.int)) → WB X rest En (f (.ref p)) H1) (hw : swapsWith e (some (.Name nm pos2)) pos.line X.env = pure false := by rfl) :
    WB X (.Assign [.Name nm pos2] e pos :: rest) En σ H := b_set C hl hs (h.run H Ex.rfl' _ fun ns v H2 e2 d r => by
  obtain ⟨p, xs, rfl, hp, rx⟩ := r.lst_inv
  have hn : H p = none := by
    cases z : H p with
    | none => rfl
    | some o => rw [nw_old z] at hp; cases hp
  rw [nw_at hn] at hp
  rw [rx.ints_inv] at hp
  exact q ns p H2 e2 d hn hp) hw
/-- l[k], a list of ints that stands -/
theorem ev_lI {p : Addr} {ns : List Int} {n : Nat} {x : Int} (ha : Ev X a σ H (.ref p)) (hp : H p = some (.lst (ns.map V.int))) (hb : Ev X b σ H (.int (n : Int))) (hx : ns[n]? = some x) (hi : PlainIx b := by exact fun _ _ => rfl) : Ev X (.Subscript a b pos) σ H (.int x) :=
  ev_ixL ha hb (sqL hp) (L2.atI_nat (by rw [List.getElem?_map, hx]; rfl)) hi
end
section
variable {P : Program} {w : World} {K : PySem.W.Frag} {mg : Str → Option Value} {base : Heap}
def spPins : Sp := fun vs H Q _ => ∃ c : Int, vs = [.int c] ∧ ∀ (r : Nat) H', Ex H H' → r ≤ 40 → Q (.int (r : Int)) H'
theorem df_pins (h : Has K mg "_law_pins" 40) (B : Bi mg) (dD : Df P w K mg base CX0 1 "_law_digits" spDigits) : Df P w K mg base CX0 2 "_law_pins" spPins := by
  refine df_ok h B sc40 cb40 (fun _ _ _ _ _ _ us hl => match us, hl with | [_], _ => rfl) (fun vs H Q E ⟨n, e, _⟩ => by rw [e]; rfl) ?_
  rintro X rfl rfl rfl rfl rfl Z vs H Q E ⟨c, rfl, q⟩
  have hC := Z.C
  show WB X _ _ [some _, none] _
  refine b_setD (ss := [8, 30, 41]) hC (by walk_at "mem") (by walk_at "set") (ed_call hC (Z.cal dD) (by walk_at "mem") (ei_ev (by walk_at "ev")) (eo_lst (av_cons ev_int (av_cons ev_int (av_cons ev_int av_nil)))) (by decide) (by decide)) fun ns p H1 e1 d _ hp => ?_
  obtain ⟨x0, h0, a0, b0⟩ := digs_at d (n := 0) rfl
  obtain ⟨x1, h1, a1, b1⟩ := digs_at d (n := 1) rfl
  obtain ⟨x2, h2, a2, b2⟩ := digs_at d (n := 2) rfl
  refine b_when (t := decide (x0 < 6)) (tv_c (cv_lt (ev_lI (n := 0) (by walk_at "ev") hp ev_int h0) (by walk_at "ev"))) ?_ ?_
  · intro _ H2 e2
    refine b_ret (((ev_add (by walk_at "ev") (ev_mod (ev_intI hC Z.B (by walk_at "mem") (ev_lI (n := 1) (by walk_at "ev") (e2 _ _ hp) ev_int h1)) (by walk_at "ev") (by decide))).is (z := .int ((2 + x1 % 5).toNat : Int)) (by rw [Int.toNat_of_nonneg (by omega)])).go fun H3 e3 => q _ H3 ((e1.trans e2).trans e3) (by omega))
  · intro _ H2 e2
    refine b_when (t := decide (x0 = 6)) (tv_c (cv_eqI (ev_lI (n := 0) (by walk_at "ev") (e2 _ _ hp) ev_int h0) (by walk_at "ev"))) ?_ ?_
    · intro _ H3 e3
      have hp3 := e3 _ _ (e2 _ _ hp)
      refine b_ret (((ev_mod (ev_intI hC Z.B (by walk_at "mem") (ev_lI (n := 1) (by walk_at "ev") hp3 ev_int h1)) (by walk_at "ev") (by decide)).is (z := .int ((x1 % 2).toNat : Int)) (by rw [Int.toNat_of_nonneg (by omega)])).go fun H4 e4 => q _ H4 (((e1.trans e2).trans e3).trans e4) (by omega))
    · intro _ H3 e3
      have hp3 := e3 _ _ (e2 _ _ hp)
      refine b_ret (((ev_lI (n := 2) (by walk_at "ev") hp3 ev_int h2).is (z := .int ((x2).toNat : Int)) (by rw [Int.toNat_of_nonneg (by omega)])).go fun H4 e4 => q _ H4 (((e1.trans e2).trans e3).trans e4) (by omega))
def spLot (K : PySem.W.Frag) : Sp := fun vs H Q _ => ∃ (sv : V) (r : Nat), vs = [sv, .int r] ∧ Scr K H sv ∧ r ≤ 40 ∧ ∀ L v H', Ex H H' → Nf r L → L.length ≤ 1000 → tot L ≤ 200030000 → Rep (nw H H') v (crdD L) → Q v H'
theorem other_ok {r x y : Int} (h0 : 0 ≤ x) (h1 : x < r) (h2 : 0 ≤ y) (h3 : y < r - 1) : 0 ≤ (x + 1 + y) % r ∧ (x + 1 + y) % r < r ∧ x ≠ (x + 1 + y) % r := by
  refine ⟨Int.emod_nonneg _ (by omega), Int.emod_lt_of_pos _ (by omega), ?_⟩
  by_cases h : x + 1 + y < r
  · rw [Int.emod_eq_of_lt (by omega) h]; omega
  · have e : (x + 1 + y) % r = x + 1 + y - r := by
      rw [show x + 1 + y = (x + 1 + y - r) + r by omega, ← Int.emod_eq_add_self_emod, Int.emod_eq_of_lt (by omega) (by omega)]; omega
    rw [e]; omega
theorem rep3 {a b c : Int} : ∀ {n k : Nat}, k < n → ((List.replicate n [a, b, c]).flatten)[3 * k]? = some a ∧ ((List.replicate n [a, b, c]).flatten)[3 * k + 1]? = some b ∧ ((List.replicate n [a, b, c]).flatten)[3 * k + 2]? = some c
  | 0, _, h => absurd h (Nat.not_lt_zero _)
  | n + 1, 0, _ => by rw [List.replicate_succ, List.flatten_cons]; exact ⟨rfl, rfl, rfl⟩
  | n + 1, k + 1, h => by
    have ih := rep3 (a := a) (b := b) (c := c) (n := n) (k := k) (by omega)
    rw [List.replicate_succ, List.flatten_cons]
    have e : ∀ j, ([a, b, c] ++ (List.replicate n [a, b, c]).flatten)[3 * (k + 1) + j]? = ((List.replicate n [a, b, c]).flatten)[3 * k + j]? := fun j => by
      rw [List.getElem?_append_right (by simp; omega)]
      congr 1
      simp; omega
    exact ⟨(e 0).trans ih.1, (e 1).trans ih.2.1, (e 2).trans ih.2.2⟩
theorem pick6 {x : Int} (h0 : 0 ≤ x) (h1 : x < 6) : ∃ m : Int, atI [V.int 3, .int 3, .int 3, .int 3, .int 1000, .int 25000000] x = some (.int m) ∧ 0 < m ∧ m ≤ 25000000 := by
  have : x = 0 ∨ x = 1 ∨ x = 2 ∨ x = 3 ∨ x = 4 ∨ x = 5 := by omega
  rcases this with rfl | rfl | rfl | rfl | rfl | rfl
  · exact ⟨3, rfl, by decide, by decide⟩
  · exact ⟨3, rfl, by decide, by decide⟩
  · exact ⟨3, rfl, by decide, by decide⟩
  · exact ⟨3, rfl, by decide, by decide⟩
  · exact ⟨1000, rfl, by decide, by decide⟩
  · exact ⟨25000000, rfl, by decide, by decide⟩
theorem df_llot (h : Has K mg "_law_lot" 41) (B : Bi mg) (dD : Df P w K mg base CX0 1 "_law_digits" spDigits) (dC : Df P w K mg base CX0 1 "_law_cell" (spCell K)) (dN : Df P w K mg base CX0 1 "_law_norm" spNorm) : Df P w K mg base CX0 2 "_law_lot" (spLot K) := by
  refine df_ok h B sc41 cb41 (fun _ _ _ _ _ _ us hl => match us, hl with | [_, _], _ => rfl) (fun vs H Q E ⟨n, d, e, _⟩ => by rw [e]; rfl) ?_
  rintro X rfl rfl rfl rfl rfl Z vs H Q E ⟨sv, r, rfl, hs, hr, q⟩
  have hC := Z.C
  have cell : ∀ {e : Expr} {k : Nat} {σ : St} {H1 : Hp} {p1 p2 p3 : Pos}, Ex H H1 → Ev X (.Name "_law_script" p3) σ H1 sv → Ev X e σ H1 (.int (k : Int)) → starEach [e] X.env = (false, eval e X.env) :: starEach [] X.env → Ei X (.Call (.Name "_law_cell" p1) [.Name "_law_script" p3, e] [] p2) σ H1 (fun _ => True) := fun {e k σ H1 p1 p2 p3} e1 h1 h2 hst =>
    ei_call hC (Z.cal dC) (by walk_at "mem") (av_cons h1 (av_cons h2 av_nil hst)) (fun H2 e2 Q kk => ⟨sv, k, rfl, hs.mono (e1.trans e2), fun i H' e' => kk i H' e' trivial⟩) rfl (by rw [hst]; rfl)
  show WB X _ _ [some _, some _, none, none, none, none] _
  refine b_new hC (by walk_at "mem") (by walk_at "set") fun p H1 e1 g1 => ?_
  refine b_forX (g := gN N41 "_law_k") Z (srx_rngI hC (by walk_at "mem") Z.B.range (m := 9) (ei_ixD (n := 0) (s := 9) (ed_call (ss := [9]) hC (Z.cal dD) (by walk_at "mem") (cell (k := 1) e1 (by walk_at "ev") ev_int rfl) (eo_lst (av_cons ev_int av_nil)) (by decide) (by decide)) ev_int rfl) (by decide)) (pgN hC (by walk_at "mem"))
    (fun xs B i σ' H' => B = noHp ∧ (∃ n : Nat, n < 9 ∧ xs = rgI 0 n) ∧ ∃ ok od oo ts, σ' = [some sv, some (.int (r : Int)), some (.ref p), ok, od, oo] ∧ Gl H p (ts.map t3D) H' ∧ (∀ t ∈ ts, goodT r t) ∧ tot ts ≤ 25000000 * (i : Int) ∧ ts.length ≤ i) (fun H2 B xs e2 _ ⟨hB, n, hn, hx⟩ => ⟨hB, ⟨n, by omega, hx⟩, _, _, _, [], rfl, g1.mono e2, fun t h => (nomatch h), by simp [tot], Nat.le_refl _⟩) (fun xs B i σ' H' z => z.1 ▸ noHp_ex) ?_ ?_
  · rintro xs B i x σ' H2 hx _ ⟨hB, ⟨n, hn, rfl⟩, ok, od, oo, ts, rfl, g2, hg, hb, hlen⟩
    obtain ⟨hi, rfl⟩ := rgI_get.mp hx
    rw [Int.zero_add]
    refine g1_of (by walk_at "set") ?_
    refine b_when (t := decide (2 ≤ r)) ((tv_c (cv_ge (by walk_at "ev") (by walk_at "ev"))).is (by rw [decide_eq_decide]; omega)) ?_ ?_
    · intro h2 H3 e3
      have h2 := of_decide_eq_true h2
      refine b_setD (ss := [(r : Int), (r : Int) - 1, 6, 25000000]) hC (by walk_at "mem") (by walk_at "set") (ed_call hC (Z.cal dD) (by walk_at "mem") (cell (k := 12 + i) (g2.ex.trans e3) (by walk_at "ev") ((ev_add (by walk_at "ev") (by walk_at "ev")).is (by simp)) rfl) (eo_lst (av_cons (by walk_at "ev") (av_cons (ev_sub (by walk_at "ev") (by walk_at "ev")) (av_cons ev_int (av_cons ev_int av_nil))))) (by simp; omega) (by simp)) fun ns dp H4 e4 d _ hd => ?_
      obtain ⟨x0, h0, a0, b0⟩ := digs_at d (n := 0) rfl
      obtain ⟨x1, h1, a1, b1⟩ := digs_at d (n := 1) rfl
      obtain ⟨x2, h2', a2, b2⟩ := digs_at d (n := 2) rfl
      obtain ⟨x3, h3, a3, b3⟩ := digs_at d (n := 3) rfl
      obtain ⟨o1, o2, o3⟩ := other_ok a0 b0 a1 b1
      refine b_setV (v := .int ((x0 + 1 + x1) % (r : Int))) hC (by walk_at "mem") (by walk_at "set") (ev_mod (ev_intI hC Z.B (by walk_at "mem") (ev_add (ev_add (ev_lI (n := 0) (by walk_at "ev") hd ev_int h0) (by walk_at "ev")) (ev_lI (n := 1) (by walk_at "ev") hd ev_int h1))) (by walk_at "ev") (by omega)) fun H5 e5 => ?_
      have hd5 := e5 _ _ hd
      obtain ⟨m, hm, m0, m1⟩ := pick6 a2 b2
      have g5 := ((g2.mono e3).mono e4).mono e5
      refine b_app g5 (by walk_at "ev") (er_tup (ns := [x0, (x0 + 1 + x1) % (r : Int), 1 + x3 % m]) (av_cons (ev_lI (n := 0) (by walk_at "ev") hd5 ev_int h0) (av_cons (by walk_at "ev") (av_cons (ev_add (by walk_at "ev") (ev_mod (ev_intI hC Z.B (by walk_at "mem") (ev_lI (n := 3) (by walk_at "ev") hd5 ev_int h3)) (ev_ixO (eo_lst (av_cons ev_int (av_cons ev_int (av_cons ev_int (av_cons ev_int (av_cons ev_int (av_cons ev_int av_nil))))))) (ev_lI (n := 2) (by walk_at "ev") hd5 ev_int h2') hm) m0)) av_nil)))) (by rw [List.length_map]; omega) fun H6 g6 => ?_
      have y0 := Int.emod_nonneg x3 (show m ≠ 0 by omega)
      have y1 := Int.emod_lt_of_pos x3 m0
      refine b_nil (b_nil ⟨hB, ⟨n, hn, rfl⟩, _, _, _, ts ++ [(x0, (x0 + 1 + x1) % (r : Int), 1 + x3 % m)], rfl, by rw [List.map_append]; exact g6, fun t ht => ?_, ?_, by rw [List.length_append]; simp; omega⟩)
      · rcases List.mem_append.mp ht with ht | ht
        · exact hg t ht
        · rw [List.mem_singleton.mp ht]
          exact ⟨a0, b0, o1, o2, o3, by show 1 ≤ 1 + x3 % m; omega⟩
      · rw [tot_snoc]
        show tot ts + (1 + x3 % m) ≤ _
        rw [Int.natCast_add]
        omega
    · intro _ H3 e3
      exact b_nil ⟨hB, ⟨n, hn, rfl⟩, _, _, _, ts, rfl, g2.mono e3, hg, by rw [Int.natCast_add]; omega, by omega⟩
  · rintro xs B σ' H2 _ ⟨hB, ⟨n, hn, rfl⟩, ok, od, oo, ts, rfl, g2, hg, hb, hlen⟩
    rw [rgI_len] at hlen hb
    have fin : ∀ (ok od oo : Option V) (ts : List T3) (H3 : Hp) {p1 p2 p3 p4 : Pos} {rest : List Stmt}, Gl H p (ts.map t3D) H3 → (∀ t ∈ ts, goodT r t) → tot ts ≤ 200030000 → ts.length ≤ 1000 → WB X (.Return (some (.Call (.Name "_law_norm" p1) [.Name "_law_row" p2] [] p3)) p4 :: rest) { nx := fun _ H' => Q .non H', rt := Q } [some sv, some (.int (r : Int)), some (.ref p), ok, od, oo] H3 := fun ok od oo ts H3 {p1 p2 p3 p4 rest} g3 hg hb hl => by
      refine b_ret (we_call hC (Z.cal dN) (by walk_at "mem") ((show Av X [_] _ H3 [V.ref p] from av_cons (by walk_at "ev") av_nil).go fun H4 e4 => ⟨.ref p, r, ts, rfl, (g3.mono e4).rep', hg, hl, fun L v H5 e5 k1 k2 k3 r5 => q L v H5 ((g3.ex.trans e4).trans e5) k1 k2 (by omega) (r5.mono (nw_back (g3.ex.trans e4)))⟩))
    refine b_whenZ (P := fun b => b = true → 2 ≤ r) (tz_w (tzw_and (t := decide (2 ≤ r)) ((tv_c (cv_ge (by walk_at "ev") (by walk_at "ev"))).is (by rw [decide_eq_decide]; omega)) (fun h2 => tzw_and1 (tz_eq (ei_ixD (n := 0) (s := 6) (ed_call (ss := [6]) hC (Z.cal dD) (by walk_at "mem") (cell (k := 21) g2.ex (by walk_at "ev") ev_int rfl) (eo_lst (av_cons ev_int av_nil)) (by decide) (by decide)) ev_int rfl) (ei_ev ev_int) fun _ _ => of_decide_eq_true h2)) (fun _ h => Bool.noConfusion h))) ?_ ?_
    · intro h2 H3 e3
      have h2 := h2 rfl
      refine b_setD (ss := (List.replicate 30 [(r : Int), (r : Int) - 1, 1000]).flatten) hC (by walk_at "mem") (by walk_at "set") (ed_call hC (Z.cal dD) (by walk_at "mem") (cell (k := 20) (g2.ex.trans e3) (by walk_at "ev") ev_int rfl) ?_ ?_ (by rw [List.length_flatten]; simp)) fun ns dp H4 e4 d _ hd => ?_
      · refine ⟨fun Ha ea Qa ka => we_of (pe_op op_rep pe_we pe_we) ?_⟩
        refine (eo_lst (vs := [V.int (r : Int), .int ((r : Int) - 1), .int 1000]) (av_cons (by walk_at "ev") (av_cons (ev_sub (by walk_at "ev") (by walk_at "ev")) (av_cons ev_int av_nil)))).run Ha ea _ fun l Hb hl eb hlb => ?_
        refine (ev_int (i := 30)).run Hb (ea.trans eb) _ fun Hc ec => ⟨l, 30, _, rfl, rfl, ec _ _ hlb, by decide, by decide, (show 3 * 30 ≤ sizeLine by decide), fun p' hp' => ?_⟩
        refine ka p' _ (eb.fresh (ec.fresh hp')) ((eb.trans ec).trans (Ex.new hp')) ?_
        rw [upd_same]
        rw [List.map_flatten, List.map_replicate]; rfl
      · intro s hs'
        obtain ⟨l, hl, hsl⟩ := List.mem_flatten.mp hs'
        rw [(List.mem_replicate.mp hl).2] at hsl
        simp at hsl
        omega
      refine b_rng1 (m := 30) Z (by walk_at "mem") (by walk_at "mem") ev_int (by decide) (fun i σ' H' => ∃ ok oo ts, σ' = [some sv, some (.int (r : Int)), some (.ref p), ok, some (.ref dp), oo] ∧ Gl H p (ts.map t3D) H' ∧ H' dp = some (.lst (ns.map V.int)) ∧ (∀ t ∈ ts, goodT r t) ∧ tot ts ≤ 200000000 + 1000 * (i : Int) ∧ ts.length ≤ 9 + i) (fun H5 e5 => ⟨_, _, ts, rfl, ((g2.mono e3).mono e4).mono e5, e5 _ _ hd, hg, by omega, by omega⟩) ?_ ?_
      · rintro i σ' H5 hi ⟨ok, oo, ts, rfl, g5, hd5, hg, hb, hlen⟩
        obtain ⟨k0, k1, k2⟩ := rep3 (a := (r : Int)) (b := (r : Int) - 1) (c := 1000) hi
        obtain ⟨x0, h0, a0, b0⟩ := digs_at d k0
        obtain ⟨x1, h1, a1, b1⟩ := digs_at d k1
        obtain ⟨x2, h2', a2, b2⟩ := digs_at d k2
        obtain ⟨o1, o2, o3⟩ := other_ok a0 b0 a1 b1
        refine g1_of (by walk_at "set") ?_
        have ix : ∀ {H6 : Hp} {σ : St} {p1 p2 p3 : Pos} {n1 : Nat}, Ev X (.Name "_law_k" p1) σ H6 (.int (i : Int)) → Ev X (.BinOp (.Constant (.int 3) n1 p2) .Mult (.Name "_law_k" p1) p3) σ H6 (.int ((3 * i : Nat) : Int)) := fun h => (ev_mul ev_int h (.inl ⟨by decide, by decide⟩)).is (by simp)
        refine b_appX g5 (by walk_at "ev") (er_tup (ns := [x0, (x0 + 1 + x1) % (r : Int), 1 + x2]) (av_cons (ev_lI (by walk_at "ev") hd5 (ix (by walk_at "ev")) h0) (av_cons (ev_mod (ev_intI hC Z.B (by walk_at "mem") (ev_add (ev_add (ev_lI (by walk_at "ev") hd5 (ix (by walk_at "ev")) h0) (by walk_at "ev")) (ev_lI (by walk_at "ev") hd5 ((ev_add (ix (by walk_at "ev")) ev_int).is rfl) h1))) (by walk_at "ev") (by omega)) (av_cons (ev_add (by walk_at "ev") (ev_lI (by walk_at "ev") hd5 ((ev_add (ix (by walk_at "ev")) ev_int).is rfl) h2')) av_nil)))) (by rw [List.length_map]; omega) fun H6 g6 e6 => ?_
        have dne : dp ≠ p := fun z => by
          obtain ⟨ys, hy, ry⟩ := g2.lst
          rename_i hdn
          subst z
          rw [e3 _ _ hy] at hdn
          cases hdn
        refine b_nil ⟨_, _, ts ++ [(x0, (x0 + 1 + x1) % (r : Int), 1 + x2)], rfl, by rw [List.map_append]; exact g6, hid_ex _ _ (e6 _ _ (by rw [hid_ne dne]; exact hd5)), fun t ht => ?_, ?_, by rw [List.length_append]; simp; omega⟩
        · rcases List.mem_append.mp ht with ht | ht
          · exact hg t ht
          · rw [List.mem_singleton.mp ht]
            exact ⟨a0, b0, o1, o2, o3, by show 1 ≤ 1 + x2; omega⟩
        · rw [tot_snoc]
          show tot ts + (1 + x2) ≤ _
          rw [Int.natCast_add]
          omega
      · rintro σ' H5 ⟨ok, oo, ts, rfl, g5, hd5, hg, hb, hlen⟩
        exact b_nil (fin _ _ _ ts H5 g5 hg (by omega) (by omega))
    · intro _ H3 e3
      exact fin _ _ _ ts H3 (g2.mono e3) hg (by omega) (by omega)
end
end RC
/-! _law_table -/
namespace RC
open PySem PySem.Spec PyProof.Rows L2
/-- how far x stands behind i on the rim -/
def dst (n i x : Nat) : Nat := if i ≤ x then x - i else x + n - i
def metF (n i k x : Nat) : Bool := decide (0 < dst n i x) && decide (dst n i x ≤ k)
theorem metF_zero {n i x : Nat} : metF n i 0 x = false := by
  unfold metF
  by_cases h : 0 < dst n i x
  · rw [decide_eq_true h, decide_eq_false (by omega)]; rfl
  · rw [decide_eq_false h]; rfl
theorem stepJ {n i k : Nat} (hi : i < n) (hk : k + 1 < n) : (i + (1 + k)) % n = if i + (1 + k) < n then i + (1 + k) else i + (1 + k) - n := by
  split
  · exact Nat.mod_eq_of_lt (by assumption)
  · rw [Nat.mod_eq_sub_mod (by omega), Nat.mod_eq_of_lt (by omega)]
theorem metF_succ {n i k x : Nat} (hi : i < n) (hk : k + 1 < n) (hx : x < n) : metF n i (k + 1) x = (decide ((i + (1 + k)) % n = x) || metF n i k x) := by
  rw [stepJ hi hk]
  unfold metF dst
  by_cases h1 : i ≤ x
  · rw [if_pos h1]
    by_cases h2 : i + (1 + k) < n
    · rw [if_pos h2, Bool.eq_iff_iff]; simp; omega
    · rw [if_neg h2, Bool.eq_iff_iff]; simp; omega
  · rw [if_neg h1]
    by_cases h2 : i + (1 + k) < n
    · rw [if_pos h2, Bool.eq_iff_iff]; simp; omega
    · rw [if_neg h2, Bool.eq_iff_iff]; simp; omega
theorem metF_all {n i x : Nat} (hi : i < n) (hx : x < n) : metF n i (n - 1) x = decide (x ≠ i) := by
  unfold metF dst
  by_cases h1 : i ≤ x
  · rw [if_pos h1, Bool.eq_iff_iff]; simp; omega
  · rw [if_neg h1, Bool.eq_iff_iff]; simp; omega
theorem xor_key {A B I J : Prop} (h : (A ∧ ¬B ∨ ¬A ∧ B) ↔ (I ∧ ¬J ∨ ¬I ∧ J)) : (A ↔ B) ↔ (I ↔ J) := by
  by_cases a : A <;> by_cases b : B <;> by_cases i : I <;> by_cases j : J <;> simp_all
/-- the met walk parts a cord as the two gaps do -/
theorem met_xor {n i k : Nat} {t : T3} (hi : i < n) (hk : k + 1 < n) (h0 : 0 ≤ t.1) (h1 : t.1 < t.2.1) (h2 : t.2.1 < (n : Int)) :
    (!decide (metF n i (k + 1) t.1.toNat = metF n i (k + 1) t.2.1.toNat)) = !decide (inC t (i : Int) = inC t (((i + (1 + k)) % n : Nat) : Int)) := by
  have hj := stepJ hi hk
  have hj' : (i + (1 + k) < n ∧ (i + (1 + k)) % n = i + (1 + k)) ∨ (¬ i + (1 + k) < n ∧ (i + (1 + k)) % n = i + (1 + k) - n) := by split at hj <;> omega
  generalize (i + (1 + k)) % n = j at hj' ⊢
  clear hj
  obtain ⟨a, b, m⟩ := t
  simp only at h0 h1 h2 ⊢
  obtain ⟨a, rfl⟩ : ∃ x : Nat, a = (x : Int) := ⟨a.toNat, by omega⟩
  obtain ⟨b, rfl⟩ : ∃ x : Nat, b = (x : Int) := ⟨b.toNat, by omega⟩
  rw [Int.toNat_natCast, Int.toNat_natCast]
  congr 1
  rw [decide_eq_decide]
  refine (Bool.eq_iff_iff.trans ?_).trans Bool.eq_iff_iff.symm
  unfold metF dst inC
  simp only [Bool.and_eq_true, decide_eq_true_eq]
  have ha : (i ≤ a ∧ (if i ≤ a then a - i else a + n - i) = a - i) ∨ (¬ i ≤ a ∧ (if i ≤ a then a - i else a + n - i) = a + n - i) := by split <;> omega
  have hb : (i ≤ b ∧ (if i ≤ b then b - i else b + n - i) = b - i) ∨ (¬ i ≤ b ∧ (if i ≤ b then b - i else b + n - i) = b + n - i) := by split <;> omega
  generalize (if i ≤ a then a - i else a + n - i) = da at ha ⊢
  generalize (if i ≤ b then b - i else b + n - i) = db at hb ⊢
  refine xor_key ?_
  constructor <;> intro h <;> omega
/-- the table as it is being filled -/
def cellV (n : Nat) (L : List T3) (i k i' j' : Nat) : Int := if i' < i ∨ (i' = i ∧ metF n i k j' = true) then passing L (i' : Int) (j' : Int) else 0
def tabV (n : Nat) (L : List T3) (i k : Nat) : List (List Int) := (List.range n).map fun i' => (List.range n).map fun j' => cellV n L i k i' j'
theorem passing_self (L : List T3) (i : Int) : passing L i i = 0 := by
  unfold passing
  have : (L.filter fun t => !decide (inC t i = inC t i)) = [] := List.filter_eq_nil_iff.mpr fun t _ => by simp
  rw [this]; rfl
theorem tabV_next {n : Nat} {L : List T3} {i : Nat} (hi : i < n) : tabV n L i (n - 1) = tabV n L (i + 1) 0 := by
  unfold tabV
  refine List.map_congr_left fun i' h' => List.map_congr_left fun j' hj => ?_
  have h' := List.mem_range.mp h'
  have hj := List.mem_range.mp hj
  unfold cellV
  rw [metF_all hi hj, metF_zero]
  by_cases h : i' = i
  · subst h
    by_cases h2 : j' = i'
    · subst h2
      rw [passing_self]; simp
    · rw [if_pos (.inr ⟨rfl, by simpa using h2⟩), if_pos (.inl (by omega))]
  · by_cases h2 : i' < i
    · rw [if_pos (.inl h2), if_pos (.inl (by omega))]
    · rw [if_neg (by rintro (z | z) <;> omega), if_neg (fun z => z.elim (fun z => by omega) fun z => Bool.noConfusion z.2)]
theorem tabV_zero {n : Nat} {L : List T3} : tabV n L 0 0 = (List.range n).map fun _ => (List.range n).map fun _ => (0 : Int) := by
  unfold tabV
  refine List.map_congr_left fun i' _ => List.map_congr_left fun j' _ => ?_
  unfold cellV
  rw [metF_zero, if_neg (fun z => z.elim (fun z => by omega) fun z => Bool.noConfusion z.2)]
theorem tabV_done {n : Nat} {L : List T3} : tabV n L n 0 = tabR n L := by
  unfold tabV tabR
  refine List.map_congr_left fun i' h' => List.map_congr_left fun j' _ => ?_
  unfold cellV
  rw [if_pos (.inl (List.mem_range.mp h'))]
theorem tabV_step {n : Nat} {L : List T3} {i k : Nat} (hi : i < n) (hk : k + 1 < n) : ∃ row, (tabV n L i k)[i]? = some row ∧ row.length = n ∧ (tabV n L i k).set i (row.set ((i + (1 + k)) % n) (passing L (i : Int) (((i + (1 + k)) % n : Nat) : Int))) = tabV n L i (k + 1) := by
  refine ⟨(List.range n).map fun j' => cellV n L i k i j', ?_, by simp, ?_⟩
  · unfold tabV
    rw [List.getElem?_map, List.getElem?_range hi]; rfl
  · apply List.ext_getElem?
    intro a
    rw [List.getElem?_set]
    unfold tabV
    by_cases ha : a < n
    · rw [List.length_map, List.length_range, List.getElem?_map, List.getElem?_map, List.getElem?_range ha]
      by_cases hia : i = a
      · subst hia
        rw [if_pos rfl, if_pos hi]
        simp only [Option.map_some]
        congr 1
        apply List.ext_getElem?
        intro b
        rw [List.getElem?_set]
        by_cases hb : b < n
        · rw [List.length_map, List.length_range, List.getElem?_map, List.getElem?_map, List.getElem?_range hb]
          simp only [Option.map_some]
          unfold cellV
          rw [metF_succ hi hk hb]
          by_cases hjb : (i + (1 + k)) % n = b
          · subst hjb
            rw [if_pos rfl, if_pos hb, if_pos (.inr ⟨rfl, by simp⟩)]
          · rw [if_neg hjb]
            simp [hjb]
        · rw [List.getElem?_eq_none (by simp; omega), List.getElem?_eq_none (by simp; omega)]
          by_cases hjb : (i + (1 + k)) % n = b
          · rw [if_pos hjb, if_neg (by simp; omega)]
          · rw [if_neg hjb]
      · rw [if_neg hia]
        simp only [Option.map_some]
        congr 1
        refine List.map_congr_left fun j' _ => ?_
        unfold cellV
        have : ¬ a = i := fun e => hia e.symm
        simp [this]
    · rw [List.getElem?_eq_none (by simp; omega), List.getElem?_eq_none (by simp; omega)]
      by_cases hia : i = a
      · omega
      · rw [if_neg hia]
/-- a list of new lists of ints at p -/
structure TG (H0 H' : Hp) (p : Addr) (ps : List Addr) (T : List (List Int)) : Prop where
  ext : Ex H0 H'
  gp : H' p = some (.lst (ps.map V.ref))
  rows : ∀ (k : Nat) (row : List Int), T[k]? = some row → ∃ q, ps[k]? = some q ∧ H' q = some (.lst (row.map V.int))
  nd : (p :: ps).Nodup
  new : ∀ q ∈ p :: ps, H0 q = none
  len : ps.length = T.length
section
variable {H0 H1 H2 : Hp} {p q m : Addr} {ps : List Addr} {T : List (List Int)} {k : Nat} {row : List Int} {o : HO}
theorem TG.mono (g : TG H0 H1 p ps T) (e : Ex H1 H2) : TG H0 H2 p ps T := ⟨g.ext.trans e, e _ _ g.gp, fun k row h => by obtain ⟨q, h1, h2⟩ := g.rows k row h; exact ⟨q, h1, e _ _ h2⟩, g.nd, g.new, g.len⟩
theorem TG.other (g : TG H0 H1 p ps T) (hm : H0 m = none) (hn : m ∉ p :: ps) : TG H0 (upd H1 m o) p ps T :=
  ⟨g.ext.mut hm, (upd_ne fun z => hn (by rw [← z]; exact List.mem_cons_self)).trans g.gp, fun k row h => by
    obtain ⟨q, h1, h2⟩ := g.rows k row h
    exact ⟨q, h1, (upd_ne fun z => hn (by rw [← z]; exact List.mem_cons_of_mem _ (List.mem_of_getElem? h1))).trans h2⟩, g.nd, g.new, g.len⟩
theorem nodup_get {α : Type} {l : List α} (nd : l.Nodup) {i j : Nat} {x : α} (h1 : l[i]? = some x) (h2 : l[j]? = some x) : i = j := (List.getElem?_inj (List.getElem?_eq_some_iff.mp h1).1 nd).mp (h1.trans h2.symm)
theorem TG.set (g : TG H0 H1 p ps T) (hq : ps[k]? = some q) {row' : List Int} (hk : k < T.length) : TG H0 (upd H1 q (.lst (row'.map V.int))) p ps (T.set k row') := by
  have hm := List.mem_of_getElem? hq
  refine ⟨g.ext.mut (g.new q (List.mem_cons_of_mem _ hm)), (upd_ne fun z => (List.nodup_cons.mp g.nd).1 (by rw [z]; exact hm)).trans g.gp, fun a r h => ?_, g.nd, g.new, by rw [List.length_set]; exact g.len⟩
  rw [List.getElem?_set] at h
  by_cases e : k = a
  · subst e
    rw [if_pos rfl, if_pos hk] at h
    cases h
    exact ⟨q, hq, upd_same⟩
  · rw [if_neg e] at h
    obtain ⟨q', h1, h2⟩ := g.rows a r h
    refine ⟨q', h1, (upd_ne fun z => e ?_).trans h2⟩
    subst z
    exact nodup_get (List.nodup_cons.mp g.nd).2 hq h1
theorem TG.rep (g : TG H0 H1 p ps T) : Rep (nw H0 H1) (.ref p) (.lst (T.map fun r => D.lst (r.map D.int))) := by
  refine .lst (nw_new (g.new p List.mem_cons_self) g.gp) (RepL.of (by simp [g.len]) fun i x d h1 h2 => ?_)
  rw [List.getElem?_map] at h1 h2
  obtain ⟨row, hr, rfl⟩ := Option.map_eq_some_iff.mp h2
  obtain ⟨q, k1, k2⟩ := g.rows i row hr
  rw [k1] at h1
  cases h1
  exact .lst (nw_new (g.new q (List.mem_cons_of_mem _ (List.mem_of_getElem? k1))) k2) RepL.ints
/-- from a comprehension -/
theorem tg_of {Ha : Hp} (e0 : Ex H0 Ha) (e : Ex Ha H1) (hp : Ha p = none) (h1 : H1 p = some (.lst (ps.map V.ref))) (hk : Kids Ha H1 p ps (T.map fun r => HO.lst (r.map V.int))) : TG H0 H1 p ps T := by
  refine ⟨e0.trans e, h1, fun k row h => ?_, hk.2, fun q hq => ?_, by have := paired_len hk.1; rw [List.length_map] at this; exact this⟩
  · have hl := paired_len hk.1
    rw [List.length_map] at hl
    have hlt : k < ps.length := by have := (List.getElem?_eq_some_iff.mp h).1; omega
    have e := List.getElem?_eq_getElem hlt
    obtain ⟨c, hc, h2, _⟩ := paired_get hk.1 e
    rw [List.getElem?_map, h] at hc
    cases hc
    exact ⟨_, e, h2⟩
  · rcases List.mem_cons.mp hq with rfl | hq
    · exact e0.fresh hp
    · obtain ⟨c, _, h3⟩ := paired_mem hk.1 hq
      exact e0.fresh h3
end
/-- x = [..], x a cell -/
theorem sw_cell {X : Cx} {S : Scope} {N M L G : List Str} {elt : Expr} {gs : List Comprehension} {scope : Scope} {pos py : Pos} {y : Str} {l : Nat} (C : Ctx X S N M L G) (h : S.names.lookup y = some .cell) : swapsWith (.ListComp elt gs scope pos) (some (.Name y py)) l X.env = pure false := by
  have ky : X.env.kindOf y = some .cell := by
    show X.env.scope.names.lookup y = _
    rw [C.sc]; exact h
  unfold swapsWith
  simp only [ky]
  show pure _ = pure false
  congr 1
  cases (X.env.blockKind == ScopeKind.function) <;> rfl
theorem passing_met {n i k : Nat} {L : List T3} {r : Nat} (hn : Nf r L) (hr : r ≤ n) (hi : i < n) (hk : k + 1 < n) :
    ((L.filter fun t => !decide (metF n i (k + 1) t.1.toNat = metF n i (k + 1) t.2.1.toNat)).map fun t : T3 => t.2.2).sum = passing L (i : Int) (((i + (1 + k)) % n : Nat) : Int) := by
  unfold passing
  have : (L.filter fun t => !decide (metF n i (k + 1) t.1.toNat = metF n i (k + 1) t.2.1.toNat)) = L.filter fun t => !decide (inC t (i : Int) = inC t (((i + (1 + k)) % n : Nat) : Int)) := by
    refine List.filter_congr fun t ht => ?_
    obtain ⟨h1, h2, h3, h4⟩ := hn.inr t ht
    exact met_xor hi hk h1 h2 (by omega)
  rw [this]
section
variable {P : Program} {w : World} {K : PySem.W.Frag} {mg : Str → Option Value} {base : Heap}
def spLTab : Sp := fun vs H Q _ => ∃ (r : Nat) (c : V) (L : List T3), vs = [.int r, c] ∧ r ≤ 100 ∧ Nf r L ∧ Rep H c (crdD L) ∧ L.length < 100000 ∧ ∀ v H', Ex H H' → Rep (nw H H') v (rowsT (tabR (max r 1) L)) → Q v H'
theorem df_ltab (h : Has K mg "_law_table" 38) (B : Bi mg) : Df P w K mg base CX0 1 "_law_table" spLTab := by
  refine df_ok h B sc38 cb38 (fun _ _ _ _ _ _ us hl => match us, hl with | [_, _], _ => rfl) (fun vs H Q E ⟨r, c, L, e, _⟩ => by rw [e]; rfl) ?_
  rintro X rfl rfl rfl rfl rfl Z vs H Q E ⟨r, c, L, rfl, hr, hnf, rc, hl, q⟩
  have hC := Z.C
  obtain ⟨cp, xs, rfl, hp, hx, hat⟩ := crd_inv rc
  show WB X _ _ [some _, some _, none, none, none, none, none, none, none, none] _
  refine b_setV (v := .int ((max r 1 : Nat) : Int)) hC (by walk_at "mem") (by walk_at "set") ((ev_max2 hC Z.B Z.calm (by walk_at "mem") (by walk_at "ev") (by walk_at "ev")).is (by congr 1; split <;> omega)) fun H1 e1 => ?_
  have hrn : r ≤ max r 1 := by omega
  have hn1 : 1 ≤ max r 1 := by omega
  have hn2 : max r 1 ≤ 100 := by omega
  generalize max r 1 = n at hrn hn1 hn2 q ⊢
  refine b_setCo (own := [("_law_i", 3)]) (List.range n) (fun _ => some (HO.lst (((List.range n).map fun _ => (0 : Int)).map V.int))) hC Z.calm (by decide +kernel) (sr_rng1 hC (by walk_at "mem") Z.B.range (by walk_at "ev") (by omega)) gN_mon (fun Y b => pgN (b.ctx (M' := M38_1) (L' := L38_1) (G' := G38_1) hC (by decide +kernel)) (by walk_at "mem")) (by rw [List.length_range, rgI_len]) (by rw [rgI_len]; omega) (by decide +kernel) (by walk_at "set") (by walk_at "wipe") ?_ ?_
  · intro k x i Hc h1 h2 ex
    obtain ⟨_, rfl⟩ := rgI_get.mp h1
    refine g1_of (by walk_at "set") ⟨rfl, fun Y b => ?_⟩
    have ZY := Z.blk (M' := M38_1) (L' := L38_1) (G' := G38_1) b (by decide +kernel)
    have hY := ZY.C
    refine st_allo ?_
    rw [List.map_map, ← filterMap_some]
    refine eo_comp (own := [("_law_j", 4)]) _ _ hY ZY.calm (by decide +kernel) (sr_rng1 hY (by walk_at "mem") ZY.B.range (by walk_at "ev") (by omega)) gN_mon (fun W b' => pgN (b'.ctx (M' := M38_0) (L' := L38_0) (G' := G38_0) hY (by decide +kernel)) (by walk_at "mem")) (by rw [List.length_range, rgI_len]) (by rw [rgI_len]; omega) (by walk_at "wipe") ?_
    intro k2 x2 j Hd h3 h4 ex2
    obtain ⟨_, rfl⟩ := rgI_get.mp h3
    exact g1_of (by walk_at "set") ⟨rfl, fun W b' => st_all (Ev.is (v := .int 0) ev_int rfl)⟩
  intro p ps H2 hpn e2 hp2 hk
  rw [filterMap_some] at hk
  have hk' : Kids H1 H2 p ps ((tabV n L 0 0).map fun r => HO.lst (r.map V.int)) := by
    rw [tabV_zero, List.map_map]; exact hk
  have g0 := tg_of e1 e2 hpn hp2 hk'
  refine b_rng1 (m := n) Z (by walk_at "mem") (by walk_at "mem") (by walk_at "ev") (by omega) (fun i σ' H' => ∃ oi oj om os, σ' = [some (.int (r : Int)), some (.ref cp), some (.int (n : Int)), oi, oj, some (.ref p), om, os, none, none] ∧ TG H H' p ps (tabV n L i 0)) (fun H3 e3 => ⟨_, _, _, _, rfl, g0.mono e3⟩) ?_ ?_
  · rintro i σ' H3 hi ⟨oi, oj, om, os, rfl, g3⟩
    refine g1_of (by walk_at "set") ?_
    refine b_set hC (by walk_at "mem") (by walk_at "set") ((eo_comp (own := [("_law_j", 4)]) (List.range n) (fun _ => some (V.bl false)) hC Z.calm (by decide +kernel) (sr_rng1 hC (by walk_at "mem") Z.B.range (by walk_at "ev") (by omega)) gN_mon (fun Y b => pgN (b.ctx (M' := M38_2) (L' := L38_2) (G' := G38_2) hC (by decide +kernel)) (by walk_at "mem")) (by rw [List.length_range, rgI_len]) (by rw [rgI_len]; omega) (by walk_at "wipe") ?_).go fun m H4 hm e4 h4 => ?_) (sw_cell hC (by decide +kernel))
    · intro k x j Hc h1 h2 ex
      obtain ⟨_, rfl⟩ := rgI_get.mp h1
      exact g1_of (by walk_at "set") ⟨rfl, fun Y b => st_all ev_bl⟩
    have hm0 : H m = none := g3.ext.fresh hm
    have hmp : m ∉ p :: ps := fun z => by
      rcases List.mem_cons.mp z with rfl | z
      · rw [g3.gp] at hm; cases hm
      · obtain ⟨k, hk⟩ := List.getElem?_of_mem z
        have hlt : k < (tabV n L i 0).length := by rw [← g3.len]; exact (List.getElem?_eq_some_iff.mp hk).1
        obtain ⟨q', k1, k2⟩ := g3.rows k _ (List.getElem?_eq_getElem hlt)
        rw [hk] at k1
        cases k1
        rw [k2] at hm; cases hm
    rw [filterMap_some] at h4
    refine b_rng2 (lo := 1) (hi := n) Z (by walk_at "mem") (by walk_at "mem") ev_int (by walk_at "ev") (by omega) (fun k σ' H' => ∃ oj os, σ' = [some (.int (r : Int)), some (.ref cp), some (.int (n : Int)), some (.int (i : Int)), oj, some (.ref p), some (.ref m), os, none, none] ∧ TG H H' p ps (tabV n L i k) ∧ H' m = some (.lst ((List.range n).map fun x => V.bl (metF n i k x)))) (fun H5 e5 => ⟨_, _, rfl, (g3.mono e4).mono e5, e5 _ _ (by rw [h4]; congr 2; exact List.map_congr_left fun x _ => by rw [metF_zero])⟩) ?_ ?_
    · rintro k σ' H5 hkn ⟨oj, os, rfl, g5, hm5⟩
      have hkn : k + 1 < n := by omega
      refine g1_of (by walk_at "set") ?_
      refine b_setV (v := .int (((i + (1 + k)) % n : Nat) : Int)) hC (by walk_at "mem") (by walk_at "set") ((ev_mod (ev_intI hC Z.B (by walk_at "mem") (ev_add (by walk_at "ev") (by walk_at "ev"))) (by walk_at "ev") (by omega)).is (by rw [Int.natCast_emod, Int.natCast_add i (1 + k)])) fun H6 e6 => ?_
      have hj : (i + (1 + k)) % n < n := Nat.mod_lt _ (by omega)
      have hms := fun x (hx : x < n) => metF_succ (k := k) hi hkn hx
      have hpm := passing_met hnf hrn hi hkn
      obtain ⟨row, hrow, hrl, hset⟩ := tabV_step (L := L) hi hkn
      generalize (i + (1 + k)) % n = j at hj hms hpm hset ⊢
      have hm6 := e6 _ _ hm5
      refine b_setIx (ev_bl.go fun H7 e7 => (show Ev X _ _ H7 (.ref m) from by walk_at "ev").go fun H8 e8 => (show Ev X _ _ H8 (.int (j : Int)) from by walk_at "ev").go fun H9 e9 => ?_)
      have e69 : Ex H6 H9 := (e7.trans e8).trans e9
      refine ⟨m, _, j, rfl, rfl, e69 _ _ hm6, by simp; exact hj, ?_⟩
      have hxs : (((List.range n).map fun x => V.bl (metF n i k x)).set j (V.bl true)) = (List.range n).map fun x => V.bl (metF n i (k + 1) x) := by
        apply List.ext_getElem?
        intro b
        rw [List.getElem?_set]
        by_cases hb : b < n
        · rw [List.length_map, List.length_range, List.getElem?_map, List.getElem?_map, List.getElem?_range hb, Option.map_some, Option.map_some, hms b hb]
          by_cases hjb : j = b
          · subst hjb; rw [if_pos rfl, if_pos hb]; simp
          · rw [if_neg hjb]; simp [hjb]
        · rw [List.getElem?_eq_none (by simp; omega), List.getElem?_eq_none (by simp; omega)]
          by_cases hjb : j = b
          · omega
          · rw [if_neg hjb]
      rw [hxs]
      have g9 := (g5.mono (e6.trans e69)).other (o := .lst ((List.range n).map fun x => V.bl (metF n i (k + 1) x))) hm0 hmp
      generalize hH : upd H9 m (.lst ((List.range n).map fun x => V.bl (metF n i (k + 1) x))) = HA at g9
      have hmA : HA m = some (.lst ((List.range n).map fun x => V.bl (metF n i (k + 1) x))) := by rw [← hH]; exact upd_same
      obtain ⟨rq, hrq, hrow2⟩ := g9.rows i row hrow
      refine b_setIx ((ev_sumO (ns := (L.filter fun t => !decide (metF n i (k + 1) t.1.toNat = metF n i (k + 1) t.2.1.toNat)).map fun t : T3 => t.2.2) hC Z.B Z.calm (by walk_at "mem") ?_).go fun HB eB => ?_)
      · have e : (((L.filter fun t => !decide (metF n i (k + 1) t.1.toNat = metF n i (k + 1) t.2.1.toNat)).map fun t : T3 => t.2.2).map V.int) = L.filterMap fun t => if (!decide (metF n i (k + 1) t.1.toNat = metF n i (k + 1) t.2.1.toNat)) = true then some (V.int t.2.2) else none := by
          rw [filterMap_if (fun t : T3 => !decide (metF n i (k + 1) t.1.toNat = metF n i (k + 1) t.2.1.toNat)), List.map_map]; rfl
        rw [e]
        refine eo_comp (own := [("_law_entry", 8)]) L _ hC Z.calm (by decide +kernel) (sr_tup (Hb := H) (by walk_at "ev") (sqT hp) g9.ext) gN_mon (fun Y b => pgN (b.ctx (M' := M38_3) (L' := L38_3) (G' := G38_3) hC (by decide +kernel)) (by walk_at "mem")) hx.symm (by omega) (by walk_at "wipe") ?_
        intro a x t Hc h1 h2 ex
        obtain ⟨u, rfl, hu⟩ := hat a x t h1 h2
        obtain ⟨k1, k2, k3, k4⟩ := hnf.inr t (List.mem_of_getElem? h2)
        refine g1_of (by walk_at "set") ⟨rfl, fun Y b => ?_⟩
        have hY := b.ctx (M' := M38_3) (L' := L38_3) (G' := G38_3) hC (by decide +kernel)
        have hu' := (g9.ext.trans ex) _ _ hu
        have look : ∀ {e1 e2 : Expr} {p1 : Pos} {σ : St} (z : Int), 0 ≤ z → z < (n : Int) → Ev Y e1 σ Hc (.ref m) → Ev Y e2 σ Hc (.int z) → PlainIx e2 → Ev Y (.Subscript e1 e2 p1) σ Hc (.bl (metF n i (k + 1) z.toNat)) := fun z h0 h1 he1 he2 hpl => by
          obtain ⟨zn, rfl⟩ : ∃ x : Nat, z = (x : Int) := ⟨z.toNat, by omega⟩
          exact ev_ixL he1 he2 (sqL (ex _ _ hmA)) (L2.atI_nat (by rw [List.getElem?_map, List.getElem?_range (by omega)]; rfl)) hpl
        exact st_if (tsv_one (tv_c (cv_neB (look t.1 k1 (by omega) (by walk_at "ev") (ev_tI (by walk_at "ev") hu') (fun _ _ => rfl)) (look t.2.1 (by omega) (by omega) (by walk_at "ev") (ev_tI (by walk_at "ev") hu') (fun _ _ => rfl))))) fun _ => ev_tI (by walk_at "ev") hu'
      refine (show Ev X _ _ HB (.ref rq) from ev_ixL (by walk_at "ev") (by walk_at "ev") (sqL (eB _ _ g9.gp)) (L2.atI_nat (by rw [List.getElem?_map, hrq]; rfl))).go fun HC eC => (show Ev X _ _ HC (.int (j : Int)) from by walk_at "ev").go fun HD eD => ?_
      have eAD : Ex HA HD := (eB.trans eC).trans eD
      have gD := g9.mono eAD
      refine ⟨rq, row.map V.int, j, rfl, rfl, eAD _ _ hrow2, by rw [List.length_map, hrl]; exact hj, ?_⟩
      have hmm : (row.map V.int).set j (.int ((L.filter fun t => !decide (metF n i (k + 1) t.1.toNat = metF n i (k + 1) t.2.1.toNat)).map fun t : T3 => t.2.2).sum) = (row.set j (passing L (i : Int) (j : Int))).map V.int := by
        rw [hpm, List.map_set]
      rw [hmm]
      have gF := gD.set (row' := row.set j (passing L (i : Int) (j : Int))) hrq (by rw [show (tabV n L i k).length = n by unfold tabV; simp]; exact hi)
      rw [hset] at gF
      refine b_nil ⟨_, _, rfl, gF, ?_⟩
      have : m ≠ rq := fun z => hmp (by rw [z]; exact List.mem_cons_of_mem _ (List.mem_of_getElem? hrq))
      rw [upd_ne this]
      exact eAD _ _ hmA
    · rintro σ' H5 ⟨oj, os, rfl, g5, hm5⟩
      rw [tabV_next hi] at g5
      exact b_nil ⟨_, _, _, _, rfl, g5⟩
  · rintro σ' H3 ⟨oi, oj, om, os, rfl, g3⟩
    rw [tabV_done] at g3
    refine b_ret (((er_et (l := tabR n L) (f := fun r => r) (et_tupleO hC Z.B (by walk_at "mem") ?_)).is (d' := rowsT (tabR n L)) rfl).go fun v H4 e4 r4 => q v H4 (g3.ext.trans e4) (r4.mono (nw_back g3.ext)))
    rw [← filterMap_some]
    refine ec_comp (own := [("_law_row", 9)]) (tabR n L) _ hC Z.calm (by decide +kernel) (sr_list (Hb := H3) (by walk_at "ev") (sqL g3.gp) Ex.rfl') gN_mon (fun Y b => pgN (b.ctx (M' := M38_4) (L' := L38_4) (G' := G38_4) hC (by decide +kernel)) (by walk_at "mem")) (by rw [List.length_map]; exact g3.len.symm) (by rw [List.length_map, g3.len]; unfold tabR; simp; omega) (by walk_at "wipe") ?_
    intro k x row Hc h1 h2 ex
    rw [List.getElem?_map] at h1
    obtain ⟨q', k1, k2⟩ := g3.rows k row h2
    rw [k1] at h1
    cases h1
    refine g1_of (by walk_at "set") ⟨rfl, fun Y b => ?_⟩
    have ZY := Z.blk (M' := M38_4) (L' := L38_4) (G' := G38_4) b (by decide +kernel)
    have hY := ZY.C
    exact st_allo (eo_tupleOf hY ZY.B (by walk_at "mem") (by walk_at "ev") (sqL (ex _ _ k2)))
end
end RC
/-! _law_same, _law_lot_is -/
namespace RC
open PySem PySem.Spec PyProof.Rows L2
/-- for x in range(e) may be walked here -/
def RngOk (X : Cx) (N L G : List Str) : Prop := ∀ {m : Nat} {nm : Str} {a : Expr} {body rest : List Stmt} {En : Ends} {σ : St} {H : Hp} {pos pos2 pos3 pos4 : Pos}, ("range" : Str) ∈ G → nm ∈ L → Ev X a σ H (.int (m : Int)) → m < 100000 → ∀ (Pv : Nat → St → Hp → Prop), (∀ H1, Ex H H1 → Pv 0 σ H1) →
  (∀ i σ' H', i < m → Pv i σ' H' → gN N nm (.int (i : Int)) σ' H' fun σ2 H2 => WB X body { En with nx := Pv (i + 1), ct := Pv (i + 1), bk := fun σ' H' => WB X rest En σ' H' } σ2 H2) → (∀ σ' H', Pv m σ' H' → WB X rest En σ' H') →
  starEach [a] X.env = [(false, eval a X.env)] → (∀ x, foldedSetIterable (.Call (.Name "range" pos2) [a] [] pos3) X.env x = pure x) → WB X (.For (.Name nm pos) (.Call (.Name "range" pos2) [a] [] pos3) body [] pos4 :: rest) En σ H
theorem Sd.rng {X : Cx} {S : Scope} {N M L G : List Str} {n : Nat} (Z : Sd X S N M L G n) : RngOk X N L G := fun {m nm a body rest En σ H pos pos2 pos3 pos4} hg hx h hm Pv h0 hs hd he hf => b_rng1 Z hg hx h hm Pv h0 hs hd he hf
def DepLe : Nat → D → Prop
  | 0, d => d.seq = none
  | n + 1, d => ∀ ds, d.seq = some ds → ds.length < 100000 ∧ ∀ x ∈ ds, DepLe n x
section
variable {X : Cx} {S : Scope} {N M Ls G : List Str} {σ : St} {H : Hp} {a b e : Expr} {d : D} {t : Bool} {v w : V} {pos pos2 : Pos}
/-- x == y, both flat and told -/
theorem cv_eqF (ha : Ev X a σ H v) (hb : Ev X b σ H v) (hs : scal v v = true) : Cv X .Eq a b σ H true := (cv_eqS ha hb hs).is (by simp)
theorem ev_call2 {nm : Str} {sp : Sp} {d2 : D} {z : V} (C : Ctx X S N M Ls G) (c : Cal X nm sp) (hg : nm ∈ G) (h : Eh X a σ H d) (h2 : Eh X b σ H d2) (q : ∀ v w H1, Ex H H1 → Rep H1 v d → Rep H1 w d2 → ∀ Q : VK, (∀ H2, Ex H1 H2 → Q z H2) → sp [v, w] H1 Q E0)
    (he : starEach (a :: b :: []) X.env = (false, eval a X.env) :: starEach (b :: []) X.env := by rfl) (he2 : starEach (b :: []) X.env = (false, eval b X.env) :: starEach [] X.env := by rfl) : Ev X (.Call (.Name nm pos2) [a, b] [] pos) σ H z := by
  obtain ⟨v, hv, r⟩ := h.ex
  obtain ⟨w, hw, r2⟩ := h2.ex
  exact ev_call C c hg (av_cons hv (av_cons hw av_nil he2) he) (fun H1 e1 Q k => q v w H1 e1 (r.mono e1) (r2.mono e1) Q k) he (by rw [he2]; rfl)
/-- a dict and itself -/
theorem cv_eqDct {p : Addr} {kvs : List (Key × V)} (hu : X.A.units + 64 < cLine) (ha : Ev X a σ H (.ref p)) (hb : Ev X b σ H (.ref p)) (hp : H p = some (.dK kvs)) (hd : DkOk kvs) : Cv X .Eq a b σ H true :=
  cv_of (op_eqV hu) ha hb (fun H1 e1 Q q => ⟨1, by decide, .inr ⟨p, p, kvs, kvs, rfl, rfl, e1 _ _ hp, e1 _ _ hp, rfl, fun kv hkv => by
    refine ⟨kv.2, ?_, ?_⟩
    · have nd := hd.1
      clear hp hd q
      induction kvs with
      | nil => cases hkv
      | cons x xs ih =>
        by_cases e : x.1 = kv.1
        · rw [valV_pos e]
          rcases List.mem_cons.mp hkv with rfl | h
          · rfl
          · exact absurd (show kv.1 ∈ xs.map (·.1) from List.mem_map.mpr ⟨kv, h, rfl⟩) (by rw [← e]; exact (List.nodup_cons.mp nd).1)
        · rw [valV_neg e]
          rcases List.mem_cons.mp hkv with rfl | h
          · exact absurd rfl e
          · exact ih h (List.nodup_cons.mp nd).2
    · rcases hd.2 kv hkv with f | ⟨a, ea⟩
      · exact .inl ⟨rfl, f⟩
      · exact .inr (.inl ⟨a, ea, ea⟩)⟩, q⟩) (nomark _)
end
def spSame (n : Nat) : Sp := fun vs H Q _ => ∃ (v w : V) (d : D), vs = [v, w] ∧ Rep H v d ∧ Rep H w d ∧ DepLe n d ∧ ∀ H', Ex H H' → Q (.bl true) H'
theorem same_body {X : Cx} {n : Nat} (hC : Ctx X (defScope (topS 36)) N36 M36 M36 G36) (B : Bi X.mg) (hu : X.A.units + 64 < cLine) (rg : RngOk X N36 M36 G36) (cw : Cal X "_law_whole" spWhole) (cs : ∀ m, n = m + 1 → Cal X "_law_same" (spSame m)) {v w : V} {d : D} {H : Hp} {Q : VK} (r1 : Rep H v d) (r2 : Rep H w d) (hd : DepLe n d)
    (q : ∀ H', Ex H H' → Q (.bl true) H') : WB X (defBody (topS 36)) { nx := fun _ H' => Q .non H', rt := Q } [some v, some w, none] H := by
  show WB X _ _ _ _
  have yes : ∀ {b : Bool} {En : Ends} {e : Expr} {p : Pos} {rest : List Stmt} {H1 : Hp} {σ : St}, En.rt = Q → Ex H H1 → Ev X e σ H1 (.bl true) → WB X (.Return (some e) p :: rest) En σ H1 := fun {b En e p rest H1 σ} hr e1 h => b_ret (h.go fun H2 e2 => by rw [hr]; exact q H2 (e1.trans e2))
  have isV : ∀ {H1 : Hp} {e : Expr} {σ : St}, Ex H H1 → Ev X e σ H1 v → Eh X e σ H1 d := fun e1 h => eh_ev h (r1.mono e1)
  have isW : ∀ {H1 : Hp} {e : Expr} {σ : St}, Ex H H1 → Ev X e σ H1 w → Eh X e σ H1 d := fun e1 h => eh_ev h (r2.mono e1)
  by_cases hN : d = .non
  · subst hN
    cases r1
    cases r2
    refine b_yes ((tv_c (cv_isN (by walk_at "ev") ev_non)).is (by simp)) fun H1 e1 => ?_
    refine yes (b := true) rfl e1 ?_
    exact ((ev_c (cv_isN (by walk_at "ev") ev_non)).is (by simp))
  have wN : decide (w = .non) = false := by
    rw [decide_eq_false_iff_not]
    intro e
    subst e
    cases r2
    exact hN rfl
  refine b_no ((tv_c (cv_isN (by walk_at "ev") ev_non)).is wN) fun H1 e1 => ?_
  by_cases hB : d.isBool = true
  · obtain ⟨b, rfl⟩ : ∃ b, d = .bl b := by cases d <;> first | exact ⟨_, rfl⟩ | cases hB
    cases r1
    cases r2
    refine b_yes (tv_val (ev_isBool hC B (by walk_at "mem") (by walk_at "mem") (by walk_at "ev") (.bl b))) fun H2 e2 => ?_
    refine yes (b := true) rfl (e1.trans e2) ?_
    exact (ev_and (t := true) (u := true) (ev_isBool hC B (by walk_at "mem") (by walk_at "mem") (by walk_at "ev") (.bl b)) fun _ => ev_one (ev_c (cv_eqF (by walk_at "ev") (by walk_at "ev") rfl)))
  refine b_no (tv_val ((eh_isBool hC B (by walk_at "mem") (by walk_at "mem") (isW e1 (by walk_at "ev"))).is (by simp [hB]))) fun H2 e2 => ?_
  have e02 := e1.trans e2
  by_cases hI : d.isInt = true
  · obtain ⟨i, rfl⟩ : ∃ i, d = .int i := by cases d <;> first | exact ⟨_, rfl⟩ | exact absurd rfl hB | cases hI
    cases r1
    cases r2
    refine b_yes (tv_val (ev_isInt hC B (by walk_at "mem") (by walk_at "mem") (by walk_at "ev") (.int i))) fun H3 e3 => ?_
    refine yes (b := true) rfl (e02.trans e3) ?_
    exact (ev_and (t := true) (u := true) (ev_call hC cw (by walk_at "mem") (av_cons (by walk_at "ev") av_nil) fun H1 e1 Q k => ⟨_, .int i, rfl, .int i, k⟩) fun _ => ev_one (ev_c (cv_eqF (by walk_at "ev") (by walk_at "ev") rfl)))
  refine b_no (tv_val ((eh_isInt hC B (by walk_at "mem") (by walk_at "mem") (isW e02 (by walk_at "ev"))).is (by simp [hI]))) fun H3 e3 => ?_
  have e03 := e02.trans e3
  by_cases hS : d.isStr = true
  · obtain ⟨s, rfl⟩ : ∃ s, d = .str s := by cases d <;> first | exact ⟨_, rfl⟩ | cases hS
    cases r1
    cases r2
    refine b_yes (tv_val (ev_isStr hC B (by walk_at "mem") (by walk_at "mem") (by walk_at "ev") (.str s))) fun H4 e4 => ?_
    refine yes (b := true) rfl (e03.trans e4) ?_
    exact (ev_and (t := true) (u := true) (ev_isStr hC B (by walk_at "mem") (by walk_at "mem") (by walk_at "ev") (.str s)) fun _ => ev_one (ev_c (cv_eqF (by walk_at "ev") (by walk_at "ev") rfl)))
  refine b_no (tv_val ((eh_isStr hC B (by walk_at "mem") (by walk_at "mem") (isW e03 (by walk_at "ev"))).is (by simp [hS]))) fun H4 e4 => ?_
  have e04 := e03.trans e4
  by_cases hD : d.isDict = true
  · obtain ⟨a, rfl⟩ : ∃ s, d = .dct s := by cases d <;> first | exact ⟨_, rfl⟩ | cases hD
    refine b_yes (tv_val (eh_isDict hC B (by walk_at "mem") (by walk_at "mem") (isW e04 (by walk_at "ev")))) fun H5 e5 => ?_
    have e05 := e04.trans e5
    cases r1 with
    | dct h1 k1 =>
      cases r2 with
      | dct h2 k2 =>
        refine yes (b := true) rfl e05 ?_
        exact (ev_and (t := true) (u := true) (eh_isDict hC B (by walk_at "mem") (by walk_at "mem") (isV e05 (by walk_at "ev"))) fun _ => ev_one (ev_c (cv_eqDct hu (by walk_at "ev") (by walk_at "ev") (e05 _ _ h1) k1)))
  refine b_no (tv_val ((eh_isDict hC B (by walk_at "mem") (by walk_at "mem") (isW e04 (by walk_at "ev"))).is (by simp [hD]))) fun H5 e5 => ?_
  have e05 := e04.trans e5
  obtain ⟨ds, hq⟩ : ∃ ds, d.seq = some ds := by cases d <;> first | exact ⟨_, rfl⟩ | exact absurd rfl hN | exact absurd rfl hB | exact absurd rfl hI | exact absurd rfl hS | exact absurd rfl hD
  refine b_no (tv_w ((tw_and (t := d.isList) (u := !d.isList) (tv_val (eh_isList hC B (by walk_at "mem") (by walk_at "mem") (isW e05 (by walk_at "ev")))) fun _ => tw_and1 (tv_not (tv_val (eh_isList hC B (by walk_at "mem") (by walk_at "mem") (isV e05 (by walk_at "ev"))))))) |>.is (by cases d.isList <;> rfl)) fun H6 e6 => ?_
  have e06 := e05.trans e6
  refine b_no (tv_w ((tw_and (t := d.isTup) (u := !d.isTup) (tv_val (eh_isTup hC B (by walk_at "mem") (by walk_at "mem") (isW e06 (by walk_at "ev")))) fun _ => tw_and1 (tv_not (tv_val (eh_isTup hC B (by walk_at "mem") (by walk_at "mem") (isV e06 (by walk_at "ev"))))))) |>.is (by cases d.isTup <;> rfl)) fun H7 e7 => ?_
  have e07 := e06.trans e7
  refine b_no ((tv_c (cv_neI (eh_len hC B (by walk_at "mem") (isV e07 (by walk_at "ev")) hq) (eh_len hC B (by walk_at "mem") (isW e07 (by walk_at "ev")) hq))).is (by simp)) fun H8 e8 => ?_
  have e08 := e07.trans e8
  cases n with
  | zero => rw [show d.seq = none from hd] at hq; cases hq
  | succ n =>
  obtain ⟨hlen, hsub⟩ := hd ds hq
  refine rg (by walk_at "mem") (by walk_at "mem") (eh_len hC B (by walk_at "mem") (isW e08 (by walk_at "ev")) hq) hlen (fun i σ' H' => (∃ ok, σ' = [some v, some w, ok]) ∧ Ex H H') (fun H9 e9 => ⟨⟨_, rfl⟩, e08.trans e9⟩) ?_ ?_ rfl (fun _ => rfl)
  · rintro i σ' H9 hi ⟨⟨ok, rfl⟩, e9⟩
    have hx := List.getElem?_eq_getElem hi
    refine g1_of (by walk_at "set") ?_
    refine b_no ((tv_not (tv_val (t := true) ?_)).is rfl) fun H10 e10 => b_nil ⟨⟨_, rfl⟩, e9.trans e10⟩
    exact ev_call2 hC (cs n rfl) (by walk_at "mem") (eh_ix (isV e9 (by walk_at "ev")) hq (by walk_at "ev") hx) (eh_ix (isW e9 (by walk_at "ev")) hq (by walk_at "ev") hx) fun v1 w1 H10 e10 k1 k2 Q k => ⟨v1, w1, ds[i], rfl, k1, k2, hsub _ (List.getElem_mem hi), k⟩
  · rintro σ' H9 ⟨⟨ok, rfl⟩, e9⟩
    refine yes (b := true) rfl e9 ?_
    exact ev_bl
section
variable {P : Program} {w : World} {K : PySem.W.Frag} {mg : Str → Option Value} {base : Heap}
theorem df_same (h : Has K mg "_law_same" 36) (B : Bi mg) (dW : Df P w K mg base CX0 1 "_law_whole" spWhole) : ∀ n, Df P w K mg base CX0 (n + 2) "_law_same" (spSame n) := by
  intro n
  induction n with
  | zero =>
    refine df_ok h B sc36 cb36 (fun _ _ _ _ _ _ us hl => match us, hl with | [_, _], _ => rfl) (fun vs H Q E ⟨v, w, d, e, _⟩ => by rw [e]; rfl) ?_
    rintro X rfl rfl rfl rfl rfl Z vs H Q E ⟨v, w, d, rfl, r1, r2, hd, q⟩
    exact same_body Z.C Z.B Z.room.units Z.rng (Z.cal dW) (fun m e => absurd e (by omega)) r1 r2 hd q
  | succ n ih =>
    refine df_ok h B sc36 cb36 (fun _ _ _ _ _ _ us hl => match us, hl with | [_, _], _ => rfl) (fun vs H Q E ⟨v, w, d, e, _⟩ => by rw [e]; rfl) ?_
    rintro X rfl rfl rfl rfl rfl Z vs H Q E ⟨v, w, d, rfl, r1, r2, hd, q⟩
    exact same_body Z.C Z.B Z.room.units Z.rng (dW.cal Z.room (by omega) pass0) (fun m e => by cases e; exact ih.cal Z.room (by omega) pass0) r1 r2 hd q
end
end RC
/-! _law_lot_is, _law_none, _law_wrong, _law_passed -/
namespace RC
open PySem PySem.Spec PyProof.Rows L2
theorem dep_ints {l : List Int} : DepLe 1 (.tup (l.map D.int)) ↔ l.length < 100000 := by
  constructor
  · intro h
    have := (h _ rfl).1
    rwa [List.length_map] at this
  · intro h ds hd
    cases hd
    refine ⟨by rw [List.length_map]; exact h, fun x hx => ?_⟩
    obtain ⟨i, _, rfl⟩ := List.mem_map.mp hx
    exact rfl
theorem dep_tt {ll : List (List Int)} (h : ll.length < 100000) (h2 : ∀ l ∈ ll, l.length < 100000) : DepLe 2 (ttD ll) := fun ds hd => by
  cases hd
  refine ⟨by rw [List.length_map]; exact h, fun x hx => ?_⟩
  obtain ⟨l, hl, rfl⟩ := List.mem_map.mp hx
  exact dep_ints.mpr (h2 l hl)
theorem dep_crd {L : List T3} (h : L.length < 100000) : DepLe 2 (crdD L) := by
  rw [crd_tt]
  refine dep_tt (by rw [List.length_map]; exact h) fun l hl => ?_
  obtain ⟨t, _, rfl⟩ := List.mem_map.mp hl
  simp
section
variable {P : Program} {w : World} {K : PySem.W.Frag} {mg : Str → Option Value} {base : Heap} {C : Addr}
def spLotIs (C : Addr) : Sp := fun vs H Q _ => ∃ (lv : V) (r : Nat) (bv : V) (L : List T3), vs = [lv, .int r, bv] ∧ LotAt C H lv r L ∧ Rep H bv (crdD L) ∧ L.length < 100000 ∧ ∀ H', Ex H H' → Q (.bl true) H'
theorem df_lotis (h : Has K mg "_law_lot_is" 39) (B : Bi mg) (k : LotK K mg C) (dS : ∀ n, Df P w K mg base CX0 (n + 2) "_law_same" (spSame n)) : Df P w K mg base CX0 5 "_law_lot_is" (spLotIs C) := by
  refine df_ok h B sc39 cb39 (fun _ _ _ _ _ _ us hl => match us, hl with | [_, _, _], _ => rfl) (fun vs H Q E ⟨v, r, b, L, e, _⟩ => by rw [e]; rfl) ?_
  rintro X rfl rfl rfl rfl rfl Z vs H Q E ⟨lv, r, bv, L, rfl, l, rb, hl, q⟩
  have hC := Z.C
  show WB X _ _ [some _, some _, some _] _
  refine b_ret ?_
  refine (ev_and (t := true) (u := true) (ev_isLot hC Z.B k (by walk_at "mem") (by walk_at "mem") (by walk_at "ev") l) fun _ => ev_and (t := true) (u := true) (ev_call2 hC (Z.cal (dS 0)) (by walk_at "mem") (eh_int (ev_pins k (by walk_at "ev") l)) (eh_int (by walk_at "ev")) fun v w H1 e1 r1 r2 Q kk => ⟨v, w, .int r, rfl, r1, r2, rfl, kk⟩) fun _ => ev_one (ev_call2 hC (Z.cal (dS 2)) (by walk_at "mem") (eh_cords k (by walk_at "ev") l) (eh_ev (by walk_at "ev") rb) fun v w H1 e1 r1 r2 Q kk => ⟨v, w, crdD L, rfl, r1, r2, dep_crd hl, kk⟩)).go q
/-! ### none -/
def spNone : Sp := fun vs H Q _ => ∃ (r : Nat) (rv : V) (d : D) (T : List (List Int)), vs = [.int r, rv] ∧ r ≤ 100 ∧ Rep H rv d ∧ TabD d T ∧ Sqr (max r 1) T ∧ (firstNo r T = none → ∀ H', Ex H H' → Q .non H') ∧ ∀ t, firstNo r T = some t → ∀ v H', Ex H H' → Rep (nw H H') v (t3D t) → Q v H'
theorem no_step {r a : Nat} {T : List (List Int)} (h : ∀ a', a' < a → ∀ b, a' < b → b < r → noT ((a' : Int), (b : Int), twice r T a' b) = false) {k : Nat} (hk : ∀ k', k' < k → noT ((a : Int), ((a + 1 + k' : Nat) : Int), twice r T a (a + 1 + k')) = false) (ha : a < r) (hkr : k < r - (a + 1))
    (hno : noT ((a : Int), ((a + 1 + k : Nat) : Int), twice r T a (a + 1 + k)) = true) : firstNo r T = some ((a : Int), ((a + 1 + k : Nat) : Int), twice r T a (a + 1 + k)) := by
  unfold firstNo doubles
  have e : List.range r = List.range a ++ (a :: (List.range (r - a - 1)).map (a + 1 + ·)) := by
    apply List.ext_getElem
    · simp; omega
    · intro i h1 h2
      rw [List.getElem_range]
      by_cases hi : i < a
      · rw [List.getElem_append_left (by simpa using hi), List.getElem_range]
      · rw [List.getElem_append_right (by simpa using hi)]
        by_cases hi2 : i = a
        · subst hi2; simp
        · rw [List.getElem_cons]
          rw [dif_neg (by simp; omega)]
          simp; omega
  rw [e, List.flatMap_append, List.flatMap_cons, List.find?_append, List.find?_append]
  have h1 : ((List.range a).flatMap (dblRow r T)).find? noT = none := by
    rw [List.find?_eq_none]
    intro t ht
    obtain ⟨a', ha', ht⟩ := List.mem_flatMap.mp ht
    unfold dblRow at ht
    obtain ⟨k', hk', rfl⟩ := List.mem_map.mp ht
    have q1 := List.mem_range.mp ha'
    have q2 := List.mem_range.mp hk'
    rw [h a' q1 (a' + 1 + k') (by omega) (by omega)]
    exact Bool.false_ne_true
  have h2 : (dblRow r T a).find? noT = some ((a : Int), ((a + 1 + k : Nat) : Int), twice r T a (a + 1 + k)) := by
    refine find_ix (i := k) ?_ hno fun k' hk' u hu => ?_
    · unfold dblRow
      rw [List.getElem?_map, List.getElem?_range hkr]; rfl
    · unfold dblRow at hu
      rw [List.getElem?_map, List.getElem?_range (by omega)] at hu
      cases hu
      exact hk k' hk'
  rw [h1, h2]; rfl
theorem no_all {r : Nat} {T : List (List Int)} (h : ∀ a', a' < r → ∀ b, a' < b → b < r → noT ((a' : Int), (b : Int), twice r T a' b) = false) : firstNo r T = none := by
  unfold firstNo
  rw [List.find?_eq_none]
  intro t ht
  obtain ⟨a, b, h1, h2, rfl⟩ := mem_dbl ht
  rw [h a (by omega) b h1 h2]
  exact Bool.false_ne_true
theorem df_none (h : Has K mg "_law_none" 49) (B : Bi mg) : Df P w K mg base CX0 1 "_law_none" spNone := by
  refine df_ok h B sc49 cb49 (fun _ _ _ _ _ _ us hl => match us, hl with | [_, _], _ => rfl) (fun vs H Q E ⟨v, r, d, T, e, _⟩ => by rw [e]; rfl) ?_
  rintro X rfl rfl rfl rfl rfl Z vs H Q E ⟨r, rv, d, T, rfl, hr, rr, ht, hq, qn, qs⟩
  have hC := Z.C
  show WB X _ _ [some _, some _, none, none, none, none] _
  refine b_rng1 (m := r) Z (by walk_at "mem") (by walk_at "mem") (by walk_at "ev") (by omega) (fun a σ' H' => (∃ oa ob oc od, σ' = [some (.int (r : Int)), some rv, oa, ob, oc, od]) ∧ Ex H H' ∧ ∀ a', a' < a → ∀ b, a' < b → b < r → noT ((a' : Int), (b : Int), twice r T a' b) = false) (fun H1 e1 => ⟨⟨_, _, _, _, rfl⟩, e1, fun a' h => absurd h (Nat.not_lt_zero _)⟩) ?_ ?_
  · rintro a σ' H1 ha ⟨⟨oa, ob, oc, od, rfl⟩, e1, hpre⟩
    refine g1_of (by walk_at "set") ?_
    refine b_rng2 (lo := a + 1) (hi := r) Z (by walk_at "mem") (by walk_at "mem") ((ev_add (by walk_at "ev") (by walk_at "ev")).is (by simp)) (by walk_at "ev") (by omega) (fun k σ' H' => (∃ ob oc od, σ' = [some (.int (r : Int)), some rv, some (.int (a : Int)), ob, oc, od]) ∧ Ex H H' ∧ ∀ k', k' < k → noT ((a : Int), ((a + 1 + k' : Nat) : Int), twice r T a (a + 1 + k')) = false) (fun H2 e2 => ⟨⟨_, _, _, rfl⟩, e1.trans e2, fun k' h => absurd h (Nat.not_lt_zero _)⟩) ?_ ?_
    · rintro k σ' H2 hk ⟨⟨ob, oc, od, rfl⟩, e2, hrow⟩
      refine g1_of (by walk_at "set") ?_
      have hbl := bef_lt (r := r) ha
      have b1 : (((a + 1 + k : Nat) : Int) - 1) = ((a + 1 + k - 1 : Nat) : Int) := by omega
      refine b_setV (v := .int ((bef r a : Nat) : Int)) hC (by walk_at "mem") (by walk_at "set") ((ev_mod (ev_intI hC Z.B (by walk_at "mem") (ev_sub (by walk_at "ev") (by walk_at "ev"))) (by walk_at "ev") (by omega)).is (by rw [bef_eq ha])) fun H3 e3 => ?_
      have e03 := e2.trans e3
      refine b_setV (v := .int (twice r T a (a + 1 + k))) hC (by walk_at "mem") (by walk_at "set") ((ev_sub (ev_sub (ev_add (eh_tab (p := a) (q := a + 1 + k) (eh_ev (by walk_at "ev") (rr.mono e03)) ht hq (by walk_at "ev") (by walk_at "ev") (by omega) (by omega)) (eh_tab (p := bef r a) (q := a + 1 + k - 1) (eh_ev (by walk_at "ev") (rr.mono e03)) ht hq (by walk_at "ev") ((ev_sub (by walk_at "ev") (by walk_at "ev")).is (by rw [b1])) (by omega) (by omega))) (eh_tab (p := a) (q := a + 1 + k - 1) (eh_ev (by walk_at "ev") (rr.mono e03)) ht hq (by walk_at "ev") ((ev_sub (by walk_at "ev") (by walk_at "ev")).is (by rw [b1])) (by omega) (by omega))) (eh_tab (p := bef r a) (q := a + 1 + k) (eh_ev (by walk_at "ev") (rr.mono e03)) ht hq (by walk_at "ev") (by walk_at "ev") (by omega) (by omega))).is rfl) fun H4 e4 => ?_
      generalize htw : twice r T a (a + 1 + k) = tw
      refine b_when (t := noT ((a : Int), ((a + 1 + k : Nat) : Int), tw)) (tv_w (tw_or (t := decide (tw < 0)) (u := decide (tw % 2 = 1)) (by walk_at "tv") fun _ => tw_or1 (tv_c (cv_eqI (ev_mod (ev_intI hC Z.B (by walk_at "mem") (by walk_at "ev")) (by walk_at "ev") (by decide)) (by walk_at "ev"))))) ?_ ?_
      · intro hno H5 e5
        refine b_ret ((er_tup (ns := [(a : Int), ((a + 1 + k : Nat) : Int), tw]) (av_cons (by walk_at "ev") (av_cons (by walk_at "ev") (av_cons (by walk_at "ev") av_nil)))).go fun v H6 e6 r6 => qs ((a : Int), ((a + 1 + k : Nat) : Int), tw) ?_ v H6 ((e03.trans e4).trans (e5.trans e6)) (r6.mono (nw_back ((e03.trans e4).trans e5))))
        have := no_step hpre hrow ha hk (by rw [htw]; exact hno)
        rw [htw] at this
        exact this
      · intro hno H5 e5
        refine b_nil ⟨⟨_, _, _, rfl⟩, (e03.trans e4).trans e5, fun k' hk' => ?_⟩
        by_cases e : k' = k
        · subst e; rw [htw]; exact hno
        · exact hrow k' (by omega)
    · rintro σ' H2 ⟨⟨ob, oc, od, rfl⟩, e2, hrow⟩
      refine b_nil ⟨⟨_, _, _, _, rfl⟩, e2, fun a' ha' b h1 h2 => ?_⟩
      by_cases e : a' = a
      · subst e
        have := hrow (b - a' - 1) (by omega)
        rw [show a' + 1 + (b - a' - 1) = b by omega] at this
        exact this
      · exact hpre a' (by omega) b h1 h2
  · rintro σ' H1 ⟨⟨oa, ob, oc, od, rfl⟩, e1, hpre⟩
    exact b_ret (ev_non.go fun H2 e2 => qn (no_all hpre) H2 (e1.trans e2))
/-! ### wrong -/
/-- no row is a tuple -/
def NoTup (rs : List D) : Prop := ∀ d ∈ rs, d.isTup = false
def spWrong : Sp := fun vs H Q _ => ∃ (n : Nat) (rv : V) (rs : List D), vs = [.int n, rv] ∧ n ≤ 1000 ∧ Rep H rv (.lst rs) ∧ NoTup rs ∧ (badT n (.lst rs) = none → ∀ H', Ex H H' → Q .non H') ∧
  ∀ i j, badT n (.lst rs) = some (i, j) → ∀ v H', Ex H H' → Rep (nw H H') v (.tup ([(i : Int), (j : Int)].map D.int)) → Q v H'
theorem good_eq {rs : List D} {i j : Nat} {dr : D} {es : List D} (hr : rs[i]? = some dr) (hs : dr.seq = some es) : goodAt rs i j = (match es[j]? with
    | some (.int v) => decide (0 ≤ v) && (if i = j then decide (v = 0) else decide (i < j) || decide (some v = intAt rs j i))
    | _ => false) := by
  unfold goodAt
  have : intAt rs i j = es[j]?.bind fun d => match d with
      | .int v => some v
      | _ => none := by
    conv => lhs; unfold intAt rowAt
    rw [hr, Option.bind_some, hs, Option.bind_some]
    all_goals (rcases es[j]? with _ | d <;> first | rfl | (cases d <;> rfl))
  rw [this]
  cases es[j]? with
  | none => rfl
  | some d => cases d <;> rfl
theorem df_wrong (h : Has K mg "_law_wrong" 48) (B : Bi mg) (dW : Df P w K mg base CX0 1 "_law_whole" spWhole) : Df P w K mg base CX0 2 "_law_wrong" spWrong := by
  refine df_ok h B sc48 cb48 (fun _ _ _ _ _ _ us hl => match us, hl with | [_, _], _ => rfl) (fun vs H Q E ⟨v, r, d, e, _⟩ => by rw [e]; rfl) ?_
  rintro X rfl rfl rfl rfl rfl Z vs H Q E ⟨n, rv, rs, rfl, hn, rr, hnt, q, qE⟩
  have hC := Z.C
  show WB X _ _ [some _, some _, none, none, none] _
  have hT : ∀ {H1 : Hp} {e : Expr} {σ : St}, Ex H H1 → Ev X e σ H1 rv → Eh X e σ H1 (.lst rs) := fun e1 he => eh_ev he (rr.mono e1)
  have ret : ∀ {H1 : Hp} {σ : St} {e1 e2 : Expr} {rest : List Stmt} {En : Ends} {p1 p2 : Pos} {m : Nat} (i j : Nat), En.rt = Q → Ex H H1 → badT n (.lst rs) = some (i, j) → Ev X e1 σ H1 (.int i) → Ev X e2 σ H1 (.int j) → starEach [e1, e2] X.env = (false, eval e1 X.env) :: starEach [e2] X.env → starEach [e2] X.env = (false, eval e2 X.env) :: starEach [] X.env →
      WB X (.Return (some (.Tuple [e1, e2] m p1)) p2 :: rest) En σ H1 := fun {H1 σ e1 e2 rest En p1 p2 m} i j hr ex hb h1 h2 hs hs2 => by
    refine b_ret ((er_tup (ns := [(i : Int), (j : Int)]) (av_cons h1 (av_cons h2 av_nil hs2) hs)).go fun v H2 e2 r2 => ?_)
    rw [hr]
    exact qE i j hb v H2 (ex.trans e2) (r2.mono (nw_back ex))
  refine b_rng1 (m := n) Z (by walk_at "mem") (by walk_at "mem") (by walk_at "ev") (by omega) (fun i σ' H' => (∃ oi oj ov, σ' = [some (.int (n : Int)), some rv, oi, oj, ov]) ∧ Ex H H' ∧ ∀ k, k < i → rowBad n rs k = none) (fun H2 e2 => ⟨⟨_, _, _, rfl⟩, e2, fun k hk => absurd hk (Nat.not_lt_zero _)⟩) ?_ ?_
  · rintro i σ' H2 hi ⟨⟨oi, oj, ov, rfl⟩, e2, hpre⟩
    refine g1_of (by walk_at "set") ?_
    have bad : ∀ p, rowBad n rs i = some p → badT n (.lst rs) = some p := fun p hp => by
      show (match (List.range n).findSome? (rowBad n rs) with
        | some p => some p
        | none => if n < rs.length then some (n, 0) else none) = _
      rw [findS_at hi hpre hp]
    cases hr : rs[i]? with
    | none =>
      have hlen := List.getElem?_eq_none_iff.mp hr
      refine b_yes (tv_w (tw_or (t := true) (u := false) ((tv_c (cv_ge (by walk_at "ev") (eh_len hC Z.B (by walk_at "mem") (hT e2 (by walk_at "ev")) rfl))).is (by simp; omega)) fun h => Bool.noConfusion h)) fun H3 e3 => ?_
      refine ret i 0 rfl (e2.trans e3) (bad _ (by unfold rowBad rowAt; rw [hr]; rfl)) ?_ ?_ rfl rfl
      · exact (by walk_at "ev")
      · exact ev_int
    | some dr =>
      have hlen := (List.getElem?_eq_some_iff.mp hr).1
      have hrow : ∀ {H1 : Hp} {e1 e2 : Expr} {σ : St} {p : Pos}, Ex H H1 → Ev X e1 σ H1 rv → Ev X e2 σ H1 (.int (i : Int)) → PlainIx e2 → Eh X (.Subscript e1 e2 p) σ H1 dr := fun e h1 h2 hp => eh_ix (hT e h1) rfl h2 hr hp
      have hdt := hnt dr (List.mem_of_getElem? hr)
      have hil : dr.isList = dr.seq.isSome := by rw [← isSeq_eq, hdt, Bool.or_false]
      cases hs : dr.seq with
      | none =>
        refine b_yes (tv_w (tw_or (t := false) (u := true) ((tv_c (cv_ge (by walk_at "ev") (eh_len hC Z.B (by walk_at "mem") (hT e2 (by walk_at "ev")) rfl))).is (by simp; omega)) fun _ => tw_or1 ((tv_not (tv_val (eh_isList hC Z.B (by walk_at "mem") (by walk_at "mem") (hrow e2 (by walk_at "ev") (by walk_at "ev") (fun _ _ => rfl))))).is (by rw [hil, hs]; rfl)))) fun H3 e3 => ?_
        refine ret i 0 rfl (e2.trans e3) (bad _ (by unfold rowBad rowAt; rw [hr, Option.bind_some, hs])) ?_ ?_ rfl rfl
        · exact (by walk_at "ev")
        · exact ev_int
      | some es =>
        refine b_no (tv_w (tw_or (t := false) (u := false) ((tv_c (cv_ge (by walk_at "ev") (eh_len hC Z.B (by walk_at "mem") (hT e2 (by walk_at "ev")) rfl))).is (by simp; omega)) fun _ => tw_or1 ((tv_not (tv_val (eh_isList hC Z.B (by walk_at "mem") (by walk_at "mem") (hrow e2 (by walk_at "ev") (by walk_at "ev") (fun _ _ => rfl))))).is (by rw [hil, hs]; rfl)))) fun H3 e3 => ?_
        have rowEq : rowAt rs i = some es := by unfold rowAt; rw [hr, Option.bind_some, hs]
        have rowB : rowBad n rs i = match (List.range n).find? (fun j => !goodAt rs i j) with
            | some j => some (i, j)
            | none => if n < es.length then some (i, n) else none := by
          unfold rowBad
          rw [rowEq]
          all_goals (cases (List.range n).find? (fun j => !goodAt rs i j) <;> rfl)
        refine b_rng1 (m := n) Z (by walk_at "mem") (by walk_at "mem") (by walk_at "ev") (by omega) (fun j σ' H' => (∃ oj ov, σ' = [some (.int (n : Int)), some rv, some (.int (i : Int)), oj, ov]) ∧ Ex H H' ∧ ∀ k, k < j → goodAt rs i k = true) (fun H4 e4 => ⟨⟨_, _, rfl⟩, (e2.trans e3).trans e4, fun k hk => absurd hk (Nat.not_lt_zero _)⟩) ?_ ?_
        · rintro j σ' H4 hj ⟨⟨oj, ov, rfl⟩, e4, hgood⟩
          refine g1_of (by walk_at "set") ?_
          have badJ : goodAt rs i j = false → badT n (.lst rs) = some (i, j) := fun hb => bad _ (by rw [rowB, find_at (p := fun j => !goodAt rs i j) hj (fun k hk => by simp [hgood k hk]) (by simp [hb])])
          have ge := good_eq (j := j) hr hs
          by_cases hlt : es.length ≤ j
          · refine b_yes ((tv_c (cv_ge (by walk_at "ev") (eh_len hC Z.B (by walk_at "mem") (hrow e4 (by walk_at "ev") (by walk_at "ev") (fun _ _ => rfl)) hs))).is (by simp; omega)) fun H5 e5 => ?_
            refine ret i j rfl (e4.trans e5) (badJ (by rw [ge, List.getElem?_eq_none hlt])) ?_ ?_ rfl rfl
            · exact (by walk_at "ev")
            · exact (by walk_at "ev")
          refine b_no ((tv_c (cv_ge (by walk_at "ev") (eh_len hC Z.B (by walk_at "mem") (hrow e4 (by walk_at "ev") (by walk_at "ev") (fun _ _ => rfl)) hs))).is (by simp; omega)) fun H5 e5 => ?_
          have e05 := e4.trans e5
          have hc : es[j]? = some es[j] := List.getElem?_eq_getElem (by omega)
          generalize es[j] = c at hc
          refine b_set hC (by walk_at "mem") (by walk_at "set") ((eh_ix (hrow e05 (by walk_at "ev") (by walk_at "ev") (fun _ _ => rfl)) hs (by walk_at "ev") hc).go fun cv H6 e6 rc => ?_)
          rw [hc] at ge
          by_cases hw : c.whole = true
          · obtain ⟨v, rfl⟩ := D.whole_int hw
            obtain rfl := rc.int_inv
            have ge' : goodAt rs i j = (decide (0 ≤ v) && (if i = j then decide (v = 0) else decide (i < j) || decide (some v = intAt rs j i))) := ge
            refine b_when (t := decide (v < 0) || (decide (i = j) && !decide (v = 0))) (tv_w ((tw_or (t := false) (u := decide (v < 0) || (decide (i = j) && !decide (v = 0))) ((tv_not (tv_val (t := true) (ev_call hC (Z.cal dW) (by walk_at "mem") (av_cons (by walk_at "ev") av_nil) fun H7 e7 Q k => ⟨_, .int v, rfl, .int v, k⟩))).is rfl) fun _ => tw_or (t := decide (v < 0)) (u := decide (i = j) && !decide (v = 0)) (by walk_at "tv") fun _ => tw_or1 (tv_w (tw_and (t := decide (i = j)) (u := !decide (v = 0)) ((tv_c (cv_eqI (by walk_at "ev") (by walk_at "ev"))).is (by rw [decide_eq_decide]; omega)) fun _ => tw_and1 (tv_c (cv_neI (by walk_at "ev") (by walk_at "ev")))))))) ?_ ?_
            · intro hb H7 e7
              refine ret i j rfl ((e05.trans e6).trans e7) (badJ ?_) ?_ ?_ rfl rfl
              · rw [ge']
                simp only [Bool.or_eq_true, Bool.and_eq_true, decide_eq_true_eq, Bool.not_eq_true', decide_eq_false_iff_not] at hb
                rcases hb with hb | ⟨hb, hb2⟩
                · rw [decide_eq_false (by omega)]; rfl
                · rw [if_pos hb, decide_eq_false hb2, Bool.and_false]
              · exact (by walk_at "ev")
              · exact (by walk_at "ev")
            · intro hb H7 e7
              have e07 := (e05.trans e6).trans e7
              simp only [Bool.or_eq_false_iff, decide_eq_false_iff_not, Bool.and_eq_false_iff, Bool.not_eq_false', decide_eq_true_eq] at hb
              obtain ⟨hb1, hb2⟩ := hb
              by_cases hji : j < i
              · obtain ⟨_, _, _, _, _, hg⟩ := rowBad_none (hpre j hji)
                obtain ⟨u, hu, _⟩ := good_int (hg i hi)
                obtain ⟨dr2, es2, k1, k2, k3⟩ := intAt_some hu
                have ge2 : goodAt rs i j = decide (v = u) := by
                  rw [ge', if_neg (by omega), decide_eq_true (by omega : 0 ≤ v), decide_eq_false (by omega : ¬ i < j), hu]
                  simp
                refine b_when (t := !decide (v = u)) (tv_w (tw_and (t := true) (u := !decide (v = u)) ((tv_c (cv_lt (by walk_at "ev") (by walk_at "ev"))).is (by simp; omega)) fun _ => tw_and1 (tv_c (cv_neI (by walk_at "ev") (eh_ix (eh_ix (hT e07 (by walk_at "ev")) rfl (by walk_at "ev") k1) k2 (by walk_at "ev") k3).int)))) ?_ ?_
                · intro hb H8 e8
                  refine ret i j rfl (e07.trans e8) (badJ (by rw [ge2]; simpa using hb)) ?_ ?_ rfl rfl
                  · exact (by walk_at "ev")
                  · exact (by walk_at "ev")
                · intro hb H8 e8
                  refine b_nil ⟨⟨_, _, rfl⟩, e07.trans e8, fun k hk => ?_⟩
                  by_cases e : k = j
                  · subst e; rw [ge2]; simpa using hb
                  · exact hgood k (by omega)
              · refine b_no (tv_w (tw_and (t := false) (u := false) ((tv_c (cv_lt (by walk_at "ev") (by walk_at "ev"))).is (by simp; omega)) fun h => Bool.noConfusion h)) fun H8 e8 => ?_
                refine b_nil ⟨⟨_, _, rfl⟩, e07.trans e8, fun k hk => ?_⟩
                by_cases e : k = j
                · subst e
                  rw [ge', decide_eq_true (by omega : 0 ≤ v)]
                  by_cases hik : i = k
                  · rw [if_pos hik]
                    rcases hb2 with hb2 | hb2
                    · exact absurd hik hb2
                    · rw [decide_eq_true hb2]; rfl
                  · rw [if_neg hik, decide_eq_true (by omega : i < k)]; rfl
                · exact hgood k (by omega)
          · have hw' : c.whole = false := by cases h : c.whole with | true => exact absurd h hw | false => rfl
            refine b_yes (tv_w (tw_or (t := true) (u := false) ((tv_not (tv_val (t := false) ((ev_call hC (Z.cal dW) (by walk_at "mem") (av_cons (by walk_at "ev") av_nil) fun H7 e7 Q k => ⟨_, c, rfl, rc.mono e7, k⟩).is (by rw [hw'])))).is rfl) fun h => Bool.noConfusion h)) fun H7 e7 => ?_
            refine ret i j rfl ((e05.trans e6).trans e7) (badJ ?_) ?_ ?_ rfl rfl
            · rw [ge]
              cases c <;> first | rfl | cases hw'
            · exact (by walk_at "ev")
            · exact (by walk_at "ev")
        · rintro σ' H4 ⟨⟨oj, ov, rfl⟩, e4, hgood⟩
          have hfn : (List.range n).find? (fun j => !goodAt rs i j) = none := find_no fun k hk => by simp [hgood k hk]
          refine b_when (t := decide (n < es.length)) ((tv_c (cv_gt (eh_len hC Z.B (by walk_at "mem") (hrow e4 (by walk_at "ev") (by walk_at "ev") (fun _ _ => rfl)) hs) (by walk_at "ev"))).is (by rw [decide_eq_decide]; omega)) ?_ ?_
          · intro hb H5 e5
            refine ret i n rfl (e4.trans e5) (bad _ (by rw [rowB, hfn]; exact if_pos (of_decide_eq_true hb))) ?_ ?_ rfl rfl
            · exact (by walk_at "ev")
            · exact (by walk_at "ev")
          · intro hb H5 e5
            refine b_nil ⟨⟨_, _, _, rfl⟩, e4.trans e5, fun k hk => ?_⟩
            by_cases e : k = i
            · subst e
              rw [rowB, hfn]
              exact if_neg (of_decide_eq_false hb)
            · exact hpre k (by omega)
  · rintro σ' H2 ⟨⟨oi, oj, ov, rfl⟩, e2, hpre⟩
    have hb0 : badT n (.lst rs) = if n < rs.length then some (n, 0) else none := by
      show (match (List.range n).findSome? (rowBad n rs) with
        | some p => some p
        | none => if n < rs.length then some (n, 0) else none) = _
      rw [findS_no hpre]
    refine b_when (t := decide (n < rs.length)) ((tv_c (cv_gt (eh_len hC Z.B (by walk_at "mem") (hT e2 (by walk_at "ev")) rfl) (by walk_at "ev"))).is (by rw [decide_eq_decide]; omega)) ?_ ?_
    · intro hb H3 e3
      refine ret n 0 rfl (e2.trans e3) (by rw [hb0, if_pos (of_decide_eq_true hb)]) ?_ ?_ rfl rfl
      · exact (by walk_at "ev")
      · exact ev_int
    · intro hb H3 e3
      exact b_ret (ev_non.go fun H4 e4 => q (by rw [hb0, if_neg (of_decide_eq_false hb)]) H4 ((e2.trans e3).trans e4))
end
end RC
/-! Data that are not told exactly: _law_strange, _law_no_row, _law_behind, _law_changed. -/
namespace RC
open PySem PySem.Spec PyProof.Rows L2
def okE (c : Int) (d : D) : Prop := DepLe 2 d ∧ ∀ i, d = .int i → -c ≤ i ∧ i ≤ c
def RowOk (c : Int) (l : Nat) (d : D) : Prop := d.isTup = false ∧ ∀ es, d.seq = some es → es.length ≤ l ∧ ∀ e ∈ es, okE c e
def Grid (c : Int) (l : Nat) (rs : List D) : Prop := rs.length ≤ l ∧ ∀ d ∈ rs, RowOk c l d
theorem okE.le {c c' : Int} {d : D} (h : okE c d) (e : c ≤ c') : okE c' d := ⟨h.1, fun i hi => by have := h.2 i hi; omega⟩
theorem RowOk.le {c c' : Int} {l l' : Nat} {d : D} (h : RowOk c l d) (e : c ≤ c') (f : l ≤ l') : RowOk c' l' d := ⟨h.1, fun es he => ⟨Nat.le_trans (h.2 es he).1 f, fun x hx => ((h.2 es he).2 x hx).le e⟩⟩
theorem Grid.le {c c' : Int} {l l' : Nat} {rs : List D} (h : Grid c l rs) (e : c ≤ c') (f : l ≤ l') : Grid c' l' rs := ⟨Nat.le_trans h.1 f, fun d hd => (h.2 d hd).le e f⟩
theorem dep_flat {d : D} (h : d.seq = none) (n : Nat) : DepLe n d := by
  cases n with
  | zero => exact h
  | succ n => intro ds hd; rw [h] at hd; cases hd
theorem DepLe.up {n : Nat} : ∀ {d : D}, DepLe n d → DepLe (n + 1) d := by
  induction n with
  | zero => intro d h; exact dep_flat h 1
  | succ n ih => exact fun {d} h ds hd => ⟨(h ds hd).1, fun x hx => ih ((h ds hd).2 x hx)⟩
theorem okE_flat {c : Int} {d : D} (h : d.seq = none) (hw : d.whole = false) : okE c d := ⟨dep_flat h 2, fun i hi => by rw [hi] at hw; cases hw⟩
theorem okE_int {c i : Int} (h : -c ≤ i ∧ i ≤ c) : okE c (.int i) := ⟨dep_flat rfl 2, fun j hj => by cases hj; exact h⟩
section
variable {X : Cx} {S : Scope} {N M Ls G : List Str} {σ : St} {H H1 : Hp} {a b e : Expr} {es : List Expr} {rest : List Stmt} {pos pos2 pos3 : Pos} {v : V} {i j : Int} {P R : D → Prop} {En : Ends} {nm : Str} {sp : Sp} {d : D} {n : Nat}
/-- evaluates to some datum of that kind -/
structure Es (X : Cx) (e : Expr) (σ : St) (H : Hp) (P : D → Prop) : Prop where
  run : ∀ H1, Ex H H1 → ∀ Q : VK, (∀ v d H2, Ex H1 H2 → P d → Rep (nw H1 H2) v d → Q v H2) → WE X e σ H1 Q
theorem Es.mono (h : Es X e σ H P) (q : Ex H H1) : Es X e σ H1 P := ⟨fun H2 e2 => h.run H2 (q.trans e2)⟩
theorem Es.go {Q : VK} (h : Es X e σ H P) (q : ∀ v d H2, Ex H H2 → P d → Rep (nw H H2) v d → Q v H2) : WE X e σ H Q := h.run H Ex.rfl' Q q
theorem es_ev (h : Ev X e σ H v) (r : Rep noHp v d) (p : P d) : Es X e σ H P := ⟨fun H1 e1 Q k => h.run H1 e1 Q fun H2 e2 => k v d H2 e2 p (r.mono noHp_ex)⟩
theorem es_er (h : Er X e σ H d) (p : P d) : Es X e σ H P := ⟨fun H1 e1 Q k => h.run H1 e1 Q fun v H2 e2 r => k v d H2 e2 p r⟩
theorem es_int (h : Ev X e σ H (.int i)) (p : P (.int i)) : Es X e σ H P := es_ev h (.int i) p
theorem es_bl {t : Bool} (h : Ev X e σ H (.bl t)) (p : P (.bl t)) : Es X e σ H P := es_ev h (.bl t) p
structure As (X : Cx) (es : List Expr) (σ : St) (H : Hp) (P : D → Prop) (n : Nat) : Prop where
  run : ∀ H1, Ex H H1 → ∀ Q : List V → Hp → Prop, (∀ vs ds H2, Ex H1 H2 → RepL (nw H1 H2) vs ds → (∀ d ∈ ds, P d) → ds.length = n → Q vs H2) → WA X es σ H1 Q
theorem as_nil : As X [] σ H P 0 := ⟨fun H1 _ Q k => a_nil (k [] [] H1 Ex.rfl' .nil (fun d h => nomatch h) rfl)⟩
theorem as_cons (h : Es X e σ H P) (hr : As X es σ H P n) (hs : starEach (e :: es) X.env = (false, eval e X.env) :: starEach es X.env := by rfl) : As X (e :: es) σ H P (n + 1) :=
  ⟨fun H1 e1 Q k => a_cons (h.run H1 e1 _ fun v d H2 e2 p r => hr.run H2 (e1.trans e2) _ fun vs ds H3 e3 rs ps hl => k (v :: vs) (d :: ds) H3 (e2.trans e3) (.cons (r.mono (nw_mono e3)) (rs.mono (nw_back e2))) (fun x hx => by
    rcases List.mem_cons.mp hx with rfl | hx
    · exact p
    · exact ps x hx) (by rw [List.length_cons, hl])) hs⟩
/-- [..][k] -/
theorem es_pick {k : Nat} (h : As X es σ H P n) (hi : Ev X b σ H (.int (k : Int))) (hk : k < n) (hn : n ≤ 1000) (hp : PlainIx b := by exact fun _ _ => rfl) : Es X (.Subscript (.List es pos) b pos2) σ H P :=
  ⟨fun H1 e1 Q kk => we_of (pe_ix ix_list (pe_lst pa_wa) pe_we hp) (h.run H1 e1 _ fun vs ds H2 e2 rs ps hl => by
    have hvl := rs.len
    refine ⟨szOf (by omega), fun l hl' => ?_⟩
    have e3 := Ex.new (o := .lst vs) hl'
    refine hi.run _ ((e1.trans e2).trans e3) _ fun H4 e4 => ?_
    have hlt : k < ds.length := by omega
    obtain ⟨v, hv, r⟩ := rs.at (List.getElem?_eq_getElem hlt)
    exact ⟨l, vs, k, v, rfl, rfl, sqL (e4 _ _ upd_same), L2.atI_nat hv, kk v ds[k] H4 ((e2.trans e3).trans e4) (ps _ (List.getElem_mem hlt)) (r.mono (nw_mono (e3.trans e4)))⟩)⟩
theorem es_call {vs : List V} (C : Ctx X S N M Ls G) (c : Cal X nm sp) (hg : nm ∈ G) (h : Av X (e :: es) σ H vs) (q : ∀ H1, Ex H H1 → ∀ Q : VK, (∀ v d H2, Ex H1 H2 → P d → Rep (nw H1 H2) v d → Q v H2) → sp vs H1 Q E0)
    (he : starEach (e :: es) X.env = (false, eval e X.env) :: starEach es X.env := by rfl) (hp : (backTo pos (starEach es X.env)).any (·.1) = false := by rfl) : Es X (.Call (.Name nm pos2) (e :: es) [] pos) σ H P :=
  ⟨fun H1 e1 Q k => we_call C c hg (h.run H1 e1 _ fun H2 e2 => q H2 (e1.trans e2) Q fun v d H3 e3 p r => k v d H3 (e2.trans e3) p (r.mono (nw_back e2))) he hp⟩
/-- s * k -/
theorem op_mulStr : OpR X (binaryOp .Mult) (fun x y H Q => ∃ s k, x = V.str s ∧ y = V.int k ∧ MulOk s k ∧ ∀ s', Q (.str s') H) := by
  intro pins s σ H x y v u Q I rx ry h
  obtain ⟨t, k, rfl, rfl, ok, q⟩ := h
  obtain ⟨t1, rfl⟩ := rx
  obtain ⟨t2, rfl⟩ := ry
  exact PySem.SB.mul ok fun t' k => ⟨.str _, H, I.tok k, ⟨_, rfl⟩, q _⟩
end
section
variable {P : Program} {w : World} {K : PySem.W.Frag} {mg : Str → Option Value} {base : Heap}
theorem mod6 {b : Int} (m : Nat) (hm : 0 < m) : ∃ k : Nat, b % (m : Int) = (k : Int) ∧ k < m := ⟨(b % (m : Int)).toNat, by rw [Int.toNat_of_nonneg (Int.emod_nonneg _ (by omega))], by have := Int.emod_lt_of_pos b (show (0 : Int) < m by omega); have := Int.emod_nonneg b (show (m : Int) ≠ 0 by omega); omega⟩
def spStrange : Sp := fun vs H Q _ => ∃ (i b : Int), vs = [.int i, .int b] ∧ i.natAbs.log2 < 1920 ∧ ∀ v d H', Ex H H' → (∀ c, okE c d) → Rep (nw H H') v d → Q v H'
theorem df_strange (h : Has K mg "_law_strange" 43) (B : Bi mg) : Df P w K mg base CX0 1 "_law_strange" spStrange := by
  refine df_ok h B sc43 cb43 (fun _ _ _ _ _ _ us hl => match us, hl with | [_, _], _ => rfl) (fun vs H Q E ⟨i, b, e, _⟩ => by rw [e]; rfl) ?_
  rintro X rfl rfl rfl rfl rfl Z vs H Q E ⟨i, b, rfl, hb, q⟩
  have hC := Z.C
  show WB X _ _ [some _, some _] _
  obtain ⟨k, hk, hk6⟩ := mod6 (b := b) 6 (by decide)
  refine b_ret (Es.go (P := fun d => ∀ c, okE c d) (es_pick (k := k) (n := 6) (as_cons (es_bl (ev_c (cv_eqI (by walk_at "ev") ev_int)) fun c => okE_flat rfl rfl) (as_cons (es_ev ev_non .non fun c => okE_flat rfl rfl) (as_cons ?_ (as_cons (es_er (er_tup (ns := [i]) (av_cons (by walk_at "ev") av_nil)) fun c => ⟨DepLe.up (dep_ints.mpr (by simp)), fun j hj => nomatch hj⟩) (as_cons (es_er (er_eol (ns := [i]) (eo_lst (av_cons (by walk_at "ev") av_nil))) fun c => ⟨DepLe.up (show DepLe 1 (.lst [.int i]) from fun ds hd => by cases hd; exact ⟨by simp, fun x hx => by rw [List.mem_singleton.mp hx]; rfl⟩), fun j hj => nomatch hj⟩) (as_cons (es_bl (ev_c (cv_eqI (by walk_at "ev") ev_int)) fun c => okE_flat rfl rfl) as_nil)))))) ((ev_mod (ev_intI hC Z.B (by walk_at "mem") (by walk_at "ev")) ev_int (by decide)).is (by rw [← hk]; rfl)) hk6 (by decide)) q)
  refine ⟨fun H1 e1 Q k => we_of (pe_callTy call_str_int (hC.glo (by walk_at "mem")) Z.B.str bt_str pa_wa (by decide) (by decide) rfl rfl) (a_cons ((show Ev X _ _ H (.int i) from by walk_at "ev").run H1 e1 _ fun H2 e2 => a_nil ⟨i, rfl, hb, k _ (.str _) H2 e2 (fun c => okE_flat rfl rfl) (.str _)⟩))⟩
def spNoRow : Sp := fun vs H Q _ => ∃ (n : Nat) (b : Int), vs = [.int n, .int b] ∧ n ≤ 100000 ∧ ∀ v d H', Ex H H' → d.seq = none → Rep (nw H H') v d → Q v H'
theorem mulOk0 {n : Nat} (h : n ≤ 100000) : MulOk (Str.ofString "0") (n : Int) := by
  refine ⟨by rw [decide_eq_false (by omega), decide_eq_false (by omega)]; rfl, fun h1 _ => ?_, fun h1 _ => ?_⟩
  · show ¬ (1 : Int) > _
    have : (1 : Int) ≤ (2 ^ 63 - 1) / (n : Int) := by
      rw [Int.le_ediv_iff_mul_le (by omega)]
      omega
    omega
  · show Builtin.Str.tooLong (1 * _) = false
    rw [Nat.one_mul]
    unfold Builtin.Str.tooLong
    rw [Int.toNat_natCast]
    exact decide_eq_false (by rw [sizeLine_eq]; omega)
theorem df_norow (h : Has K mg "_law_no_row" 44) (B : Bi mg) : Df P w K mg base CX0 1 "_law_no_row" spNoRow := by
  refine df_ok h B sc44 cb44 (fun _ _ _ _ _ _ us hl => match us, hl with | [_, _], _ => rfl) (fun vs H Q E ⟨i, b, e, _⟩ => by rw [e]; rfl) ?_
  rintro X rfl rfl rfl rfl rfl Z vs H Q E ⟨n, b, rfl, hn, q⟩
  have hC := Z.C
  show WB X _ _ [some _, some _] _
  obtain ⟨k, hk, hk6⟩ := mod6 (b := b) 6 (by decide)
  refine b_ret (Es.go (P := fun d => d.seq = none) (es_pick (k := k) (n := 6) (as_cons (es_ev ev_non .non rfl) (as_cons (es_int ev_int rfl) (as_cons (es_bl ev_bl rfl) (as_cons ?_ (as_cons ?_ (as_cons (es_ev ev_str (.str _) rfl) as_nil)))))) ((ev_mod (ev_intI hC Z.B (by walk_at "mem") (by walk_at "ev")) ev_int (by decide)).is (by rw [← hk]; rfl)) hk6 (by decide)) q)
  · exact ⟨fun H1 e1 Q k => we_of (pe_op op_mulStr pe_we pe_we) (ev_str.run H1 e1 _ fun H2 e2 => (show Ev X _ _ H (.int (n : Int)) from by walk_at "ev").run H2 (e1.trans e2) _ fun H3 e3 => ⟨_, _, rfl, rfl, mulOk0 hn, fun s' => k _ (.str s') H3 (e2.trans e3) rfl (.str s')⟩)⟩
  · refine ⟨fun H1 e1 Q k => we_of (pe_disp (pps_cons pe_we pe_we pps_nil) rfl rfl (by simp) (by decide)) fun p hp => ?_⟩
    have e2 := Ex.new (o := .dK []) hp
    refine (ev_int (i := 0)).run _ (e1.trans e2) _ fun H2 e3 => (ev_int (i := 0)).run H2 ((e1.trans e2).trans e3) _ fun H3 e4 => ?_
    refine ⟨(e3.trans e4) _ _ upd_same, [(Sum.inl 0, V.int 0)], rfl, by decide, k _ (.dct p) _ ?_ rfl (.dct (nw_new hp upd_same) ⟨by decide, fun kv hkv => ?_⟩)⟩
    · exact fun x o hx => (upd_ne (ne_of_none hx hp)).trans ((e3.trans e4) _ _ (e2 _ _ hx))
    · rw [List.mem_singleton.mp hkv]; exact .inl rfl
def spBehind : Sp := fun vs H Q _ => ∃ (n : Nat) (b : Int), vs = [.int n, .int b] ∧ n < 100000 ∧ ∀ v es H', Ex H H' → es.length ≤ 2 → (∀ e ∈ es, okE 1 e) → Rep (nw H H') v (.lst es) → Q v H'
theorem okE_1 {e : D} (h : e = .int 0 ∨ e = .int 1 ∨ e = .non ∨ e = .bl true) : okE 1 e := by
  rcases h with rfl | rfl | rfl | rfl
  · exact okE_int (by decide)
  · exact okE_int (by decide)
  · exact okE_flat rfl rfl
  · exact okE_flat rfl rfl
def SmallL (d : D) : Prop := ∃ es, d = .lst es ∧ es.length ≤ 2 ∧ ∀ e ∈ es, okE 1 e
theorem es_lst1 {X : Cx} {σ : St} {H : Hp} {a : Expr} {d : D} {pos : Pos} {v : V} (h : Ev X a σ H v) (r : Rep noHp v d) (hd : okE 1 d) (hs : starEach [a] X.env = (false, eval a X.env) :: starEach [] X.env := by rfl) : Es X (.List [a] pos) σ H SmallL :=
  ⟨fun H1 e1 Q k => (eo_lst (av_cons h av_nil hs)).run H1 e1 _ fun p H2 hp e2 h2 => k _ (.lst [d]) H2 e2 ⟨[d], rfl, by simp, fun e he => by rw [List.mem_singleton.mp he]; exact hd⟩ (.lst (nw_new hp h2) (.cons (r.mono noHp_ex) .nil))⟩
theorem df_behind (h : Has K mg "_law_behind" 45) (B : Bi mg) : Df P w K mg base CX0 1 "_law_behind" spBehind := by
  refine df_ok h B sc45 cb45 (fun _ _ _ _ _ _ us hl => match us, hl with | [_, _], _ => rfl) (fun vs H Q E ⟨i, b, e, _⟩ => by rw [e]; rfl) ?_
  rintro X rfl rfl rfl rfl rfl Z vs H Q E ⟨n, b, rfl, hn, q⟩
  have hC := Z.C
  show WB X _ _ [some _, some _, none] _
  obtain ⟨k, hk, hk6⟩ := mod6 (b := b) 6 (by decide)
  refine b_ret (Es.go (P := SmallL) (es_pick (k := k) (n := 6) (as_cons (es_lst1 (ev_int (i := 0)) (.int 0) (okE_1 (by simp))) (as_cons ?_ (as_cons (es_lst1 (ev_int (i := 1)) (.int 1) (okE_1 (by simp))) (as_cons (es_lst1 ev_non .non (okE_1 (by simp))) (as_cons (es_lst1 ev_bl (.bl true) (okE_1 (by simp))) (as_cons ?_ as_nil)))))) ((ev_mod (ev_intI hC Z.B (by walk_at "mem") (by walk_at "ev")) ev_int (by decide)).is (by rw [← hk]; rfl)) hk6 (by decide)) fun v d H2 e2 ⟨es, hd, h1, h2⟩ r => q v es H2 e2 h1 h2 (hd ▸ r))
  · exact ⟨fun H1 e1 Q k => (eo_lst (vs := [.int 0, .int 0]) (av_cons ev_int (av_cons ev_int av_nil))).run H1 e1 _ fun p H2 hp e2 h2 => k _ (.lst [.int 0, .int 0]) H2 e2 ⟨_, rfl, by simp, fun e he => okE_1 (by simp at he; exact .inl he)⟩ (.lst (nw_new hp h2) (.cons (.int 0) (.cons (.int 0) .nil)))⟩
  · refine ⟨fun H1 e1 Q kk => we_of (pe_lst pa_wa) (a_cons ?_)⟩
    refine (eo_comp (own := [("_law_k", 2)]) (List.range n) (fun _ => some (V.int 0)) hC Z.calm (by decide +kernel) (sr_rng1 hC (by walk_at "mem") Z.B.range (by walk_at "ev") hn) gN_mon (fun Y b => pgN (b.ctx (M' := M45_0) (L' := L45_0) (G' := G45_0) hC (by decide +kernel)) (by walk_at "mem")) (by rw [List.length_range, rgI_len]) (by rw [rgI_len]; exact hn) (by walk_at "wipe") ?_).run H1 e1 _ fun p H2 hp e2 h2 => a_nil ⟨szOf (by simp), fun l hl => ?_⟩
    · intro k x j Hc h1 h2 ex
      obtain ⟨_, rfl⟩ := rgI_get.mp h1
      exact g1_of (by walk_at "set") ⟨rfl, fun Y b => st_all ev_int⟩
    · have e3 := Ex.new (o := .lst [V.ref p]) hl
      rw [filterMap_some] at h2
      have hz : ((List.range n).map fun _ => V.int 0) = ((List.range n).map fun _ => (0 : Int)).map V.int := by rw [List.map_map]; rfl
      refine kk _ (.lst [.lst (((List.range n).map fun _ => (0 : Int)).map D.int)]) _ (e2.trans e3) ⟨_, rfl, by simp, fun e he => ?_⟩ (.lst (nw_new (e2.fresh hl) upd_same) (.cons (.lst (nw_new hp (e3 _ _ h2)) (by rw [hz]; exact RepL.ints)) .nil))
      rw [List.mem_singleton.mp he]
      refine ⟨DepLe.up fun ds hd => ?_, fun i hi => nomatch hi⟩
      cases hd
      refine ⟨by simp; exact hn, fun x hx => ?_⟩
      obtain ⟨z, _, rfl⟩ := List.mem_map.mp hx
      rfl
def spChanged : Sp := fun vs H Q _ => ∃ (v way b : Int), vs = [.int v, .int way, .int b] ∧ 0 ≤ b ∧ b < 1073741824 ∧ ∀ i H', Ex H H' → (∀ c, -c ≤ v ∧ v ≤ c → -(c + 4294967296) ≤ i ∧ i ≤ c + 4294967296) → Q (.int i) H'
theorem ev_intC {X : Cx} {S : Scope} {N M L G : List Str} {σ : St} {H : Hp} {a b : Expr} {op : CmpOp} {t : Bool} {pos pos2 pos3 : Pos} (C : Ctx X S N M L G) (B : Bi X.mg) (hg : ("int" : Str) ∈ G) (h : Cv X op a b σ H t) (he : starEach [.Compare a [op] [b] pos3] X.env = (false, eval (.Compare a [op] [b] pos3) X.env) :: starEach [] X.env := by rfl) :
    Ev X (.Call (.Name "int" pos2) [.Compare a [op] [b] pos3] [] pos) σ H (.int (if t then 1 else 0)) := ev_intB C B hg (ev_c h) he
theorem df_changed (h : Has K mg "_law_changed" 46) (B : Bi mg) : Df P w K mg base CX0 1 "_law_changed" spChanged := by
  refine df_ok h B sc46 cb46 (fun _ _ _ _ _ _ us hl => match us, hl with | [_, _, _], _ => rfl) (fun vs H Q E ⟨i, b, c, e, _⟩ => by rw [e]; rfl) ?_
  rintro X rfl rfl rfl rfl rfl Z vs H Q E ⟨v, way, b, rfl, hb0, hb, q⟩
  have hC := Z.C
  show WB X _ _ [some _, some _, some _, none, none] _
  have m0 := Int.emod_nonneg way (show (2 : Int) ≠ 0 by decide)
  have m1 := Int.emod_lt_of_pos way (show (0 : Int) < 2 by decide)
  refine b_setV (v := .int (v + b * (1 + way % 2))) hC (by walk_at "mem") (by walk_at "set") (ev_add (by walk_at "ev") (ev_mul (by walk_at "ev") (ev_add (by walk_at "ev") (ev_mod (ev_intI hC Z.B (by walk_at "mem") (by walk_at "ev")) ev_int (by decide))) (.inl ⟨by omega, by omega⟩))) fun H1 e1 => ?_
  have hmore : 0 ≤ b * (1 + way % 2) ∧ b * (1 + way % 2) ≤ 2 * b := by
    have : way % 2 = 0 ∨ way % 2 = 1 := by omega
    rcases this with h | h <;> rw [h] <;> omega
  generalize b * (1 + way % 2) = ad at hmore ⊢
  have hmx : ∃ mxv : Int, (if (1 : Int) > v + 1 then 1 else v + 1) = mxv ∧ 1 ≤ mxv ∧ (mxv = 1 ∨ mxv = v + 1) := ⟨_, rfl, by split <;> omega, by split <;> omega⟩
  obtain ⟨mxv, hmx, hmx1, hmx2⟩ := hmx
  refine b_setV (v := .int (b % mxv)) hC (by walk_at "mem") (by walk_at "set") (ev_mod (ev_intI hC Z.B (by walk_at "mem") (by walk_at "ev")) ((ev_max2 hC Z.B Z.calm (by walk_at "mem") (ev_add (by walk_at "ev") ev_int) ev_int).is (by rw [hmx])) (by omega)) fun H2 e2 => ?_
  have l0 := Int.emod_nonneg b (show mxv ≠ 0 by omega)
  have l1 := Int.emod_lt_of_pos b (show 0 < mxv by omega)
  generalize b % mxv = less at l0 l1 ⊢
  have e9 : ∀ {σ : St} {H : Hp} {p1 p2 p3 : Pos} {n1 n2 : Nat}, Ev X (.BinOp (.Constant (.int 10) n1 p1) .Pow (.Constant (.int 9) n2 p2) p3) σ H (.int (10 ^ 9)) := (ev_pow ev_int ev_int ⟨by decide, by decide, by decide⟩).is rfl
  refine b_when (t := decide (way < 2)) (by walk_at "tv") ?_ ?_
  · intro _ H3 e3
    refine b_ret ((ev_sub (by walk_at "ev") (ev_mul (ev_sub (by walk_at "ev") (by walk_at "ev")) (ev_intC hC Z.B (by walk_at "mem") (cv_gt (by walk_at "ev") e9)) (.inr ⟨by split <;> decide, by split <;> decide⟩))).go fun H4 e4 => q _ H4 (((e1.trans e2).trans e3).trans e4) fun c hc => ?_)
    split <;> omega
  · intro _ H3 e3
    have p0 := Int.emod_nonneg less (show (2 : Int) ≠ 0 by decide)
    have p1 := Int.emod_lt_of_pos less (show (0 : Int) < 2 by decide)
    refine b_ret ((ev_add (ev_sub (by walk_at "ev") (by walk_at "ev")) (ev_mul (ev_mod (ev_intI hC Z.B (by walk_at "mem") (by walk_at "ev")) ev_int (by decide)) (ev_intC hC Z.B (by walk_at "mem") (cv_eqI (by walk_at "ev") ev_int)) (.inl ⟨by omega, by omega⟩))).go fun H4 e4 => q _ H4 (((e1.trans e2).trans e3).trans e4) fun c hc => ?_)
    split <;> omega
end
end RC
/-! _law_free, _law_spoilt -/
namespace RC
open PySem PySem.Spec PyProof.Rows L2
section
variable {X : Cx} {S : Scope} {N M Ls G : List Str} {σ : St} {H H1 : Hp} {a b c e : Expr} {rest body : List Stmt} {pos pos2 pos3 : Pos} {v : V} {P : Bool → Prop} {En : Ends}
theorem WB.nx {sts : List Stmt} {Inv K2 : St → Hp → Prop} (h : WB X sts { En with nx := Inv } σ H) (k : ∀ σ' H', Inv σ' H' → K2 σ' H') : WB X sts { En with nx := K2 } σ H :=
  ⟨fun pins s I => wpAny_mono (h.run pins s I) (fun f s' q => by
    cases f with
    | next => obtain ⟨σ', H', I', q⟩ := q; exact ⟨σ', H', I', k σ' H' q⟩
    | brk => exact q
    | cont => exact q
    | ret u => exact q) fun _ _ x => x⟩
/-- an if behind which Inv stands, whichever way -/
theorem b_whenJ (Inv : St → Hp → Prop) (h : Tz X c σ H P) (h1 : P true → ∀ H1, Ex H H1 → WB X body { En with nx := Inv } σ H1) (h2 : P false → ∀ H1, Ex H H1 → Inv σ H1) (k : ∀ σ' H', Inv σ' H' → WB X rest En σ' H') : WB X (.If c body [] pos :: rest) En σ H :=
  b_whenZ h (fun p H1 e1 => (h1 p H1 e1).nx k) fun p H1 e1 => k _ _ (h2 p H1 e1)
end
theorem RepL.drop {H : Hp} {xs : List V} {ds : List D} (r : RepL H xs ds) (n : Nat) : RepL H (xs.drop n) (ds.drop n) := by
  induction ds generalizing xs n with
  | nil => cases r; rw [List.drop_nil, List.drop_nil]; exact .nil
  | cons d ds ih =>
    cases r with
    | cons q r =>
      cases n with
      | zero => exact .cons q r
      | succ n => exact ih r n
section
variable {P : Program} {w : World} {K : PySem.W.Frag} {mg : Str → Option Value} {base : Heap}
def lstD (r : List Int) : D := .lst (r.map D.int)
def spFree : Sp := fun vs H Q _ => ∃ (cc : Int) (n : Nat) (t : Int), vs = [.int cc, .int n, .int t] ∧ n ≤ 60 ∧ 0 ≤ t ∧ t ≤ 1000 ∧ ∀ T v H', Ex H H' → Sqr n T → (∀ row ∈ T, ∀ x ∈ row, 0 ≤ x ∧ x ≤ 4000) → Rep (nw H H') v (.lst (T.map lstD)) → Q v H'
def TOk (n : Nat) (T : List (List Int)) : Prop := Sqr n T ∧ ∀ row ∈ T, ∀ x ∈ row, (0 : Int) ≤ x ∧ x ≤ 4000
theorem TOk.set {n i j : Nat} {T : List (List Int)} {row : List Int} {x : Int} (h : TOk n T) (hr : T[i]? = some row) (hx : 0 ≤ x ∧ x ≤ 4000) : TOk n (T.set i (row.set j x)) := by
  have hm := List.mem_of_getElem? hr
  refine ⟨⟨by rw [List.length_set]; exact h.1.1, fun r hr' => ?_⟩, fun r hr' y hy => ?_⟩
  · rcases List.mem_or_eq_of_mem_set hr' with h1 | rfl
    · exact h.1.2 r h1
    · rw [List.length_set]; exact h.1.2 _ hm
  · rcases List.mem_or_eq_of_mem_set hr' with h1 | rfl
    · exact h.2 r h1 y hy
    · rcases List.mem_or_eq_of_mem_set hy with h2 | rfl
      · exact h.2 _ hm y h2
      · exact hx
theorem df_free (h : Has K mg "_law_free" 42) (B : Bi mg) (dD : Df P w K mg base CX0 1 "_law_digits" spDigits) : Df P w K mg base CX0 2 "_law_free" spFree := by
  refine df_ok h B sc42 cb42 (fun _ _ _ _ _ _ us hl => match us, hl with | [_, _, _], _ => rfl) (fun vs H Q E ⟨i, b, c, e, _⟩ => by rw [e]; rfl) ?_
  rintro X rfl rfl rfl rfl rfl Z vs H Q E ⟨cc, n, t, rfl, hn, ht0, ht1, q⟩
  have hC := Z.C
  show WB X _ _ [some _, some _, some _, none, none, none, none, none] _
  have hnn : n * n ≤ 3600 := Nat.le_trans (Nat.mul_le_mul hn hn) (by decide)
  have hsz : ∀ {σ : St} {H : Hp} {p1 p2 p3 : Pos}, Ev X (.Name "_law_size" p1) σ H (.int (n : Int)) → Ev X (.Name "_law_size" p2) σ H (.int (n : Int)) → Ev X (.BinOp (.Name "_law_size" p1) .Mult (.Name "_law_size" p2) p3) σ H (.int ((n * n : Nat) : Int)) := fun h1 h2 => (ev_mul h1 h2 (.inl ⟨by omega, by omega⟩)).is (by rw [Int.natCast_mul])
  refine b_setD (ss := (List.range (n * n)).map fun _ => 4) hC (by walk_at "mem") (by walk_at "set") (ed_call hC (Z.cal dD) (by walk_at "mem") (ei_ev (by walk_at "ev")) ?_ (fun s hs => by obtain ⟨_, _, rfl⟩ := List.mem_map.mp hs; decide) (by simp; omega)) fun ds dp H1 e1 dg hdn hd => ?_
  · rw [List.map_map, ← filterMap_some]
    refine eo_comp (own := [("_law_k", 3)]) _ _ hC Z.calm (by decide +kernel) (sr_rng1 hC (by walk_at "mem") Z.B.range (hsz (by walk_at "ev") (by walk_at "ev")) (by omega)) gN_mon (fun Y b => pgN (b.ctx (M' := M42_0) (L' := L42_0) (G' := G42_0) hC (by decide +kernel)) (by walk_at "mem")) (by rw [List.length_range, rgI_len]) (by rw [rgI_len]; omega) (by walk_at "wipe") ?_
    intro k x j Hc h1 h2 ex
    obtain ⟨_, rfl⟩ := rgI_get.mp h1
    exact g1_of (by walk_at "set") ⟨rfl, fun Y b => st_all (Ev.is (v := .int 4) ev_int rfl)⟩
  have hdig : ∀ k, k < n * n → ∃ x, ds[k]? = some x ∧ 0 ≤ x ∧ x < 4 := fun k hk => digs_at dg (by rw [List.getElem?_map, List.getElem?_range hk]; rfl)
  refine b_setCo (own := [("_law_i", 5)]) (List.range n) (fun _ => some (HO.lst (((List.range n).map fun _ => (0 : Int)).map V.int))) hC Z.calm (by decide +kernel) (sr_rng1 hC (by walk_at "mem") Z.B.range (by walk_at "ev") (by omega)) gN_mon (fun Y b => pgN (b.ctx (M' := M42_2) (L' := L42_2) (G' := G42_2) hC (by decide +kernel)) (by walk_at "mem")) (by rw [List.length_range, rgI_len]) (by rw [rgI_len]; omega) (by decide +kernel) (by walk_at "set") (by walk_at "wipe") ?_ ?_
  · intro k x i Hc h1 h2 ex
    obtain ⟨_, rfl⟩ := rgI_get.mp h1
    refine g1_of (by walk_at "set") ⟨rfl, fun Y b => ?_⟩
    have ZY := Z.blk (M' := M42_2) (L' := L42_2) (G' := G42_2) b (by decide +kernel)
    have hY := ZY.C
    refine st_allo ?_
    rw [List.map_map, ← filterMap_some]
    refine eo_comp (own := [("_law_j", 6)]) _ _ hY ZY.calm (by decide +kernel) (sr_rng1 hY (by walk_at "mem") ZY.B.range (by walk_at "ev") (by omega)) gN_mon (fun W b' => pgN (b'.ctx (M' := M42_1) (L' := L42_1) (G' := G42_1) hY (by decide +kernel)) (by walk_at "mem")) (by rw [List.length_range, rgI_len]) (by rw [rgI_len]; omega) (by walk_at "wipe") ?_
    intro k2 x2 j Hd h3 h4 ex2
    obtain ⟨_, rfl⟩ := rgI_get.mp h3
    exact g1_of (by walk_at "set") ⟨rfl, fun W b' => st_all (Ev.is (v := .int 0) ev_int rfl)⟩
  intro p ps H2 hpn e2 hp2 hk
  rw [filterMap_some] at hk
  have hk' : Kids H1 H2 p ps (((List.range n).map fun _ => (List.range n).map fun _ => (0 : Int)).map fun r => HO.lst (r.map V.int)) := by
    rw [List.map_map]; exact hk
  have g0 := tg_of e1 e2 hpn hp2 hk'
  have t0 : TOk n ((List.range n).map fun _ => (List.range n).map fun _ => (0 : Int)) := ⟨⟨by simp, fun r hr => by obtain ⟨_, _, rfl⟩ := List.mem_map.mp hr; simp⟩, fun r hr x hx => by
    obtain ⟨_, _, rfl⟩ := List.mem_map.mp hr
    obtain ⟨_, _, rfl⟩ := List.mem_map.mp hx
    exact ⟨by decide, by decide⟩⟩
  have hd2 := e2 _ _ hd
  have dnp : ∀ {H' : Hp} {T : List (List Int)}, TG H H' p ps T → dp ∉ p :: ps := fun g z => by
    rcases List.mem_cons.mp z with rfl | z
    · rw [hd] at hpn; cases hpn
    · obtain ⟨c, _, h3⟩ := paired_mem hk'.1 z
      rw [hd] at h3; cases h3
  refine b_rng1 (m := n) Z (by walk_at "mem") (by walk_at "mem") (by walk_at "ev") (by omega) (fun i σ' H' => ∃ oi oj T, σ' = [some (.int cc), some (.int (n : Int)), some (.int t), none, some (.ref dp), oi, oj, some (.ref p)] ∧ TG H H' p ps T ∧ TOk n T ∧ H' dp = some (.lst (ds.map V.int))) (fun H3 e3 => ⟨_, _, _, rfl, g0.mono e3, t0, e3 _ _ hd2⟩) ?_ ?_
  · rintro i σ' H3 hi ⟨oi, oj, T, rfl, g3, t3, hd3⟩
    refine g1_of (by walk_at "set") ?_
    refine b_rng1 (m := i) Z (by walk_at "mem") (by walk_at "mem") (by walk_at "ev") (by omega) (fun j σ' H' => ∃ oj T, σ' = [some (.int cc), some (.int (n : Int)), some (.int t), none, some (.ref dp), some (.int (i : Int)), oj, some (.ref p)] ∧ TG H H' p ps T ∧ TOk n T ∧ H' dp = some (.lst (ds.map V.int))) (fun H4 e4 => ⟨_, _, rfl, g3.mono e4, t3, e4 _ _ hd3⟩) ?_ ?_
    · rintro j σ' H4 hj ⟨oj, T, rfl, g4, t4, hd4⟩
      refine g1_of (by walk_at "set") ?_
      have hin : i * n + j < n * n := by
        have : (i + 1) * n ≤ n * n := Nat.mul_le_mul_right n hi
        rw [Nat.succ_mul] at this
        omega
      obtain ⟨x, hx, x0, x1⟩ := hdig _ hin
      have hxt : 0 ≤ x * t ∧ x * t ≤ 4000 := by
        have h1 : 0 ≤ x * t := Int.mul_nonneg x0 ht0
        have h2 : x * t ≤ 3 * 1000 := Int.mul_le_mul (by omega) ht1 ht0 (by decide)
        omega
      have cell : ∀ {H5 : Hp} {σ : St} {p1 p2 p3 p4 p5 p6 p7 p8 p9 : Pos}, H5 dp = some (.lst (ds.map V.int)) → Ev X (.Name "_law_draw" p1) σ H5 (.ref dp) → Ev X (.Name "_law_i" p2) σ H5 (.int (i : Int)) → Ev X (.Name "_law_size" p3) σ H5 (.int (n : Int)) → Ev X (.Name "_law_j" p4) σ H5 (.int (j : Int)) → Ev X (.Name "_law_times" p5) σ H5 (.int t) →
          Ev X (.BinOp (.Subscript (.Name "_law_draw" p1) (.BinOp (.BinOp (.Name "_law_i" p2) .Mult (.Name "_law_size" p3) p6) .Add (.Name "_law_j" p4) p7) p8) .Mult (.Name "_law_times" p5) p9) σ H5 (.int (x * t)) := fun h5 k1 k2 k3 k4 k5 =>
        ev_mul (ev_lI (n := i * n + j) k1 h5 ((ev_add (ev_mul k2 k3 (.inl ⟨by omega, by omega⟩)) k4).is (by rw [Int.natCast_add, Int.natCast_mul])) hx) k5 (.inl ⟨by omega, by omega⟩)
      generalize hxv : x * t = xv at hxt cell
      have step : ∀ (a b : Nat) (T : List (List Int)) (H5 : Hp), a < n → b < n → TG H H5 p ps T → TOk n T → H5 dp = some (.lst (ds.map V.int)) → ∃ (rq : Addr) (row : List Int), ps[a]? = some rq ∧ row.length = n ∧ H5 rq = some (.lst (row.map V.int)) ∧ TOk n (T.set a (row.set b xv)) ∧ (∀ H6, Ex H5 H6 → TG H (upd H6 rq (.lst ((row.map V.int).set b (.int xv)))) p ps (T.set a (row.set b xv)) ∧ upd H6 rq (.lst ((row.map V.int).set b (.int xv))) dp = some (.lst (ds.map V.int))) := fun a b T H5 ha hb g t h5 => by
        obtain ⟨row, r1, r2, _⟩ := t.1.row ha
        obtain ⟨rq, q1, q2⟩ := g.rows a row r1
        refine ⟨rq, row, q1, r2, q2, t.set r1 hxt, fun H6 e6 => ⟨?_, ?_⟩⟩
        · rw [← List.map_set (f := V.int)]
          exact (g.mono e6).set q1 (by rw [t.1.1]; exact ha)
        · rw [upd_ne fun z => dnp g (by rw [z]; exact List.mem_cons_of_mem _ (List.mem_of_getElem? q1))]
          exact e6 _ _ h5
      obtain ⟨rq, row, q1, rl, q2, t5, g5⟩ := step i j T H4 hi (by omega) g4 t4 hd4
      refine b_setIx ((cell hd4 (by walk_at "ev") (by walk_at "ev") (by walk_at "ev") (by walk_at "ev") (by walk_at "ev")).go fun H5 e5 => ?_)
      refine (show Ev X _ _ H5 (.ref rq) from ev_ixL (by walk_at "ev") (by walk_at "ev") (sqL (e5 _ _ g4.gp)) (L2.atI_nat (by rw [List.getElem?_map, q1]; rfl))).go fun H6 e6 => (show Ev X _ _ H6 (.int (j : Int)) from by walk_at "ev").go fun H7 e7 => ?_
      have e47 := (e5.trans e6).trans e7
      refine ⟨rq, row.map V.int, j, rfl, rfl, e47 _ _ q2, by rw [List.length_map, rl]; omega, ?_⟩
      obtain ⟨g8, hd8⟩ := g5 H7 e47
      generalize upd H7 rq (.lst ((row.map V.int).set j (.int xv))) = H8 at g8 hd8 ⊢
      obtain ⟨rq', row', q1', rl', q2', t9, g9⟩ := step j i _ H8 (by omega) hi g8 t5 hd8
      refine b_setIx ((cell hd8 (by walk_at "ev") (by walk_at "ev") (by walk_at "ev") (by walk_at "ev") (by walk_at "ev")).go fun H9 e9 => ?_)
      refine (show Ev X _ _ H9 (.ref rq') from ev_ixL (by walk_at "ev") (by walk_at "ev") (sqL (e9 _ _ g8.gp)) (L2.atI_nat (by rw [List.getElem?_map, q1']; rfl))).go fun HA eA => (show Ev X _ _ HA (.int (i : Int)) from by walk_at "ev").go fun HB eB => ?_
      have e8B := (e9.trans eA).trans eB
      refine ⟨rq', row'.map V.int, i, rfl, rfl, e8B _ _ q2', by rw [List.length_map, rl']; omega, ?_⟩
      obtain ⟨gC, hdC⟩ := g9 HB e8B
      exact b_nil ⟨_, _, rfl, gC, t9, hdC⟩
    · rintro σ' H4 ⟨oj, T, rfl, g4, t4, hd4⟩
      exact b_nil ⟨_, _, T, rfl, g4, t4, hd4⟩
  · rintro σ' H3 ⟨oi, oj, T, rfl, g3, t3, hd3⟩
    exact b_ret ((show Ev X _ _ H3 (.ref p) from by walk_at "ev").go fun H4 e4 => q T _ H4 (g3.ext.trans e4) t3.1 t3.2 (g3.mono e4).rep)
end
end RC
/-! _law_spoilt -/
namespace RC
open PySem PySem.Spec PyProof.Rows L2
/-- the new rows at p, the new row at q -/
structure S2 (H H' : Hp) (p q : Addr) (c : Int) (l : Nat) : Prop where
  ne : p ≠ q
  ext : Ex H (hid p (hid q H'))
  pl : ∃ xs, H' p = some (.lst xs) ∧ xs.length ≤ l ∧ ∀ x ∈ xs, x = .ref q ∨ ∃ d, RowOk c l d ∧ Rep (hid p (hid q H')) x d
  ql : ∃ ys, H' q = some (.lst ys) ∧ ys.length ≤ l ∧ ∀ y ∈ ys, ∃ e, okE c e ∧ Rep (hid p (hid q H')) y e
section
variable {H H1 H2 : Hp} {p q : Addr} {c c' : Int} {l l' : Nat}
theorem hid2_ex {H : Hp} : Ex (hid p (hid q H)) H := hid_ex.trans hid_ex
theorem hid2_mono {H H' : Hp} (e : Ex H H') : Ex (hid p (hid q H)) (hid p (hid q H')) := hid_mono (hid_mono e)
theorem hid2_updP {o : HO} (ne : p ≠ q) : hid p (hid q (upd H p o)) = hid p (hid q H) := by
  funext a
  by_cases h : a = p
  · rw [h, hid_same, hid_same]
  · rw [hid_ne h, hid_ne h]
    by_cases h2 : a = q
    · rw [h2, hid_same, hid_same]
    · rw [hid_ne h2, hid_ne h2, upd_ne h]
theorem hid2_updQ {o : HO} : hid p (hid q (upd H q o)) = hid p (hid q H) := by rw [hid_upd]
theorem S2.ex (s : S2 H H1 p q c l) : Ex H H1 := s.ext.trans hid2_ex
theorem S2.mono (s : S2 H H1 p q c l) (e : Ex H1 H2) : S2 H H2 p q c l := by
  obtain ⟨xs, h1, h2, h3⟩ := s.pl
  obtain ⟨ys, k1, k2, k3⟩ := s.ql
  refine ⟨s.ne, s.ext.trans (hid2_mono e), ⟨xs, e _ _ h1, h2, fun x hx => ?_⟩, ⟨ys, e _ _ k1, k2, fun y hy => ?_⟩⟩
  · rcases h3 x hx with h | ⟨d, hd, r⟩
    · exact .inl h
    · exact .inr ⟨d, hd, r.mono (hid2_mono e)⟩
  · obtain ⟨e', he, r⟩ := k3 y hy
    exact ⟨e', he, r.mono (hid2_mono e)⟩
theorem S2.le (s : S2 H H1 p q c l) (hc : c ≤ c') (hl : l ≤ l') : S2 H H1 p q c' l' := by
  obtain ⟨xs, h1, h2, h3⟩ := s.pl
  obtain ⟨ys, k1, k2, k3⟩ := s.ql
  refine ⟨s.ne, s.ext, ⟨xs, h1, Nat.le_trans h2 hl, fun x hx => ?_⟩, ⟨ys, k1, Nat.le_trans k2 hl, fun y hy => ?_⟩⟩
  · rcases h3 x hx with h | ⟨d, hd, r⟩
    · exact .inl h
    · exact .inr ⟨d, hd.le hc hl, r⟩
  · obtain ⟨e', he, r⟩ := k3 y hy
    exact ⟨e', he.le hc, r⟩
theorem S2.setP (s : S2 H H1 p q c l) {xs : List V} {n : Nat} {v : V} (h : H1 p = some (.lst xs)) (hv : v = .ref q ∨ ∃ d, RowOk c l d ∧ Rep (hid p (hid q H1)) v d) : S2 H (upd H1 p (.lst (xs.set n v))) p q c l := by
  obtain ⟨xs', h1, h2, h3⟩ := s.pl
  rw [h] at h1
  cases h1
  obtain ⟨ys, k1, k2, k3⟩ := s.ql
  have e : hid p (hid q (upd H1 p (.lst (xs.set n v)))) = hid p (hid q H1) := hid2_updP s.ne
  refine ⟨s.ne, by rw [e]; exact s.ext, ⟨_, upd_same, by rw [List.length_set]; exact h2, fun x hx => ?_⟩, ⟨ys, by rw [upd_ne (Ne.symm s.ne)]; exact k1, k2, fun y hy => by rw [e]; exact k3 y hy⟩⟩
  rw [e]
  rcases List.mem_or_eq_of_mem_set hx with h4 | rfl
  · exact h3 x h4
  · exact hv
theorem S2.setQ (s : S2 H H1 p q c l) {ys : List V} {n : Nat} {v : V} (h : H1 q = some (.lst ys)) (hv : ∃ e, okE c e ∧ Rep (hid p (hid q H1)) v e) : S2 H (upd H1 q (.lst (ys.set n v))) p q c l := by
  obtain ⟨ys', k1, k2, k3⟩ := s.ql
  rw [h] at k1
  cases k1
  obtain ⟨xs, h1, h2, h3⟩ := s.pl
  have e : hid p (hid q (upd H1 q (.lst (ys.set n v)))) = hid p (hid q H1) := hid2_updQ
  refine ⟨s.ne, by rw [e]; exact s.ext, ⟨xs, by rw [upd_ne s.ne]; exact h1, h2, fun x hx => by rw [e]; exact h3 x hx⟩, ⟨_, upd_same, by rw [List.length_set]; exact k2, fun y hy => ?_⟩⟩
  rw [e]
  rcases List.mem_or_eq_of_mem_set hy with h4 | rfl
  · exact k3 y h4
  · exact hv
theorem repL_some {G : Hp} {R : D → Prop} {xs : List V} (h : ∀ x ∈ xs, ∃ d, R d ∧ Rep G x d) : ∃ ds, RepL G xs ds ∧ ∀ d ∈ ds, R d := by
  induction xs with
  | nil => exact ⟨[], .nil, fun d h => nomatch h⟩
  | cons x xs ih =>
    obtain ⟨d, hd, r⟩ := h x List.mem_cons_self
    obtain ⟨ds, rs, hds⟩ := ih fun y hy => h y (List.mem_cons_of_mem _ hy)
    refine ⟨d :: ds, .cons r rs, fun e he => ?_⟩
    rcases List.mem_cons.mp he with rfl | he
    · exact hd
    · exact hds e he
/-- the row at q -/
theorem S2.rowQ (s : S2 H H1 p q c l) : ∃ es, Rep H1 (.ref q) (.lst es) ∧ RowOk c l (.lst es) := by
  obtain ⟨ys, k1, k2, k3⟩ := s.ql
  obtain ⟨es, rs, hes⟩ := repL_some k3
  exact ⟨es, .lst k1 (rs.mono hid2_ex), rfl, fun es' he => by cases he; exact ⟨by rw [← rs.len]; exact k2, hes⟩⟩
theorem S2.fin (s : S2 H H1 p q c l) : ∃ rs, Grid c l rs ∧ Rep H1 (.ref p) (.lst rs) := by
  obtain ⟨xs, h1, h2, h3⟩ := s.pl
  obtain ⟨es, rq, hq⟩ := s.rowQ
  obtain ⟨ds, rs, hds⟩ := repL_some (G := H1) (R := RowOk c l) (xs := xs) fun x hx => by
    rcases h3 x hx with rfl | ⟨d, hd, r⟩
    · exact ⟨_, hq, rq⟩
    · exact ⟨d, hd, r.mono hid2_ex⟩
  exact ⟨ds, ⟨by rw [← rs.len]; exact h2, hds⟩, .lst h1 rs⟩
/-- an item of the new rows -/
theorem S2.item (s : S2 H H1 p q c l) {xs : List V} (h : H1 p = some (.lst xs)) {n : Nat} (hn : n < xs.length) : ∃ d, RowOk c l d ∧ Rep H1 xs[n] d := by
  obtain ⟨xs', h1, h2, h3⟩ := s.pl
  rw [h] at h1
  cases h1
  rcases h3 xs[n] (List.getElem_mem hn) with e | ⟨d, hd, r⟩
  · obtain ⟨es, rq, hq⟩ := s.rowQ
    exact ⟨_, hq, e ▸ rq⟩
  · exact ⟨d, hd, r.mono hid2_ex⟩
end
/-- data made anew stand beside p and q -/
theorem rep_beside {Ha Hb : Hp} {p q : Addr} {v : V} {d : D} (hp : ∃ o, Ha p = some o) (hq : ∃ o, Ha q = some o) (r : Rep (nw Ha Hb) v d) : Rep (hid p (hid q Hb)) v d := r.mono fun a o h => by
  obtain ⟨op, hp⟩ := hp
  obtain ⟨oq, hq⟩ := hq
  have n : Ha a = none := by
    cases z : Ha a with
    | none => rfl
    | some u => rw [nw_old z] at h; cases h
  rw [nw_at n] at h
  have ap : a ≠ p := fun z => by rw [z, hp] at n; cases n
  have aq : a ≠ q := fun z => by rw [z, hq] at n; cases n
  rw [hid_ne ap, hid_ne aq]
  exact h
end RC
/-! _law_spoilt, walked -/
namespace RC
open PySem PySem.Spec PyProof.Rows L2
section
variable {X : Cx} {S : Scope} {N M Ls G : List Str} {σ : St} {H H1 : Hp} {a b e : Expr} {es : List Expr} {pos pos2 pos3 : Pos} {v : V} {P R : D → Prop} {d : D} {n : Nat}
theorem Es.is (h : Es X e σ H P) (q : ∀ d, P d → R d) : Es X e σ H R := ⟨fun H1 e1 Q k => h.run H1 e1 Q fun v d H2 e2 p r => k v d H2 e2 (q d p) r⟩
/-- [..] of data -/
theorem es_lstE (h : As X es σ H P n) (hn : n ≤ 1000) : Es X (.List es pos) σ H (fun d => ∃ ds, d = .lst ds ∧ ds.length = n ∧ ∀ e ∈ ds, P e) :=
  ⟨fun H1 e1 Q k => we_of (pe_lst pa_wa) (h.run H1 e1 _ fun vs ds H2 e2 rs ps hl => by
    have hvl := rs.len
    exact ⟨szOf (by omega), fun l hl' => k _ (.lst ds) _ (e2.trans (Ex.new hl')) ⟨ds, rfl, hl, ps⟩ (.lst (nw_new (e2.fresh hl') upd_same) (rs.mono (nw_mono (Ex.new hl'))))⟩)⟩
/-- a list of ints that is made on the way -/
theorem es_ints {ns : List Int} (h : Eo X e σ H (.lst (ns.map V.int))) (p : P (.lst (ns.map D.int))) : Es X e σ H P := es_er (er_eol h) p
end
section
variable {H H1 H2 : Hp} {p q : Addr} {c : Int} {l : Nat}
theorem S2.listAt (s : S2 H H1 p q c l) {xs : List V} (h : H1 p = some (.lst xs)) {n : Nat} (hn : n < xs.length) :
    ∃ d, RowOk c l d ∧ Rep H1 xs[n] d ∧ (d.isList = true → ∃ a zs, xs[n] = .ref a ∧ H1 a = some (.lst zs) ∧ d.seq.map List.length = some zs.length ∧ zs.length ≤ l ∧ ∀ z ∈ zs, ∃ e, okE c e ∧ Rep (hid p (hid q H1)) z e) := by
  obtain ⟨xs', h1, h2, h3⟩ := s.pl
  rw [h] at h1
  cases h1
  rcases h3 xs[n] (List.getElem_mem hn) with e | ⟨d, hd, r⟩
  · obtain ⟨es, rq, hq⟩ := s.rowQ
    obtain ⟨ys, k1, k2, k3⟩ := s.ql
    refine ⟨_, hq, e ▸ rq, fun _ => ⟨q, ys, e, k1, ?_, k2, k3⟩⟩
    obtain ⟨a, xs2, ea, hx, rx⟩ := rq.lst_inv
    cases ea
    rw [k1] at hx
    cases hx
    show some es.length = _
    rw [rx.len]
  · refine ⟨d, hd, r.mono hid2_ex, fun hl => ?_⟩
    cases d <;> first | cases hl | skip
    rename_i es
    obtain ⟨a, zs, ea, hz, rz⟩ := r.lst_inv
    obtain ⟨k1, k2⟩ := hd.2 es rfl
    refine ⟨a, zs, ea, hid2_ex _ _ hz, by show some es.length = _; rw [rz.len], by rw [rz.len]; exact k1, fun z hz' => ?_⟩
    obtain ⟨i, hi, e⟩ := List.getElem_of_mem hz'
    obtain ⟨d, hd', r'⟩ := rz.get (i := i) (x := z) (by rw [List.getElem?_eq_getElem hi, e])
    exact ⟨d, k2 d (List.mem_of_getElem? hd'), r'⟩
end
section
variable {P : Program} {w : World} {K : PySem.W.Frag} {mg : Str → Option Value} {base : Heap}
def spSpoilt : Sp := fun vs H Q _ => ∃ (rv : V) (rs : List D) (kind : Int) (i j : Nat) (b c : Int) (l : Nat), vs = [rv, .int kind, .int i, .int j, .int b] ∧ Rep H rv (.lst rs) ∧ Grid c l rs ∧ l ≤ 900 ∧ 0 ≤ c ∧ c < 2 ^ 200 ∧ 0 ≤ b ∧ b < 1073741824 ∧
  ∀ rs' v H', Ex H H' → Grid (c + 8589934592) (l + 2) rs' → Rep H' v (.lst rs') → Q v H'
def RowsL (l : Nat) (d : D) : Prop := ∃ es, d = .lst es ∧ es.length ≤ 2 ∧ ∀ e ∈ es, RowOk 1 l e
theorem rowOk_ints {l : Nat} {ns : List Int} (h : ns.length ≤ l) (hb : ∀ i ∈ ns, -1 ≤ i ∧ i ≤ 1) : RowOk 1 l (.lst (ns.map D.int)) := ⟨rfl, fun es he => by
  cases he
  refine ⟨by rw [List.length_map]; exact h, fun e he => ?_⟩
  obtain ⟨i, hi, rfl⟩ := List.mem_map.mp he
  exact okE_int (hb i hi)⟩
theorem rowOk_flat {l : Nat} {c : Int} {d : D} (h : d.seq = none) : RowOk c l d := ⟨(by cases d <;> first | rfl | cases h), fun es he => (by rw [h] at he; cases he)⟩
theorem log_small {v c : Int} (h : -c ≤ v ∧ v ≤ c) (hc : c < 2 ^ 200) : v.natAbs.log2 < 1920 := by
  by_cases h0 : v.natAbs = 0
  · rw [h0]; decide
  · rw [Nat.log2_lt h0]
    have : v.natAbs < 2 ^ 200 := by omega
    exact Nat.lt_of_lt_of_le this (Nat.pow_le_pow_right (by decide) (by decide))
theorem df_spoilt (h : Has K mg "_law_spoilt" 47) (B : Bi mg) (dW : Df P w K mg base CX0 1 "_law_whole" spWhole) (dS : Df P w K mg base CX0 1 "_law_strange" spStrange) (dN : Df P w K mg base CX0 1 "_law_no_row" spNoRow) (dB : Df P w K mg base CX0 1 "_law_behind" spBehind) (dC : Df P w K mg base CX0 1 "_law_changed" spChanged) :
    Df P w K mg base CX0 2 "_law_spoilt" spSpoilt := by
  refine df_ok h B sc47 cb47 (fun _ _ _ _ _ _ us hl => match us, hl with | [_, _, _, _, _], _ => rfl) (fun vs H Q E ⟨_, _, _, _, _, _, _, _, e, _⟩ => by rw [e]; rfl) ?_
  rintro X rfl rfl rfl rfl rfl Z vs H Q E ⟨rv, rs, kind, i, j, b, c, l, rfl, rr, hg, hl, hc0, hc1, hb0, hb1, q⟩
  have hC := Z.C
  obtain ⟨rp, xs, rfl, hrp, rx⟩ := rr.lst_inv
  have hxl : xs.length ≤ l := by rw [rx.len]; exact hg.1
  have gUp : ∀ {rs' : List D}, Grid c l rs' → Grid (c + 8589934592) (l + 2) rs' := fun g => g.le (by omega) (by omega)
  show WB X _ _ [some _, some _, some _, some _, some _, none, none, none, none, none] _
  refine b_setC (own := [("_law_row", 5)]) xs some hC Z.calm (by decide +kernel) (sr_list (Hb := H) (by walk_at "ev") (sqL hrp) Ex.rfl') gN_mon (fun Y b => pgN (b.ctx (M' := M47_0) (L' := L47_0) (G' := G47_0) hC (by decide +kernel)) (by walk_at "mem")) rfl (by omega) (by decide +kernel) (by walk_at "set") (by walk_at "wipe") ?_ ?_
  · intro k x y Hc h1 h2 ex
    rw [h1] at h2
    cases h2
    refine g1_of (by walk_at "set") ⟨rfl, fun Y b => ?_⟩
    have hY := b.ctx (M' := M47_0) (L' := L47_0) (G' := G47_0) hC (by decide +kernel)
    exact st_all (by walk_at "ev")
  intro p H1 hpn e1 hp1
  rw [List.filterMap_some] at hp1
  refine b_when (t := decide (kind = 0)) (tv_c (cv_eqI (by walk_at "ev") ev_int)) ?_ ?_
  · intro _ H2 e2
    refine b_ret (we_of (pe_slice sl_list pe_we po_none (po_some pe_we)) ?_)
    refine (show Ev X _ _ H2 (.ref p) from by walk_at "ev").go fun H3 e3 => ?_
    refine (show Ev X _ _ H3 (.int (i : Int)) from by walk_at "ev").go fun H4 e4 => ⟨_, rfl, p, xs, rfl, sqL ((e3.trans e4) _ _ (e2 _ _ hp1)), fun r hr => ?_⟩
    have e04 := e1.trans (e2.trans (e3.trans e4))
    refine q ((rs.drop (HT.sIx xs.length 0 none)).take (HT.sIx xs.length xs.length (some (i : Int)) - HT.sIx xs.length 0 none)) _ _ (e04.trans (Ex.new hr)) (gUp ⟨?_, fun d hd => hg.2 d (List.mem_of_mem_drop (List.mem_of_mem_take hd))⟩) (.lst upd_same (((rx.drop _).take _).mono (e04.trans (Ex.new hr))))
    rw [List.length_take, List.length_drop]
    have := hg.1
    omega
  intro _ H2 e2
  refine b_when (t := decide (kind = 1)) (tv_c (cv_eqI (by walk_at "ev") ev_int)) ?_ ?_
  · intro _ H3 e3
    obtain ⟨k, hk, hk4⟩ := mod6 (b := b) 4 (by decide)
    refine b_ret (we_of (pe_op op_cat pe_we pe_we) ?_)
    refine (show Ev X _ _ H3 (.ref p) from by walk_at "ev").go fun H4 e4 => ?_
    have e04 := e1.trans (e2.trans (e3.trans e4))
    refine (es_pick (P := RowsL (l + 2)) (k := k) (n := 4) (as_cons ?_ (as_cons ?_ (as_cons ?_ (as_cons ?_ as_nil)))) ((ev_mod (ev_intI hC Z.B (by walk_at "mem") (by walk_at "ev")) ev_int (by decide)).is (by rw [← hk]; rfl)) hk4 (by decide)).go ?_
    · refine (es_lstE (P := RowOk 1 (l + 2)) (as_cons (es_ints (ns := (List.range rs.length).map fun _ => 0) ?_ (rowOk_ints (by simp; have := hg.1; omega) (fun z hz => by obtain ⟨_, _, rfl⟩ := List.mem_map.mp hz; exact ⟨by decide, by decide⟩))) as_nil) (by decide)).is fun d ⟨ds, h1, h2, h3⟩ => ⟨ds, h1, by omega, h3⟩
      rw [List.map_map, ← filterMap_some]
      refine eo_comp (own := [("_law_k", 7)]) _ _ hC Z.calm (by decide +kernel) (sr_rng1 hC (by walk_at "mem") Z.B.range (eh_len hC Z.B (by walk_at "mem") (eh_ev (by walk_at "ev") (rr.mono e04)) rfl) (by have := hg.1; omega)) gN_mon (fun Y b => pgN (b.ctx (M' := M47_1) (L' := L47_1) (G' := G47_1) hC (by decide +kernel)) (by walk_at "mem")) (by rw [List.length_range, rgI_len]) (by rw [rgI_len]; have := hg.1; omega) (by walk_at "wipe") ?_
      intro k x j Hc h1 h2 ex
      obtain ⟨_, rfl⟩ := rgI_get.mp h1
      exact g1_of (by walk_at "set") ⟨rfl, fun Y b => st_all (Ev.is (v := .int 0) ev_int rfl)⟩
    · exact (es_lstE (P := RowOk 1 (l + 2)) (as_cons ((es_lstE (P := fun _ => False) as_nil (by decide)).is fun d ⟨ds, h1, h2, h3⟩ => by
        have : ds = [] := List.eq_nil_of_length_eq_zero h2
        subst this
        rw [h1]
        exact ⟨rfl, fun es he => by cases he; exact ⟨Nat.zero_le _, fun e he => nomatch he⟩⟩) as_nil) (by decide)).is fun d ⟨ds, h1, h2, h3⟩ => ⟨ds, h1, by omega, h3⟩
    · exact (es_lstE (P := RowOk 1 (l + 2)) (as_cons (es_ev ev_non .non (rowOk_flat rfl)) as_nil) (by decide)).is fun d ⟨ds, h1, h2, h3⟩ => ⟨ds, h1, by omega, h3⟩
    · have zero : ∀ {p1 p2 : Pos} {n1 : Nat} {σ : St}, Es X (.List [.Constant (.int 0) n1 p1] p2) σ H4 (RowOk 1 (l + 2)) := es_ints (ns := [0]) (eo_lst (av_cons ev_int av_nil)) (rowOk_ints (by simp) (fun z hz => by rw [List.mem_singleton.mp hz]; exact ⟨by decide, by decide⟩))
      exact (es_lstE (P := RowOk 1 (l + 2)) (as_cons zero (as_cons zero as_nil)) (by decide)).is fun d ⟨ds, h1, h2, h3⟩ => ⟨ds, h1, by omega, h3⟩
    · intro v d H5 e5 ⟨es, hd, h1, h2⟩ r
      subst hd
      obtain ⟨a, zs, rfl, hz, rz⟩ := (r.mono nw_ex).lst_inv
      have hp5 := e5 _ _ (e4 _ _ (e3 _ _ (e2 _ _ hp1)))
      have hzl := rz.len
      refine ⟨p, a, xs, zs, rfl, rfl, hp5, hz, Nat.le_of_lt (szLt (by omega)), fun r hr => ?_⟩
      have e6 := Ex.new (o := .lst (xs ++ zs)) hr
      refine q (rs ++ es) _ _ ((e04.trans e5).trans e6) ⟨?_, fun d hd => ?_⟩ (.lst upd_same ((rx.mono ((e04.trans e5).trans e6)).app (rz.mono e6)))
      · rw [List.length_append]
        have := hg.1
        omega
      · rcases List.mem_append.mp hd with hd | hd
        · exact (hg.2 d hd).le (by omega) (by omega)
        · exact (h2 d hd).le (by omega) (Nat.le_refl _)
  intro _ H3 e3
  have e03 := e1.trans (e2.trans e3)
  have hp3 := e3 _ _ (e2 _ _ hp1)
  have retNew : ∀ {H' : Hp} {σ : St} {p1 p2 : Pos} {rest : List Stmt} {En : Ends}, En.rt = Q → Ex H3 H' → Ev X (.Name "_law_new" p1) σ H' (.ref p) → WB X (.Return (some (.Name "_law_new" p1)) p2 :: rest) En σ H' := fun {H' σ p1 p2 rest En} hr e he => b_ret (he.go fun H4 e4 => by
    rw [hr]
    exact q rs _ H4 (e03.trans (e.trans e4)) (gUp hg) (.lst ((e.trans e4) _ _ hp3) (rx.mono (e03.trans (e.trans e4)))))
  by_cases hi : rs.length ≤ i
  · refine b_yes (tv_w (tw_or (t := true) (u := false) ((tv_c (cv_ge (by walk_at "ev") (ev_len hC Z.B (by walk_at "mem") (by walk_at "ev") (.inl (sqL hp3))))).is (by rw [rx.len]; simp; omega)) fun h => Bool.noConfusion h)) fun H4 e4 => ?_
    refine retNew rfl e4 ?_
    exact (by walk_at "ev")
  have hix : i < xs.length := by rw [rx.len]; omega
  have hxi : xs[i]? = some xs[i] := List.getElem?_eq_getElem hix
  obtain ⟨di, hdi, ri⟩ := rx.get hxi
  have hrow := hg.2 di (List.mem_of_getElem? hdi)
  have newI : ∀ {H4 : Hp} {e1 e2 : Expr} {σ : St} {p1 : Pos}, Ex H3 H4 → Ev X e1 σ H4 (.ref p) → Ev X e2 σ H4 (.int (i : Int)) → PlainIx e2 → Ev X (.Subscript e1 e2 p1) σ H4 xs[i] := fun e h1 h2 hp => ev_ixL h1 h2 (sqL (e _ _ hp3)) (L2.atI_nat hxi) hp
  refine b_when (t := !di.isList) (tv_w (tw_or (t := false) (u := !di.isList) ((tv_c (cv_ge (by walk_at "ev") (ev_len hC Z.B (by walk_at "mem") (by walk_at "ev") (.inl (sqL hp3))))).is (by rw [rx.len]; simp; omega)) fun _ => tw_or1 (tv_not (tv_val (eh_isList hC Z.B (by walk_at "mem") (by walk_at "mem") (eh_ev (newI Ex.rfl' (by walk_at "ev") (by walk_at "ev") (fun _ _ => rfl)) (ri.mono e03))))))) ?_ ?_
  · intro _ H4 e4
    refine retNew rfl e4 ?_
    exact (by walk_at "ev")
  intro hil H4 e4
  obtain ⟨es, rfl⟩ : ∃ es, di = .lst es := by cases di <;> first | exact ⟨_, rfl⟩ | cases hil
  obtain ⟨a0, ys, ha0, hy, ry⟩ := ri.lst_inv
  obtain ⟨hesl, heso⟩ := hrow.2 es rfl
  have hyl : ys.length ≤ l := by rw [ry.len]; exact hesl
  refine b_set hC (by walk_at "mem") (by walk_at "set") ((eo_listOf hC Z.B (by walk_at "mem") (ha0 ▸ newI e4 (by walk_at "ev") (by walk_at "ev") (fun _ _ => rfl)) (.inl (sqL ((e03.trans e4) _ _ hy)))).go fun q0 H5 hq5 e5 hq0 => ?_)
  have hp5 := e5 _ _ (e4 _ _ hp3)
  have ne : p ≠ q0 := fun z => by rw [← z, e4 _ _ hp3] at hq5; cases hq5
  have e05 := e03.trans (e4.trans e5)
  have q0H : H q0 = none := (e03.trans e4).fresh hq5
  have eHid : Ex H (hid p (hid q0 H5)) := fun a o h => by
    rw [hid_ne (ne_of_none h hpn), hid_ne (ne_of_none h q0H)]
    exact e05 a o h
  refine b_setIx ((show Ev X _ _ H5 (.ref q0) from by walk_at "ev").go fun H6 e6 => (show Ev X _ _ H6 (.ref p) from by walk_at "ev").go fun H7 e7 => (show Ev X _ _ H7 (.int (i : Int)) from by walk_at "ev").go fun H8 e8 => ?_)
  have e58 := (e6.trans e7).trans e8
  refine ⟨p, xs, i, rfl, rfl, e58 _ _ hp5, hix, ?_⟩
  have s9 : S2 H (upd H8 p (.lst (xs.set i (.ref q0)))) p q0 c l := by
    have e : hid p (hid q0 (upd H8 p (.lst (xs.set i (.ref q0))))) = hid p (hid q0 H8) := hid2_updP ne
    have eB := eHid.trans (hid2_mono (p := p) (q := q0) e58)
    refine ⟨ne, by rw [e]; exact eB, ⟨_, upd_same, by rw [List.length_set]; exact hxl, fun x hx => ?_⟩, ⟨ys, by rw [upd_ne (Ne.symm ne)]; exact e58 _ _ hq0, hyl, fun y hy' => ?_⟩⟩
    · rcases List.mem_or_eq_of_mem_set hx with h4 | rfl
      · obtain ⟨k, hk, ek⟩ := List.getElem_of_mem h4
        obtain ⟨d, hd, r⟩ := rx.get (i := k) (x := x) (by rw [List.getElem?_eq_getElem hk, ek])
        rw [e]
        exact .inr ⟨d, hg.2 d (List.mem_of_getElem? hd), r.mono eB⟩
      · exact .inl rfl
    · obtain ⟨k, hk, ek⟩ := List.getElem_of_mem hy'
      obtain ⟨d, hd, r⟩ := ry.get (i := k) (x := y) (by rw [List.getElem?_eq_getElem hk, ek])
      rw [e]
      exact ⟨d, heso d (List.mem_of_getElem? hd), r.mono eB⟩
  have hq9 : upd H8 p (.lst (xs.set i (.ref q0))) q0 = some (.lst ys) := by rw [upd_ne (Ne.symm ne)]; exact e58 _ _ hq0
  have hxs9' : ∀ xs2, upd H8 p (.lst (xs.set i (.ref q0))) p = some (.lst xs2) → ∃ xs2, upd H8 p (.lst (xs.set i (.ref q0))) p = some (.lst xs2) ∧ xs2.length = xs.length := fun xs2 h1 => ⟨_, upd_same, by rw [List.length_set]⟩
  generalize upd H8 p (.lst (xs.set i (.ref q0))) = H9 at s9 hq9 hxs9' ⊢
  have hc1' : c ≤ c + 8589934592 := by omega
  have s9 := s9.le (c' := c + 8589934592) (l' := l + 2) hc1' (by omega)
  have hxs9 : ∃ xs2, H9 p = some (.lst xs2) ∧ xs2.length = xs.length := by
    obtain ⟨xs2, h1, _⟩ := s9.pl
    exact hxs9' xs2 h1
  generalize hcc : c + 8589934592 = c1 at s9 q gUp
  have e9 : ∀ {σ : St} {H : Hp} {p1 p2 p3 : Pos} {n1 n2 : Nat}, Ev X (.BinOp (.Constant (.int 10) n1 p1) .Pow (.Constant (.int 9) n2 p2) p3) σ H (.int (10 ^ 9)) := (ev_pow ev_int ev_int ⟨by decide, by decide, by decide⟩).is rfl
  have fin : ∀ {H' : Hp} {σ : St} {p1 p2 : Pos} {rest : List Stmt} {En : Ends}, En.rt = Q → S2 H H' p q0 c1 (l + 2) → Ev X (.Name "_law_new" p1) σ H' (.ref p) → WB X (.Return (some (.Name "_law_new" p1)) p2 :: rest) En σ H' := fun {H' σ p1 p2 rest En} hr s he => b_ret (he.go fun H4 e4 => by
    rw [hr]
    obtain ⟨rs', g, r⟩ := (s.mono e4).fin
    exact q rs' _ H4 (s.mono e4).ex g r)
  -- new[i] = e
  have setNew : ∀ {H6 : Hp} {σ : St} {e : Expr} {nm2 : Str} {p1 p2 p3 p4 : Pos} {rest : List Stmt} {En : Ends} (n : Nat), n < xs.length → S2 H H6 p q0 c1 (l + 2) → (∃ xs2, H6 p = some (.lst xs2) ∧ xs2.length = xs.length) → WE X e σ H6 (fun v H7 => Ex H6 H7 ∧ ∃ d, RowOk c1 (l + 2) d ∧ Rep (hid p (hid q0 H7)) v d) →
      (∀ H7, Ev X (.Name "_law_new" p1) σ H7 (.ref p)) → (∀ H7, Ev X (.Name nm2 p2) σ H7 (.int (n : Int))) → (∀ H7 xs2 v, Ex H6 H7 → H7 p = some (.lst xs2) → xs2.length = xs.length → S2 H (upd H7 p (.lst (xs2.set n v))) p q0 c1 (l + 2) → WB X rest En σ (upd H7 p (.lst (xs2.set n v)))) → swapsWithSole [.Subscript (.Name "_law_new" p1) (.Name nm2 p2) p3] e p4.line X.env = pure false → swappedStores [.Subscript (.Name "_law_new" p1) (.Name nm2 p2) p3] e X.env = pure none →
      WB X (.Assign [.Subscript (.Name "_law_new" p1) (.Name nm2 p2) p3] e p4 :: rest) En σ H6 := fun {H6 σ e nm2 p1 p2 p3 p4 rest En} n hn s hxs he hp hq k hsw hsw2 => by
    obtain ⟨xs2, hx2, hl2⟩ := hxs
    refine b_setIx (WE.mono he fun v H7 ⟨e7, d, hd, r⟩ => (hp H7).go fun H8 e8 => (hq H8).go fun H9' e9' => ?_) (by intro _; rfl) hsw hsw2 rfl
    have e79 := e8.trans e9'
    refine ⟨p, xs2, n, rfl, rfl, (e7.trans e79) _ _ hx2, by omega, k H9' xs2 v (e7.trans e79) ((e7.trans e79) _ _ hx2) hl2 ?_⟩
    exact (s.mono (e7.trans e79)).setP ((e7.trans e79) _ _ hx2) (.inr ⟨d, hd, r.mono (hid2_mono e79)⟩)
  have J1 : ∀ {H7 : Hp} {xs2 : List V} {n : Nat} {v : V}, H7 q0 = some (.lst ys) → upd H7 p (.lst (xs2.set n v)) q0 = some (.lst ys) := fun h => by rw [upd_ne (Ne.symm ne)]; exact h
  have setN1 : ∀ {H7 : Hp} {xs2 : List V} {n : Nat} {v : V}, xs2.length = xs.length → ∃ xs3, upd H7 p (.lst (xs2.set n v)) p = some (.lst xs3) ∧ xs3.length = xs.length := fun h => ⟨_, upd_same, by rw [List.length_set]; exact h⟩
  refine b_whenJ (P := fun _ => True) (fun σ' H' => σ' = [some (.ref rp), some (.int kind), some (.int (i : Int)), some (.int (j : Int)), some (.int b), some (.ref q0), some (.ref p), none, none, none] ∧ S2 H H' p q0 c1 (l + 2) ∧ H' q0 = some (.lst ys) ∧ ∃ xs2, H' p = some (.lst xs2) ∧ xs2.length = xs.length) (tz_tv (tv_c (cv_eqI (by walk_at "ev") ev_int)) trivial) ?_ ?_ ?_
  · intro _ H10 e10
    refine setNew i hix (s9.mono e10) (by obtain ⟨xs2, h1, h2⟩ := hxs9; exact ⟨xs2, e10 _ _ h1, h2⟩) ?_ ?_ ?_ ?_ rfl rfl
    · refine we_of (pe_slice sl_list pe_we po_none (po_some pe_we)) ?_
      refine (show Ev X _ _ H10 (.ref q0) from by walk_at "ev").go fun H11 e11 => ?_
      refine (show Ev X _ _ H11 (.int (j : Int)) from by walk_at "ev").go fun H12 e12 => ⟨_, rfl, q0, ys, rfl, sqL ((e11.trans e12) _ _ (e10 _ _ hq9)), fun r hr => ?_⟩
      have eN := Ex.new (o := .lst (cutV ys none (some (j : Int)))) hr
      refine ⟨(e11.trans e12).trans eN, .lst ((es.drop (HT.sIx ys.length 0 none)).take (HT.sIx ys.length ys.length (some (j : Int)) - HT.sIx ys.length 0 none)), ⟨rfl, fun es' he => ?_⟩, .lst (xs := cutV ys none (some (j : Int))) ?_ ?_⟩
      · cases he
        refine ⟨by rw [List.length_take, List.length_drop]; omega, fun e he => (heso e (List.mem_of_mem_drop (List.mem_of_mem_take he))).le (by omega)⟩
      · have hrp' : r ≠ p := fun z => by
          obtain ⟨xs2, h1, _⟩ := hxs9
          rw [z, (e10.trans (e11.trans e12)) _ _ h1] at hr; cases hr
        have hrq' : r ≠ q0 := fun z => by rw [z, (e10.trans (e11.trans e12)) _ _ hq9] at hr; cases hr
        rw [hid_ne hrp', hid_ne hrq']
        exact upd_same
      · exact ((ry.drop _).take _).mono ((s9.mono (e10.trans ((e11.trans e12).trans eN))).ext)
    · exact fun H7 => by walk_at "ev"
    · exact fun H7 => by walk_at "ev"
    · exact fun H7 xs2 v e7 h1 h2 s => b_nil ⟨rfl, s, J1 (e7 _ _ (e10 _ _ hq9)), setN1 h2⟩
  · exact fun _ H10 e10 => ⟨rfl, s9.mono e10, e10 _ _ hq9, by obtain ⟨xs2, h1, h2⟩ := hxs9; exact ⟨xs2, e10 _ _ h1, h2⟩⟩
  rintro σ' H10 ⟨rfl, s10, hq10, hx10⟩
  refine b_whenJ (P := fun _ => True) (fun σ' H' => σ' = [some (.ref rp), some (.int kind), some (.int (i : Int)), some (.int (j : Int)), some (.int b), some (.ref q0), some (.ref p), none, none, none] ∧ S2 H H' p q0 c1 (l + 2) ∧ H' q0 = some (.lst ys) ∧ ∃ xs2, H' p = some (.lst xs2) ∧ xs2.length = xs.length) (tz_tv (tv_c (cv_eqI (by walk_at "ev") ev_int)) trivial) ?_ ?_ ?_
  · intro _ H11 e11
    have s11 := s10.mono e11
    have hq11 := e11 _ _ hq10
    refine setNew i hix s11 (by obtain ⟨xs2, h1, h2⟩ := hx10; exact ⟨xs2, e11 _ _ h1, h2⟩) ?_ ?_ ?_ ?_ rfl rfl
    · refine we_of (pe_op op_cat pe_we pe_we) ((show Ev X _ _ H11 (.ref q0) from by walk_at "ev").go fun H12 e12 => ?_)
      have s12 := s11.mono e12
      refine (es_call (P := SmallL) hC (Z.cal dB) (by walk_at "mem") (av_cons (eh_len hC Z.B (by walk_at "mem") (eh_ev (by walk_at "ev") (rr.mono s12.ex)) rfl) (av_cons (by walk_at "ev") av_nil)) fun H13 e13 Q kk => ⟨rs.length, b, rfl, by have := hg.1; omega, fun v es' H14 e14 h1 h2 r => kk v _ H14 e14 ⟨es', rfl, h1, h2⟩ r⟩).go fun v d H13 e13 ⟨es', hd, h1, h2⟩ r => ?_
      subst hd
      obtain ⟨a, zs, rfl, hz, rz⟩ := (r.mono nw_ex).lst_inv
      have rz' := rep_beside (p := p) (q := q0) (hp := by obtain ⟨xs2, h1, h2⟩ := hx10; exact ⟨_, (e11.trans e12) _ _ h1⟩) (hq := ⟨_, e12 _ _ hq11⟩) r
      obtain ⟨a', zs', ea, hz', rz''⟩ := rz'.lst_inv
      cases ea
      rw [hid2_ex _ _ hz'] at hz
      cases hz
      have hzl := rz''.len
      refine ⟨q0, a, ys, zs, rfl, rfl, e13 _ _ (e12 _ _ hq11), hid2_ex _ _ hz', Nat.le_of_lt (szLt (by omega)), fun r hr => ?_⟩
      have eN := Ex.new (o := .lst (ys ++ zs)) hr
      have s13 := (s12.mono e13).mono eN
      refine ⟨(e12.trans e13).trans eN, .lst (es ++ es'), ⟨rfl, fun e he => ?_⟩, .lst (xs := ys ++ zs) ?_ ((ry.mono s13.ext).app (rz''.mono (hid2_mono eN)))⟩
      · cases he
        refine ⟨by rw [List.length_append]; omega, fun x hx => ?_⟩
        rcases List.mem_append.mp hx with hx | hx
        · exact (heso x hx).le (by omega)
        · exact (h2 x hx).le (by omega)
      · have hrp' : r ≠ p := fun z => by
          obtain ⟨xs2, h1, _⟩ := hx10
          rw [z, (e11.trans (e12.trans e13)) _ _ h1] at hr; cases hr
        have hrq' : r ≠ q0 := fun z => by rw [z, (e12.trans e13) _ _ hq11] at hr; cases hr
        rw [hid_ne hrp', hid_ne hrq']
        exact upd_same
    · exact fun H7 => by walk_at "ev"
    · exact fun H7 => by walk_at "ev"
    · exact fun H7 xs2 v e7 h1 h2 s => b_nil ⟨rfl, s, J1 (e7 _ _ hq11), setN1 h2⟩
  · exact fun _ H11 e11 => ⟨rfl, s10.mono e11, e11 _ _ hq10, by obtain ⟨xs2, h1, h2⟩ := hx10; exact ⟨xs2, e11 _ _ h1, h2⟩⟩
  rintro σ' H11 ⟨rfl, s11, hq11, hx11⟩
  refine b_whenJ (P := fun _ => True) (fun σ' H' => σ' = [some (.ref rp), some (.int kind), some (.int (i : Int)), some (.int (j : Int)), some (.int b), some (.ref q0), some (.ref p), none, none, none] ∧ S2 H H' p q0 c1 (l + 2) ∧ H' q0 = some (.lst ys) ∧ ∃ xs2, H' p = some (.lst xs2) ∧ xs2.length = xs.length) (tz_tv (tv_c (cv_eqI (by walk_at "ev") ev_int)) trivial) ?_ ?_ ?_
  · intro _ H12 e12
    have hq12 := e12 _ _ hq11
    refine setNew i hix (s11.mono e12) (by obtain ⟨xs2, h1, h2⟩ := hx11; exact ⟨xs2, e12 _ _ h1, h2⟩) ?_ ?_ ?_ ?_ rfl rfl
    · refine (es_call (P := fun d => d.seq = none) hC (Z.cal dN) (by walk_at "mem") (av_cons (ev_len hC Z.B (by walk_at "mem") (by walk_at "ev") (.inl (sqL hq12))) (av_cons (by walk_at "ev") av_nil)) fun H13 e13 Q kk => ⟨ys.length, b, rfl, by omega, kk⟩).go fun v d H13 e13 hd r => ⟨e13, d, rowOk_flat hd, rep_beside (hp := by obtain ⟨xs2, h1, h2⟩ := hx11; exact ⟨_, e12 _ _ h1⟩) (hq := ⟨_, hq12⟩) r⟩
    · exact fun H7 => by walk_at "ev"
    · exact fun H7 => by walk_at "ev"
    · exact fun H7 xs2 v e7 h1 h2 s => b_nil ⟨rfl, s, J1 (e7 _ _ hq12), setN1 h2⟩
  · exact fun _ H12 e12 => ⟨rfl, s11.mono e12, e12 _ _ hq11, by obtain ⟨xs2, h1, h2⟩ := hx11; exact ⟨xs2, e12 _ _ h1, h2⟩⟩
  rintro σ' H12 ⟨rfl, s12, hq12, _⟩
  by_cases hj : ys.length ≤ j
  · refine b_yes (tv_w (tw_or (t := true) (u := false) ((tv_c (cv_ge (by walk_at "ev") (ev_len hC Z.B (by walk_at "mem") (by walk_at "ev") (.inl (sqL hq12))))).is (by simp; omega)) fun h => Bool.noConfusion h)) fun H13 e13 => ?_
    refine fin rfl (s12.mono e13) ?_
    exact (by walk_at "ev")
  have hjl : j < ys.length := by omega
  have hyj := List.getElem?_eq_getElem hjl
  obtain ⟨e0, he0, re0⟩ := ry.get hyj
  have ok0 := heso e0 (List.mem_of_getElem? he0)
  generalize ys[j] = yj at hyj re0
  have hev : ∀ {H7 : Hp} {a1 a2 : Expr} {σ : St} {p1 : Pos}, H7 q0 = some (.lst ys) → Ev X a1 σ H7 (.ref q0) → Ev X a2 σ H7 (.int (j : Int)) → PlainIx a2 → Ev X (.Subscript a1 a2 p1) σ H7 yj := fun h h1 h2 hp => ev_ixL h1 h2 (sqL h) (L2.atI_nat hyj) hp
  refine b_when (t := !e0.whole) (tv_w (tw_or (t := false) (u := !e0.whole) ((tv_c (cv_ge (by walk_at "ev") (ev_len hC Z.B (by walk_at "mem") (by walk_at "ev") (.inl (sqL hq12))))).is (by simp; omega)) fun _ => tw_or1 (tv_not (tv_val (ev_call hC (Z.cal dW) (by walk_at "mem") (av_cons (hev hq12 (by walk_at "ev") (by walk_at "ev") (fun _ _ => rfl)) av_nil) fun H13 e13 Q k => ⟨yj, e0, rfl, re0.mono (s12.ex.trans e13), k⟩))))) ?_ ?_
  · intro _ H13 e13
    refine fin rfl (s12.mono e13) ?_
    exact (by walk_at "ev")
  intro hw H13 e13
  obtain ⟨v, rfl⟩ := D.whole_int (d := e0) (by simpa using hw)
  obtain rfl := re0.int_inv
  have hv := ok0.2 v rfl
  refine b_setV (v := .int v) hC (by walk_at "mem") (by walk_at "set") (hev (e13 _ _ hq12) (by walk_at "ev") (by walk_at "ev") (fun _ _ => rfl)) fun H14 e14 => ?_
  have s14 := (s12.mono e13).mono e14
  have hq14 : ∃ ys2, H14 q0 = some (.lst ys2) ∧ ys2.length = ys.length := ⟨ys, e14 _ _ (e13 _ _ hq12), rfl⟩
  have setRow : ∀ {H6 : Hp} {σ : St} {e : Expr} {nm2 : Str} {p1 p2 p3 p4 : Pos} {rest : List Stmt} {En : Ends} (n : Nat), n < ys.length → S2 H H6 p q0 c1 (l + 2) → (∃ ys2, H6 q0 = some (.lst ys2) ∧ ys2.length = ys.length) → WE X e σ H6 (fun v H7 => Ex H6 H7 ∧ ∃ d, okE c1 d ∧ Rep (hid p (hid q0 H7)) v d) →
      (∀ H7, Ev X (.Name "_law_row" p1) σ H7 (.ref q0)) → (∀ H7, Ev X (.Name nm2 p2) σ H7 (.int (n : Int))) → (∀ H7, S2 H H7 p q0 c1 (l + 2) → (∃ ys2, H7 q0 = some (.lst ys2) ∧ ys2.length = ys.length) → WB X rest En σ H7) → swapsWithSole [.Subscript (.Name "_law_row" p1) (.Name nm2 p2) p3] e p4.line X.env = pure false → swappedStores [.Subscript (.Name "_law_row" p1) (.Name nm2 p2) p3] e X.env = pure none →
      WB X (.Assign [.Subscript (.Name "_law_row" p1) (.Name nm2 p2) p3] e p4 :: rest) En σ H6 := fun {H6 σ e nm2 p1 p2 p3 p4 rest En} n hn s hys he hp hq k hsw hsw2 => by
    obtain ⟨ys2, hy2, hl2⟩ := hys
    refine b_setIx (WE.mono he fun v H7 ⟨e7, d, hd, r⟩ => (hp H7).go fun H8 e8 => (hq H8).go fun H9' e9' => ?_) (by intro _; rfl) hsw hsw2 rfl
    have e79 := e8.trans e9'
    refine ⟨q0, ys2, n, rfl, rfl, (e7.trans e79) _ _ hy2, by omega, k _ ?_ ⟨_, upd_same, by rw [List.length_set]; exact hl2⟩⟩
    exact (s.mono (e7.trans e79)).setQ ((e7.trans e79) _ _ hy2) ⟨d, hd, r.mono (hid2_mono e79)⟩
  refine b_whenJ (P := fun _ => True) (fun σ' H' => σ' = [some (.ref rp), some (.int kind), some (.int (i : Int)), some (.int (j : Int)), some (.int b), some (.ref q0), some (.ref p), none, some (.int v), none] ∧ S2 H H' p q0 c1 (l + 2) ∧ (∃ ys2, H' q0 = some (.lst ys2) ∧ ys2.length = ys.length)) (tz_tv (tv_c (cv_inO (xs := [.int 5, .int 6]) (by walk_at "ev") (eo_lst (av_cons ev_int (av_cons ev_int av_nil))) rfl rfl)) trivial) ?_ ?_ ?_
  · intro _ Ha ea
    have sa := s14.mono ea
    obtain ⟨ys2, hy2, hl2⟩ := hq14
    have hya := ea _ _ hy2
    refine setRow j hjl sa ⟨ys2, hya, hl2⟩ ?_ ?_ ?_ ?_ rfl rfl
    · exact (es_call (P := fun d => ∀ c, okE c d) hC (Z.cal dS) (by walk_at "mem") (av_cons (by walk_at "ev") (av_cons (by walk_at "ev") av_nil)) fun H13 e13 Q kk => ⟨v, b, rfl, log_small hv hc1, kk⟩).go fun x d H13 e13 hd r => ⟨e13, d, hd c1, rep_beside (by obtain ⟨xs2, h1, _⟩ := sa.pl; exact ⟨_, h1⟩) ⟨_, hya⟩ r⟩
    · exact fun H7 => by walk_at "ev"
    · exact fun H7 => by walk_at "ev"
    · exact fun H7 s h => b_nil ⟨rfl, s, h⟩
  · exact fun _ Ha ea => ⟨rfl, s14.mono ea, by obtain ⟨ys2, h1, h2⟩ := hq14; exact ⟨ys2, ea _ _ h1, h2⟩⟩
  rintro σ' H15 ⟨rfl, s15, hq15⟩
  refine b_whenJ (P := fun _ => True) (fun σ' H' => σ' = [some (.ref rp), some (.int kind), some (.int (i : Int)), some (.int (j : Int)), some (.int b), some (.ref q0), some (.ref p), none, some (.int v), none] ∧ S2 H H' p q0 c1 (l + 2) ∧ (∃ ys2, H' q0 = some (.lst ys2) ∧ ys2.length = ys.length)) (tz_tv (tv_c (cv_inO (xs := [.int 7, .int 8]) (by walk_at "ev") (eo_lst (av_cons ev_int (av_cons ev_int av_nil))) rfl rfl)) trivial) ?_ ?_ ?_
  · intro _ Ha ea
    have sa := s15.mono ea
    obtain ⟨ys2, hy2, hl2⟩ := hq15
    have hya := ea _ _ hy2
    refine setRow j hjl sa ⟨ys2, hya, hl2⟩ ?_ ?_ ?_ ?_ rfl rfl
    · exact (show Ev X _ _ Ha (.int (-1 - b)) from ev_sub (ev_neg ev_int) (by walk_at "ev")).go fun H13 e13 => ⟨e13, .int _, okE_int (by omega), .int _⟩
    · exact fun H7 => by walk_at "ev"
    · exact fun H7 => by walk_at "ev"
    · exact fun H7 s h => b_nil ⟨rfl, s, h⟩
  · exact fun _ Ha ea => ⟨rfl, s15.mono ea, by obtain ⟨ys2, h1, h2⟩ := hq15; exact ⟨ys2, ea _ _ h1, h2⟩⟩
  rintro σ' H16 ⟨rfl, s16, hq16⟩
  refine b_whenJ (P := fun _ => True) (fun σ' H' => σ' = [some (.ref rp), some (.int kind), some (.int (i : Int)), some (.int (j : Int)), some (.int b), some (.ref q0), some (.ref p), none, some (.int v), none] ∧ S2 H H' p q0 c1 (l + 2) ∧ (∃ ys2, H' q0 = some (.lst ys2) ∧ ys2.length = ys.length)) (tz_tv (tv_c (cv_eqI (by walk_at "ev") ev_int)) trivial) ?_ ?_ ?_
  · intro _ Ha ea
    have sa := s16.mono ea
    obtain ⟨ys2, hy2, hl2⟩ := hq16
    have hya := ea _ _ hy2
    refine setRow j hjl sa ⟨ys2, hya, hl2⟩ ?_ ?_ ?_ ?_ rfl rfl
    · refine (ev_sub (ev_add (ev_add (by walk_at "ev") ev_int) (ev_mul (by walk_at "ev") (ev_intC hC Z.B (by walk_at "mem") (cv_lt (ev_add (by walk_at "ev") (by walk_at "ev")) e9)) (.inl ⟨by omega, by omega⟩))) (ev_mul ev_int (ev_intC hC Z.B (by walk_at "mem") (cv_eqI (by walk_at "ev") e9)) (.inl ⟨by decide, by decide⟩))).go fun H13 e13 => ⟨e13, .int _, okE_int ?_, .int _⟩
      split <;> split <;> omega
    · exact fun H7 => by walk_at "ev"
    · exact fun H7 => by walk_at "ev"
    · exact fun H7 s h => b_nil ⟨rfl, s, h⟩
  · exact fun _ Ha ea => ⟨rfl, s16.mono ea, by obtain ⟨ys2, h1, h2⟩ := hq16; exact ⟨ys2, ea _ _ h1, h2⟩⟩
  rintro σ' H17 ⟨rfl, s17, hq17⟩
  obtain ⟨ys17, hy17, hl17⟩ := id hq17
  refine b_whenJ (P := fun b => b = true → i < ys.length) (fun σ' H' => σ' = [some (.ref rp), some (.int kind), some (.int (i : Int)), some (.int (j : Int)), some (.int b), some (.ref q0), some (.ref p), none, some (.int v), none] ∧ S2 H H' p q0 c1 (l + 2) ∧ (∃ ys2, H' q0 = some (.lst ys2) ∧ ys2.length = ys.length)) (tz_w (tzw_and (t := decide (kind = 10)) (tv_c (cv_eqI (by walk_at "ev") ev_int)) (fun _ => tzw_and1 (tz_tv (tv_c (cv_lt (by walk_at "ev") (ev_len hC Z.B (by walk_at "mem") (by walk_at "ev") (.inl (sqL hy17))))) (fun h => by have := of_decide_eq_true h; omega))) (fun _ h => Bool.noConfusion h))) ?_ ?_ ?_
  · intro hil2 Ha ea
    have sa := s17.mono ea
    have hya := ea _ _ hy17
    obtain ⟨k, hk, hk5⟩ := mod6 (b := b) 5 (by decide)
    refine setRow i (hil2 rfl) sa ⟨ys17, hya, hl17⟩ ?_ ?_ ?_ ?_ rfl rfl
    · exact (es_pick (P := okE c1) (k := k) (n := 5) (as_cons (es_int (ev_add ev_int (by walk_at "ev")) (okE_int (by omega))) (as_cons (es_bl ev_bl (okE_flat rfl rfl)) (as_cons (es_int (ev_sub (ev_neg ev_int) (by walk_at "ev")) (okE_int (by omega))) (as_cons (es_ev ev_non .non (okE_flat rfl rfl)) (as_cons (es_int ev_int (okE_int (by omega))) as_nil))))) ((ev_mod (ev_intI hC Z.B (by walk_at "mem") (by walk_at "ev")) ev_int (by decide)).is (by rw [← hk]; rfl)) hk5 (by decide)).go fun x d H13 e13 hd r => ⟨e13, d, hd, rep_beside (by obtain ⟨xs2, h1, _⟩ := sa.pl; exact ⟨_, h1⟩) ⟨_, hya⟩ r⟩
    · exact fun H7 => by walk_at "ev"
    · exact fun H7 => by walk_at "ev"
    · exact fun H7 s h => b_nil ⟨rfl, s, h⟩
  · exact fun _ Ha ea => ⟨rfl, s17.mono ea, ys17, ea _ _ hy17, hl17⟩
  rintro σ' H18 ⟨rfl, s18, hq18⟩
  refine b_whenJ (P := fun _ => True) (fun σ' H' => σ' = [some (.ref rp), some (.int kind), some (.int (i : Int)), some (.int (j : Int)), some (.int b), some (.ref q0), some (.ref p), none, some (.int v), none] ∧ S2 H H' p q0 c1 (l + 2) ∧ (∃ ys2, H' q0 = some (.lst ys2) ∧ ys2.length = ys.length)) (tz_tv (tv_c (cv_ge (by walk_at "ev") ev_int)) trivial) ?_ ?_ ?_
  · intro _ Ha ea
    have sa := s18.mono ea
    obtain ⟨ys2, hy2, hl2⟩ := hq18
    have hya := ea _ _ hy2
    refine setRow j hjl sa ⟨ys2, hya, hl2⟩ ?_ ?_ ?_ ?_ rfl rfl
    · refine we_call hC (Z.cal dC) (by walk_at "mem") ((show Av X [_, _, _] _ Ha [V.int v, .int (kind - 11), .int b] from av_cons (by walk_at "ev") (av_cons (ev_sub (by walk_at "ev") ev_int) (av_cons (by walk_at "ev") av_nil))).go fun H13 e13 => ⟨v, kind - 11, b, rfl, hb0, hb1, fun x H14 e14 hx => ⟨e13.trans e14, .int x, okE_int ?_, .int x⟩⟩)
      have := hx c hv
      omega
    · exact fun H7 => by walk_at "ev"
    · exact fun H7 => by walk_at "ev"
    · exact fun H7 s h => b_nil ⟨rfl, s, h⟩
  · exact fun _ Ha ea => ⟨rfl, s18.mono ea, by obtain ⟨ys2, h1, h2⟩ := hq18; exact ⟨ys2, ea _ _ h1, h2⟩⟩
  rintro σ' H19 ⟨rfl, s19, ys2, hy2, hl2⟩
  obtain ⟨xs2, hx2, hxl2, _⟩ := id s19.pl
  -- new[j] is copied and changed, or nothing is done
  have no : ∀ {Ha : Hp} {p1 p2 : Pos} {rest : List Stmt} {En : Ends}, En.rt = Q → Ex H19 Ha → WB X (.Return (some (.Name "_law_new" p1)) p2 :: rest) En [some (.ref rp), some (.int kind), some (.int (i : Int)), some (.int (j : Int)), some (.int b), some (.ref q0), some (.ref p), none, some (.int v), none] Ha := fun {Ha p1 p2 rest En} hr ea => by
    refine fin hr (s19.mono ea) ?_
    exact (by walk_at "ev")
  by_cases hj2 : xs2.length ≤ j
  · refine b_no (tv_w ((tw_and (t := inV (.int kind) [.int 6, .int 8, .int 11, .int 12, .int 13, .int 14]) (u := false) (tv_c (cv_inO (by walk_at "ev") (eo_lst (av_cons ev_int (av_cons ev_int (av_cons ev_int (av_cons ev_int (av_cons ev_int (av_cons ev_int av_nil))))))) rfl rfl)) fun _ => tw_and (t := false) (u := false) ((tv_c (cv_lt (by walk_at "ev") (ev_len hC Z.B (by walk_at "mem") (by walk_at "ev") (.inl (sqL hx2))))).is (by simp; omega)) fun h => Bool.noConfusion h)) |>.is (by rw [Bool.and_false])) fun Ha ea => ?_
    exact no rfl ea
  have hjx : j < xs2.length := by omega
  have hxj := List.getElem?_eq_getElem hjx
  obtain ⟨dj, hdj, rdj, hlj⟩ := s19.listAt hx2 hjx
  generalize xs2[j] = xj at hxj rdj hlj
  have newJ : ∀ {Ha : Hp} {a1 a2 : Expr} {σ : St} {p1 : Pos}, Ex H19 Ha → Ev X a1 σ Ha (.ref p) → Ev X a2 σ Ha (.int (j : Int)) → PlainIx a2 → Ev X (.Subscript a1 a2 p1) σ Ha xj := fun e h1 h2 hp => ev_ixL h1 h2 (sqL (e _ _ hx2)) (L2.atI_nat hxj) hp
  by_cases hdl : dj.isList = true
  · obtain ⟨aj, zs, rfl, hz, hzl, hzl2, hzs⟩ := hlj hdl
    obtain ⟨esj, rfl⟩ : ∃ es, dj = .lst es := by cases dj <;> first | exact ⟨_, rfl⟩ | cases hdl
    have hlen : esj.length = zs.length := Option.some.inj hzl
    refine b_when (t := inV (.int kind) [.int 6, .int 8, .int 11, .int 12, .int 13, .int 14] && decide (i < zs.length)) (tv_w ((tw_and (t := inV (.int kind) [.int 6, .int 8, .int 11, .int 12, .int 13, .int 14]) (u := decide (i < zs.length)) (tv_c (cv_inO (by walk_at "ev") (eo_lst (av_cons ev_int (av_cons ev_int (av_cons ev_int (av_cons ev_int (av_cons ev_int (av_cons ev_int av_nil))))))) rfl rfl)) fun _ => (tw_and (t := true) (u := decide (i < zs.length)) ((tv_c (cv_lt (by walk_at "ev") (ev_len hC Z.B (by walk_at "mem") (by walk_at "ev") (.inl (sqL hx2))))).is (by simp; omega)) fun _ => (tw_and (t := true) (u := decide (i < zs.length)) (tv_val (eh_isList hC Z.B (by walk_at "mem") (by walk_at "mem") (eh_ev (newJ Ex.rfl' (by walk_at "ev") (by walk_at "ev") (fun _ _ => rfl)) rdj))) fun _ => tw_and1 ((tv_c (cv_lt (by walk_at "ev") (ev_len hC Z.B (by walk_at "mem") (newJ Ex.rfl' (by walk_at "ev") (by walk_at "ev") (fun _ _ => rfl)) (.inl (sqL hz))))).is (by rw [decide_eq_decide]; omega))))))) ?_ ?_
    · intro ht Ha ea
      have hiz : i < zs.length := by
        rw [Bool.and_eq_true] at ht
        exact of_decide_eq_true ht.2
      refine b_set hC (by walk_at "mem") (by walk_at "set") ((eo_listOf hC Z.B (by walk_at "mem") (newJ ea (by walk_at "ev") (by walk_at "ev") (fun _ _ => rfl)) (.inl (sqL (ea _ _ hz)))).go fun f Hb hf eb hfb => ?_)
      have hjy : j < ys2.length := by omega
      obtain ⟨yv, hyv⟩ : ∃ yv, ys2[j]? = some yv := ⟨_, List.getElem?_eq_getElem hjy⟩
      have yb := eb _ _ (ea _ _ hy2)
      refine b_setIx ((show Ev X _ _ Hb yv from ev_ixL (by walk_at "ev") (by walk_at "ev") (sqL yb) (L2.atI_nat hyv)).go fun Hc ec => (show Ev X _ _ Hc (.ref f) from by walk_at "ev").go fun Hd ed => (show Ev X _ _ Hd (.int (i : Int)) from by walk_at "ev").go fun He ee => ?_)
      have ebe := (ec.trans ed).trans ee
      refine ⟨f, zs, i, rfl, rfl, ebe _ _ hfb, hiz, ?_⟩
      have eF : Ex Ha (upd He f (.lst (zs.set i yv))) := (eb.trans ebe).mut hf
      have sF := (s19.mono ea).mono eF
      have hpa := ea _ _ hx2
      have fp : f ≠ p := fun z => by rw [z, hpa] at hf; cases hf
      have fq : f ≠ q0 := fun z => by rw [z, ea _ _ hy2] at hf; cases hf
      have hff : upd He f (.lst (zs.set i yv)) f = some (.lst (zs.set i yv)) := upd_same
      have hxF := eF _ _ hpa
      generalize upd He f (.lst (zs.set i yv)) = HF at eF sF hff hxF
      have zitems : ∀ z ∈ zs.set i yv, ∃ e, okE c1 e ∧ Rep (hid p (hid q0 HF)) z e := fun z hz' => by
        rcases List.mem_or_eq_of_mem_set hz' with h4 | rfl
        · obtain ⟨e, he, r⟩ := hzs z h4
          exact ⟨e, he, r.mono (hid2_mono (ea.trans eF))⟩
        · obtain ⟨ysF, k1, k2, k3⟩ := sF.ql
          rw [(ea.trans eF) _ _ hy2] at k1
          cases k1
          exact k3 _ (List.mem_of_getElem? hyv)
      obtain ⟨esF, rF, hF⟩ := repL_some zitems
      refine b_setIx ((show Ev X _ _ HF (.ref f) from by walk_at "ev").go fun Hg eg => (show Ev X _ _ Hg (.ref p) from by walk_at "ev").go fun Hh eh => (show Ev X _ _ Hh (.int (j : Int)) from by walk_at "ev").go fun Hi ei => ?_)
      have eFi := (eg.trans eh).trans ei
      refine ⟨p, xs2, j, rfl, rfl, eFi _ _ hxF, hjx, b_nil ?_⟩
      have sI := (sF.mono eFi).setP (n := j) (v := .ref f) (eFi _ _ hxF) (.inr ⟨.lst esF, ⟨rfl, fun es he => by cases he; exact ⟨by rw [← rF.len, List.length_set]; exact hzl2, hF⟩⟩, .lst (by rw [hid_ne fp, hid_ne fq]; exact eFi _ _ hff) (rF.mono (hid2_mono eFi))⟩)
      refine fin rfl sI ?_
      exact (by walk_at "ev")
    · intro _ Ha ea
      exact no rfl ea
  · have hdl' : dj.isList = false := by cases h : dj.isList with | true => exact absurd h hdl | false => rfl
    refine b_when (t := inV (.int kind) [.int 6, .int 8, .int 11, .int 12, .int 13, .int 14] && (true && (dj.isList && false))) (tv_w (tw_and (t := inV (.int kind) [.int 6, .int 8, .int 11, .int 12, .int 13, .int 14]) (u := true && (dj.isList && false)) (tv_c (cv_inO (by walk_at "ev") (eo_lst (av_cons ev_int (av_cons ev_int (av_cons ev_int (av_cons ev_int (av_cons ev_int (av_cons ev_int av_nil))))))) rfl rfl)) fun _ => tw_and (t := true) (u := dj.isList && false) ((tv_c (cv_lt (by walk_at "ev") (ev_len hC Z.B (by walk_at "mem") (by walk_at "ev") (.inl (sqL hx2))))).is (by simp; omega)) fun _ => tw_and (t := dj.isList) (u := false) (tv_val (eh_isList hC Z.B (by walk_at "mem") (by walk_at "mem") (eh_ev (newJ Ex.rfl' (by walk_at "ev") (by walk_at "ev") (fun _ _ => rfl)) rdj))) fun h => absurd h hdl)) ?_ ?_
    · intro h
      rw [hdl', Bool.false_and, Bool.and_false, Bool.and_false] at h
      cases h
    · intro _ Ha ea
      exact no rfl ea
end
end RC
/-! The law's defs that are called while an exception is handled: _law_whole, _law_same, _law_passed. -/
namespace RC
open PySem PySem.Spec PyProof.Rows L2 HotX L2H
/-- a context in which an exception is handled -/
structure Hd (X : Cx) (S : Scope) (N M L G : List Str) (n : Nat) : Prop where
  C : Ctx X S N M L G
  B : Bi X.mg
  hot : HotC X
  pas : PassesOwn (model X.prog X.w) X.A X.env X.xe
  room : RoomH n X.A
structure DfH (P : Program) (w : World) (K : PySem.W.Frag) (mg : Str → Option Value) (base : Heap) (k : Nat) (nm : Str) (sp : Sp) : Prop where
  ex : ∃ (f : Addr) (fd : FuncData) (ps : List Str), FnH P w K mg base CX0 k f fd ps sp ∧ mg nm = some (.ref f) ∧ PySem.W.keepIn K (.ref f) = true ∧ Binds K fd ps []
theorem DfH.cal {X : Cx} {k n : Nat} {nm : Str} {sp : Sp} (d : DfH X.prog X.w X.K X.mg X.base k nm sp) (hot : HotC X) (hr : RoomH n X.A) (hk : k ≤ n) (hd : (nm == ("__debug__" : Str)) = false := by decide) : Cal X nm sp := by
  obtain ⟨f, fd, ps, F, hm, kp, b⟩ := d.ex
  exact ⟨fun e es p pos σ H Q he hpl hg h => we_of (pe_callH (E := fun _ => E0) F (hr.mono hk) hot hg hm kp b (fun σ pins H s e s' I c => c.elim) pa_wa hd he hpl) h⟩
section
variable {X : Cx} {S : Scope} {N M L G : List Str} {n : Nat}
theorem Hd.rng (Z : Hd X S N M L G n) : RngOk X N L G := fun {m nm a body rest En σ H pos pos2 pos3 pos4} hg hx h hm Pv h0 hs hd he hf => by
  refine b_cons (ws_of (ps_forH Z.pas Z.hot (pi_range1H (Z.C.glo hg) Z.B.range (pa_cons pe_we pa_nil he) he) (pgN Z.C hx) pb_wb hf) ?_)
  refine h.go fun H1 e1 => ⟨(m : Int), rfl, by omega, by omega, ?_⟩
  rw [show ((m : Int)).toNat = m from rfl]
  refine ⟨fun i k σ' H' => k = m - i ∧ i ≤ m ∧ Pv i σ' H', ⟨m, by simp, Nat.zero_le _, h0 H1 e1⟩, ?_⟩
  rintro i k σ' H' ⟨rfl, hi, p⟩
  by_cases hlt : i < m
  · refine .inr ⟨hlt, Pv (i + 1), fun σ2 H2 p2 => ⟨m - (i + 1), by omega, rfl, hlt, p2⟩, fun x H2 y => ?_⟩
    obtain ⟨e, y⟩ := y
    subst e y
    have := hs i σ' _ hlt p
    simpa using this
  · have e : i = m := by omega
    subst e
    exact .inl ⟨Nat.le_refl _, hd σ' H' p⟩
end
section
variable {P : Program} {w : World} {K : PySem.W.Frag} {mg : Str → Option Value} {base : Heap} {nm : Str} {i n : Nat} {N ps M L G : List Str} {sp : Sp}
theorem df_okH (h : Has K mg nm i) (B : Bi mg) (sc : FnScope N ps (defScope (topS i))) (cb : ctxB (defScope (topS i)) (fun _ => true) N M L G = true)
    (bd : ∀ (kV doc pm : Value) (an : Option Addr) (cdv ct : Value) (us : List Value), us.length = ps.length → bindArgs (PySem.W.fnOf nm nm (defArgs (topS i)) (defBody (topS i)) (defScope (topS i)) .none kV doc pm an cdv ct) ⟨us, []⟩ = pure (ps.zip us))
    (len : ∀ vs H Q E, sp vs H Q E → vs.length = ps.length)
    (body : ∀ X : Cx, X.prog = P → X.w = w → X.K = K → X.mg = mg → X.base = base → Hd X (defScope (topS i)) N M L G n → ∀ vs H Q E, sp vs H Q E → WB X (defBody (topS i)) { nx := fun _ H' => Q .non H', rt := Q } (start N vs) H) : DfH P w K mg base (n + 1) nm sp := by
  obtain ⟨f, fd, F, gm⟩ := h.ex
  have F0 := F
  obtain ⟨oc, od, dV, kV, doc, pm, an, cdv, ct, osl, rfl, lk, hcd, _, _⟩ := F.ex
  refine ⟨f, _, ps, fn_ofH lk hcd sc len fun A outer s H vs Q E p hp hr hsp => ?_, gm, F0.kp, F0.bindsN bd⟩
  refine ⟨_, PSs.nox (pb_wb), body _ rfl rfl rfl rfl rfl ⟨ctx_of cb rfl rfl (fun _ _ => rfl), B, ⟨p, hp, List.mem_cons_self⟩, PassesOwn.never, hr⟩ vs H Q E hsp⟩
theorem df_lwholeH (h : Has K mg "_law_whole" 33) (B : Bi mg) : DfH P w K mg base 1 "_law_whole" spWhole := by
  refine df_okH h B sc33 cb33 (fun _ _ _ _ _ _ us hl => match us, hl with | [_], _ => rfl) (fun vs H Q E ⟨n, d, e, _⟩ => by rw [e]; rfl) ?_
  rintro X rfl rfl rfl rfl rfl Z vs H Q E ⟨v, d, rfl, r, q⟩
  have hC := Z.C
  show WB X _ _ [some _] _
  refine b_ret ?_
  refine ((ev_and (ev_isInt hC Z.B (by walk_at "mem") (by walk_at "mem") (by walk_at "ev") r) fun _ => ev_one (ev_not (ev_isBool hC Z.B (by walk_at "mem") (by walk_at "mem") (by walk_at "ev") r))).is (z := .bl d.whole) ?_).go q
  rw [whole_eq]
theorem roomH_units {k : Nat} {A : Around} (r : RoomH k A) : A.units + 64 < cLine := by have := r.un; omega
theorem df_sameH (h : Has K mg "_law_same" 36) (B : Bi mg) (dW : DfH P w K mg base 1 "_law_whole" spWhole) : ∀ n, DfH P w K mg base (n + 2) "_law_same" (spSame n) := by
  intro n
  induction n with
  | zero =>
    refine df_okH h B sc36 cb36 (fun _ _ _ _ _ _ us hl => match us, hl with | [_, _], _ => rfl) (fun vs H Q E ⟨v, w, d, e, _⟩ => by rw [e]; rfl) ?_
    rintro X rfl rfl rfl rfl rfl Z vs H Q E ⟨v, w, d, rfl, r1, r2, hd, q⟩
    exact same_body Z.C Z.B (roomH_units Z.room) Z.rng (dW.cal Z.hot Z.room (by omega)) (fun m e => absurd e (by omega)) r1 r2 hd q
  | succ n ih =>
    refine df_okH h B sc36 cb36 (fun _ _ _ _ _ _ us hl => match us, hl with | [_, _], _ => rfl) (fun vs H Q E ⟨v, w, d, e, _⟩ => by rw [e]; rfl) ?_
    rintro X rfl rfl rfl rfl rfl Z vs H Q E ⟨v, w, d, rfl, r1, r2, hd, q⟩
    exact same_body Z.C Z.B (roomH_units Z.room) Z.rng (dW.cal Z.hot Z.room (by omega)) (fun m e => by cases e; exact ih.cal Z.hot Z.room (by omega)) r1 r2 hd q
end
/-! ### _law_passed -/
def passRow (form k : Nat) (d : D) : D := match d with
  | .lst es => if (form / 2 + k * (form / 4)) % 2 = 1 then .tup es else .lst es
  | d => d
def passD (rs : List D) (form : Nat) : D := if form % 2 = 1 then .tup (rs.mapIdx (passRow form)) else .lst (rs.mapIdx (passRow form))
/-- the outer thing is new, and the copies of the lists -/
def PNew (H H' : Hp) (v : V) (rs : List D) : Prop := ∃ (gp : Addr) (ys : List V), v = .ref gp ∧ H gp = none ∧ (H' gp = some (.lst ys) ∨ H' gp = some (.tup ys)) ∧ ∀ (k : Nat) (y : V) (es : List D), ys[k]? = some y → rs[k]? = some (.lst es) → ∃ c, y = .ref c ∧ H c = none
def spPassed : Sp := fun vs H Q _ => ∃ (rv : V) (rs : List D) (form : Nat), vs = [rv, .int form] ∧ Rep H rv (.lst rs) ∧ NoTup rs ∧ rs.length < 10000 ∧ form < 1000 ∧ ∀ v H', Ex H H' → Rep H' v (passD rs form) → PNew H H' v rs → Q v H'
/-- the first statement of _law_passed may be walked here -/
def CopyOk (X : Cx) : Prop := ∀ {p : Addr} {xs : List V} {H : Hp} {f : V} {En : Ends}, H p = some (.lst xs) → xs.length < 10000 →
  (∀ g H1, H g = none → Ex H H1 → H1 g = some (.lst xs) → WB X (defBody (topS 50)).tail En [some (.ref p), some f, none, some (.ref g), none] H1) → WB X (defBody (topS 50)) En [some (.ref p), some f, none, none, none] H
theorem passRow_ok {rs : List D} {form i : Nat} {d : D} (h : rs[i]? = some d) : (rs.mapIdx (passRow form))[i]? = some (passRow form i d) := by rw [List.getElem?_mapIdx, h]; rfl
theorem passed_body {X : Cx} (hC : Ctx X (defScope (topS 50)) N50 M50 M50 G50) (B : Bi X.mg) (rg : RngOk X N50 M50 G50) (cp : CopyOk X) {rv : V} {rs : List D} {form : Nat} {H : Hp} {Q : VK} (r : Rep H rv (.lst rs)) (nt : NoTup rs) (hl : rs.length < 10000) (hf : form < 1000)
    (q : ∀ v H', Ex H H' → Rep H' v (passD rs form) → PNew H H' v rs → Q v H') : WB X (defBody (topS 50)) { nx := fun _ H' => Q .non H', rt := Q } [some rv, some (.int (form : Int)), none, none, none] H := by
  obtain ⟨p, xs, rfl, hp, rx⟩ := r.lst_inv
  have hxl := rx.len
  refine cp hp (by omega) fun g H1 hg e1 hg1 => ?_
  show WB X _ _ _ _
  have gp : g ≠ p := fun z => by rw [z, hp] at hg; cases hg
  -- by the turn: the rows before i are passed, the others as they were
  refine rg (m := rs.length) (by walk_at "mem") (by walk_at "mem") (eh_len hC B (by walk_at "mem") (eh_ev (by walk_at "ev") (r.mono e1)) rfl) (by omega) (fun i σ' H' => (∃ ok, σ' = [some (.ref p), some (.int (form : Int)), none, some (.ref g), ok]) ∧ Ex H (hid g H') ∧ ∃ ys, H' g = some (.lst ys) ∧ ys.length = rs.length ∧ (∀ k y d, ys[k]? = some y → rs[k]? = some d → Rep (hid g H') y (if k < i then passRow form k d else d)) ∧ ∀ (k : Nat) (y : V) (es : List D), k < i → ys[k]? = some y → rs[k]? = some (.lst es) → ∃ c, y = .ref c ∧ H c = none)
    (fun H2 e2 => ⟨⟨_, rfl⟩, (hid_of e1 hg).trans (hid_mono e2), xs, e2 _ _ hg1, hxl, fun k y d h1 h2 => ?_, fun k y es h => absurd h (Nat.not_lt_zero _)⟩) ?_ ?_ rfl (fun _ => rfl)
  · rw [if_neg (Nat.not_lt_zero _)]
    obtain ⟨d', hd, rd⟩ := rx.get h1
    rw [h2] at hd
    cases hd
    exact rd.mono ((hid_of e1 hg).trans (hid_mono e2))
  · rintro i σ' H2 hi ⟨⟨ok, rfl⟩, e2, ys, hg2, hyl, hys, hnw⟩
    have hdi := List.getElem?_eq_getElem hi
    generalize rs[i] = di at hdi
    obtain ⟨x, hx, rxi⟩ := rx.at hdi
    have rowE : ∀ {H3 : Hp} {a1 a2 : Expr} {σ : St} {p1 : Pos}, Ex H H3 → Ev X a1 σ H3 (.ref p) → Ev X a2 σ H3 (.int (i : Int)) → PlainIx a2 → Ev X (.Subscript a1 a2 p1) σ H3 x := fun e h1 h2 hp2 => ev_ixL h1 h2 (sqL (e _ _ hp)) (L2.atI_nat hx) hp2
    have e02 : Ex H H2 := e2.trans hid_ex
    refine g1_of (by walk_at "set") ?_
    -- a turn's end: the i-th place holds v
    have put : ∀ {H3 : Hp} {v : V} {ys3 : List V}, Ex H (hid g H3) → H3 g = some (.lst ys3) → ys3.length = rs.length → (∀ k y d, ys3[k]? = some y → rs[k]? = some d → k ≠ i → Rep (hid g H3) y (if k < i then passRow form k d else d)) → (∀ y, ys3[i]? = some y → Rep (hid g H3) y (passRow form i di)) → (∀ (k : Nat) (y : V) (es : List D), k < i → ys3[k]? = some y → rs[k]? = some (.lst es) → ∃ c, y = V.ref c ∧ H c = none) → (∀ (y : V) (es : List D), ys3[i]? = some y → di = .lst es → ∃ c, y = V.ref c ∧ H c = none) →
        (∃ ok, [some (V.ref p), some (.int (form : Int)), none, some (.ref g), some (.int (i : Int))] = [some (.ref p), some (.int (form : Int)), none, some (.ref g), ok]) ∧ Ex H (hid g H3) ∧ ∃ ys, H3 g = some (.lst ys) ∧ ys.length = rs.length ∧ (∀ k y d, ys[k]? = some y → rs[k]? = some d → Rep (hid g H3) y (if k < i + 1 then passRow form k d else d)) ∧ ∀ (k : Nat) (y : V) (es : List D), k < i + 1 → ys[k]? = some y → rs[k]? = some (.lst es) → ∃ c, y = .ref c ∧ H c = none := fun {H3 v ys3} e3 h3 hl3 hk hi3 hk2 hi2 =>
      ⟨⟨_, rfl⟩, e3, ys3, h3, hl3, fun k y d h1 h2 => by
        by_cases e : k = i
        · subst e
          rw [hdi] at h2
          cases h2
          rw [if_pos (by omega)]
          exact hi3 y h1
        · have := hk k y d h1 h2 e
          by_cases h : k < i
          · rw [if_pos h] at this
            rw [if_pos (by omega)]
            exact this
          · rw [if_neg h] at this
            rw [if_neg (by omega)]
            exact this, fun k y es h h1 h2 => by
        by_cases e : k = i
        · subst e
          rw [hdi] at h2
          exact hi2 y es h1 (Option.some.inj h2)
        · exact hk2 k y es (by omega) h1 h2⟩
    refine b_when (t := di.isList) (tv_val (eh_isList hC B (by walk_at "mem") (by walk_at "mem") (eh_ev (rowE e02 (by walk_at "ev") (by walk_at "ev") (fun _ _ => rfl)) (rxi.mono e02)))) ?_ ?_
    · intro hdl H3 e3
      obtain ⟨es, rfl⟩ : ∃ es, di = .lst es := by cases di <;> first | exact ⟨_, rfl⟩ | cases hdl
      obtain ⟨a, zs, rfl, hz, rz⟩ := rxi.lst_inv
      have e03 := e02.trans e3
      have hg3 := e3 _ _ hg2
      refine b_setIx ((eo_listOf hC B (by walk_at "mem") (rowE e03 (by walk_at "ev") (by walk_at "ev") (fun _ _ => rfl)) (.inl (sqL (e03 _ _ hz)))).go fun c H4 hc e4 h4 => (show Ev X _ _ H4 (.ref g) from by walk_at "ev").go fun H5 e5 => (show Ev X _ _ H5 (.int (i : Int)) from by walk_at "ev").go fun H6 e6 => ?_)
      have e46 := e5.trans e6
      have e36 := e4.trans e46
      have hg6 := e36 _ _ hg3
      refine ⟨g, ys, i, rfl, rfl, hg6, by omega, ?_⟩
      have cg : c ≠ g := fun z => by rw [z, hg3] at hc; cases hc
      have hidE : ∀ {v : V}, hid g (upd H6 g (.lst (ys.set i v))) = hid g H6 := hid_upd
      have e2' : Ex (hid g H2) (hid g H6) := hid_mono (e3.trans e36)
      have keep : ∀ {v : V} k y d, (ys.set i v)[k]? = some y → rs[k]? = some d → k ≠ i → Rep (hid g H6) y (if k < i then passRow form k d else d) := fun {v} k y d h1 h2 hne => by
        rw [List.getElem?_set_ne (Ne.symm hne)] at h1
        exact (hys k y d h1 h2).mono e2'
      have cRep : Rep (hid g H6) (.ref c) (.lst es) := .lst (by rw [hid_ne cg]; exact e46 _ _ h4) (rz.mono (e2.trans e2'))
      by_cases hodd : (form / 2 + i * (form / 4)) % 2 = 1
      · refine b_yes ((tv_c (cv_eqI (ev_mod (ev_intI hC B (by walk_at "mem") (ev_add (ev_fdiv (by walk_at "ev") ev_int (by decide)) (ev_mul (by walk_at "ev") (ev_fdiv (by walk_at "ev") ev_int (by decide)) (.inl ⟨by omega, by omega⟩)))) ev_int (by decide)) ev_int)).is ?_) fun H7 e7 => ?_
        · rw [decide_eq_true_iff]
          have : ((form : Int) / 2 + (i : Int) * ((form : Int) / 4)) % 2 = (((form / 2 + i * (form / 4)) % 2 : Nat) : Int) := by
            rw [Int.natCast_emod, Int.natCast_add, Int.natCast_mul, Int.natCast_ediv, Int.natCast_ediv]; rfl
          rw [this, hodd]; rfl
        · have hgU : upd H6 g (.lst (ys.set i (.ref c))) g = some (.lst (ys.set i (.ref c))) := upd_same
          have eU : Ex H (upd H6 g (.lst (ys.set i (.ref c)))) := (e03.trans e36).mut hg
          generalize hHU : upd H6 g (.lst (ys.set i (.ref c))) = HU at e7 hgU eU
          have hidU : hid g HU = hid g H6 := by rw [← hHU]; exact hidE
          refine b_setIx ((eo_tupleOf hC B (by walk_at "mem") (rowE (eU.trans e7) (by walk_at "ev") (by walk_at "ev") (fun _ _ => rfl)) (sqL ((eU.trans e7) _ _ hz))).go fun t H8 ht e8 h8 => (show Ev X _ _ H8 (.ref g) from by walk_at "ev").go fun H9 e9 => (show Ev X _ _ H9 (.int (i : Int)) from by walk_at "ev").go fun HA eA => ?_)
          have e8A := e9.trans eA
          have e7A := e8.trans e8A
          have eUA := e7.trans e7A
          refine ⟨g, _, i, rfl, rfl, eUA _ _ hgU, by rw [List.length_set]; omega, b_nil (b_nil (b_nil (put (v := .non) ?_ upd_same (by rw [List.length_set, List.length_set]; exact hyl) (fun k y d h1 h2 hne => ?_) (fun y h1 => ?_) (fun k y es' hk h1 h2 => hnw k y es' hk (by rw [List.getElem?_set_ne (by omega), List.getElem?_set_ne (by omega)] at h1; exact h1) h2) fun y es' h1 _ => ?_)))⟩
          · rw [hid_upd]
            exact (e2.trans e2').trans (hidU ▸ hid_mono eUA)
          · rw [List.getElem?_set_ne (Ne.symm hne)] at h1
            rw [hid_upd]
            exact (keep k y d h1 h2 hne).mono (hidU ▸ hid_mono eUA)
          · rw [List.getElem?_set_self (by rw [List.length_set]; omega)] at h1
            cases h1
            rw [hid_upd]
            have tg : t ≠ g := fun z => by rw [z, e7 _ _ hgU] at ht; cases ht
            have hpr : passRow form i (.lst es) = .tup es := if_pos hodd
            rw [hpr]
            exact .tup (by rw [hid_ne tg]; exact e8A _ _ h8) (rz.mono ((e2.trans e2').trans (hidU ▸ hid_mono eUA)))
          · rw [List.getElem?_set_self (by rw [List.length_set]; omega)] at h1
            cases h1
            exact ⟨t, rfl, (eU.trans e7).fresh ht⟩
      · refine b_no ((tv_c (cv_eqI (ev_mod (ev_intI hC B (by walk_at "mem") (ev_add (ev_fdiv (by walk_at "ev") ev_int (by decide)) (ev_mul (by walk_at "ev") (ev_fdiv (by walk_at "ev") ev_int (by decide)) (.inl ⟨by omega, by omega⟩)))) ev_int (by decide)) ev_int)).is ?_) fun H7 e7 => ?_
        · rw [decide_eq_false_iff_not]
          have : ((form : Int) / 2 + (i : Int) * ((form : Int) / 4)) % 2 = (((form / 2 + i * (form / 4)) % 2 : Nat) : Int) := by
            rw [Int.natCast_emod, Int.natCast_add, Int.natCast_mul, Int.natCast_ediv, Int.natCast_ediv]; rfl
          rw [this]
          omega
        · have hgU : upd H6 g (.lst (ys.set i (.ref c))) g = some (.lst (ys.set i (.ref c))) := upd_same
          generalize hHU : upd H6 g (.lst (ys.set i (.ref c))) = HU at e7 hgU
          have hidU : hid g HU = hid g H6 := by rw [← hHU]; exact hidE
          refine b_nil (b_nil (put (v := .non) ((e2.trans e2').trans (hidU ▸ hid_mono e7)) (e7 _ _ hgU) (by rw [List.length_set]; exact hyl) (fun k y d h1 h2 hne => (keep k y d h1 h2 hne).mono (hidU ▸ hid_mono e7)) (fun y h1 => ?_) (fun k y es' hk h1 h2 => hnw k y es' hk (by rw [List.getElem?_set_ne (by omega)] at h1; exact h1) h2) fun y es' h1 _ => ?_))
          · rw [List.getElem?_set_self (by omega)] at h1
            cases h1
            have hpr : passRow form i (.lst es) = .lst es := if_neg hodd
            rw [hpr]
            exact cRep.mono (hidU ▸ hid_mono e7)
          · rw [List.getElem?_set_self (by omega)] at h1
            cases h1
            exact ⟨c, rfl, e03.fresh hc⟩
    · intro hdl H3 e3
      have hpr : passRow form i di = di := by cases di <;> first | rfl | cases hdl
      refine b_nil (put (v := .non) (e2.trans (hid_mono e3)) (e3 _ _ hg2) hyl (fun k y d h1 h2 _ => (hys k y d h1 h2).mono (hid_mono e3)) (fun y h1 => ?_) hnw fun y es' _ hd => (by rw [hd] at hdl; cases hdl))
      have := hys i y di h1 hdi
      rw [if_neg (by omega)] at this
      rw [hpr]
      exact this.mono (hid_mono e3)
  · rintro σ' H2 ⟨⟨ok, rfl⟩, e2, ys, hg2, hyl, hys, hnw⟩
    have fin : RepL (hid g H2) ys (rs.mapIdx (passRow form)) := RepL.of (by rw [List.length_mapIdx]; exact hyl) fun k y d h1 h2 => by
      rw [List.getElem?_mapIdx] at h2
      obtain ⟨d0, hd0, rfl⟩ := Option.map_eq_some_iff.mp h2
      have := hys k y d0 h1 hd0
      rw [if_pos (List.getElem?_eq_some_iff.mp hd0).1] at this
      exact this
    have e02 : Ex H H2 := e2.trans hid_ex
    refine b_when (t := decide (form % 2 = 1)) ((tv_c (cv_eqI (ev_mod (ev_intI hC B (by walk_at "mem") (by walk_at "ev")) ev_int (by decide)) ev_int)).is (by rw [decide_eq_decide]; omega)) ?_ ?_
    · intro hodd H3 e3
      refine b_ret ((eo_tupleOf hC B (by walk_at "mem") (by walk_at "ev") (sqL (e3 _ _ hg2))).go fun t H4 ht e4 h4 => q _ H4 (e02.trans (e3.trans e4)) ?_ ⟨t, ys, rfl, (e02.trans e3).fresh ht, .inr h4, fun k y es h1 h2 => hnw k y es (List.getElem?_eq_some_iff.mp h2).1 h1 h2⟩)
      unfold passD
      rw [if_pos (of_decide_eq_true hodd)]
      exact .tup h4 (fin.mono (hid_ex.trans (e3.trans e4)))
    · intro hodd H3 e3
      refine b_ret ((show Ev X _ _ H3 (.ref g) from by walk_at "ev").go fun H4 e4 => q _ H4 (e02.trans (e3.trans e4)) ?_ ⟨g, ys, rfl, hg, .inl ((e3.trans e4) _ _ hg2), fun k y es h1 h2 => hnw k y es (List.getElem?_eq_some_iff.mp h2).1 h1 h2⟩)
      unfold passD
      rw [if_neg (of_decide_eq_false hodd)]
      exact .lst ((e3.trans e4) _ _ hg2) (fin.mono (hid_ex.trans (e3.trans e4)))
theorem copy_calm {X : Cx} {n : Nat} (Z : Sd X (defScope (topS 50)) N50 M50 M50 G50 n) : CopyOk X := fun {p xs H f En} hp hl k => by
  have hC := Z.C
  show WB X _ _ [some _, some _, none, none, none] _
  refine b_setC (own := [("_law_row", 2)]) xs some hC Z.calm (by decide +kernel) (sr_list (Hb := H) (by walk_at "ev") (sqL hp) Ex.rfl') gN_mon (fun Y b => pgN (b.ctx (M' := M50_0) (L' := L50_0) (G' := []) hC (by decide +kernel)) (by walk_at "mem")) rfl (by omega) (by decide +kernel) (by walk_at "set") (by walk_at "wipe") ?_ ?_
  · intro i x y Hc h1 h2 ex
    rw [h1] at h2
    cases h2
    refine g1_of (by walk_at "set") ⟨rfl, fun Y b => ?_⟩
    have hY := b.ctx (M' := M50_0) (L' := L50_0) (G' := []) hC (by decide +kernel)
    exact st_all (by walk_at "ev")
  · intro g H1 hg e1 h1
    rw [List.filterMap_some] at h1
    exact k g H1 hg e1 h1
theorem copy_hot {X : Cx} {n : Nat} (Z : Hd X (defScope (topS 50)) N50 M50 M50 G50 n) : CopyOk X := fun {p xs H f En} hp hl k => by
  have hC := Z.C
  show WB X _ _ [some _, some _, none, none, none] _
  have hset : ∀ v, SetAt N50 [some (V.ref p), some f, none, none, none] "_law_grid" v [some (V.ref p), some f, none, some v, none] := by walk_at "set"
  obtain ⟨i, h1, h2⟩ := SetAt.uni hC.nd hset
  have hl' : X.env.scope.names.lookup (Str.ofString "_law_grid") = some .local := by rw [hC.sc]; decide +kernel
  refine b_cons (ws_of (ps_setLcQ (i := i) (own := [("_law_row", 2)]) (g := gN N50 "_law_row") (tt := tsAll X _ []) (te := tAll X _ (.Name "_law_row" _)) Z.hot (hC.hN ▸ hC.nd) (hC.hN ▸ h1) hl' (sw_true (by rw [hC.sc]; rfl) hl' rfl (by decide +kernel)) (piq_list pe_we) (blk_ok hC (by decide +kernel)) (fun s H A cl fp => pgN (Blk.ctx ⟨s, H, A, cl, fp, rfl⟩ (M' := M50_0) (L' := L50_0) (G' := []) hC (by decide +kernel)) (by walk_at "mem")) (fun s H A cl fp => tsAll_ok ⟨s, H, A, cl, fp, rfl⟩) (fun s H A cl fp => tAll_ok ⟨s, H, A, cl, fp, rfl⟩) (fun _ => rfl)) ?_)
  refine lc_vals (X := X) (Bx := fun ys B => ys = xs ∧ B = H) (vs := [2]) xs some (fun H1 e1 R q => (show Ev X _ _ H1 (.ref p) from by walk_at "ev").go fun H2 e2 => ⟨p, rfl, ⟨xs, sqL ((e1.trans e2) _ _ hp)⟩, q _ H2 H xs e2 (e1.trans e2) ⟨rfl, rfl⟩ (wk_list (sqL hp))⟩) gN_mon (fun ys B h => by rw [h.1]) (by omega) (fun ys B h i x y Hc h1 h2 ex _ => ?_) H Ex.rfl' _ fun g H1 hg e1 h1 => ?_
  · obtain ⟨rfl, rfl⟩ := h
    rw [h1] at h2
    cases h2
    refine g1_of (σ := [some (V.ref p), some f, none, none, none]) (by walk_at "set") ⟨rfl, fun Y b => ?_⟩
    have hY := b.ctx (M' := M50_0) (L' := L50_0) (G' := []) hC (by decide +kernel)
    exact st_all (by walk_at "ev")
  · rw [List.filterMap_some] at h1
    show WB X _ _ (List.set _ i (some (V.ref g))) H1
    rw [← h2 (V.ref g)]
    exact k g H1 hg e1 h1
section
variable {P : Program} {w : World} {K : PySem.W.Frag} {mg : Str → Option Value} {base : Heap}
theorem df_passed (h : Has K mg "_law_passed" 50) (B : Bi mg) : Df P w K mg base CX0 1 "_law_passed" spPassed := by
  refine df_ok h B sc50 cb50 (fun _ _ _ _ _ _ us hl => match us, hl with | [_, _], _ => rfl) (fun vs H Q E ⟨v, w, d, e, _⟩ => by rw [e]; rfl) ?_
  rintro X rfl rfl rfl rfl rfl Z vs H Q E ⟨rv, rs, form, rfl, r, nt, hl, hf, q⟩
  exact passed_body Z.C Z.B Z.rng (copy_calm Z) r nt hl hf q
theorem df_passedH (h : Has K mg "_law_passed" 50) (B : Bi mg) : DfH P w K mg base 1 "_law_passed" spPassed := by
  refine df_okH h B sc50 cb50 (fun _ _ _ _ _ _ us hl => match us, hl with | [_, _], _ => rfl) (fun vs H Q E ⟨v, w, d, e, _⟩ => by rw [e]; rfl) ?_
  rintro X rfl rfl rfl rfl rfl Z vs H Q E ⟨rv, rs, form, rfl, r, nt, hl, hf, q⟩
  exact passed_body Z.C Z.B Z.rng (copy_hot Z) r nt hl hf q
end
end RC
/-! try: lot_of(..) except .. as e: a suite. -/
namespace RC
open PySem PySem.Spec PyProof.Rows L2 HotX L2H
/-- what the class of a caught exception says -/
structure XK2 (K : PySem.W.Frag) (mg : Str → Option Value) (C : Addr) (others : List Str) : Prop where
  e : ExcC K C
  x : XfC K C
  exm : PySem.W.exmOne K (.ref C) (.ref C) = some true
  ne : ∀ nm ∈ others, ∃ C2, mg nm = some (.ref C2) ∧ PySem.W.kitOne K (.ref C) (.ref C2) = some false
  rim : ∃ CR, mg (Str.ofString "RimError") = some (.ref CR) ∧ PySem.W.kitOne K (.ref C) (.ref CR) = some true
  ve : PySem.W.kitOne K (.ref C) (.type "ValueError") = some true
/-- an except suite's context -/
structure Su (X : Cx) (C a dx : Addr) (Y : Cx) : Prop where
  ex : ∃ (oe : Obj) (pn : List (Addr × Obj)), Y = X.suite a ((a, oe) :: pn) ∧ L2N.Zn (.ref C) (some dx) oe ∧ ∃ vs, oe.data = .fields vs
theorem bt_ve : bootBuiltins "ValueError" = some (.type "ValueError") := by decide +kernel
section
variable {X Y : Cx} {S : Scope} {N M Ls G : List Str} {n : Nat} {σ : St} {H H0 : Hp} {e : Expr} {C a dx : Addr} {fs : List (Str × V)} {f nm : Str} {v : V} {others : List Str} {pos pos2 pos3 : Pos} {En : Ends} {rest : List Stmt}
theorem Su.ctx (s : Su X C a dx Y) (Z : Sd X S N M Ls G n) : Hd Y S N M Ls G n := by
  obtain ⟨oe, pn, rfl, hz, vs, hv⟩ := s.ex
  refine ⟨⟨Z.C.hN, Z.C.sc, Z.C.nd, Z.C.vis, Z.C.loc, Z.C.gl, Z.C.dbg⟩, Z.B, ⟨(a, oe), ⟨rfl, vs, hv, hz.2.2 vs hv⟩, List.mem_cons_self⟩, PassesOwn.never, ?_⟩
  exact ⟨Z.room.dp, Z.room.un⟩
/-- isinstance(e, c), e the caught exception whose dict stands at dx -/
theorem ev_isE {c : Expr} {cv : V} {cu : Value} {b : Bool} (s : Su X C a dx Y) (C0 : Ctx Y S N M Ls G) (B : Bi Y.mg) (hg : ("isinstance" : Str) ∈ G) (k : ExcC X.K C) (he : Ev Y e σ H (.ref a)) (hc : Ev Y c σ H cv) (hcu : ∀ u, RelV cv u → u = cu) (hk : PySem.W.kitOne X.K (.ref C) cu = some b) (hd : H dx = some (.xd fs))
    (hs : starEach (e :: c :: []) Y.env = (false, eval e Y.env) :: starEach (c :: []) Y.env := by rfl) (hs2 : starEach (c :: []) Y.env = (false, eval c Y.env) :: starEach [] Y.env := by rfl) : Ev Y (.Call (.Name "isinstance" pos2) [e, c] [] pos) σ H (.bl b) := by
  obtain ⟨oe, pn, rfl, hz, vs, hv⟩ := s.ex
  have call : CallR (X.suite a ((a, oe) :: pn)) (.builtin "isinstance") (fun xs H Q => xs = [.ref a, cv] ∧ H dx = some (.xd fs) ∧ Q (.bl b) H) := fun pins s σ H xs us Q I r h => by
    obtain ⟨rfl, hdx, q⟩ := h
    obtain ⟨u1, u2, rfl, r1, r2⟩ := vals2 r
    obtain rfl : u1 = Value.ref a := r1
    obtain rfl := hcu u2 r2
    obtain ⟨hget, _⟩ := I.pin (a, oe) (List.mem_append.mpr (.inl List.mem_cons_self))
    have hx : ObjOk X.prog X.w H s.heap dx (.xd fs) := I.hok dx _ hdx
    obtain ⟨mA, hns, _⟩ := hx
    obtain ⟨od, ho, _⟩ := lookIn_ns hns
    have J : PySem.W.InstAt s.heap a oe C (some od) := ⟨hget, hz.1, by unfold PySem.W.notCls; rw [hv] <;> rfl, by rw [hz.2.1]; exact ho⟩
    exact PySem.W.kia_one (kitExc k) I.kIn J hk (fun z => nomatch z) fun tk => ⟨.bl b, H, I.kept (t' := tk) fun _ _ z => z, rfl, q⟩
  exact ev_callB C0 call hg B.isinstance bt_isinstance (av_cons he (av_cons hc av_nil hs2) hs) (fun H1 e1 Q q => ⟨rfl, e1 _ _ hd, q⟩) (by decide) (by decide) hs (by rw [hs2]; rfl)
/-- e.f -/
theorem ev_xf (s : Su X C a dx Y) (k : XfC X.K C) (hno : PySem.W.findIn X.K (.ref C) f = some none) (he : Ev Y e σ H (.ref a)) (hd : H dx = some (.xd fs)) (hl : fs.lookup f = some v) (hb : attributeBase e f Y.env (eval e Y.env) = eval e Y.env := by rfl) : Ev Y (.Attribute e f pos) σ H v := by
  obtain ⟨oe, pn, rfl, hz, hv⟩ := s.ex
  exact ev_pe (pe_xf (X := X) k hno hz.zc hv pe_we hb) fun H1 e1 Q q => he.run H1 e1 _ fun H2 e2 => ⟨rfl, rfl, dx, fs, v, rfl, e2 _ _ (e1 _ _ hd), hl, q H2 e2⟩
end
section
variable {X : Cx} {S : Scope} {N M Ls G : List Str} {n i : Nat} {σ : St} {H : Hp} {a b : Expr} {C CL CP CT CN : Addr} {nm en : Str} {xo : HO} {rv gv : V} {p1 p2 p3 p4 p5 p6 : Pos} {En : Ends} {rest suite : List Stmt} {b₀ : Stmt}
/-- try: lot_of(a, b) except nm as en: suite, where lot_of raises that -/
theorem b_tryLot (Z : Sd X S N M Ls G n) (hs : X.stack = X.env :: X.outer) (hf : X.env.frame = some X.env.locals) (dL : Df X.prog X.w X.K X.mg X.base (L2N.CX X.prog X.w) 6 "lot_of" (spLotOf CL CP CT CN)) (hr : 6 ≤ n) (hg : ("lot_of" : Str) ∈ G) (hgx : nm ∈ G) (hm : X.mg nm = some (.ref C)) (hdbg : (nm == ("__debug__" : Str)) = false)
    (hi : N[i]? = some en) (hln : S.names.lookup en = some .local) (exm : PySem.W.exmOne X.K (.ref C) (.ref C) = some true) (ha : ∀ Y, Ctx Y S N M Ls G → Ev Y a σ H rv ∧ Ev Y b σ H gv) (hst : ∀ env, starEach [a, b] env = (false, eval a env) :: starEach [b] env ∧ starEach [b] env = (false, eval b env) :: starEach [] env)
    (hout : ∀ (E : XK) (Q : VK) (H1 : Hp), Ex H H1 → (∀ dx H', Ex H H' → H' dx = some xo → E (.ref C) (some dx) H') → spLotOf CL CP CT CN [rv, gv] H1 Q E)
    (hsu : ∀ Y ad dx H', Su X C ad dx Y → Ex H H' → H' dx = some xo → WB Y (b₀ :: suite) { nx := fun σ' H' => WB X rest En (σ'.set i none) H', rt := En.rt, bk := fun σ' H' => En.bk (σ'.set i none) H', ct := fun σ' H' => En.ct (σ'.set i none) H' } (σ.set i (some (.ref ad))) H') :
    WB X (.Try [.Expr (.Call (.Name "lot_of" p1) [a, b] [] p2) p3] [.ExceptHandler (some (.Name nm p4)) (some en) (b₀ :: suite) p5] [] [] p6 :: rest) En σ H := by
  refine b_cons (ws_of (L2N.ps_try_as (i := i) (c := .ref C) (Wout := fun _ _ _ _ => False) (tb := fun W D σ H => ∀ (pn : List (Addr × Obj)) (xe : Value → Shared → Prop), L2N.Takes (X.tr pn xe) W → PassesOwn (model X.prog X.w) X.A X.env xe → WB (X.tr pn xe) [.Expr (.Call (.Name "lot_of" p1) [a, b] [] p2) p3] D σ H) (ts := fun ad cls d D σ H => ∀ (oe : Obj) (pn : List (Addr × Obj)), L2N.Zn cls d oe → (∃ vs, oe.data = .fields vs) → WB (X.suite ad ((ad, oe) :: pn)) (b₀ :: suite) D σ H)
    hs hf (Z.C.hN ▸ Z.C.nd) (Z.C.hN ▸ hi) (by show X.env.scope.names.lookup en = _; rw [Z.C.sc]; exact hln) ⟨Z.C.glo hgx, hdbg, .inl hm⟩ (fun u s' ⟨_, _, _, _, _, _, _, _, _, _, _, _, _, _, _, _, w⟩ => w.elim) (fun W pn xe tk po => ⟨fun pins s σ H D I h => (h pn xe tk po).run pins s I⟩) (fun ad oe cls d pn hz hv => ⟨fun pins s σ H D I h => (h oe pn hz hv).run pins s I⟩)) ?_)
  intro pn xe tk po
  have C' : Ctx (X.tr pn xe) S N M Ls G := ⟨Z.C.hN, Z.C.sc, Z.C.nd, Z.C.vis, Z.C.loc, Z.C.gl, Z.C.dbg⟩
  obtain ⟨h1, h2⟩ := ha _ C'
  have calE : CalE (X.tr pn xe) "lot_of" (spLotOf CL CP CT CN) _ := Df.calE (X := X.tr pn xe) dL tk Z.room hr
  refine b_drop (we_callE C' calE hg ((av_cons h1 (av_cons h2 av_nil (hst _).2) (hst _).1).go fun H1 e1 => hout _ _ H1 e1 fun dx H' e' hdx => ⟨true, exm, fun _ ad had oe pn2 hz hv => ?_, fun z => Bool.noConfusion z⟩) (hst _).1 (by rw [(hst _).2]; rfl))
  exact hsu _ ad dx H' ⟨oe, pn2, rfl, hz, hv⟩ e' hdx
end
end RC
/-! _law_refused, _law_no_lot, _law_bad_pins -/
namespace RC
open PySem PySem.Spec PyProof.Rows L2 HotX L2H
section
variable {X : Cx} {S : Scope} {N M Ls G : List Str} {n : Nat} {σ : St} {H H1 : Hp} {a b e : Expr} {d : D} {pos pos2 : Pos}
/-- evaluates to a datum -/
structure Em (X : Cx) (e : Expr) (σ : St) (H : Hp) (d : D) : Prop where
  run : ∀ H1, Ex H H1 → ∀ Q : VK, (∀ v H2, Ex H1 H2 → Rep H2 v d → Q v H2) → WE X e σ H1 Q
theorem em_er (h : Er X e σ H d) : Em X e σ H d := ⟨fun H1 e1 Q k => h.run H1 e1 Q fun v H2 e2 r => k v H2 e2 (r.mono nw_ex)⟩
theorem em_eh (h : Eh X e σ H d) : Em X e σ H d := ⟨fun H1 e1 Q k => by
  obtain ⟨v, hv, r⟩ := h.ex
  exact hv.run H1 e1 Q fun H2 e2 => k v H2 e2 (r.mono (e1.trans e2))⟩
theorem ev_same {m : Nat} (C : Ctx X S N M Ls G) (c : Cal X "_law_same" (spSame m)) (hg : ("_law_same" : Str) ∈ G) (h : Em X a σ H d) (h2 : Em X b σ H d) (hd : DepLe m d)
    (he : starEach (a :: b :: []) X.env = (false, eval a X.env) :: starEach (b :: []) X.env := by rfl) (he2 : starEach (b :: []) X.env = (false, eval b X.env) :: starEach [] X.env := by rfl) : Ev X (.Call (.Name "_law_same" pos2) [a, b] [] pos) σ H (.bl true) :=
  ⟨fun H1 e1 Q k => we_call C c hg (a_cons (h.run H1 e1 _ fun v H2 e2 r => a_cons (h2.run H2 (e1.trans e2) _ fun w H3 e3 r3 => a_nil ⟨v, w, d, rfl, r.mono e3, r3, hd, fun H4 e4 => k H4 ((e2.trans e3).trans e4)⟩) he2) he) he (by rw [he2]; rfl)⟩
end
section
variable {P : Program} {w : World} {K : PySem.W.Frag} {mg : Str → Option Value} {base : Heap} {nm : Str} {i n : Nat} {N ps M L G : List Str} {sp : Sp}
theorem df_okT (h : Has K mg nm i) (B : Bi mg) (sc : FnScope N ps (defScope (topS i))) (cb : ctxB (defScope (topS i)) (fun _ => true) N M L G = true)
    (bd : ∀ (kV doc pm : Value) (an : Option Addr) (cdv ct : Value) (us : List Value), us.length = ps.length → bindArgs (PySem.W.fnOf nm nm (defArgs (topS i)) (defBody (topS i)) (defScope (topS i)) .none kV doc pm an cdv ct) ⟨us, []⟩ = pure (ps.zip us))
    (len : ∀ vs H Q E, sp vs H Q E → vs.length = ps.length)
    (body : ∀ X : Cx, X.prog = P → X.w = w → X.K = K → X.mg = mg → X.base = base → Sd X (defScope (topS i)) N M L G n → X.stack = X.env :: X.outer → X.env.frame = some X.env.locals → ∀ vs H Q E, sp vs H Q E → WB X (defBody (topS i)) { nx := fun _ H' => Q .non H', rt := Q } (start N vs) H) : Df P w K mg base CX0 (n + 1) nm sp := by
  obtain ⟨f, fd, F, gm⟩ := h.ex
  exact ⟨f, fd, ps, F.ok sc len fun cdv A outer s H vs Q E hr hsp => ⟨_, PSs.nox (pb_wb), body _ rfl rfl rfl rfl rfl ⟨ctx_of cb rfl rfl (fun _ _ => rfl), B, rfl, PassesOwn.never, hr⟩ rfl rfl vs H Q E hsp⟩, gm, F.kp, F.bindsN bd⟩
end
theorem Su.cal {X Y : Cx} {C a dx : Addr} {S : Scope} {N M L G : List Str} {n k : Nat} {nm : Str} {sp : Sp} (s : Su X C a dx Y) (Z : Hd Y S N M L G n) (d : DfH X.prog X.w X.K X.mg X.base k nm sp) (hk : k ≤ n) (hd : (nm == ("__debug__" : Str)) = false := by decide) : Cal Y nm sp := by
  obtain ⟨oe, pn, rfl, _⟩ := s.ex
  exact DfH.cal (X := X.suite a ((a, oe) :: pn)) d Z.hot Z.room hk hd
theorem Su.mg {X Y : Cx} {C a dx : Addr} (s : Su X C a dx Y) : Y.mg = X.mg := by
  obtain ⟨oe, pn, rfl, _⟩ := s.ex
  rfl
/-- the two ifs at an except suite's head are passed -/
theorem b_kinds {X Y : Cx} {C a dx : Addr} {S : Scope} {N M L G : List Str} {n : Nat} {σ : St} {H : Hp} {fs : List (Str × V)} {o1 o2 o3 o4 : Str} {En : Ends} {rest body1 body2 : List Stmt} (s : Su X C a dx Y) (Z : Hd Y S N M L G n) (k : XK2 X.K X.mg C [o1, o2, o3, o4]) (hd : H dx = some (.xd fs))
    (hgi : ("isinstance" : Str) ∈ G) (h1 : o1 ∈ G) (h2 : o2 ∈ G) (h3 : o3 ∈ G) (h4 : o4 ∈ G) (hr : ("RimError" : Str) ∈ G) (hv : ("ValueError" : Str) ∈ G) (he : ∀ H' p, Ev Y (.Name "e" p) σ H' (.ref a)) (hdb : ∀ o ∈ [o1, o2, o3, o4], (o == ("__debug__" : Str)) = false) {p1 p2 p3 p4 p5 p6 p7 p8 p9 q1 q2 q3 q4 q5 q6 q7 q8 r1 r2 r3 r4 r5 r6 r7 r8 r9 r10 t1 t2 t3 : Pos}
    (q : ∀ H1, Ex H H1 → WB Y rest En σ H1) :
    WB Y (.If (.BoolOp .Or [.Call (.Name "isinstance" p1) [.Name "e" p2, .Name o1 p3] [] p4, .Call (.Name "isinstance" p5) [.Name "e" p6, .Name o2 p7] [] p8, .Call (.Name "isinstance" p9) [.Name "e" q1, .Name o3 q2] [] q3, .Call (.Name "isinstance" q4) [.Name "e" q5, .Name o4 q6] [] q7] q8) body1 [] r1 ::
      .If (.BoolOp .Or [.UnaryOp .Not (.Call (.Name "isinstance" r2) [.Name "e" r3, .Name "RimError" r4] [] r5) r6, .UnaryOp .Not (.Call (.Name "isinstance" r7) [.Name "e" r8, .Name "ValueError" r9] [] r10) t1] t2) body2 [] t3 :: rest) En σ H := by
  have hC := Z.C
  have own : ∀ {o : Str} {C2 : Addr} {H1 : Hp} {p : Pos}, o ∈ G → Y.mg o = some (.ref C2) → (o == ("__debug__" : Str)) = false → Ev Y (.Name o p) σ H1 (.ref C2) := fun h hm hdb => ev_pe (pe_glob (v := .ref _) (hC.glo h) hm rfl hdb) fun H1 _ Q k => k H1 Ex.rfl'
  have no : ∀ {o : Str} {H1 : Hp} {p p' p'' p3 : Pos}, Ex H H1 → o ∈ G → o ∈ [o1, o2, o3, o4] → Ev Y (.Call (.Name "isinstance" p) [.Name "e" p', .Name o p''] [] p3) σ H1 (.bl false) := fun e h hm => by
    obtain ⟨C2, m2, k2⟩ := k.ne _ hm
    exact ev_isE s hC Z.B hgi k.e (he _ _) (own h (s.mg ▸ m2) (hdb _ hm)) (fun u hu => hu) k2 (e _ _ hd)
  refine b_no (tv_w (tw_or (t := false) (u := false) (tv_val (no Ex.rfl' h1 (by simp))) fun _ => tw_or (t := false) (u := false) (tv_val (no Ex.rfl' h2 (by simp))) fun _ => tw_or (t := false) (u := false) (tv_val (no Ex.rfl' h3 (by simp))) fun _ => tw_or1 (tv_val (no Ex.rfl' h4 (by simp))))) fun H1 e1 => ?_
  obtain ⟨CR, mR, kR⟩ := k.rim
  refine b_no (tv_w (tw_or (t := false) (u := false) (tv_not (t := true) (tv_val (ev_isE s hC Z.B hgi k.e (he _ _) (own hr (s.mg ▸ mR) (by decide)) (fun u hu => hu) kR (e1 _ _ hd)))) fun _ => tw_or1 (tv_not (t := true) (tv_val (ev_isE s hC Z.B hgi k.e (he _ _) (ev_ty (T := "ValueError") hC hv Z.B.ve bt_ve) (fun u hu => hu) k.ve (e1 _ _ hd)))))) fun H2 e2 => ?_
  exact q H2 (e1.trans e2)
section
variable {P : Program} {w : World} {K : PySem.W.Frag} {mg : Str → Option Value} {base : Heap} {C CP CT CN : Addr}
def spRefused : Sp := fun vs H Q _ => ∃ (r : Nat) (gv kv pv : V) (gd : D) (i j : Nat), vs = [.int r, gv, kv, pv] ∧ r ≤ 100 ∧ Rep H gv gd ∧ Rep H kv gd ∧ DepLe 5 gd ∧ lotOut (.int r) gd = .table i j ∧ Rep H pv (.tup ([(i : Int), (j : Int)].map D.int)) ∧ ∀ H', Ex H H' → Q (.bl true) H'
theorem df_refused (h : Has K mg "_law_refused" 51) (B : Bi mg) (dL : Df P w K mg base (L2N.CX P w) 6 "lot_of" (spLotOf C CP CT CN)) (dS : ∀ n, DfH P w K mg base (n + 2) "_law_same" (spSame n)) (hm : mg "BadTable" = some (.ref CT)) (k : XK2 K mg CT ["NoLot", "BadPins", "BadCord", "BadNumber"]) (hno : ∀ f ∈ (["row", "column"] : List Str), PySem.W.findIn K (.ref CT) f = some none) : Df P w K mg base CX0 9 "_law_refused" spRefused := by
  refine df_okT h B sc51 cb51 (fun _ _ _ _ _ _ us hl => match us, hl with | [_, _, _, _], _ => rfl) (fun vs H Q E ⟨_, _, _, _, _, _, _, e, _⟩ => by rw [e]; rfl) ?_
  rintro X rfl rfl rfl rfl rfl Z hs hf vs H Q E ⟨r, gv, kv, pv, gd, i, j, rfl, hr, rg, rk, hdep, hout, rp, q⟩
  have hC := Z.C
  show WB X _ _ [some _, some _, some _, some _, none] _
  refine b_tryLot (i := 4) (xo := xdT i j) (rv := .int (r : Int)) (gv := gv) Z hs hf dL (by decide) (by walk_at "mem") (by walk_at "mem") hm (by decide) rfl (by decide +kernel) k.exm (fun Y hY => ⟨by walk_at "ev", by walk_at "ev"⟩) (fun env => ⟨rfl, rfl⟩) (fun E Q H1 e1 hE => ⟨.int r, .int r, gv, gd, rfl, .int _, rg.mono e1, fun p hp => (by cases hp; omega), fun z => (by rw [hout] at z; cases z), fun i' j' z dx H' e' hd => (by rw [hout] at z; cases z; exact hE dx H' (e1.trans e') hd), fun t z => (by rw [hout] at z; cases z), fun r L z => (by rw [hout] at z; cases z)⟩) fun Y ad dx H1 su e1 hd => ?_
  have ZY := su.ctx Z
  have hY := ZY.C
  show WB Y _ _ [some (.int (r : Int)), some gv, some kv, some pv, some (.ref ad)] H1
  refine b_kinds (C := CT) su ZY k hd (by walk_at "mem") (by walk_at "mem") (by walk_at "mem") (by walk_at "mem") (by walk_at "mem") (by walk_at "mem") (by walk_at "mem") (fun H' p => by walk_at "ev") (by decide) fun H2 e2 => ?_
  have hd2 := e2 _ _ hd
  refine b_ret ((ev_and (t := true) (u := true) (ev_same hY (su.cal ZY (dS 1) (by decide)) (by walk_at "mem") (em_er (er_tup (ns := [(i : Int), (j : Int)]) (av_cons (ev_xf su k.x (hno _ (by walk_at "mem")) (by walk_at "ev") hd2 rfl) (av_cons (ev_xf su k.x (hno _ (by walk_at "mem")) (by walk_at "ev") hd2 rfl) av_nil)))) (em_eh (eh_ev (by walk_at "ev") (rp.mono (e1.trans e2)))) (dep_ints.mpr (by simp))) fun _ => ev_one (ev_same hY (su.cal ZY (dS 5) (by decide)) (by walk_at "mem") (em_eh (eh_ev (by walk_at "ev") (rg.mono (e1.trans e2)))) (em_eh (eh_ev (by walk_at "ev") (rk.mono (e1.trans e2)))) hdep)).go fun H3 e3 => q H3 ((e1.trans e2).trans e3))
def spNoLot : Sp := fun vs H Q _ => ∃ (r : Nat) (rv : V) (rs : List D) (form : Nat) (dv : V) (t : T3), vs = [.int r, rv, .int form, dv] ∧ r ≤ 100 ∧ Rep H rv (.lst rs) ∧ NoTup rs ∧ rs.length < 10000 ∧ form < 1000 ∧ DepLe 5 (passD rs form) ∧ lotOut (.int r) (passD rs form) = .nolot t ∧ Rep H dv (t3D t) ∧ ∀ H', Ex H H' → Q (.bl true) H'
theorem em_call {X : Cx} {S : Scope} {N M Ls G : List Str} {σ : St} {H : Hp} {nm : Str} {sp : Sp} {e : Expr} {es : List Expr} {vs : List V} {d : D} {pos pos2 : Pos} (C : Ctx X S N M Ls G) (c : Cal X nm sp) (hg : nm ∈ G) (h : Av X (e :: es) σ H vs) (q : ∀ H1, Ex H H1 → ∀ Q : VK, (∀ v H2, Ex H1 H2 → Rep H2 v d → Q v H2) → sp vs H1 Q E0)
    (he : starEach (e :: es) X.env = (false, eval e X.env) :: starEach es X.env := by rfl) (hp : (backTo pos (starEach es X.env)).any (·.1) = false := by rfl) : Em X (.Call (.Name nm pos2) (e :: es) [] pos) σ H d :=
  ⟨fun H1 e1 Q k => we_call C c hg (h.run H1 e1 _ fun H2 e2 => q H2 (e1.trans e2) Q fun v H3 e3 r => k v H3 (e2.trans e3) r) he hp⟩
theorem df_nolot (h : Has K mg "_law_no_lot" 52) (B : Bi mg) (dL : Df P w K mg base (L2N.CX P w) 6 "lot_of" (spLotOf C CP CT CN)) (dP : Df P w K mg base CX0 1 "_law_passed" spPassed) (dPH : DfH P w K mg base 1 "_law_passed" spPassed) (dS : ∀ n, DfH P w K mg base (n + 2) "_law_same" (spSame n)) (hm : mg "NoLot" = some (.ref CN)) (k : XK2 K mg CN ["BadTable", "BadPins", "BadCord", "BadNumber"]) (hno : ∀ f ∈ (["a", "b", "twice"] : List Str), PySem.W.findIn K (.ref CN) f = some none) : Df P w K mg base CX0 9 "_law_no_lot" spNoLot := by
  refine df_okT h B sc52 cb52 (fun _ _ _ _ _ _ us hl => match us, hl with | [_, _, _, _], _ => rfl) (fun vs H Q E ⟨_, _, _, _, _, _, e, _⟩ => by rw [e]; rfl) ?_
  rintro X rfl rfl rfl rfl rfl Z hs hf vs H Q E ⟨r, rv, rs, form, dv, t, rfl, hr, rr, hnt, hrl, hfm, hdep, hout, rd, q⟩
  have hC := Z.C
  show WB X _ _ [some _, some _, some _, some _, none, none] _
  refine b_set hC (by walk_at "mem") (by walk_at "set") ((em_call (d := passD rs form) hC (Z.cal dP) (by walk_at "mem") (av_cons (by walk_at "ev") (av_cons (by walk_at "ev") av_nil)) fun H1 e1 Q kk => ⟨rv, rs, form, rfl, rr.mono e1, hnt, hrl, hfm, fun v' H'' e'' r'' _ => kk v' H'' e'' r''⟩).run H Ex.rfl' _ fun gv H0 e0 rg => ?_)
  refine b_tryLot (i := 5) (xo := xdN t) (rv := .int (r : Int)) (gv := gv) Z hs hf dL (by decide) (by walk_at "mem") (by walk_at "mem") hm (by decide) rfl (by decide +kernel) k.exm (fun Y hY => ⟨by walk_at "ev", by walk_at "ev"⟩) (fun env => ⟨rfl, rfl⟩) (fun E Q H1 e1 hE => ⟨.int r, .int r, gv, _, rfl, .int _, rg.mono e1, fun p hp => (by cases hp; omega), fun z => (by rw [hout] at z; cases z), fun i' j' z => (by rw [hout] at z; cases z), fun t' z dx H' e' hd => (by rw [hout] at z; cases z; exact hE dx H' (e1.trans e') hd), fun r L z => (by rw [hout] at z; cases z)⟩) fun Y ad dx H1 su e1 hd => ?_
  have ZY := su.ctx Z
  have hY := ZY.C
  show WB Y _ _ [some (.int (r : Int)), some rv, some (.int (form : Int)), some dv, some gv, some (.ref ad)] H1
  refine b_kinds (C := CN) su ZY k hd (by walk_at "mem") (by walk_at "mem") (by walk_at "mem") (by walk_at "mem") (by walk_at "mem") (by walk_at "mem") (by walk_at "mem") (fun H' p => by walk_at "ev") (by decide) fun H2 e2 => ?_
  have hd2 := e2 _ _ hd
  have e02 := e0.trans (e1.trans e2)
  refine b_ret ((ev_and (t := true) (u := true) (ev_same hY (su.cal ZY (dS 1) (by decide)) (by walk_at "mem") (em_er (er_tup (ns := [t.1, t.2.1, t.2.2]) (av_cons (ev_xf su k.x (hno _ (by walk_at "mem")) (by walk_at "ev") hd2 rfl) (av_cons (ev_xf su k.x (hno _ (by walk_at "mem")) (by walk_at "ev") hd2 rfl) (av_cons (ev_xf su k.x (hno _ (by walk_at "mem")) (by walk_at "ev") hd2 rfl) av_nil))))) (em_eh (eh_ev (by walk_at "ev") (rd.mono e02))) (dep_ints.mpr (by simp))) fun _ => ev_one (ev_same hY (su.cal ZY (dS 5) (by decide)) (by walk_at "mem") (em_eh (eh_ev (by walk_at "ev") (rg.mono (e1.trans e2)))) (em_call hY (su.cal ZY dPH (by decide)) (by walk_at "mem") (av_cons (by walk_at "ev") (av_cons (by walk_at "ev") av_nil)) fun H3 e3 Q kk => ⟨rv, rs, form, rfl, rr.mono (e02.trans e3), hnt, hrl, hfm, fun v' H'' e'' r'' _ => kk v' H'' e'' r''⟩) hdep)).go fun H3 e3 => q H3 (e02.trans e3))
def spBadPins : Sp := fun vs H Q _ => ∃ (pv : V) (pd : D) (rv : V) (rs : List D), vs = [pv, rv] ∧ Rep H pv pd ∧ DepLe 5 pd ∧ (∀ p, pd = .int p → p < 0) ∧ Rep H rv (.lst rs) ∧ NoTup rs ∧ rs.length < 10000 ∧ DepLe 5 (passD rs 0) ∧ ∀ H', Ex H H' → Q (.bl true) H'
theorem df_badpins (h : Has K mg "_law_bad_pins" 53) (B : Bi mg) (dL : Df P w K mg base (L2N.CX P w) 6 "lot_of" (spLotOf C CP CT CN)) (dP : Df P w K mg base CX0 1 "_law_passed" spPassed) (dPH : DfH P w K mg base 1 "_law_passed" spPassed) (dS : ∀ n, DfH P w K mg base (n + 2) "_law_same" (spSame n)) (hm : mg "BadPins" = some (.ref CP)) (k : XK2 K mg CP ["BadTable", "NoLot", "BadCord", "BadNumber"]) (hno : ∀ f ∈ (["pins"] : List Str), PySem.W.findIn K (.ref CP) f = some none) : Df P w K mg base CX0 9 "_law_bad_pins" spBadPins := by
  refine df_okT h B sc53 cb53 (fun _ _ _ _ _ _ us hl => match us, hl with | [_, _], _ => rfl) (fun vs H Q E ⟨_, _, _, _, e, _⟩ => by rw [e]; rfl) ?_
  rintro X rfl rfl rfl rfl rfl Z hs hf vs H Q E ⟨pv, pd, rv, rs, rfl, rp, hdp, hneg, rr, hnt, hrl, hdep, q⟩
  have hC := Z.C
  show WB X _ _ [some _, some _, none, none] _
  have hout : lotOut pd (passD rs 0) = .pins := by
    unfold lotOut
    cases pd <;> first | rfl | skip
    rename_i p
    exact if_pos (hneg p rfl)
  refine b_set hC (by walk_at "mem") (by walk_at "set") ((em_call (d := passD rs 0) hC (Z.cal dP) (by walk_at "mem") (av_cons (by walk_at "ev") (av_cons ev_int av_nil)) fun H1 e1 Q kk => ⟨rv, rs, 0, rfl, rr.mono e1, hnt, hrl, by decide, fun v' H'' e'' r'' _ => kk v' H'' e'' r''⟩).run H Ex.rfl' _ fun gv H0 e0 rg => ?_)
  have rp0 := rp.mono e0
  refine b_tryLot (i := 3) (xo := xdP pv) (rv := pv) (gv := gv) Z hs hf dL (by decide) (by walk_at "mem") (by walk_at "mem") hm (by decide) rfl (by decide +kernel) k.exm (fun Y hY => ⟨by walk_at "ev", by walk_at "ev"⟩) (fun env => ⟨rfl, rfl⟩) (fun E Q H1 e1 hE => ⟨pv, pd, gv, _, rfl, rp0.mono e1, rg.mono e1, fun p hp => (by have := hneg p hp; omega), fun _ dx H' e' hd => hE dx H' (e1.trans e') hd, fun i' j' z => (by rw [hout] at z; cases z), fun t' z => (by rw [hout] at z; cases z), fun r L z => (by rw [hout] at z; cases z)⟩) fun Y ad dx H1 su e1 hd => ?_
  have ZY := su.ctx Z
  have hY := ZY.C
  show WB Y _ _ [some pv, some rv, some gv, some (.ref ad)] H1
  refine b_kinds (C := CP) su ZY k hd (by walk_at "mem") (by walk_at "mem") (by walk_at "mem") (by walk_at "mem") (by walk_at "mem") (by walk_at "mem") (by walk_at "mem") (fun H' p => by walk_at "ev") (by decide) fun H2 e2 => ?_
  have hd2 := e2 _ _ hd
  have e12 := e1.trans e2
  refine b_ret ((ev_and (t := true) (u := true) (ev_same hY (su.cal ZY (dS 5) (by decide)) (by walk_at "mem") (em_eh (eh_ev (ev_xf su k.x (hno _ (by walk_at "mem")) (by walk_at "ev") hd2 rfl) (rp0.mono e12))) (em_eh (eh_ev (by walk_at "ev") (rp0.mono e12))) hdp) fun _ => ev_one (ev_same hY (su.cal ZY (dS 5) (by decide)) (by walk_at "mem") (em_eh (eh_ev (by walk_at "ev") (rg.mono e12))) (em_call hY (su.cal ZY dPH (by decide)) (by walk_at "mem") (av_cons (by walk_at "ev") (av_cons ev_int av_nil)) fun H3 e3 Q kk => ⟨rv, rs, 0, rfl, rr.mono ((e0.trans e12).trans e3), hnt, hrl, by decide, fun v' H'' e'' r'' _ => kk v' H'' e'' r''⟩) hdep)).go fun H3 e3 => q H3 ((e0.trans e12).trans e3))
end
end RC
/-! _law_normal -/
namespace RC
open PySem PySem.Spec PyProof.Rows L2
section
variable {X : Cx} {S : Scope} {N M Ls G : List Str} {σ : St} {H : Hp} {a b c d : Expr} {i j k l : Int} {pos : Pos} {v : V}
/-- a <= b < c < d, of ints, true, as a test -/
theorem tv_ch3 (ha : Ev X a σ H (.int i)) (hb : Ev X b σ H (.int j)) (hc : Ev X c σ H (.int k)) (hd : Ev X d σ H (.int l)) (h1 : i ≤ j) (h2 : j < k) (h3 : k < l) (hm : lastMarks [.LtE, .Lt, .Lt] [b, c, d] = false := by with_unfolding_all rfl) : Tv X (.Compare a [.LtE, .Lt, .Lt] [b, c, d] pos) σ H true :=
  ⟨fun H1 e1 Q q => ⟨fun pins s I => by
    have key := fun {e : Expr} {z : Int} (he : Ev X e σ H (.int z)) (H2 : Hp) (e2 : Ex H1 H2) => he.run H2 (e1.trans e2) (fun x Ha => x = .int z ∧ Ex H1 Ha) fun Ha ea => ⟨rfl, e2.trans ea⟩
    refine isTrue_chain (thn ((key ha H1 Ex.rfl').run pins s I) fun v1 s1 ⟨x1, Ha, Ia, r1, x1e, ea⟩ => test_link (thn ((key hb Ha ea).run pins s1 Ia) fun v2 s2 ⟨x2, Hb, Ib, r2, x2e, eb⟩ =>
      thn (op_le (X := X) pins s2 σ Hb (.int i) (.int j) v1 v2 (fun z H' => z = .bl true ∧ Ex H1 H') Ib (x1e ▸ r1) (x2e ▸ r2) ⟨i, j, rfl, rfl, ⟨congrArg V.bl (decide_eq_true h1), eb⟩⟩) fun w1 s3 ⟨z1, Hc, Ic, q1, z1e, ec⟩ => ?_)) hm
    subst z1e
    cases q1
    refine wpAny_truthy_bool (ite_tt (test_link (thn ((key hc Hc ec).run pins s3 Ic) fun v3 s4 ⟨x3, Hd, Id, r3, x3e, ed⟩ =>
      thn (op_lt (X := X) pins s4 σ Hd (.int j) (.int k) v2 v3 (fun z H' => z = .bl true ∧ Ex H1 H') Id (x2e ▸ r2) (x3e ▸ r3) ⟨j, k, rfl, rfl, ⟨congrArg V.bl (decide_eq_true h2), ed⟩⟩) fun w2 s5 ⟨z2, He, Ie, q2, z2e, ee⟩ => ?_)))
    subst z2e
    cases q2
    refine wpAny_truthy_bool (ite_tt (test_last (thn ((key hd He ee).run pins s5 Ie) fun v4 s6 ⟨x4, Hf, If, r4, x4e, ef⟩ =>
      thn (op_lt (X := X) pins s6 σ Hf (.int k) (.int l) v3 v4 (fun z H' => z = .bl true ∧ Ex H1 H') If (x3e ▸ r3) (x4e ▸ r4) ⟨k, l, rfl, rfl, ⟨congrArg V.bl (decide_eq_true h3), ef⟩⟩) fun w3 s7 ⟨z3, Hg, Ig, q3, z3e, eg⟩ => ?_)))
    subst z3e
    cases q3
    exact wpAny_truthy_bool ⟨Hg, Ig, q Hg eg⟩⟩⟩
/-- a < b, pairs of ints -/
theorem cv_ltP {p : Addr} {ns ms : List Int} {t : Bool} (hu : X.A.units < cLine) (ha : Ev X a σ H (.ref p)) (hp : H p = some (.tup (ns.map V.int))) (hb : Eo X b σ H (.tup (ms.map V.int))) (ht : HT.lexLt ns ms = t) : Cv X .Lt a b σ H t :=
  ⟨_, op_ltT hu, nomark _, fun H1 e1 Q k => ha.run H1 e1 _ fun H2 e2 => hb.run H2 (e1.trans e2) _ fun q H3 hq e3 h3 => ⟨p, q, ns, ms, rfl, rfl, sqT ((e1.trans (e2.trans e3)) _ _ hp), sqT h3, by rw [ht]; exact k H3 (e2.trans e3)⟩⟩
end
section
variable {P : Program} {w : World} {K : PySem.W.Frag} {mg : Str → Option Value} {base : Heap} {C : Addr}
def spNormal (C : Addr) : Sp := fun vs H Q _ => ∃ (lv : V) (r : Nat) (L : List T3), vs = [lv, .int r] ∧ LotAt C H lv r L ∧ Nf r L ∧ L.length < 100000 ∧ ∀ H', Ex H H' → Q (.bl true) H'
theorem lex_pair {a b c d : Int} (h : a < c ∨ (a = c ∧ b < d)) : HT.lexLt [a, b] [c, d] = true := by
  rw [HT.lexLt_cons]
  rcases h with h | ⟨h, h2⟩
  · rw [if_neg (by omega)]
    exact decide_eq_true h
  · rw [if_pos h, HT.lexLt_cons, if_neg (by omega)]
    exact decide_eq_true h2
theorem df_normal (h : Has K mg "_law_normal" 54) (B : Bi mg) (k : LotK K mg C) (dW : Df P w K mg base CX0 1 "_law_whole" spWhole) (dS : ∀ n, Df P w K mg base CX0 (n + 2) "_law_same" (spSame n)) : Df P w K mg base CX0 5 "_law_normal" (spNormal C) := by
  refine df_ok h B sc54 cb54 (fun _ _ _ _ _ _ us hl => match us, hl with | [_, _], _ => rfl) (fun vs H Q E ⟨v, r, L, e, _⟩ => by rw [e]; rfl) ?_
  rintro X rfl rfl rfl rfl rfl Z vs H Q E ⟨lv, r, L, rfl, l, hn, hl, q⟩
  have hC := Z.C
  show WB X _ _ [some _, some _, none, none] _
  refine b_no (tv_w (tw_or (t := false) (u := false) (tv_not (t := true) (tv_val (ev_call2 hC (Z.cal (dS 0)) (by walk_at "mem") (eh_int (ev_pins k (by walk_at "ev") l)) (eh_int (by walk_at "ev")) fun v w H1 e1 r1 r2 Q kk => ⟨v, w, .int r, rfl, r1, r2, rfl, kk⟩))) fun _ => tw_or1 (tv_not (t := true) (tv_val ((eh_isTup hC Z.B (by walk_at "mem") (by walk_at "mem") (eh_cords k (by walk_at "ev") l)).is rfl))))) fun H1 e1 => ?_
  have l1 := l.mono e1
  refine b_set hC (by walk_at "mem") (by walk_at "set") ((eo_tup (vs := [.int (-1), .int (-1)]) (av_cons ((ev_neg ev_int).is rfl) (av_cons ((ev_neg ev_int).is rfl) av_nil))).go fun b0 H2 hb0 e2 h2 => ?_)
  have l2 := l1.mono e2
  obtain ⟨x, dx, fs, cv, rfl, k2, k3, k4, k5, rc⟩ := id l2
  refine b_eachD Z (pgN hC (by walk_at "mem")) (ev_cords k (by walk_at "ev") k2 k4) rc Ex.rfl' rfl (fun i σ' H' => ∃ bq oe c d, σ' = [some (.ref x), some (.int (r : Int)), some (.ref bq), oe] ∧ Ex H2 H' ∧ H' bq = some (.tup [.int c, .int d]) ∧ (i = 0 → c = -1 ∧ d = -1) ∧ ∀ j t, i = j + 1 → L[j]? = some t → c = t.1 ∧ d = t.2.1) (fun H3 e3 => ⟨b0, _, -1, -1, rfl, e3, e3 _ _ h2, fun _ => ⟨rfl, rfl⟩, fun j t h => by omega⟩) (fun i σ' H' ⟨_, _, _, _, _, e, _⟩ => e) ?_ ?_
  · rintro i xe dxe σ' H3 hi rx ⟨bq, oe, c, d, rfl, e3, hb, hz, hs⟩
    rw [List.getElem?_map] at hi
    obtain ⟨t, ht, rfl⟩ := Option.map_eq_some_iff.mp hi
    obtain ⟨u, rfl, hu⟩ := t3_inv rx
    have hu3 := e3 _ _ hu
    obtain ⟨n1, n2, n3, n4⟩ := hn.inr t (List.mem_of_getElem? ht)
    have lt : HT.lexLt [c, d] [t.1, t.2.1] = true := by
      cases i with
      | zero =>
        obtain ⟨rfl, rfl⟩ := hz rfl
        exact lex_pair (.inl (by omega))
      | succ j =>
        have hj : j < L.length := by have := (List.getElem?_eq_some_iff.mp ht).1; omega
        have hjt := List.getElem?_eq_getElem hj
        obtain ⟨rfl, rfl⟩ := hs j _ rfl hjt
        have pw := List.pairwise_iff_getElem.mp hn.asc j (j + 1) hj (List.getElem?_eq_some_iff.mp ht).1 (by omega)
        rw [(List.getElem?_eq_some_iff.mp ht).2] at pw
        exact lex_pair pw
    have eE : ∀ {H4 : Hp} {e : Expr} {σ : St}, Ex H3 H4 → Ev X e σ H4 (.ref u) → Eh X e σ H4 (t3D t) := fun e4 he => eh_ev he (.tup (e4 _ _ hu3) (RepL.ints (ns := [t.1, t.2.1, t.2.2])))
    have wh : ∀ {H4 : Hp} {e : Expr} {σ : St} {z : Int} {p1 p2 : Pos}, Ev X e σ H4 (.int z) → starEach [e] X.env = (false, eval e X.env) :: starEach [] X.env → Ev X (.Call (.Name "_law_whole" p1) [e] [] p2) σ H4 (.bl true) := fun {H4 e σ z p1 p2} he hst => ev_call hC (Z.cal dW) (by walk_at "mem") (av_cons he av_nil hst) (fun H1 e1 Q k => ⟨_, .int z, rfl, .int z, k⟩) hst rfl
    refine g1_of (by walk_at "set") ?_
    refine b_no (tv_w (tw_or (t := false) (u := false) (tv_not (t := true) (tv_val ((eh_isTup hC Z.B (by walk_at "mem") (by walk_at "mem") (eE Ex.rfl' (by walk_at "ev"))).is rfl))) fun _ => tw_or1 ((tv_c (cv_neI (eh_len hC Z.B (by walk_at "mem") (eE Ex.rfl' (by walk_at "ev")) rfl) ev_int)).is rfl))) fun H4 e4 => ?_
    have hu4 := e4 _ _ hu3
    refine b_no (tv_w (tw_or (t := false) (u := false) (tv_not (t := true) (tv_val (wh (ev_tI (by walk_at "ev") hu4) rfl))) fun _ => tw_or (t := false) (u := false) (tv_not (t := true) (tv_val (wh (ev_tI (by walk_at "ev") hu4) rfl))) fun _ => tw_or1 (tv_not (t := true) (tv_val (wh (ev_tI (by walk_at "ev") hu4) rfl))))) fun H5 e5 => ?_
    have hu5 := e5 _ _ hu4
    have hb5 := e5 _ _ (e4 _ _ hb)
    refine b_no (tv_w (tw_or (t := false) (u := false) (tv_not (t := true) (tv_c (cv_ltP (ns := [c, d]) (ms := [t.1, t.2.1]) Z.room.units0 (by walk_at "ev") hb5 (eo_tup (av_cons (ev_tI (by walk_at "ev") hu5) (av_cons (ev_tI (by walk_at "ev") hu5) av_nil))) lt))) fun _ => tw_or (t := false) (u := false) (tv_not (t := true) (tv_ch3 ev_int (ev_tI (by walk_at "ev") hu5) (ev_tI (by walk_at "ev") hu5) (by walk_at "ev") n1 n2 n3)) fun _ => tw_or1 ((tv_c (cv_lt (ev_tI (by walk_at "ev") hu5) ev_int)).is (by simp; omega)))) fun H6 e6 => ?_
    have hu6 := e6 _ _ hu5
    refine b_set hC (by walk_at "mem") (by walk_at "set") ((eo_tup (vs := [.int t.1, .int t.2.1]) (av_cons (ev_tI (by walk_at "ev") hu6) (av_cons (ev_tI (by walk_at "ev") hu6) av_nil))).go fun b1 H7 hb1 e7 h7 => b_nil ⟨b1, _, t.1, t.2.1, rfl, e3.trans (e4.trans (e5.trans (e6.trans e7))), h7, fun h => by omega, fun j t' hj ht' => ?_⟩)
    obtain rfl : i = j := by omega
    rw [ht] at ht'
    cases ht'
    exact ⟨rfl, rfl⟩
  · rintro σ' H3 ⟨bq, oe, c, d, rfl, e3, _⟩
    exact b_ret (ev_bl.go fun H4 e4 => q H4 (e1.trans (e2.trans (e3.trans e4))))
end
end RC
/-! What one asks of a lot; heaps of which lists were changed. -/
namespace RC
open PySem PySem.Spec PyProof.Rows L2
/-- all but lists stands -/
def ExN (H H' : Hp) : Prop := ∀ a o, H a = some o → (∀ xs, o ≠ .lst xs) → H' a = some o
theorem Ex.n {H H' : Hp} (e : Ex H H') : ExN H H' := fun a o h _ => e a o h
theorem ExN.trans {H H1 H2 : Hp} (a : ExN H H1) (b : ExN H1 H2) : ExN H H2 := fun x o h n => b x o (a x o h n) n
theorem ExN.mut {H H' : Hp} {p : Addr} {xs ys : List V} (e : ExN H H') (h : H' p = some (.lst xs)) : ExN H (upd H' p (.lst ys)) := fun a o ha n => by
  have h' := e a o ha n
  have : a ≠ p := fun z => by rw [z, h] at h'; exact n xs (Option.some.inj h').symm
  rw [upd_ne this]
  exact h'
theorem Rep.exn {H H' : Hp} {v : V} {ll : List (List Int)} (r : Rep H v (ttD ll)) (e : ExN H H') : Rep H' v (ttD ll) := by
  obtain ⟨a, xs, rfl, h, rx⟩ := Rep.tup_inv (ds := ll.map fun l => D.tup (l.map D.int)) r
  refine .tup (e _ _ h fun _ z => nomatch z) (RepL.of rx.len fun i x d h1 h2 => ?_)
  obtain ⟨d', hd, q⟩ := rx.get h1
  rw [h2] at hd
  cases hd
  rw [List.getElem?_map] at h2
  obtain ⟨l, _, rfl⟩ := Option.map_eq_some_iff.mp h2
  obtain ⟨b, ys, rfl, hy, ry⟩ := q.tup_inv
  rw [ry.ints_inv] at hy
  exact .tup (e _ _ hy fun _ z => nomatch z) RepL.ints
theorem LotAt.exn {C : Addr} {H H' : Hp} {v : V} {r : Nat} {L : List T3} (l : LotAt C H v r L) (e : ExN H H') : LotAt C H' v r L := by
  obtain ⟨x, dx, fs, cv, rfl, h2, h3, h4, h5, h6⟩ := l
  refine ⟨x, dx, fs, cv, rfl, e _ _ h2 (fun _ z => nomatch z), h3, h4, h5, ?_⟩
  rw [crd_tt] at h6 ⊢
  exact h6.exn e
section
variable {X : Cx} {S : Scope} {N M G Ls : List Str} {n : Nat} {σ : St} {H : Hp} {e a b : Expr} {v : V} {C : Addr} {r : Nat} {L : List T3} {pos pos2 pos3 : Pos}
theorem er_table (Z : Sd X S N M Ls G n) (k : LotK X.K X.mg C) (lt : ∃ (p f : Addr) (fd : FuncData) (ps : List Str), PropOf X.K C "table" p f ∧ FnOk X.prog X.w X.K X.mg X.base CX0 3 f fd ps (spLTable C) ∧ Binds X.K fd ps []) (hr : 4 ≤ n) (he : Ev X e σ H v) (l : LotAt C H v r L) (hr2 : r ≤ 1000) (hl : L.length < 100000) (hb : attributeBase e "table" X.env (eval e X.env) = eval e X.env := by rfl) :
    Er X (.Attribute e "table" pos) σ H (rowsT (tabR (max r 1) L)) := by
  obtain ⟨p, f, fd, ps, pr, F, bd⟩ := lt
  refine ⟨fun H1 e1 Q q => we_of (pe_prop pe_we k.cls pr F (Z.room.mono hr) bd .nil pass0 hb) (he.run H1 e1 _ fun H2 e2 => ?_)⟩
  have l2 := l.mono (e1.trans e2)
  obtain ⟨x, dx, fs, cv, rfl, h2, h3, h4, h5, h6⟩ := id l2
  exact ⟨x, dx, fs, rfl, h2, _, r, L, rfl, l2, hr2, hl, fun w H3 e3 r3 => q w H3 (e2.trans e3) (r3.mono (nw_back e2))⟩
theorem ev_total (Z : Sd X S N M Ls G n) (k : LotK X.K X.mg C) (lt : ∃ (f : Addr) (fd : FuncData) (ps : List Str), Meth X.K C "total" f ∧ FnOk X.prog X.w X.K X.mg X.base CX0 1 f fd ps (spLTotal C) ∧ Binds X.K fd ps []) (hr : 1 ≤ n) {pl : Sem Bool} (he : Ev X e σ H v) (l : LotAt C H v r L) (hl : L.length < 100000)
    (ht : eval (.Call (.Attribute e "total" pos2) [] [] pos) X.env = (do
      let ov ← eval e X.env
      standAt pos2.atName
      let (f, first) ← holding [ov] (getMethod ov "total" pl)
      callWith pos f first (backTo pos (starEach [] X.env)) (backToKw pos (keywordEach [] X.env))) := by rfl) : Ev X (.Call (.Attribute e "total" pos2) [] [] pos) σ H (.int (L.map fun t => t.2.2).sum) := by
  obtain ⟨f, fd, ps, mt, F, bd⟩ := lt
  refine ⟨fun H1 e1 Q q => we_of (pe_meth0 (pl := pl) pe_we k.cls mt F (Z.room.mono hr) bd .nil (pass0 : Passes CX0 X E0) ht) (he.run H1 e1 _ fun H2 e2 => ?_)⟩
  have l2 := l.mono (e1.trans e2)
  obtain ⟨x, dx, fs, cv, rfl, h2, h3, h4, h5, h6⟩ := id l2
  exact ⟨x, dx, fs, rfl, h2, h5, _, r, L, rfl, l2, hl, fun H3 e3 => q H3 (e2.trans e3)⟩
/-- evaluates to a lot -/
structure El (X : Cx) (C : Addr) (e : Expr) (σ : St) (H : Hp) (r : Nat) (L : List T3) : Prop where
  run : ∀ H1, Ex H H1 → ∀ Q : VK, (∀ v H2, Ex H1 H2 → LotAt C H2 v r L → Q v H2) → WE X e σ H1 Q
theorem ev_eqLot (Z : Sd X S N M Ls G n) (le : ∃ (f : Addr) (fd : FuncData) (ps : List Str), PySem.W.findIn X.K (.ref C) "__eq__" = some (some (.ref f)) ∧ PySem.W.isFn X.K (.ref f) = true ∧ FnOk X.prog X.w X.K X.mg X.base CX0 1 f fd ps (spEq (LotEq C)) ∧ Binds X.K fd ps []) (hr : 1 ≤ n) (ha : Ev X a σ H v) (l : LotAt C H v r L) (hb : El X C b σ H r L) : Ev X (.Compare a [.Eq] [b] pos) σ H (.bl true) := by
  obtain ⟨f, fd, ps, h1, h2, F, bd⟩ := le
  have rc : RcG X 1 (DIns C (LotEq C)) := rcG_ins F h1 h2 bd (pass0 : Passes CX0 X E0)
  refine ⟨fun H1 e1 Q q => we_of (pe_cmpR (op_eqG rc (Z.room.mono hr)) pe_we pe_we (nomark _)) (ha.run H1 e1 _ fun H2 e2 => hb.run H2 (e1.trans e2) _ fun w H3 e3 lw => ?_)⟩
  have lv := l.mono (e1.trans (e2.trans e3))
  obtain ⟨x, dx, fs, cv, rfl, k2, _⟩ := id lv
  obtain ⟨y, dy, gs, cw, rfl, j2, _⟩ := id lw
  exact ⟨⟨x, y, dx, dy, fs, gs, rfl, rfl, k2, j2, r, L, lv, lw⟩, fun H' e' => q H' ((e2.trans e3).trans e')⟩
theorem tk_no : L2N.Takes X (fun _ _ _ _ => False) := fun u s' ⟨_, _, _, _, _, _, _, _, _, _, _, _, _, _, _, _, w⟩ => w.elim
end
end RC
/-! _law_found -/
namespace RC
open PySem PySem.Spec PyProof.Rows L2
theorem lst_noTup (T : List (List Int)) : NoTup (T.map lstD) := fun d hd => by
  obtain ⟨r, _, rfl⟩ := List.mem_map.mp hd
  rfl
theorem dep_lstD {r : List Int} (h : r.length < 100000) : DepLe 1 (lstD r) := fun ds hd => by
  cases hd
  refine ⟨by rw [List.length_map]; exact h, fun x hx => ?_⟩
  obtain ⟨z, _, rfl⟩ := List.mem_map.mp hx
  rfl
theorem dep_passRow {form k n : Nat} {d : D} (h : DepLe n d) : DepLe n (passRow form k d) := by
  cases d <;> first | exact h | skip
  rename_i es
  show DepLe n (if (form / 2 + k * (form / 4)) % 2 = 1 then .tup es else .lst es)
  by_cases c : (form / 2 + k * (form / 4)) % 2 = 1
  · rw [if_pos c]
    cases n with
    | zero => exact absurd (show (D.lst es).seq = none from h) (by simp [D.seq])
    | succ n => exact fun ds hd => by cases hd; exact h _ rfl
  · rw [if_neg c]
    exact h
theorem dep_passD {rs : List D} {form n : Nat} (hl : rs.length < 100000) (h : ∀ d ∈ rs, DepLe n d) : DepLe (n + 1) (passD rs form) := by
  have key : (rs.mapIdx (passRow form)).length < 100000 ∧ ∀ x ∈ rs.mapIdx (passRow form), DepLe n x := by
    refine ⟨by rw [List.length_mapIdx]; exact hl, fun x hx => ?_⟩
    obtain ⟨i, hi, e⟩ := List.getElem_of_mem hx
    rw [List.getElem_mapIdx] at e
    rw [← e]
    exact dep_passRow (h _ (List.getElem_mem _))
  unfold passD
  split <;> exact fun ds hd => by cases hd; exact key
/-- rows of ints, new lists or tuples, none empty -/
def GRow (H0 H : Hp) (gvs : List V) : Prop := ∀ (i : Nat) (v : V), gvs[i]? = some v → ∃ ns : List Int, ns ≠ [] ∧ ((Rep H v (.lst (ns.map D.int)) ∧ ∃ c, v = .ref c ∧ H0 c = none) ∨ Rep H v (.tup (ns.map D.int)))
theorem GRow.mono {H0 H H' : Hp} {gvs : List V} (g : GRow H0 H gvs) (e : Ex H H') : GRow H0 H' gvs := fun i v h => by
  obtain ⟨ns, h1, h2⟩ := g i v h
  exact ⟨ns, h1, h2.elim (fun r => .inl ⟨r.1.mono e, r.2⟩) fun r => .inr (r.mono e)⟩
theorem GRow.set {H0 H : Hp} {gvs : List V} {a : Addr} {xs : List V} {ms : List Int} (g : GRow H0 H gvs) (ha : H a = some (.lst xs)) (hm : ms ≠ []) : GRow H0 (upd H a (.lst (ms.map V.int))) gvs := fun i v h => by
  obtain ⟨ns, h1, h2⟩ := g i v h
  rcases h2 with ⟨r, nw⟩ | r
  · obtain ⟨b, ys, rfl, hy, ry⟩ := r.lst_inv
    by_cases e : b = a
    · subst e
      exact ⟨ms, hm, .inl ⟨.lst upd_same RepL.ints, nw⟩⟩
    · rw [ry.ints_inv] at hy
      exact ⟨ns, h1, .inl ⟨.lst ((upd_ne e).trans hy) RepL.ints, nw⟩⟩
  · obtain ⟨b, ys, rfl, hy, ry⟩ := r.tup_inv
    have e : b ≠ a := fun z => by rw [z, ha] at hy; cases hy
    rw [ry.ints_inv] at hy
    exact ⟨ns, h1, .inr (.tup ((upd_ne e).trans hy) RepL.ints)⟩
section
variable {P : Program} {w : World} {K : PySem.W.Frag} {mg : Str → Option Value} {base : Heap} {C CP CT CN : Addr}
def spFound : Sp := fun vs H Q _ => ∃ (r : Nat) (rv : V) (T : List (List Int)) (form : Nat), vs = [.int r, rv, .int form] ∧ r ≤ 100 ∧ Rep H rv (.lst (T.map lstD)) ∧ form < 1000 ∧ Sqr (max r 1) T ∧ lotOut (.int r) (passD (T.map lstD) form) = .lot r (cordsOf r T) ∧ Nf r (cordsOf r T) ∧ tabR (max r 1) (cordsOf r T) = T ∧ ∀ H', Ex H H' → Q (.bl true) H'
theorem df_found (h : Has K mg "_law_found" 55) (B : Bi mg) (k : LotK K mg C) (dL : Df P w K mg base (L2N.CX P w) 6 "lot_of" (spLotOf C CP CT CN)) (dP : Df P w K mg base CX0 1 "_law_passed" spPassed) (dS : ∀ n, Df P w K mg base CX0 (n + 2) "_law_same" (spSame n)) (dN : Df P w K mg base CX0 5 "_law_normal" (spNormal C)) (dT : Df P w K mg base CX0 1 "_law_table" spLTab) (dI : Df P w K mg base CX0 5 "_law_lot_is" (spLotIs C))
    (lm : ∃ (f : Addr) (fd : FuncData) (ps : List Str), Mk K C f ∧ FnOk P w K mg base CX0 4 f fd ps (spLInit C) ∧ Binds K fd ps []) (lt : ∃ (p f : Addr) (fd : FuncData) (ps : List Str), PropOf K C "table" p f ∧ FnOk P w K mg base CX0 3 f fd ps (spLTable C) ∧ Binds K fd ps [])
    (lo : ∃ (f : Addr) (fd : FuncData) (ps : List Str), Meth K C "total" f ∧ FnOk P w K mg base CX0 1 f fd ps (spLTotal C) ∧ Binds K fd ps []) (le : ∃ (f : Addr) (fd : FuncData) (ps : List Str), PySem.W.findIn K (.ref C) "__eq__" = some (some (.ref f)) ∧ PySem.W.isFn K (.ref f) = true ∧ FnOk P w K mg base CX0 1 f fd ps (spEq (LotEq C)) ∧ Binds K fd ps []) :
    Df P w K mg base CX0 10 "_law_found" spFound := by
  refine df_ok h B sc55 cb55 (fun _ _ _ _ _ _ us hl => match us, hl with | [_, _, _], _ => rfl) (fun vs H Q E ⟨_, _, _, _, e, _⟩ => by rw [e]; rfl) ?_
  rintro X rfl rfl rfl rfl rfl Z vs H Q E ⟨r, rv, T, form, rfl, hr, rr, hfm, hsq, hout, hnf, htab, q⟩
  have hC := Z.C
  have hTl : T.length ≤ 100 := by rw [hsq.1]; omega
  have hll : (cordsOf r T).length < 100000 := cords_len hr
  have hdep : DepLe 2 (passD (T.map lstD) form) := dep_passD (by rw [List.length_map]; omega) fun d hd => by
    obtain ⟨row, hrow, rfl⟩ := List.mem_map.mp hd
    exact dep_lstD (by rw [hsq.2 row hrow]; omega)
  have hdepT : DepLe 2 (ttD T) := dep_tt (by omega) fun l hl => by rw [hsq.2 l hl]; omega
  have pass : ∀ {H1 : Hp} {σ : St} {p1 p2 p3 p4 : Pos}, Ex H H1 → Ev X (.Name "_law_rows" p2) σ H1 rv → Ev X (.Name "_law_form" p3) σ H1 (.int (form : Int)) → Em X (.Call (.Name "_law_passed" p1) [.Name "_law_rows" p2, .Name "_law_form" p3] [] p4) σ H1 (passD (T.map lstD) form) := fun e1 h1 h2 =>
    em_call hC (Z.cal dP) (by walk_at "mem") (av_cons h1 (av_cons h2 av_nil)) fun H2 e2 Q kk => ⟨rv, _, form, rfl, rr.mono (e1.trans e2), lst_noTup T, by rw [List.length_map]; omega, hfm, fun v' H'' e'' r'' _ => kk v' H'' e'' r''⟩
  show WB X _ _ [some _, some _, some _, none, none, none, none, none, none, none] _
  refine b_set hC (by walk_at "mem") (by walk_at "set") (we_call hC (Z.cal dP) (by walk_at "mem") ((show Av X [_, _] _ H [rv, V.int (form : Int)] from av_cons (by walk_at "ev") (av_cons (by walk_at "ev") av_nil)).go fun Ha ea => ⟨rv, _, form, rfl, rr.mono ea, lst_noTup T, by rw [List.length_map]; omega, hfm, fun gv H0 e00 rg pn => ?_⟩))
  have e0 := ea.trans e00
  obtain ⟨gp0, gys0, hgv0, hgn0, hg00, hgnew0⟩ := pn
  obtain ⟨rp, xs, rfl, hrp, rx⟩ := rr.lst_inv
  have hxl : xs.length = T.length := by rw [rx.len, List.length_map]
  -- the due table
  refine b_setR (d := rowsT T) hC (by walk_at "mem") (by walk_at "set") ((er_et (l := T) (f := fun r => r) (et_tupleO hC Z.B (by walk_at "mem") ?_)).is rfl) fun dv H1 e1 rdue => ?_
  · rw [← filterMap_some]
    refine ec_comp (own := [("_law_row", 4)]) T _ hC Z.calm (by decide +kernel) (sr_list (Hb := H) (by walk_at "ev") (sqL hrp) e0) gN_mon (fun Y b => pgN (b.ctx (M' := M55_0) (L' := L55_0) (G' := G55_0) hC (by decide +kernel)) (by walk_at "mem")) hxl.symm (by omega) (by walk_at "wipe") ?_
    intro i x row Hc h1 h2 ex
    obtain ⟨d, hd, rd⟩ := rx.get h1
    rw [List.getElem?_map, h2] at hd
    obtain rfl : lstD row = d := Option.some.inj hd
    obtain ⟨a, ys, rfl, hy, ry⟩ := rd.lst_inv
    rw [ry.ints_inv] at hy
    refine g1_of (by walk_at "set") ⟨rfl, fun Y b => ?_⟩
    have ZY := Z.blk (M' := M55_0) (L' := L55_0) (G' := G55_0) b (by decide +kernel)
    have hY := ZY.C
    exact st_allo (eo_tupleOf hY ZY.B (by walk_at "mem") (by walk_at "ev") (sqL ((e0.trans ex) _ _ hy)))
  have e01 := e0.trans e1
  have rdue1 := rdue.mono (nw_ex (H := H0))
  have rg1 := rg.mono e1
  -- the lot
  have calE : CalE X "lot_of" (spLotOf C CP CT CN) (fun _ _ _ _ => False) := Df.calE dL tk_no Z.room (by decide)
  refine b_set hC (by walk_at "mem") (by walk_at "set") (we_callE hC calE (by walk_at "mem") ((show Av X [_, _] _ H1 [V.int (r : Int), gv] from av_cons (by walk_at "ev") (av_cons (by walk_at "ev") av_nil)).go fun H2 e2 => ⟨.int r, .int r, gv, _, rfl, .int _, rg1.mono e2, fun p hp => (by cases hp; omega), fun z => (by rw [hout] at z; cases z), fun i' j' z => (by rw [hout] at z; cases z), fun t' z => (by rw [hout] at z; cases z), fun r' L z lv H3 e3 l => ?_⟩))
  rw [hout] at z
  cases z
  have e13 := e2.trans e3
  have hrow2 : rowsT (tabR (max r 1) (cordsOf r T)) = rowsT T := by rw [htab]
  refine b_no (tv_w (tw_or (t := false) (u := false) (tv_not (t := true) (tv_val (ev_call hC (Z.cal dN) (by walk_at "mem") (av_cons (by walk_at "ev") (av_cons (by walk_at "ev") av_nil)) fun H4 e4 Q kk => ⟨lv, r, cordsOf r T, rfl, l.mono e4, hnf, hll, kk⟩))) fun _ => tw_or (t := false) (u := false) (tv_c (cv_neT (ll := T) Z.room.units ?_ (eh_ev (by walk_at "ev") (rdue1.mono e13)))) fun _ => tw_or1 (tv_not (t := true) (tv_val (ev_same hC (Z.cal (dS 2)) (by walk_at "mem") (em_er ((er_table Z k lt (by decide) (by walk_at "ev") l (by omega) hll).is hrow2)) (em_eh (eh_ev (by walk_at "ev") (rdue1.mono e13))) hdepT))))) fun H4 e4 => ?_
  · obtain ⟨x, dx, fs, cv, rfl, k2, k3, k4, k5, k6⟩ := id l
    exact (er_call (d := rowsT (tabR (max r 1) (cordsOf r T))) hC (Z.cal dT) (by walk_at "mem") (av_cons (by walk_at "ev") (av_cons (ev_cords k (by walk_at "ev") k2 k4) av_nil)) fun H5 e5 Q kk => ⟨r, cv, cordsOf r T, rfl, hr, hnf, k6.mono e5, hll, kk⟩).is hrow2
  have l4 := l.mono e4
  obtain ⟨lx, ldx, lfs, lcv, rfl, k2, k3, k4, k5, k6⟩ := id l4
  obtain ⟨cp, cxs, rfl, hcp, hcx, hcat⟩ := crd_inv k6
  -- the bunch
  refine b_set hC (by walk_at "mem") (by walk_at "set") ((eo_tupleO hC Z.B (by walk_at "mem") (eo_comp (own := [("_law_entry", 7)]) cxs some hC Z.calm (by decide +kernel) (sr_tup (Hb := H4) (ev_cords k (by walk_at "ev") k2 k4) (sqT hcp) Ex.rfl') gN_mon (fun Y b => pgN (b.ctx (M' := M55_1) (L' := L55_1) (G' := G55_1) hC (by decide +kernel)) (by walk_at "mem")) rfl (by omega) (by walk_at "wipe") ?_)).go fun bp H5 hbp e5 h5 => ?_)
  · intro i x y Hc h1 h2 ex
    rw [h1] at h2
    cases h2
    refine g1_of (by walk_at "set") ⟨rfl, fun Y b => ?_⟩
    have hY := b.ctx (M' := M55_1) (L' := L55_1) (G' := G55_1) hC (by decide +kernel)
    exact st_all (by walk_at "ev")
  rw [List.filterMap_some] at h5
  have rb5 : Rep H5 (.ref bp) (crdD (cordsOf r T)) := by
    obtain ⟨a, ys, ea, hy, ry⟩ := Rep.tup_inv (k6.mono e5)
    cases ea
    rw [e5 _ _ hcp] at hy
    cases hy
    exact .tup h5 ry
  have e15 := e13.trans (e4.trans e5)
  refine b_no (tv_not (t := true) (tv_val (ev_same hC (Z.cal (dS 2)) (by walk_at "mem") (em_eh (eh_ev (by walk_at "ev") (rg1.mono e15))) (pass (e01.trans e15) (by walk_at "ev") (by walk_at "ev")) hdep))) fun H6 e6 => ?_
  have e16 := e15.trans e6
  have rg6 := rg1.mono e16
  have l6 := l4.mono (e5.trans e6)
  have rb6 := rb5.mono e6
  have rdue6 := rdue1.mono e16
  -- the grid's rows, lists of ints that may change
  obtain ⟨gp, gvs, rfl, hgp, hgrows⟩ : ∃ gp gvs, gv = .ref gp ∧ ((form % 2 = 1 ∧ H6 gp = some (.tup gvs)) ∨ (¬ form % 2 = 1 ∧ H6 gp = some (.lst gvs))) ∧ H gp = none ∧ gvs.length = T.length ∧ GRow H H6 gvs := by
    have rows : ∀ {gvs : List V}, gvs = gys0 → RepL H6 gvs ((T.map lstD).mapIdx (passRow form)) → gvs.length = T.length ∧ GRow H H6 gvs := fun {gvs} hge rl => by
      refine ⟨by rw [rl.len, List.length_mapIdx, List.length_map], fun i v hv => ?_⟩
      obtain ⟨d, hd, rd⟩ := rl.get hv
      rw [List.getElem?_mapIdx] at hd
      obtain ⟨d0, hd0, rfl⟩ := Option.map_eq_some_iff.mp hd
      rw [List.getElem?_map] at hd0
      obtain ⟨row, hrow, rfl⟩ := Option.map_eq_some_iff.mp hd0
      refine ⟨row, fun z => ?_, ?_⟩
      · have := hsq.2 row (List.mem_of_getElem? hrow)
        rw [z, List.length_nil] at this
        omega
      · have e : passRow form i (lstD row) = if (form / 2 + i * (form / 4)) % 2 = 1 then .tup (row.map D.int) else .lst (row.map D.int) := rfl
        rw [e] at rd
        by_cases c : (form / 2 + i * (form / 4)) % 2 = 1
        · rw [if_pos c] at rd
          exact .inr rd
        · rw [if_neg c] at rd
          refine .inl ⟨rd, ?_⟩
          obtain ⟨c, hc1, hc2⟩ := hgnew0 i v (row.map D.int) (hge ▸ hv) (by rw [List.getElem?_map, hrow]; rfl)
          exact ⟨c, hc1, ea.fresh hc2⟩
    have e06 := e1.trans e16
    subst hgv0
    unfold passD at rg6
    by_cases c : form % 2 = 1
    · rw [if_pos c] at rg6
      obtain ⟨gp, gvs, e, hg, rl⟩ := rg6.tup_inv
      cases e
      refine ⟨gp0, gvs, rfl, .inl ⟨c, hg⟩, ea.fresh hgn0, rows ?_ rl⟩
      rcases hg00 with z | z
      · rw [e06 _ _ z] at hg; cases hg
      · rw [e06 _ _ z] at hg; cases hg; rfl
    · rw [if_neg c] at rg6
      obtain ⟨gp, gvs, e, hg, rl⟩ := rg6.lst_inv
      cases e
      refine ⟨gp0, gvs, rfl, .inr ⟨c, hg⟩, ea.fresh hgn0, rows ?_ rl⟩
      rcases hg00 with z | z
      · rw [e06 _ _ z] at hg; cases hg; rfl
      · rw [e06 _ _ z] at hg; cases hg
  obtain ⟨hgpn, hgl, hgr⟩ := hgrows
  refine b_rng1 (m := T.length) Z (by walk_at "mem") (by walk_at "mem") ((eh_len hC Z.B (by walk_at "mem") (eh_ev (by walk_at "ev") (rr.mono (e01.trans e16))) rfl).is (by rw [List.length_map])) (by omega) (fun i σ' H' => (∃ ok, σ' = [some (.int (r : Int)), some (.ref rp), some (.int (form : Int)), some (.ref gp), none, some dv, some (.ref lx), none, some (.ref bp), ok]) ∧ (ExN H6 H' ∧ Ex H H') ∧ ((form % 2 = 1 ∧ H' gp = some (.tup gvs)) ∨ (¬ form % 2 = 1 ∧ H' gp = some (.lst gvs))) ∧ GRow H H' gvs) ?_ ?_ ?_
  · exact fun H7 e7 => ⟨⟨_, rfl⟩, ⟨e7.n, e01.trans (e16.trans e7)⟩, hgp.elim (fun z => .inl ⟨z.1, e7 _ _ z.2⟩) (fun z => .inr ⟨z.1, e7 _ _ z.2⟩), hgr.mono e7⟩
  · rintro i σ' H7 hi ⟨⟨ok, rfl⟩, ⟨e7, eH7⟩, hg7, hr7⟩
    have hv := List.getElem?_eq_getElem (l := gvs) (i := i) (by omega)
    generalize gvs[i] = v at hv
    have item : ∀ {H8 : Hp} {a1 a2 : Expr} {σ : St} {p1 : Pos}, Ex H7 H8 → Ev X a1 σ H8 (.ref gp) → Ev X a2 σ H8 (.int (i : Int)) → PlainIx a2 → Ev X (.Subscript a1 a2 p1) σ H8 v := fun e8 h1 h2 hp => by
      rcases hg7 with ⟨_, z⟩ | ⟨_, z⟩
      · exact ev_ixT h1 h2 (sqT (e8 _ _ z)) (L2.atI_nat hv) hp
      · exact ev_ixL h1 h2 (sqL (e8 _ _ z)) (L2.atI_nat hv) hp
    refine g1_of (by walk_at "set") ?_
    obtain ⟨ns, hne, hrep⟩ := hr7 i v hv
    rcases hrep with ⟨rep, cn, hcn, hcnew⟩ | rep
    · refine b_yes (tv_val ((eh_isList hC Z.B (by walk_at "mem") (by walk_at "mem") (eh_ev (item Ex.rfl' (by walk_at "ev") (by walk_at "ev") (fun _ _ => rfl)) rep)).is rfl)) fun H8 e8 => ?_
      obtain ⟨a, ys, rfl, hy, ry⟩ := rep.lst_inv
      cases hcn
      rw [ry.ints_inv] at hy
      cases ns with
      | nil => exact absurd rfl hne
      | cons x ms =>
      refine b_setIx ((ev_add (ev_ixL (v := .int x) (item e8 (by walk_at "ev") (by walk_at "ev") (fun _ _ => rfl)) ev_int (sqL (e8 _ _ hy)) (show atI (V.int x :: ms.map V.int) 0 = some (V.int x) from L2.atI_nat (j := 0) rfl) (fun _ _ => rfl)) ev_int).go fun H9 e9 => (item (e8.trans e9) (by walk_at "ev") (by walk_at "ev") (fun _ _ => rfl)).go fun HA eA => (ev_int (i := 0)).go fun HB eB => ?_)
      have e7B := e8.trans (e9.trans (eA.trans eB))
      have hyB := e7B _ _ hy
      refine ⟨_, (x :: ms).map V.int, 0, rfl, rfl, hyB, by simp, b_nil (b_nil ⟨⟨_, rfl⟩, ⟨(e7.trans e7B.n).mut hyB, (eH7.trans e7B).mut hcnew⟩, ?_, ?_⟩)⟩
      · rcases hg7 with ⟨c, z⟩ | ⟨c, z⟩
        · refine .inl ⟨c, (upd_ne fun e => ?_).trans (e7B _ _ z)⟩
          rw [e, hy] at z; cases z
        · refine .inr ⟨c, (upd_ne fun e => ?_).trans (e7B _ _ z)⟩
          rw [e, hy] at z
          cases z
          rw [List.getElem?_map] at hv
          obtain ⟨q, _, e2⟩ := Option.map_eq_some_iff.mp hv
          cases e2
      · exact (hr7.mono e7B).set (ms := (x + 7) :: ms) hyB (by simp)
    · refine b_no (tv_val ((eh_isList hC Z.B (by walk_at "mem") (by walk_at "mem") (eh_ev (item Ex.rfl' (by walk_at "ev") (by walk_at "ev") (fun _ _ => rfl)) rep)).is rfl)) fun H8 e8 => ?_
      exact b_nil ⟨⟨_, rfl⟩, ⟨e7.trans e8.n, eH7.trans e8⟩, hg7.elim (fun z => .inl ⟨z.1, e8 _ _ z.2⟩) (fun z => .inr ⟨z.1, e8 _ _ z.2⟩), hr7.mono e8⟩
  · rintro σ' H7 ⟨⟨ok, rfl⟩, ⟨e7, eH7⟩, hg7, hr7⟩
    -- the last word
    have last : ∀ (H8 : Hp) (σ : St), ExN H6 H8 → σ = [some (.int (r : Int)), some (.ref rp), some (.int (form : Int)), some (.ref gp), none, some dv, some (.ref lx), none, some (.ref bp), ok] → LotAt C H8 (.ref lx) r (cordsOf r T) ∧ Rep H8 (.ref bp) (crdD (cordsOf r T)) ∧ Rep H8 dv (rowsT T) := fun H8 σ e8 _ => by
      refine ⟨l6.exn e8, ?_, ?_⟩
      · have := rb6
        rw [crd_tt] at this ⊢
        exact this.exn e8
      · exact Rep.exn (ll := T) rdue6 e8
    have gdat : ∃ d, Rep H7 (.ref gp) d ∧ d.isList = decide (¬ form % 2 = 1) := by
      obtain ⟨ds, rl, _⟩ := repL_some (G := H7) (R := fun _ => True) (xs := gvs) fun v hv => by
        obtain ⟨i, hi, e⟩ := List.getElem_of_mem hv
        obtain ⟨ns, _, h2⟩ := hr7 i v (by rw [List.getElem?_eq_getElem hi, e])
        exact h2.elim (fun r => ⟨_, trivial, r.1⟩) fun r => ⟨_, trivial, r⟩
      rcases hg7 with ⟨c, z⟩ | ⟨c, z⟩
      · exact ⟨.tup ds, .tup z rl, by rw [decide_eq_false (fun h => h c)]; rfl⟩
      · exact ⟨.lst ds, .lst z rl, by rw [decide_eq_true c]; rfl⟩
    obtain ⟨gd, rgd, hgd⟩ := gdat
    refine b_whenJ (P := fun b => b = true → ¬ form % 2 = 1) (fun σ' H' => σ' = [some (.int (r : Int)), some (.ref rp), some (.int (form : Int)), some (.ref gp), none, some dv, some (.ref lx), none, some (.ref bp), ok] ∧ ExN H6 H' ∧ Ex H H') (tz_tv (tv_val (eh_isList hC Z.B (by walk_at "mem") (by walk_at "mem") (eh_ev (by walk_at "ev") rgd))) (fun h => by rw [hgd] at h; exact of_decide_eq_true h)) ?_ ?_ ?_
    · intro hc H8 e8
      have z := hg7.elim (fun z => absurd z.1 (hc rfl)) (fun z => z.2)
      refine b_drop (we_app ((show Ev X _ _ H8 (.ref gp) from by walk_at "ev").go fun H9 e9 => ⟨gp, gvs, rfl, (e8.trans e9) _ _ z, (ev_int (i := 7)).go fun HA eA => ⟨gvs, (e8.trans (e9.trans eA)) _ _ z, szLt (by omega), b_nil ⟨rfl, (e7.trans (e8.trans (e9.trans eA)).n).mut ((e8.trans (e9.trans eA)) _ _ z), (eH7.trans (e8.trans (e9.trans eA))).mut hgpn⟩⟩⟩))
    · exact fun _ H8 e8 => ⟨rfl, e7.trans e8.n, eH7.trans e8⟩
    rintro σ' H8 ⟨rfl, e8, eH8⟩
    obtain ⟨l8, rb8, rd8⟩ := last H8 _ e8 rfl
    obtain ⟨bp', bxs, ebp, hbp8, hbx, hbat⟩ := crd_inv rb8
    cases ebp
    refine b_no (tv_w (tw_or (t := false) (u := false) (tv_not (t := true) (tv_val (ev_same (d := .int ((cordsOf r T).map fun t : T3 => t.2.2).sum) hC (Z.cal (dS 0)) (by walk_at "mem") (em_eh (eh_int (ev_total Z k lo (by decide) (by walk_at "ev") l8 hll))) (em_eh (eh_int (ev_sumO (ns := (cordsOf r T).map fun t : T3 => t.2.2) hC Z.B Z.calm (by walk_at "mem") ?_))) rfl))) fun _ => tw_or1 (tv_not (t := true) (tv_val (ev_same hC (Z.cal (dS 2)) (by walk_at "mem") (em_er ((er_table Z k lt (by decide) (by walk_at "ev") l8 (by omega) hll).is hrow2)) (em_eh (eh_ev (by walk_at "ev") rd8)) hdepT))))) fun H9 e9 => ?_
    · rw [List.map_map, ← filterMap_some]
      refine eo_comp (own := [("_law_entry", 7)]) (cordsOf r T) _ hC Z.calm (by decide +kernel) (sr_tup (Hb := H8) (by walk_at "ev") (sqT hbp8) Ex.rfl') gN_mon (fun Y b => pgN (b.ctx (M' := M55_2) (L' := L55_2) (G' := G55_2) hC (by decide +kernel)) (by walk_at "mem")) hbx.symm (by omega) (by walk_at "wipe") ?_
      intro i x t Hc h1 h2 ex
      obtain ⟨u, rfl, hu⟩ := hbat i x t h1 h2
      refine g1_of (by walk_at "set") ⟨rfl, fun Y b => ?_⟩
      have hY := b.ctx (M' := M55_2) (L' := L55_2) (G' := G55_2) hC (by decide +kernel)
      exact st_all (Ev.is (v := .int t.2.2) (ev_tI (by walk_at "ev") (ex _ _ hu)) rfl)
    have l9 := l8.mono e9
    have rb9 := rb8.mono e9
    refine b_ret ((ev_and (t := true) (u := true) (ev_call hC (Z.cal dI) (by walk_at "mem") (av_cons (by walk_at "ev") (av_cons (by walk_at "ev") (av_cons (by walk_at "ev") av_nil))) fun HA eA Q kk => ⟨.ref lx, r, .ref bp, cordsOf r T, rfl, l9.mono eA, rb9.mono eA, hll, kk⟩) fun _ => ev_one (ev_same (d := .bl true) hC (Z.cal (dS 0)) (by walk_at "mem") (em_eh (eh_bl (ev_eqLot Z le (by decide) (by walk_at "ev") l9 ⟨fun HA eA Qa ka => ?_⟩))) (em_eh (eh_bl ev_bl)) rfl)).go fun HZ eZ => ?_)
    · exact we_lot Z k lm (by decide) (by walk_at "mem") hnf hll ((show Av X [_, _] _ H9 [V.int (r : Int), .ref bp] from av_cons (by walk_at "ev") (av_cons (by walk_at "ev") av_nil)).run HA eA _ fun HB eB => ⟨.ref bp, rfl, rb9.mono (eA.trans eB), fun v HC eC l => ka v HC (eB.trans eC) l⟩)
    · exact q HZ (eH8.trans (e9.trans eZ))
end
end RC
/-! _law_judged -/
namespace RC
open PySem PySem.Spec PyProof.Rows L2
theorem seq_passRow (form k : Nat) (d : D) : (passRow form k d).seq = d.seq := by
  cases d <;> first | rfl | skip
  rename_i es
  show (if (form / 2 + k * (form / 4)) % 2 = 1 then D.tup es else D.lst es).seq = _
  split <;> rfl
theorem seq_passD (rs : List D) (form : Nat) : (passD rs form).seq = some (rs.mapIdx (passRow form)) := by
  unfold passD
  split <;> rfl
theorem rowAt_pass (rs : List D) (form : Nat) : rowAt (rs.mapIdx (passRow form)) = rowAt rs := by
  funext i
  unfold rowAt
  rw [List.getElem?_mapIdx]
  cases rs[i]? with
  | none => rfl
  | some d => exact seq_passRow form i d
theorem intAt_pass (rs : List D) (form : Nat) : intAt (rs.mapIdx (passRow form)) = intAt rs := by
  funext i j
  unfold intAt
  rw [rowAt_pass]
theorem goodAt_pass (rs : List D) (form : Nat) : goodAt (rs.mapIdx (passRow form)) = goodAt rs := by
  funext i j
  unfold goodAt
  rw [intAt_pass]
theorem rowBad_pass (n : Nat) (rs : List D) (form : Nat) : rowBad n (rs.mapIdx (passRow form)) = rowBad n rs := by
  funext i
  unfold rowBad
  rw [rowAt_pass, goodAt_pass]
theorem badT_pass (n : Nat) (rs : List D) (form : Nat) : badT n (passD rs form) = badT n (.lst rs) := by
  unfold badT
  rw [seq_passD]
  show (match (List.range n).findSome? (rowBad n (rs.mapIdx (passRow form))) with
    | some p => some p
    | none => if n < (rs.mapIdx (passRow form)).length then some (n, 0) else none) = (match (List.range n).findSome? (rowBad n rs) with
    | some p => some p
    | none => if n < rs.length then some (n, 0) else none)
  rw [rowBad_pass, List.length_mapIdx]
theorem tabOf_pass (rs : List D) (form : Nat) : tabOf (passD rs form) = tabOf (.lst rs) := by
  unfold tabOf
  rw [seq_passD]
  show (rs.mapIdx (passRow form)).map _ = rs.map _
  apply List.ext_getElem
  · simp
  · intro i h1 h2
    rw [List.getElem_map, List.getElem_map, List.getElem_mapIdx, seq_passRow]
theorem lotOut_pass (r : Nat) (rs : List D) (form : Nat) : lotOut (.int (r : Int)) (passD rs form) = lotOut (.int (r : Int)) (.lst rs) := by
  rw [lotOut_nat, lotOut_nat, badT_pass, tabOf_pass]
theorem rows_lstD {rs : List D} {T : List (List Int)} (nt : NoTup rs) (h : TabD (.lst rs) T) : rs = T.map lstD := by
  obtain ⟨ds, e, hl, hr⟩ := h
  cases e
  apply List.ext_getElem
  · rw [List.length_map, hl]
  · intro i h1 h2
    have hT : i < T.length := by simpa using h2
    rw [List.getElem_map]
    have q := hr i rs[i] T[i] (List.getElem?_eq_getElem h1) (List.getElem?_eq_getElem hT)
    have t := nt _ (List.getElem_mem h1)
    revert q t
    cases rs[i] <;> intro q t <;> cases q
    · rfl
    · cases t
def spJudged : Sp := fun vs H Q _ => ∃ (r : Nat) (rv : V) (rs : List D) (form : Nat), vs = [.int r, rv, .int form] ∧ r ≤ 100 ∧ Rep H rv (.lst rs) ∧ NoTup rs ∧ rs.length < 10000 ∧ (∀ d ∈ rs, DepLe 4 d) ∧ form < 1000 ∧ ∀ H', Ex H H' → Q (.bl true) H'
section
variable {P : Program} {w : World} {K : PySem.W.Frag} {mg : Str → Option Value} {base : Heap} {C CP CT CN : Addr}
theorem df_judged (h : Has K mg "_law_judged" 56) (B : Bi mg) (dW : Df P w K mg base CX0 2 "_law_wrong" spWrong) (dR : Df P w K mg base CX0 9 "_law_refused" spRefused) (dP : Df P w K mg base CX0 1 "_law_passed" spPassed) (dO : Df P w K mg base CX0 1 "_law_none" spNone) (dN : Df P w K mg base CX0 9 "_law_no_lot" spNoLot) (dF : Df P w K mg base CX0 10 "_law_found" spFound) : Df P w K mg base CX0 11 "_law_judged" spJudged := by
  refine df_ok h B sc56 cb56 (fun _ _ _ _ _ _ us hl => match us, hl with | [_, _, _], _ => rfl) (fun vs H Q E ⟨_, _, _, _, e, _⟩ => by rw [e]; rfl) ?_
  rintro X rfl rfl rfl rfl rfl Z vs H Q E ⟨r, rv, rs, form, rfl, hr, rr, nt, hl, hdep, hfm, q⟩
  have hC := Z.C
  have hD5 : DepLe 5 (passD rs form) := dep_passD (by omega) hdep
  have pass : ∀ {H1 : Hp} {σ : St} {p1 p2 p3 p4 : Pos}, Ex H H1 → Ev X (.Name "_law_rows" p2) σ H1 rv → Ev X (.Name "_law_form" p3) σ H1 (.int (form : Int)) → Em X (.Call (.Name "_law_passed" p1) [.Name "_law_rows" p2, .Name "_law_form" p3] [] p4) σ H1 (passD rs form) := fun e1 h1 h2 =>
    em_call hC (Z.cal dP) (by walk_at "mem") (av_cons h1 (av_cons h2 av_nil)) fun H2 e2 Q kk => ⟨rv, _, form, rfl, rr.mono (e1.trans e2), nt, hl, hfm, fun v' H'' e'' r'' _ => kk v' H'' e'' r''⟩
  have hmx : ((max r 1 : Nat) : Int) = if (r : Int) < 1 then 1 else (r : Int) := by split <;> omega
  show WB X _ _ [some _, some _, some _, none, none] _
  have wr : ∀ {p1 p2 p3 p4 p5 p6 : Pos} {σ : St}, True := trivial
  have lo := lotOut_nat (r := r) (d := .lst rs)
  cases hb : badT (max r 1) (.lst rs) with
  | some p =>
    obtain ⟨i, j⟩ := p
    refine b_setR (d := .tup ([(i : Int), (j : Int)].map D.int)) hC (by walk_at "mem") (by walk_at "set") (er_call hC (Z.cal dW) (by walk_at "mem") (vs := [.int ((max r 1 : Nat) : Int), rv]) (av_cons ((ev_max2 hC Z.B Z.calm (by walk_at "mem") (by walk_at "ev") (by walk_at "ev")).is (by congr 1; split <;> omega)) (av_cons (by walk_at "ev") av_nil)) fun H1 e1 Q1 k1 => ⟨max r 1, rv, rs, rfl, by omega, rr.mono e1, nt, fun z => (by rw [hb] at z; cases z), fun i' j' z v H' e' rp => (by rw [hb] at z; cases z; exact k1 v H' e' rp)⟩) fun pv H1 e1 rp => ?_
    have rp1 := rp.mono nw_ex
    obtain ⟨pa, pxs, rfl, _, _⟩ := rp1.tup_inv
    refine b_yes (tv_c (cv_notN (x := V.ref pa) (by walk_at "ev") (by walk_at "ev"))) fun H2 e2 => ?_
    refine b_ret (we_call hC (Z.cal dR) (by walk_at "mem") (a_cons ((show Ev X _ _ H2 (.int (r : Int)) from by walk_at "ev").go fun H3 e3 => a_cons ((pass ((e1.trans e2).trans e3) (by walk_at "ev") (by walk_at "ev")).run H3 Ex.rfl' _ fun gv H4 e4 rg => a_cons ((pass (((e1.trans e2).trans e3).trans e4) (by walk_at "ev") (by walk_at "ev")).run H4 Ex.rfl' _ fun kv H5 e5 rk => a_cons ((show Ev X _ _ H5 (.ref pa) from by walk_at "ev").go fun H6 e6 => a_nil ?_))))))
    refine ⟨r, gv, kv, .ref pa, passD rs form, i, j, rfl, hr, rg.mono (e5.trans e6), rk.mono e6, hD5, ?_, rp1.mono (e2.trans (e3.trans (e4.trans (e5.trans e6)))), fun H' e' => q H' (e1.trans (e2.trans (e3.trans (e4.trans (e5.trans (e6.trans e'))))))⟩
    rw [lotOut_pass, lo, hb]
  | none =>
    obtain ⟨htd, hok⟩ := tab_ok hb
    rw [hb] at lo
    refine b_setV (v := .non) hC (by walk_at "mem") (by walk_at "set") (ev_call hC (Z.cal dW) (by walk_at "mem") (vs := [.int ((max r 1 : Nat) : Int), rv]) (av_cons ((ev_max2 hC Z.B Z.calm (by walk_at "mem") (by walk_at "ev") (by walk_at "ev")).is (by congr 1; split <;> omega)) (av_cons (by walk_at "ev") av_nil)) fun H1 e1 Q1 k1 => ⟨max r 1, rv, rs, rfl, by omega, rr.mono e1, nt, fun _ H' e' => k1 H' e', fun i' j' z => (by rw [hb] at z; cases z)⟩) fun H1 e1 => ?_
    refine b_no (tv_c (cv_notN (x := V.non) (by walk_at "ev") (by walk_at "ev"))) fun H2 e2 => ?_
    have e12 := e1.trans e2
    cases hf : firstNo r (tabOf (.lst rs)) with
    | some t =>
      rw [hf] at lo
      refine b_setR (d := t3D t) hC (by walk_at "mem") (by walk_at "set") (er_call hC (Z.cal dO) (by walk_at "mem") (vs := [.int (r : Int), rv]) (av_cons (by walk_at "ev") (av_cons (by walk_at "ev") av_nil)) fun H3 e3 Q1 k1 => ⟨r, rv, _, _, rfl, hr, rr.mono (e12.trans e3), htd, hok.sqr, fun z => (by rw [hf] at z; cases z), fun t' z v H' e' rp => (by rw [hf] at z; cases z; exact k1 v H' e' rp)⟩) fun dv H3 e3 rp => ?_
      have rp1 := rp.mono nw_ex
      obtain ⟨pa, pxs, rfl, _, _⟩ := rp1.tup_inv
      refine b_yes (tv_c (cv_notN (x := V.ref pa) (by walk_at "ev") (by walk_at "ev"))) fun H4 e4 => ?_
      have e14 := e12.trans (e3.trans e4)
      refine b_ret ((ev_call hC (Z.cal dN) (by walk_at "mem") (av_cons (by walk_at "ev") (av_cons (by walk_at "ev") (av_cons (by walk_at "ev") (av_cons (by walk_at "ev") av_nil)))) fun H5 e5 Q1 k1 => ⟨r, rv, rs, form, .ref pa, t, rfl, hr, rr.mono (e14.trans e5), nt, hl, hfm, hD5, ?_, rp1.mono (e4.trans e5), k1⟩).go fun H6 e6 => q H6 (e14.trans e6))
      rw [lotOut_pass, lo]
    | none =>
      rw [hf] at lo
      refine b_setV (v := .non) hC (by walk_at "mem") (by walk_at "set") (ev_call hC (Z.cal dO) (by walk_at "mem") (vs := [.int (r : Int), rv]) (av_cons (by walk_at "ev") (av_cons (by walk_at "ev") av_nil)) fun H3 e3 Q1 k1 => ⟨r, rv, _, _, rfl, hr, rr.mono (e12.trans e3), htd, hok.sqr, fun _ H' e' => k1 H' e', fun t' z => (by rw [hf] at z; cases z)⟩) fun H3 e3 => ?_
      refine b_no (tv_c (cv_notN (x := V.non) (by walk_at "ev") (by walk_at "ev"))) fun H4 e4 => ?_
      have e14 := e12.trans (e3.trans e4)
      have hrs := rows_lstD nt htd
      have hd : ∀ t ∈ doubles r (tabOf (.lst rs)), noT t = false := fun t ht => by
        unfold firstNo at hf
        rw [List.find?_eq_none] at hf
        have := hf t ht
        simpa using this
      refine b_ret ((ev_call hC (Z.cal dF) (by walk_at "mem") (av_cons (by walk_at "ev") (av_cons (by walk_at "ev") (av_cons (by walk_at "ev") av_nil))) fun H5 e5 Q1 k1 => ⟨r, rv, tabOf (.lst rs), form, rfl, hr, ?_, hfm, hok.sqr, ?_, nf_cords hd, tabR_cords rfl hok.sqr hok.diag hok.sym hd, k1⟩).go fun H6 e6 => q H6 (e14.trans e6))
      · rw [← hrs]
        exact rr.mono (e14.trans e5)
      · rw [← hrs, lotOut_pass, lo]
end
end RC
/-! _law_all_spoilt -/
namespace RC
open PySem PySem.Spec PyProof.Rows L2
theorem Grid.dep {c : Int} {l : Nat} {rs : List D} (g : Grid c l rs) (hl : l < 100000) : ∀ d ∈ rs, DepLe 4 d := fun d hd => by
  have h3 : DepLe 3 d := fun es he => ⟨Nat.lt_of_le_of_lt ((g.2 d hd).2 es he).1 hl, fun x hx => (((g.2 d hd).2 es he).2 x hx).1⟩
  exact h3.up
theorem Grid.noTup {c : Int} {l : Nat} {rs : List D} (g : Grid c l rs) : NoTup rs := fun d hd => (g.2 d hd).1
def byS : List Int := [7, 13, 60, 40000000]
def turnS : List Nat := [1, 1, 2, 1, 2, 3]
def szS (n : Int) : List Int := [15, n, n, 15, n, n, 15, n, n, 4, 40000000, 60]
def spAllSp : PySem.W.Frag → Sp := fun K vs H Q _ => ∃ (sv : V) (r : Nat) (rv ov : V) (form : Nat) (rs os : List D) (c : Int), vs = [sv, .int r, rv, ov, .int form] ∧ Scr K H sv ∧ r ≤ 40 ∧ Rep H rv (.lst rs) ∧ Rep H ov (.lst os) ∧ Grid c 40 rs ∧ Grid c 40 os ∧ 0 ≤ c ∧ c < 2 ^ 100 ∧ form < 8 ∧ ∀ H', Ex H H' → Q (.bl true) H'
section
variable {P : Program} {w : World} {K : PySem.W.Frag} {mg : Str → Option Value} {base : Heap} {C CP CT CN : Addr}
theorem df_allSp (h : Has K mg "_law_all_spoilt" 57) (B : Bi mg) (dC : Df P w K mg base CX0 1 "_law_cell" (spCell K)) (dD : Df P w K mg base CX0 1 "_law_digits" spDigits) (dS : Df P w K mg base CX0 2 "_law_spoilt" spSpoilt) (dJ : Df P w K mg base CX0 11 "_law_judged" spJudged) : Df P w K mg base CX0 12 "_law_all_spoilt" (spAllSp K) := by
  refine df_ok h B sc57 cb57 (fun _ _ _ _ _ _ us hl => match us, hl with | [_, _, _, _, _], _ => rfl) (fun vs H Q E ⟨_, _, _, _, _, _, _, _, e, _⟩ => by rw [e]; rfl) ?_
  rintro X rfl rfl rfl rfl rfl Z vs H Q E ⟨sv, r, rv, ov, form, rs, os, c, rfl, hs, hr, rr, ro, gr, go, hc0, hc1, hfm, q⟩
  have hC := Z.C
  show WB X _ _ [some _, some _, some _, some _, some _, none, none, none, none, none, none, none] _
  obtain ⟨n, hn⟩ : ∃ n : Nat, n = max r 1 := ⟨_, rfl⟩
  have hn1 : 1 ≤ n := by omega
  have hn2 : n ≤ 40 := by omega
  refine b_setV (v := .int (n : Int)) hC (by walk_at "mem") (by walk_at "set") ((ev_max2 hC Z.B Z.calm (by walk_at "mem") (by walk_at "ev") (by walk_at "ev")).is (by congr 1; split <;> omega)) fun H1 e1 => ?_
  refine b_rng1 (m := 6) Z (by walk_at "mem") (by walk_at "mem") (by walk_at "ev") (by decide) (fun i σ' H' => ∃ o1 o2 o3 o4 o5 o6, σ' = [some sv, some (.int (r : Int)), some rv, some ov, some (.int (form : Int)), some (.int (n : Int)), o1, o2, o3, o4, o5, o6] ∧ Ex H H') (fun H2 e2 => ⟨_, _, _, _, _, _, rfl, e1.trans e2⟩) ?_ ?_
  case refine_2 =>
    rintro σ' H' ⟨_, _, _, _, _, _, rfl, e⟩
    exact b_ret (ev_bl.go fun H2 e2 => q H2 (e.trans e2))
  rintro k σ' H2 hk ⟨o1, o2, o3, o4, o5, o6, rfl, e2⟩
  refine ⟨_, by walk_at "set", ?_⟩
  refine b_setD (ss := szS n) hC (by walk_at "mem") (by walk_at "set") (ed_call (P := fun _ => True) hC (Z.cal dD) (by walk_at "mem") (ei_call hC (Z.cal dC) (by walk_at "mem") (vs := [sv, .int ((5 + k : Nat) : Int)]) (av_cons (by walk_at "ev") (av_cons ((ev_add ev_int (by walk_at "ev")).is (by congr 1)) av_nil)) fun H3 e3 Q1 k1 => ⟨sv, 5 + k, rfl, hs.mono (e2.trans e3), fun i H' e' => k1 i H' e' trivial⟩) ?_ ?_ (by simp [szS])) fun ds dp H3 e3 dg hdn hd => ?_
  · refine eo_lst (vs := [.int 15, .int (n : Int), .int (n : Int), .int 15, .int (n : Int), .int (n : Int), .int 15, .int (n : Int), .int (n : Int), .int 4, .int 40000000, .int 60]) ?_ (by simp)
    exact av_cons ev_int (av_cons (by walk_at "ev") (av_cons (by walk_at "ev") (av_cons ev_int (av_cons (by walk_at "ev") (av_cons (by walk_at "ev") (av_cons ev_int (av_cons (by walk_at "ev") (av_cons (by walk_at "ev") (av_cons ev_int (av_cons ev_int (av_cons ev_int av_nil)))))))))))
  · intro s hs
    simp only [szS, List.mem_cons, List.not_mem_nil, or_false] at hs
    omega
  have e13 := e2.trans e3
  obtain ⟨hv, rs1, hat, rh, gh⟩ : ∃ hv rs1, atI [rv, ov] ((k : Int) % 2) = some hv ∧ Rep H hv (.lst rs1) ∧ Grid c 40 rs1 := by
    rcases (show (k : Int) % 2 = 0 ∨ (k : Int) % 2 = 1 by omega) with z | z
    · exact ⟨rv, rs, by rw [z]; exact L2.atI_nat (j := 0) rfl, rr, gr⟩
    · exact ⟨ov, os, by rw [z]; exact L2.atI_nat (j := 1) rfl, ro, go⟩
  refine b_setV (v := hv) hC (by walk_at "mem") (by walk_at "set") (ev_ixO (eo_lst (av_cons (by walk_at "ev") (av_cons (by walk_at "ev") av_nil))) (ev_mod (ev_intI hC Z.B (by walk_at "mem") (by walk_at "ev")) ev_int (by decide)) hat) fun H4 e4 => ?_
  obtain ⟨x9, h9, y0, y1⟩ := digs_at dg (n := 9) (s := 4) rfl
  obtain ⟨ky, rfl⟩ : ∃ ky : Nat, x9 = (ky : Int) := ⟨x9.toNat, by omega⟩
  obtain ⟨x10, h10, z0, z1⟩ := digs_at dg (n := 10) (s := 40000000) rfl
  obtain ⟨x11, h11, w0, w1⟩ := digs_at dg (n := 11) (s := 60) rfl
  obtain ⟨m, hm, m0, m1⟩ : ∃ m, byS[ky]? = some m ∧ 0 < m ∧ m ≤ 40000000 := by
    rcases (show ky = 0 ∨ ky = 1 ∨ ky = 2 ∨ ky = 3 by omega) with z | z | z | z <;> rw [z] <;> exact ⟨_, rfl, by decide, by decide⟩
  have hd4 := e4 _ _ hd
  refine b_setV (v := .int (x10 % m)) hC (by walk_at "mem") (by walk_at "set") (ev_mod (ev_intI hC Z.B (by walk_at "mem") (ev_lI (n := 10) (by walk_at "ev") hd4 ev_int h10)) (ev_ixO (xs := byS.map V.int) (eo_lst (av_cons ev_int (av_cons ev_int (av_cons ev_int (av_cons ev_int av_nil))))) (ev_lI (n := 9) (by walk_at "ev") hd4 ev_int h9) (L2.atI_nat (by rw [List.getElem?_map, hm]; rfl)) (fun _ _ => rfl)) m0) fun H5 e5 => ?_
  have e15 := e13.trans (e4.trans e5)
  have b0 := Int.emod_nonneg x10 (show m ≠ 0 by omega)
  have b1 := Int.emod_lt_of_pos x10 m0
  obtain ⟨mt, hmt, hmt3⟩ : ∃ mt : Nat, atI (turnS.map fun x : Nat => V.int (x : Int)) (k : Int) = some (.int (mt : Int)) ∧ mt ≤ 3 := by
    rcases (show k = 0 ∨ k = 1 ∨ k = 2 ∨ k = 3 ∨ k = 4 ∨ k = 5 by omega) with z | z | z | z | z | z <;> rw [z]
    · exact ⟨1, L2.atI_nat (j := 0) rfl, by decide⟩
    · exact ⟨1, L2.atI_nat (j := 1) rfl, by decide⟩
    · exact ⟨2, L2.atI_nat (j := 2) rfl, by decide⟩
    · exact ⟨1, L2.atI_nat (j := 3) rfl, by decide⟩
    · exact ⟨2, L2.atI_nat (j := 4) rfl, by decide⟩
    · exact ⟨3, L2.atI_nat (j := 5) rfl, by decide⟩
  refine b_rng1 (m := mt) Z (by walk_at "mem") (by walk_at "mem") (ev_ixO (xs := turnS.map fun x : Nat => V.int (x : Int)) (eo_lst (av_cons ev_int (av_cons ev_int (av_cons ev_int (av_cons ev_int (av_cons ev_int (av_cons ev_int av_nil))))))) (by walk_at "ev") hmt) (by omega) (fun t σ' H' => ∃ hv o1 o2 rs1, σ' = [some sv, some (.int (r : Int)), some rv, some ov, some (.int (form : Int)), some (.int (n : Int)), some (.int (k : Int)), some (.ref dp), some hv, some (.int (x10 % m)), o1, o2] ∧ Ex H H' ∧ H' dp = some (.lst (ds.map V.int)) ∧ Rep H' hv (.lst rs1) ∧ Grid (c + (t : Int) * 8589934592) (40 + 2 * t) rs1) (fun H6 e6 => ⟨_, _, _, _, rfl, e15.trans e6, (e5.trans e6) _ _ hd4, rh.mono (e15.trans e6), gh.le (by omega) (by omega)⟩) ?_ ?_
  case refine_2 =>
    rintro σ' H' ⟨hv, _, _, rs1, rfl, e, hd, rh, gh⟩
    have hf : (form : Int) + x11 ≥ 0 := by omega
    refine b_no (tv_not (t := true) (tv_val (ev_call hC (Z.cal dJ) (by walk_at "mem") (vs := [.int (r : Int), hv, .int ((((form : Int) + x11) % 8).toNat : Int)]) (av_cons (by walk_at "ev") (av_cons (by walk_at "ev") (av_cons ((ev_mod (ev_intI hC Z.B (by walk_at "mem") (ev_add (by walk_at "ev") (ev_lI (n := 11) (by walk_at "ev") hd ev_int h11))) ev_int (by decide)).is (by congr 1; omega)) av_nil))) fun H1 e1 Q1 k1 => ⟨r, hv, rs1, _, rfl, by omega, rh.mono e1, gh.noTup, ?_, gh.dep (by omega), by omega, k1⟩))) fun H2 e2 => ?_
    · have := gh.1
      omega
    · exact b_nil ⟨_, _, _, _, _, _, rfl, e.trans e2⟩
  rintro t σ' H6 ht ⟨hv, o1, o2, rs1, rfl, e6, hd6, rh6, gh6⟩
  refine ⟨_, by walk_at "set", ?_⟩
  obtain ⟨xk, hxk⟩ : ∃ x, ds[3 * t]? = some x := by
    have ht3 : t < 3 := by omega
    rcases (show t = 0 ∨ t = 1 ∨ t = 2 by omega) with z | z | z <;> rw [z]
    · obtain ⟨i, h, _⟩ := digs_at dg (n := 0) (s := 15) rfl; exact ⟨i, h⟩
    · obtain ⟨i, h, _⟩ := digs_at dg (n := 3) (s := 15) rfl; exact ⟨i, h⟩
    · obtain ⟨i, h, _⟩ := digs_at dg (n := 6) (s := 15) rfl; exact ⟨i, h⟩
  obtain ⟨xi, hxi⟩ : ∃ x : Nat, ds[3 * t + 1]? = some (x : Int) := by
    rcases (show t = 0 ∨ t = 1 ∨ t = 2 by omega) with z | z | z <;> rw [z]
    · obtain ⟨i, h, h0, _⟩ := digs_at dg (n := 1) (s := (n : Int)) rfl; exact ⟨i.toNat, by rw [Int.toNat_of_nonneg h0]; exact h⟩
    · obtain ⟨i, h, h0, _⟩ := digs_at dg (n := 4) (s := (n : Int)) rfl; exact ⟨i.toNat, by rw [Int.toNat_of_nonneg h0]; exact h⟩
    · obtain ⟨i, h, h0, _⟩ := digs_at dg (n := 7) (s := (n : Int)) rfl; exact ⟨i.toNat, by rw [Int.toNat_of_nonneg h0]; exact h⟩
  obtain ⟨xj, hxj⟩ : ∃ x : Nat, ds[3 * t + 2]? = some (x : Int) := by
    rcases (show t = 0 ∨ t = 1 ∨ t = 2 by omega) with z | z | z <;> rw [z]
    · obtain ⟨i, h, h0, _⟩ := digs_at dg (n := 2) (s := (n : Int)) rfl; exact ⟨i.toNat, by rw [Int.toNat_of_nonneg h0]; exact h⟩
    · obtain ⟨i, h, h0, _⟩ := digs_at dg (n := 5) (s := (n : Int)) rfl; exact ⟨i.toNat, by rw [Int.toNat_of_nonneg h0]; exact h⟩
    · obtain ⟨i, h, h0, _⟩ := digs_at dg (n := 8) (s := (n : Int)) rfl; exact ⟨i.toNat, by rw [Int.toNat_of_nonneg h0]; exact h⟩
  obtain ⟨x1, hx1⟩ : ∃ x : Nat, ds[1]? = some (x : Int) := by
    obtain ⟨i, h, h0, _⟩ := digs_at dg (n := 1) (s := (n : Int)) rfl
    exact ⟨i.toNat, by rw [Int.toNat_of_nonneg h0]; exact h⟩
  refine b_setV (v := .int (xi : Int)) hC (by walk_at "mem") (by walk_at "set") (ev_lI (n := 3 * t + 1) (by walk_at "ev") hd6 ((ev_add (ev_mul ev_int (by walk_at "ev") (.inl ⟨by omega, by omega⟩)) ev_int).is (by congr 1)) hxi (fun _ _ => rfl)) fun H7 e7 => ?_
  refine b_whenJ (P := fun _ => True) (fun σ' H' => ∃ i : Nat, σ' = [some sv, some (.int (r : Int)), some rv, some ov, some (.int (form : Int)), some (.int (n : Int)), some (.int (k : Int)), some (.ref dp), some hv, some (.int (x10 % m)), some (.int (t : Int)), some (.int (i : Int))] ∧ Ex H6 H') (tz_tv (tv_w (tw_and (tv_c (cv_eqI (by walk_at "ev") ev_int)) fun _ => tw_and1 (tv_c (cv_neI (by walk_at "ev") ev_int)))) trivial) ?_ ?_ ?_
  · intro _ H8 e8
    exact b_setV (v := .int (x1 : Int)) hC (by walk_at "mem") (by walk_at "set") (ev_lI (n := 1) (by walk_at "ev") ((e7.trans e8) _ _ hd6) ev_int hx1) fun H9 e9 => b_nil ⟨_, rfl, e7.trans (e8.trans e9)⟩
  · exact fun _ H8 e8 => ⟨_, rfl, e7.trans e8⟩
  rintro σ' H8 ⟨i, rfl, e8⟩
  have hd8 := e8 _ _ hd6
  have dv0 : 0 ≤ (x10 % m) / (1 + (t : Int)) := Int.ediv_nonneg b0 (by omega)
  have dv1 : (x10 % m) / (1 + (t : Int)) ≤ x10 % m := Int.ediv_le_self _ b0
  refine b_set hC (by walk_at "mem") (by walk_at "set") (we_call hC (Z.cal dS) (by walk_at "mem") ((show Av X [_, _, _, _, _] _ H8 [hv, .int xk, .int (i : Int), .int (xj : Int), .int ((x10 % m) / (1 + (t : Int)))] from av_cons (by walk_at "ev") (av_cons (ev_lI (n := 3 * t) (by walk_at "ev") hd8 ((ev_mul ev_int (by walk_at "ev") (.inl ⟨by omega, by omega⟩)).is (by congr 1)) hxk (fun _ _ => rfl)) (av_cons (by walk_at "ev") (av_cons (ev_lI (n := 3 * t + 2) (by walk_at "ev") hd8 ((ev_add (ev_mul ev_int (by walk_at "ev") (.inl ⟨by omega, by omega⟩)) ev_int).is (by congr 1)) hxj (fun _ _ => rfl)) (av_cons (ev_fdiv (by walk_at "ev") (ev_add ev_int (by walk_at "ev")) ⟨by omega, by omega⟩) av_nil))))).go fun H9 e9 => ?_))
  refine ⟨hv, rs1, xk, i, xj, _, _, _, rfl, rh6.mono (e8.trans e9), gh6, by omega, by omega, ?_, dv0, by omega, fun rs2 v2 HA eA g2 rA => ?_⟩
  · omega
  · exact b_nil ⟨_, _, _, _, rfl, e6.trans (e8.trans (e9.trans eA)), (e9.trans eA) _ _ hd8, rA, g2.le (by omega) (by omega)⟩
end
end RC
/-! Rules for `law`: max of a tuple of ints. -/
namespace RC
open PySem PySem.Spec PyProof.Rows L2
theorem maxOf_int (x : Int) (xs : List Int) : PySem.W.maxOf x xs ∈ x :: xs ∧ ∀ y ∈ x :: xs, y ≤ PySem.W.maxOf x xs := by
  unfold PySem.W.maxOf
  induction xs generalizing x with
  | nil => exact ⟨List.mem_cons_self, fun y hy => by rw [List.mem_singleton.mp hy]; exact Int.le_refl _⟩
  | cons z zs ih =>
    rw [List.foldl_cons]
    have hlt : (PySem.W.DatumOrd.lt x z = true) = (x < z) := by
      apply propext
      show decide (x < z) = true ↔ _
      exact decide_eq_true_iff
    have key := ih (if PySem.W.DatumOrd.lt x z = true then z else x)
    refine ⟨?_, fun y hy => ?_⟩
    · rcases List.mem_cons.mp key.1 with h | h
      · rw [h]
        split
        · exact List.mem_cons_of_mem _ List.mem_cons_self
        · exact List.mem_cons_self
      · exact List.mem_cons_of_mem _ (List.mem_cons_of_mem _ h)
    · have k0 := key.2 _ List.mem_cons_self
      have k1 : x ≤ (if PySem.W.DatumOrd.lt x z = true then z else x) ∧ z ≤ (if PySem.W.DatumOrd.lt x z = true then z else x) := by
        by_cases h : PySem.W.DatumOrd.lt x z = true
        · rw [if_pos h]
          rw [hlt] at h
          omega
        · rw [if_neg h]
          rw [hlt] at h
          omega
      rcases List.mem_cons.mp hy with rfl | hy
      · exact Int.le_trans k1.1 k0
      · rcases List.mem_cons.mp hy with rfl | hy
        · exact Int.le_trans k1.2 k0
        · exact key.2 y (List.mem_cons_of_mem _ hy)
section
variable {X : Cx}
def rMaxT (K : PySem.W.Frag) : List V → Hp → VK → Prop := fun vs H Q => ∃ (a : Addr) (ns : List Int), vs = [V.ref a] ∧ SqT K H a (ns.map V.int) ∧ 0 < ns.length ∧ ∀ m, m ∈ ns → (∀ y, y ∈ ns → y ≤ m) → Q (.int m) H
theorem cr_maxT (hc : X.calm = true) (hu : X.A.units + 1 < cLine) : CallR X (.builtin "max") (rMaxT X.K) := by
  intro pins s σ H vs us Q I r h
  obtain ⟨a, ns, rfl, hs, hne, q⟩ := h
  obtain ⟨its, rv, hl, _⟩ := I.tuple hs
  rw [Vals.ref1 r]
  cases ns with
  | nil => exact absurd hne (Nat.lt_irrefl _)
  | cons x xs =>
    have hi := rv.ints
    refine PySem.W.max_tuple_datum (α := Int) (I.ok.hd hc) hl (x := x) (xs := xs) (PySem.W.HoldAll.of_ints hi) hu fun i v h' tk hv hh hk => ?_
    obtain ⟨m1, m2⟩ := maxOf_int x xs
    obtain ⟨t, rfl⟩ := PySem.W.int_of_holds hh
    exact ⟨.int _, H, I.kept hk, ⟨_, rfl⟩, q _ m1 m2⟩
end
section
variable {X : Cx} {S : Scope} {N M G L : List Str} {σ : St} {H : Hp} {a : Expr} {pos pos2 : Pos}
/-- max of a tuple of ints -/
theorem ei_maxT {p : Addr} {ns : List Int} (C : Ctx X S N M L G) (B : Bi X.mg) (hc : X.calm = true) (hu : X.A.units + 1 < cLine) (hg : ("max" : Str) ∈ G) (ha : Ev X a σ H (.ref p)) (h : SqT X.K H p (ns.map V.int)) (hn : 0 < ns.length) (he : starEach (a :: []) X.env = (false, eval a X.env) :: starEach [] X.env := by rfl) :
    Ei X (.Call (.Name "max" pos2) [a] [] pos) σ H (fun m => m ∈ ns ∧ ∀ y ∈ ns, y ≤ m) :=
  ⟨fun H1 e1 Q k => we_of (pe_callB (cr_maxT hc hu) (C.glo hg) B.max bt_max pa_wa (by decide) (by decide) he rfl) (a_cons (ha.run H1 e1 _ fun H2 e2 => a_nil ⟨p, ns, rfl, exT (e1.trans e2) h, hn, fun m h1 h2 => k m H2 e2 ⟨h1, h2⟩⟩) he)⟩
/-- max of a list that is made on the way -/
theorem ei_maxO {ns : List Int} (C : Ctx X S N M L G) (B : Bi X.mg) (hc : X.calm = true) (hg : ("max" : Str) ∈ G) (ha : Eo X a σ H (.lst (ns.map V.int))) (hn : 0 < ns.length) (he : starEach (a :: []) X.env = (false, eval a X.env) :: starEach [] X.env := by rfl) :
    Ei X (.Call (.Name "max" pos2) [a] [] pos) σ H (fun m => m ∈ ns ∧ ∀ y ∈ ns, y ≤ m) :=
  ⟨fun H1 e1 Q k => we_of (pe_callB (cr_max hc) (C.glo hg) B.max bt_max pa_wa (by decide) (by decide) he rfl) (a_cons (ha.run H1 e1 _ fun p H2 hp e2 h2 => a_nil ⟨p, ns, rfl, sqL h2, hn, fun m h1 h2 => k m H2 e2 ⟨h1, h2⟩⟩) he)⟩
end
end RC
/-! Mathematics for `law`: a lot times a number; the table of a normal form is accepted. -/
namespace RC
def scl (m : Int) (t : T3) : T3 := (t.1, t.2.1, t.2.2 * m)
theorem inC_scl (m : Int) (t : T3) (i : Int) : inC (scl m t) i = inC t i := rfl
theorem passing_scl (m : Int) (L : List T3) (i j : Int) : passing (L.map (scl m)) i j = passing L i j * m := by
  induction L with
  | nil => rw [List.map_nil, passing_nil, Int.zero_mul]
  | cons t L ih =>
    rw [List.map_cons, passing_cons, passing_cons, ih, Int.add_mul]
    congr 1
    unfold part
    rw [inC_scl, inC_scl]
    split
    · rw [Int.zero_mul]
    · rfl
theorem tabR_scl (n : Nat) (m : Int) (L : List T3) : tabR n (L.map (scl m)) = (tabR n L).map fun row => row.map (· * m) := by
  unfold tabR
  rw [List.map_map]
  refine List.map_congr_left fun i _ => ?_
  show _ = List.map _ (List.map _ _)
  rw [List.map_map]
  refine List.map_congr_left fun j _ => ?_
  exact passing_scl m L _ _
theorem nf_scl {r : Nat} {m : Int} {L : List T3} (h : Nf r L) (hm : 1 ≤ m) : Nf r (L.map (scl m)) := by
  refine ⟨fun t ht => ?_, ?_⟩
  · obtain ⟨u, hu, rfl⟩ := List.mem_map.mp ht
    obtain ⟨h1, h2, h3, h4⟩ := h.inr u hu
    refine ⟨h1, h2, h3, ?_⟩
    have : 1 * 1 ≤ u.2.2 * m := Int.mul_le_mul h4 hm (by decide) (by omega)
    simpa [scl] using this
  · rw [List.pairwise_map]
    exact h.asc.imp fun h => h
theorem passing_bd {L : List T3} (h : ∀ t ∈ L, 1 ≤ t.2.2) (i j : Int) : 0 ≤ passing L i j ∧ passing L i j ≤ tot L := by
  induction L with
  | nil => exact ⟨Int.le_refl _, Int.le_refl _⟩
  | cons t L ih =>
    have h1 := h t List.mem_cons_self
    have h2 := ih fun u hu => h u (List.mem_cons_of_mem _ hu)
    rw [passing_cons]
    have e : tot (t :: L) = t.2.2 + tot L := rfl
    rw [e]
    unfold part
    split <;> omega
theorem tabR_row {n : Nat} {L : List T3} {row : List Int} (h : row ∈ tabR n L) : row.length = n ∧ ∀ x ∈ row, ∃ i j : Int, x = passing L i j := by
  unfold tabR at h
  obtain ⟨i, _, rfl⟩ := List.mem_map.mp h
  refine ⟨by simp, fun x hx => ?_⟩
  obtain ⟨j, _, rfl⟩ := List.mem_map.mp hx
  exact ⟨_, _, rfl⟩
theorem toI_int (r : List Int) : (r.map D.int).map D.toI = r := by
  rw [List.map_map]
  exact (List.map_congr_left fun _ _ => rfl).trans (List.map_id r)
theorem tabOf_lst (T : List (List Int)) : tabOf (.lst (T.map lstD)) = T := by
  unfold tabOf
  show ((T.map lstD).map fun r => (r.seq.getD []).map D.toI) = T
  rw [List.map_map]
  refine (List.map_congr_left fun r _ => ?_).trans (List.map_id T)
  exact toI_int r
theorem intAt_lst {n : Nat} {T : List (List Int)} (hq : Sqr n T) {i j : Nat} (hi : i < n) (hj : j < n) : intAt (T.map lstD) i j = some (tget T i j) := by
  obtain ⟨row, h1, h2⟩ := hq.get hi hj
  unfold intAt rowAt
  rw [List.getElem?_map, h1]
  show (((row.map D.int)[j]?).bind _) = _
  rw [List.getElem?_map, h2]
  rfl
theorem badT_lst {n : Nat} {T : List (List Int)} (h : TabOk n T) : badT n (.lst (T.map lstD)) = none := by
  unfold badT
  show (match (List.range n).findSome? (rowBad n (T.map lstD)) with
    | some p => some p
    | none => if n < (T.map lstD).length then some (n, 0) else none) = none
  rw [findS_no fun i hi => ?_]
  · show (if n < (T.map lstD).length then some (n, 0) else none) = none
    rw [if_neg]
    rw [List.length_map, h.sqr.1]
    exact Nat.lt_irrefl _
  · obtain ⟨row, h1, h2, _⟩ := h.sqr.row hi
    unfold rowBad
    have e : rowAt (T.map lstD) i = some (row.map D.int) := by
      unfold rowAt
      rw [List.getElem?_map, h1]
      rfl
    rw [e]
    show (match (List.range n).find? (fun j => !goodAt (T.map lstD) i j) with
      | some j => some (i, j)
      | none => if n < (row.map D.int).length then some (i, n) else none) = none
    rw [find_no fun j hj => ?_]
    · show (if n < (row.map D.int).length then some (i, n) else none) = none
      rw [if_neg]
      rw [List.length_map, h2]
      exact Nat.lt_irrefl _
    · unfold goodAt
      rw [intAt_lst h.sqr hi hj]
      have h3 := h.nonneg i j hi hj
      show (!(decide (0 ≤ tget T i j) && (if i = j then decide (tget T i j = 0) else decide (i < j) || decide (some (tget T i j) = intAt (T.map lstD) j i)))) = false
      rw [decide_eq_true h3]
      by_cases e : i = j
      · subst e
        rw [if_pos rfl, decide_eq_true (h.diag i hi)]
        rfl
      · rw [if_neg e, intAt_lst h.sqr hj hi, h.sym i j hi hj]
        simp
theorem tabOk_tabR {n r : Nat} {L : List T3} (h : Nf r L) : TabOk n (tabR n L) := by
  have hp : ∀ t ∈ L, 1 ≤ t.2.2 := fun t ht => (h.inr t ht).2.2.2
  refine ⟨sqr_tabR n L, fun i j hi hj => ?_, fun i hi => ?_, fun i j hi hj => ?_⟩
  · rw [tget_tabR hi hj]
    exact (passing_bd hp _ _).1
  · rw [tget_tabR hi hi]
    exact passing_self L _
  · rw [tget_tabR hi hj, tget_tabR hj hi]
    exact passing_sym L _ _
theorem lotOut_tabR {r form : Nat} {L : List T3} (h : Nf r L) : lotOut (.int (r : Int)) (passD ((tabR (max r 1) L).map lstD) form) = .lot r L := by
  rw [lotOut_pass, lotOut_nat, badT_lst (tabOk_tabR h), tabOf_lst]
  have hn : firstNo r (tabR (max r 1) L) = none := by
    unfold firstNo
    rw [List.find?_eq_none]
    intro t ht
    rw [dbl_tabR h (Nat.le_max_left r 1) t ht]
    exact Bool.false_ne_true
  show (match firstNo r (tabR (max r 1) L) with
      | some t => Out.nolot t
      | none => .lot r (cordsOf r (tabR (max r 1) L))) = _
  rw [hn]
  show Out.lot r (cordsOf r (tabR (max r 1) L)) = _
  rw [cords_tabR h (Nat.le_max_left r 1)]
theorem grid_tab {n : Nat} {T : List (List Int)} {c : Int} (hq : Sqr n T) (hn : n ≤ 40) (hb : ∀ row ∈ T, ∀ x ∈ row, -c ≤ x ∧ x ≤ c) : Grid c 40 (T.map lstD) := by
  refine ⟨by rw [List.length_map, hq.1]; exact hn, fun d hd => ?_⟩
  obtain ⟨row, hr, rfl⟩ := List.mem_map.mp hd
  refine ⟨rfl, fun es he => ?_⟩
  cases he
  refine ⟨by rw [List.length_map, hq.2 row hr]; exact hn, fun e he => ?_⟩
  obtain ⟨i, hi, rfl⟩ := List.mem_map.mp he
  exact okE_int (hb row hr i hi)
end RC
/-! Rules for `law`: max, list + list, d[k] = v, a call by names alone. -/
namespace RC
open PySem PySem.Spec PyProof.Rows L2
def mxL : List Int → Int
  | [] => 0
  | x :: xs => PySem.W.maxOf x xs
theorem mxL_mem {l : List Int} (h : 0 < l.length) : mxL l ∈ l ∧ ∀ y ∈ l, y ≤ mxL l := by
  cases l with
  | nil => exact absurd h (Nat.lt_irrefl _)
  | cons x xs => exact maxOf_int x xs
theorem mxL_eq {l : List Int} {m : Int} (h1 : m ∈ l) (h2 : ∀ y ∈ l, y ≤ m) : m = mxL l := by
  obtain ⟨a, b⟩ := mxL_mem (List.length_pos_of_mem h1)
  have := h2 _ a
  have := b _ h1
  omega
section
variable {X : Cx} {S : Scope} {N M G L : List Str} {n : Nat} {σ : St} {H : Hp} {a b e : Expr} {rest : List Stmt} {En : Ends} {pos pos2 : Pos}
theorem ev_maxT {p : Addr} {ns : List Int} (C : Ctx X S N M L G) (B : Bi X.mg) (hc : X.calm = true) (hu : X.A.units + 1 < cLine) (hg : ("max" : Str) ∈ G) (ha : Ev X a σ H (.ref p)) (h : SqT X.K H p (ns.map V.int)) (hn : 0 < ns.length) (he : starEach (a :: []) X.env = (false, eval a X.env) :: starEach [] X.env := by rfl) :
    Ev X (.Call (.Name "max" pos2) [a] [] pos) σ H (.int (mxL ns)) :=
  ev_callB C (cr_maxT hc hu) hg B.max bt_max (av_cons ha av_nil he) (fun H1 e1 Q q => ⟨p, ns, rfl, exT e1 h, hn, fun m h1 h2 => by rw [mxL_eq h1 h2]; exact q⟩) (by decide) (by decide) he rfl
/-- max of a list that is made on the way, told -/
theorem ev_maxO {ns : List Int} (C : Ctx X S N M L G) (B : Bi X.mg) (hc : X.calm = true) (hg : ("max" : Str) ∈ G) (ha : Eo X a σ H (.lst (ns.map V.int))) (hn : 0 < ns.length) (he : starEach (a :: []) X.env = (false, eval a X.env) :: starEach [] X.env := by rfl) :
    Ev X (.Call (.Name "max" pos2) [a] [] pos) σ H (.int (mxL ns)) :=
  ⟨fun H1 e1 Q k => (ei_maxO C B hc hg ha hn he).run H1 e1 Q fun m H2 e2 h => by rw [mxL_eq h.1 h.2]; exact k H2 e2⟩
theorem eo_cat {xs ys : List V} (ha : Eo X a σ H (.lst xs)) (hb : Eo X b σ H (.lst ys)) (hl : xs.length + ys.length ≤ 100000) : Eo X (.BinOp a .Add b pos) σ H (.lst (xs ++ ys)) :=
  ⟨fun H1 e1 Q k => we_of (pe_op op_cat pe_we pe_we) (ha.run H1 e1 _ fun p H2 hp e2 h2 => hb.run H2 (e1.trans e2) _ fun q H3 hq e3 h3 => ⟨p, q, xs, ys, rfl, rfl, e3 _ _ h2, h3, szOf hl, fun r hr => k r _ (e2.fresh (e3.fresh hr)) ((e2.trans e3).trans (Ex.new hr)) upd_same⟩)⟩
/-- d[k] = e -/
theorem b_setDk (hu : X.A.units + 1 < cLine) (he : WE X e σ H fun v H1 => WE X a σ H1 fun o H2 => WE X b σ H2 fun n H3 => ∃ (p : Addr) (kvs : List (Key × V)) (k : Int), o = .ref p ∧ n = .int k ∧ H3 p = some (.dK kvs) ∧ kvs.length < 100000 ∧ WB X rest En σ (upd H3 p (.dK (putK kvs (Sum.inl k) v))))
    (ha : ∀ v, assign (.Subscript a b pos2) X.env v = (do
      let ov ← holding [v] (eval a X.env)
      let iv ← holding [v, ov] (eval b X.env)
      standAt pos2
      holding [v, ov, iv] (setItem ov iv v)
      release [v, ov, iv] []) := by intro _; rfl)
    (hs : swapsWithSole [.Subscript a b pos2] e pos.line X.env = pure false := by rfl) (hw : swappedStores [.Subscript a b pos2] e X.env = pure none := by rfl) (h1 : (assignEach [.Subscript a b pos2] X.env).map (·.2) = [assign (.Subscript a b pos2) X.env] := by rfl) :
    WB X (.Assign [.Subscript a b pos2] e pos :: rest) En σ H := by
  refine b_cons (ws_of (ps_asg pe_we (pg_sub pe_we pe_we (set_dict hu) ha) hs hw h1) ?_)
  refine WE.mono he fun v H1 q => ?_
  refine WE.mono q fun o H2 q => ?_
  refine WE.mono q fun n H3 q => ?_
  obtain ⟨p, kvs, k, rfl, rfl, h3, hl, q⟩ := q
  exact ⟨p, _, rfl, DPut.k (k := Sum.inl k) h3 (szLt hl), q⟩
/-- {} -/
theorem eo_dict0 : Eo X (.Dict [] [] pos) σ H (.dK []) := ⟨fun H1 e1 Q k => we_of pe_dnewK fun p hp => k p _ hp (Ex.new hp) upd_same⟩
end
section
variable {X : Cx} {CX : CXT} {k : Nat} {f : Addr} {fd : FuncData} {ps ks : List Str} {sp : Sp} {E : XK} {x : Str} {p pos : Pos} {kws : List Keyword} {tk : TA} {g : List Value → List Value → List Value} {gV : List V → List V → List V}
/-- f(k = e, ..), nothing by position -/
theorem pe_callK0 (F : FnOk X.prog X.w X.K X.mg X.base CX k f fd ps sp) (hr : Room k X.A) (hg : L2.Gl X x) (hm : X.mg x = some (.ref f)) (hk : PySem.W.keepIn X.K (.ref f) = true) (hb : KBinds X.K fd ps ks g gV) (hx : Passes CX X E) (hkw : PK X kws tk)
    (hall : (backToKw pos (keywordEach kws X.env)).all (·.1.isSome) = true := by rfl) (hks : (backToKw pos (keywordEach kws X.env)).filterMap (·.1) = ks := by rfl) (hdb : (x == ("__debug__" : Str)) = false := by decide)
    (hpl : ((backTo pos (starEach [] X.env)).any (·.1) || (backToKw pos (keywordEach kws X.env)).any (·.1.isNone)) = false := by rfl) :
    PE X (.Call (.Name x p) [] kws pos) (fun σ H Q => tk σ H fun zs H2 => sp (gV [] zs) H2 Q E) := by
  refine ⟨fun pins s σ H Q I h => ?_⟩
  refine wpAny_Call_Name_kw (ld_glob I hg hm ?_ hdb)
  refine PySem.W.callWith_KW0 (h₀ := X.base) I.ok.mod.kin hk hall (thn (hkw.run pos pins s σ H _ I h) fun ws s2 ⟨zs, H2, I2, rz, q2⟩ => ⟨I2.kIn, ?_⟩) hpl
  rw [hks]
  exact run_fnk (us := []) (vs := []) F hr hb hx I2 .nil rz q2
end
end RC
/-! law, walked -/
namespace RC
open PySem PySem.Spec PyProof.Rows L2
section
variable {X : Cx} {S : Scope} {N M Ls G : List Str} {σ : St} {H : Hp} {es : List Expr} {b : Expr} {P : D → Prop} {pos pos2 : Pos}
/-- [..][k], k some int in the range -/
theorem es_pickI {n : Nat} (h : As X es σ H P n) (hi : Ei X b σ H (fun i => 0 ≤ i ∧ i < (n : Int))) (hn : n ≤ 1000) (hp : PlainIx b := by exact fun _ _ => rfl) : Es X (.Subscript (.List es pos) b pos2) σ H P :=
  ⟨fun H1 e1 Q kk => we_of (pe_ix ix_list (pe_lst pa_wa) pe_we hp) (h.run H1 e1 _ fun vs ds H2 e2 rs ps hl => by
    have hvl := rs.len
    refine ⟨szOf (by omega), fun l hl' => ?_⟩
    have e3 := Ex.new (o := .lst vs) hl'
    refine hi.run _ ((e1.trans e2).trans e3) _ fun i H4 e4 hi4 => ?_
    obtain ⟨k, rfl⟩ : ∃ k : Nat, i = (k : Int) := ⟨i.toNat, by omega⟩
    have hlt : k < ds.length := by omega
    obtain ⟨v, hv, r⟩ := rs.at (List.getElem?_eq_getElem hlt)
    exact ⟨l, vs, k, v, rfl, rfl, sqL (e4 _ _ upd_same), L2.atI_nat hv, kk v ds[k] H4 ((e2.trans e3).trans e4) (ps _ (List.getElem_mem hlt)) (r.mono (nw_mono (e3.trans e4)))⟩)⟩
end
theorem pick4 {x : Int} (h0 : 0 ≤ x) (h1 : x < 4) : ∃ t : Int, atI [V.int 1, .int 2, .int 1000, .int 2] x = some (.int t) ∧ 0 ≤ t ∧ t ≤ 1000 := by
  rcases (show x = 0 ∨ x = 1 ∨ x = 2 ∨ x = 3 by omega) with rfl | rfl | rfl | rfl
  · exact ⟨1, rfl, by decide, by decide⟩
  · exact ⟨2, rfl, by decide, by decide⟩
  · exact ⟨1000, rfl, by decide, by decide⟩
  · exact ⟨2, rfl, by decide, by decide⟩
theorem max_bd {n : Nat} {L : List T3} {b : Int} (hn : 1 ≤ n) (hp : ∀ t ∈ L, 1 ≤ t.2.2) (hb : tot L ≤ b) (hb1 : 1 ≤ b) : 1 ≤ mxL ((tabR n L).map mxL ++ [1]) ∧ mxL ((tabR n L).map mxL ++ [1]) ≤ b := by
  obtain ⟨h1, h2⟩ := mxL_mem (l := (tabR n L).map mxL ++ [1]) (by simp)
  refine ⟨h2 1 (by simp), ?_⟩
  rcases List.mem_append.mp h1 with h | h
  · obtain ⟨row, hr, e⟩ := List.mem_map.mp h
    obtain ⟨r1, r2⟩ := tabR_row hr
    obtain ⟨i, j, e2⟩ := r2 _ (mxL_mem (l := row) (by omega)).1
    have := (passing_bd hp i j).2
    omega
  · have := List.mem_singleton.mp h
    omega
theorem putK_new {kvs : List (Key × V)} {i : Nat} {v : V} (h : kvs.map (·.1) = (List.range i).map fun k : Nat => (Sum.inl (k : Int) : Key)) : putK kvs (Sum.inl (i : Int)) v = kvs ++ [(Sum.inl (i : Int), v)] := by
  unfold putK
  rw [if_neg]
  intro z
  rw [List.any_eq_true] at z
  obtain ⟨kv, hkv, e⟩ := z
  have e := of_decide_eq_true e
  have hm : kv.1 ∈ kvs.map (·.1) := List.mem_map.mpr ⟨kv, hkv, rfl⟩
  rw [h] at hm
  obtain ⟨k, hk, e2⟩ := List.mem_map.mp hm
  have hk := List.mem_range.mp hk
  rw [e] at e2
  have : (k : Int) = (i : Int) := Sum.inl.inj e2
  omega
theorem dk_keys {kvs : List (Key × V)} {i : Nat} (h : kvs.map (·.1) = (List.range i).map fun k : Nat => (Sum.inl (k : Int) : Key)) (hv : ∀ kv ∈ kvs, ∃ a, kv.2 = V.ref a) : DkOk kvs := by
  refine ⟨?_, fun kv hkv => .inr (hv kv hkv)⟩
  rw [h]
  refine List.Pairwise.map _ (fun a b hab z => hab ?_) (List.nodup_range (n := i))
  have : (a : Int) = (b : Int) := Sum.inl.inj z
  omega
theorem lotOut_flat {r : Nat} {d : D} (h : d.seq = none) : lotOut (.int (r : Int)) d = .table 0 0 := by
  rw [lotOut_nat]
  have : badT (max r 1) d = some (0, 0) := by
    unfold badT
    rw [h]
  rw [this]
section
theorem law_tail {X : Cx} {C CP CT CN : Addr} (Z : Sd X (defScope (topS 58)) N58 M58 M58 G58 12) (k : LotK X.K X.mg C) (dC : Df X.prog X.w X.K X.mg X.base CX0 1 "_law_cell" (spCell X.K)) (dI : Df X.prog X.w X.K X.mg X.base CX0 5 "_law_lot_is" (spLotIs C)) (dP : Df X.prog X.w X.K X.mg X.base CX0 1 "_law_passed" spPassed)
    (dF : Df X.prog X.w X.K X.mg X.base CX0 10 "_law_found" spFound) (dFr : Df X.prog X.w X.K X.mg X.base CX0 2 "_law_free" spFree) (dJ : Df X.prog X.w X.K X.mg X.base CX0 11 "_law_judged" spJudged) (dA : Df X.prog X.w X.K X.mg X.base CX0 12 "_law_all_spoilt" (spAllSp X.K)) (dR : Df X.prog X.w X.K X.mg X.base CX0 9 "_law_refused" spRefused)
    (dBp : Df X.prog X.w X.K X.mg X.base CX0 9 "_law_bad_pins" spBadPins) (dL : Df X.prog X.w X.K X.mg X.base (L2N.CX X.prog X.w) 6 "lot_of" (spLotOf C CP CT CN))
    (lf : ∃ (f : Addr) (fd : FuncData), FunD X.K "lot_of" "lot_of" (defArgs (topS 31)) (defBody (topS 31)) (defScope (topS 31)) [] [] f fd ∧ FnOk X.prog X.w X.K X.mg X.base (L2N.CX X.prog X.w) 6 f fd ["pins", "table"] (spLotOf C CP CT CN) ∧ X.mg "lot_of" = some (.ref f))
    {sv rv bv : V} {op : Option V} {r form n : Nat} {m : Int} {T : List (List Int)} {Ls : List T3} {H : Hp} {Q : VK} (hs : Scr X.K H sv) (hr : r ≤ 40) (hn : n = max r 1) (hfm : form < 8) (rr : Rep H rv (.lst (T.map lstD))) (rb : Rep H bv (crdD Ls)) (hLs : Ls.length ≤ 1000) (nfs : Nf r Ls)
    (hout : ∀ fm : Nat, lotOut (.int (r : Int)) (passD (T.map lstD) fm) = .lot r Ls) (hcor : cordsOf r T = Ls) (hgrid : Grid (10 ^ 20) 40 (T.map lstD)) (hsq : Sqr (max r 1) T) (htab : tabR (max r 1) Ls = T) (q : ∀ H', Ex H H' → Q (.bl true) H') :
    WB X ((defBody (topS 58)).drop 9) { nx := fun _ H' => Q .non H', rt := Q } [some sv, some (.int (r : Int)), some bv, some (.int (form : Int)), some (.int (n : Int)), op, some (.int m), none, none, none, some rv, none, none, none, none, none, none, none] H := by
  have hC := Z.C
  have hTl : T.length ≤ 40 := by rw [hsq.1]; omega
  have cell : ∀ {e : Expr} {k : Nat} {σ : St} {H1 : Hp} {p1 p2 p3 : Pos}, Ex H H1 → Ev X (.Name "_law_script" p3) σ H1 sv → Ev X e σ H1 (.int (k : Int)) → starEach [e] X.env = (false, eval e X.env) :: starEach [] X.env → Ei X (.Call (.Name "_law_cell" p1) [.Name "_law_script" p3, e] [] p2) σ H1 (fun _ => True) := fun {e k σ H1 p1 p2 p3} e1 h1 h2 hst =>
    ei_call hC (Z.cal dC) (by walk_at "mem") (av_cons h1 (av_cons h2 av_nil hst)) (fun H2 e2 Q kk => ⟨sv, k, rfl, hs.mono (e1.trans e2), fun i H' e' => kk i H' e' trivial⟩) rfl (by rw [hst]; rfl)
  have pass : ∀ {H1 : Hp} {σ : St} {p1 p2 p3 p4 : Pos}, Ex H H1 → Ev X (.Name "_law_rows" p2) σ H1 rv → Ev X (.Name "_law_form" p3) σ H1 (.int (form : Int)) → Em X (.Call (.Name "_law_passed" p1) [.Name "_law_rows" p2, .Name "_law_form" p3] [] p4) σ H1 (passD (T.map lstD) form) := fun e1 h1 h2 =>
    em_call hC (Z.cal dP) (by walk_at "mem") (av_cons h1 (av_cons h2 av_nil)) fun H2 e2 Q kk => ⟨rv, _, form, rfl, rr.mono (e1.trans e2), lst_noTup T, by rw [List.length_map]; omega, by omega, fun v' H'' e'' r'' _ => kk v' H'' e'' r''⟩
  have calE : CalE X "lot_of" (spLotOf C CP CT CN) (fun _ _ _ _ => False) := Df.calE dL tk_no Z.room (by decide)
  have spl : ∀ {H1 : Hp} {gv : V} {Q : VK} {E : XK}, Rep H1 gv (passD (T.map lstD) form) → (∀ v H2, Ex H1 H2 → LotAt C H2 v r Ls → Q v H2) → spLotOf C CP CT CN [.int (r : Int), gv] H1 Q E := fun rg kk => ⟨.int r, .int r, _, _, rfl, .int _, rg, fun p hp => (by cases hp; omega), fun z => (by rw [hout] at z; cases z), fun i' j' z => (by rw [hout] at z; cases z), fun t' z => (by rw [hout] at z; cases z), fun r' L z lv H3 e3 l => (by rw [hout] at z; cases z; exact kk lv H3 e3 l)⟩
  have lot1 : ∀ {H1 : Hp} {σ : St} {p1 p2 p3 p4 p5 p6 p7 : Pos}, Ex H H1 → Ev X (.Name "_law_rim" p6) σ H1 (.int (r : Int)) → Ev X (.Name "_law_rows" p2) σ H1 rv → Ev X (.Name "_law_form" p3) σ H1 (.int (form : Int)) → El X C (.Call (.Name "lot_of" p5) [.Name "_law_rim" p6, .Call (.Name "_law_passed" p1) [.Name "_law_rows" p2, .Name "_law_form" p3] [] p4] [] p7) σ H1 r Ls := fun e1 h0 h1 h2 =>
    ⟨fun H2 e2 Q kk => we_callE hC calE (by walk_at "mem") (a_cons (h0.run H2 e2 _ fun H3 e3 => a_cons ((pass e1 h1 h2).run H3 (e2.trans e3) _ fun gv H4 e4 rg => a_nil (spl rg fun v H5 e5 l => kk v H5 ((e3.trans e4).trans e5) l))))⟩
  have lot2 : ∀ {H1 : Hp} {σ : St} {p1 p2 p3 p4 p5 p6 p7 p8 p9 : Pos}, Ex H H1 → Ev X (.Name "_law_rim" p6) σ H1 (.int (r : Int)) → Ev X (.Name "_law_rows" p2) σ H1 rv → Ev X (.Name "_law_form" p3) σ H1 (.int (form : Int)) → El X C (.Call (.Name "lot_of" p5) [] [⟨some "table", .Call (.Name "_law_passed" p1) [.Name "_law_rows" p2, .Name "_law_form" p3] [] p4, p8⟩, ⟨some "pins", .Name "_law_rim" p6, p9⟩] p7) σ H1 r Ls := fun e1 h0 h1 h2 =>
    ⟨fun H2 e2 Q kk => by
      obtain ⟨f, fd, FD, ok, gm⟩ := lf
      refine we_of (pe_callK0 (E := fun _ _ _ => False) ok (Z.room.mono (by decide)) (hC.glo (by walk_at "mem")) gm FD.kp (lotof_kb FD) (fun pins s σ H e s' I c => L2N.passAt tk_no _ pins _ _ e s' I c) (pk_cons pe_we (pk_cons pe_we pk_nil))) ?_
      exact (pass e1 h1 h2).run H2 e2 _ fun gv H3 e3 rg => h0.run H3 (e2.trans e3) _ fun H4 e4 => show spLotOf C CP CT CN [V.int (r : Int), gv] H4 Q (fun _ _ _ => False) from spl (rg.mono e4) fun v H5 e5 l => kk v H5 ((e3.trans e4).trans e5) l⟩
  have lotis : ∀ {H1 : Hp} {σ : St} {e : Expr} {p1 p2 p3 p4 : Pos}, Ex H H1 → El X C e σ H1 r Ls → Ev X (.Name "_law_rim" p2) σ H1 (.int (r : Int)) → Ev X (.Name "_law_bunch" p3) σ H1 bv → starEach (e :: .Name "_law_rim" p2 :: .Name "_law_bunch" p3 :: []) X.env = (false, eval e X.env) :: starEach (.Name "_law_rim" p2 :: .Name "_law_bunch" p3 :: []) X.env → Ev X (.Call (.Name "_law_lot_is" p1) [e, .Name "_law_rim" p2, .Name "_law_bunch" p3] [] p4) σ H1 (.bl true) := fun e1 hl h0 h1 he =>
    ⟨fun H2 e2 Q kk => we_call hC (Z.cal dI) (by walk_at "mem") (a_cons (hl.run H2 e2 _ fun lv H3 e3 l => a_cons (h0.run H3 (e2.trans e3) _ fun H4 e4 => a_cons (h1.run H4 ((e2.trans e3).trans e4) _ fun H5 e5 => a_nil ⟨lv, r, bv, Ls, rfl, l.mono (e4.trans e5), rb.mono (e1.trans (e2.trans (e3.trans (e4.trans e5)))), by omega, fun H' e' => kk H' (e3.trans (e4.trans (e5.trans e')))⟩))) he) he rfl⟩
  show WB X _ _ _ _
  refine b_no (tv_w (tw_or (t := false) (u := false) (tv_not (t := true) (tv_val (lotis Ex.rfl' (lot1 Ex.rfl' (by walk_at "ev") (by walk_at "ev") (by walk_at "ev")) (by walk_at "ev") (by walk_at "ev") rfl))) fun _ => tw_or1 (tv_not (t := true) (tv_val (ev_call hC (Z.cal dF) (by walk_at "mem") (av_cons (by walk_at "ev") (av_cons (by walk_at "ev") (av_cons (by walk_at "ev") av_nil))) fun H1 e1 Q kk => ⟨r, rv, T, form, rfl, by omega, rr.mono e1, by omega, hsq, by rw [hcor]; exact hout form, by rw [hcor]; exact nfs, by rw [hcor]; exact htab, kk⟩))))) fun H1 e1 => ?_
  refine b_setV (v := rv) hC (by walk_at "mem") (by walk_at "set") (by walk_at "ev") fun H2 e2 => ?_
  have e02 := e1.trans e2
  refine b_setI hC (by walk_at "mem") (by walk_at "set") (ei_mod (j := 8) (ei_int hC Z.B (by walk_at "mem") (cell (k := 3) e02 (by walk_at "ev") ev_int rfl)) ev_int (by decide)) fun kd H3 e3 hkd => ?_
  have e03 := e02.trans e3
  -- the second table
  refine b_whenJ (P := fun b => b = true → kd < 4) (fun σ' H' => ∃ (ov : V) (os : List D), σ' = [some sv, some (.int (r : Int)), some bv, some (.int (form : Int)), some (.int (n : Int)), op, some (.int m), none, none, none, some rv, some ov, some (.int kd), none, none, none, none, none] ∧ Ex H H' ∧ Rep H' ov (.lst os) ∧ Grid (10 ^ 20) 40 os)
    (tz_tv (tv_c (cv_lt (by walk_at "ev") ev_int)) of_decide_eq_true) ?_ (fun _ H4 e4 => ⟨rv, _, rfl, e03.trans e4, rr.mono (e03.trans e4), hgrid⟩) ?_
  · intro hk4 H4 e4
    obtain ⟨t, ht, ht0, ht1⟩ := pick4 hkd.1 (hk4 rfl)
    refine b_set hC (by walk_at "mem") (by walk_at "set") (we_call hC (Z.cal dFr) (by walk_at "mem") (a_cons ((cell (k := 4) (e03.trans e4) (by walk_at "ev") ev_int rfl).go fun cc H5 e5 _ => a_cons ((show Ev X _ _ H5 (.int (n : Int)) from by walk_at "ev").go fun H6 e6 => a_cons ((ev_ixO (eo_lst (av_cons ev_int (av_cons ev_int (av_cons ev_int (av_cons ev_int av_nil))))) (by walk_at "ev") ht).go fun H7 e7 => a_nil ⟨cc, n, t, rfl, by omega, ht0, ht1, fun T2 v H8 e8 hq2 hb2 r2 => ?_⟩)))))
    refine b_nil ⟨v, T2.map lstD, rfl, (e03.trans (e4.trans (e5.trans (e6.trans (e7.trans e8))))), r2.mono nw_ex, grid_tab hq2 (by omega) fun row hrow x hx => ?_⟩
    have := hb2 row hrow x hx
    omega
  rintro σ' H4 ⟨ov, os, rfl, e4, ro, go⟩
  have rr4 := rr.mono e4
  refine b_no (tv_w (tw_or (t := false) (u := false) (tv_not (t := true) (tv_val (ev_call hC (Z.cal dJ) (by walk_at "mem") (av_cons (by walk_at "ev") (av_cons (by walk_at "ev") (av_cons ev_int av_nil))) fun H5 e5 Q kk => ⟨r, ov, os, 0, rfl, by omega, ro.mono e5, go.noTup, (by have := go.1; omega), go.dep (by decide), by decide, kk⟩))) fun _ => tw_or1 (tv_not (t := true) (tv_val (ev_call hC (Z.cal dA) (by walk_at "mem") (av_cons (by walk_at "ev") (av_cons (by walk_at "ev") (av_cons (by walk_at "ev") (av_cons (by walk_at "ev") (av_cons (by walk_at "ev") av_nil))))) fun H5 e5 Q kk => ⟨sv, r, rv, ov, form, _, os, 10 ^ 20, rfl, hs.mono (e4.trans e5), hr, rr4.mono e5, ro.mono e5, hgrid, go, by decide, by decide, hfm, kk⟩))))) fun H5 e5 => ?_
  have e05 := e4.trans e5
  -- the dict
  refine b_set hC (by walk_at "mem") (by walk_at "set") (eo_dict0.go fun dp H6 hdp e6 hd6 => ?_)
  have rr5 := rr.mono e05
  obtain ⟨rp, rxs, rfl, hrp, rrx⟩ := rr5.lst_inv
  have hu : X.A.units + 1 < cLine := by have := Z.room.units; omega
  refine b_rng1 (m := n) Z (by walk_at "mem") (by walk_at "mem") (by walk_at "ev") (by omega) (fun i σ' H' => ∃ ok kvs, σ' = [some sv, some (.int (r : Int)), some bv, some (.int (form : Int)), some (.int (n : Int)), op, some (.int m), none, none, none, some (.ref rp), some ov, some (.int kd), some (.ref dp), ok, none, none, none] ∧ Ex H5 H' ∧ H' dp = some (.dK kvs) ∧ kvs.map (·.1) = (List.range i).map (fun k : Nat => (Sum.inl (k : Int) : Key)) ∧ ∀ kv ∈ kvs, ∃ a, kv.2 = V.ref a)
    (fun H7 e7 => ⟨_, [], rfl, e6.trans e7, e7 _ _ hd6, rfl, fun kv h => nomatch h⟩) ?_ ?_
  · rintro i σ' H7 hi ⟨ok, kvs, rfl, e57, hd7, hkeys, hvals⟩
    refine g1_of (by walk_at "set") ?_
    have hti : i < T.length := by rw [hsq.1]; omega
    obtain ⟨x, hx, rx⟩ := rrx.at (i := i) (d := lstD T[i]) (by rw [List.getElem?_map, List.getElem?_eq_getElem hti]; rfl)
    obtain ⟨a, ys, rfl, hy, _⟩ := Rep.lst_inv (ds := T[i].map D.int) rx
    have hkl : kvs.length = i := by
      have := congrArg List.length hkeys
      simpa using this
    refine b_setDk hu ((show Ev X _ _ H7 (.ref a) from ev_ixL (by walk_at "ev") (by walk_at "ev") (sqL (e57 _ _ hrp)) (L2.atI_nat hx)).go fun H8 e8 => (show Ev X _ _ H8 (.ref dp) from by walk_at "ev").go fun H9 e9 => (show Ev X _ _ H9 (.int (i : Int)) from by walk_at "ev").go fun HA eA => ⟨dp, kvs, i, rfl, rfl, (e8.trans (e9.trans eA)) _ _ hd7, by omega, b_nil ⟨_, _, rfl, (e57.trans (e8.trans (e9.trans eA))).mut hdp, upd_same, ?_, ?_⟩⟩)
    · rw [putK_new hkeys, List.map_append, hkeys, List.range_succ, List.map_append]
      rfl
    · intro kv hkv
      rw [putK_new hkeys] at hkv
      rcases List.mem_append.mp hkv with z | z
      · exact hvals kv z
      · rw [List.mem_singleton.mp z]
        exact ⟨a, rfl⟩
  rintro σ' H7 ⟨ok, kvs, rfl, e57, hd7, hkeys, hvals⟩
  have rd7 : Rep H7 (.ref dp) (.dct dp) := .dct hd7 (dk_keys hkeys hvals)
  have e07 := e05.trans e57
  -- the thing
  refine b_set hC (by walk_at "mem") (by walk_at "set") (Es.go (P := fun d => d.seq = none) (es_pickI (n := 7) (as_cons (es_ev ev_non .non rfl) (as_cons (es_int ev_int rfl) (as_cons (es_bl ev_bl rfl) (as_cons (es_ev ev_str (.str _) rfl) (as_cons (es_ev ev_str (.str _) rfl) (as_cons (es_int ev_int rfl) (as_cons ?_ as_nil))))))) (ei_mod (ei_int hC Z.B (by walk_at "mem") (cell (k := 11) e07 (by walk_at "ev") ev_int rfl)) ev_int (by decide)) (by decide)) fun tv td H8 e8 hseq rt => ?_)
  · exact ⟨fun H1 e1 Q kk => eo_dict0.run H1 e1 Q fun p H2 hp e2 h2 => kk _ (.dct p) H2 e2 rfl (.dct (nw_new hp h2) ⟨List.nodup_nil, fun kv h => nomatch h⟩)⟩
  have refu : ∀ {H1 : Hp} {σ : St} {nm : Str} {v : V} {d : D} {p1 p2 p3 p4 p5 p6 p7 p8 : Pos} {n1 n2 n3 : Nat}, Ev X (.Name "_law_rim" p2) σ H1 (.int (r : Int)) → (∀ p, Ev X (.Name nm p) σ H1 v) → Rep H1 v d → d.seq = none → Ev X (.Call (.Name "_law_refused" p1) [.Name "_law_rim" p2, .Name nm p3, .Name nm p4, .Tuple [.Constant (.int 0) n1 p5, .Constant (.int 0) n2 p6] n3 p7] [] p8) σ H1 (.bl true) := fun {H1 σ nm v d p1 p2 p3 p4 p5 p6 p7 p8 n1 n2 n3} h0 h1 rd hseq =>
    ⟨fun H2 e2 Q kk => we_call hC (Z.cal dR) (by walk_at "mem") (a_cons (h0.run H2 e2 _ fun H3 e3 => a_cons ((h1 _).run H3 (e2.trans e3) _ fun H4 e4 => a_cons ((h1 _).run H4 ((e2.trans e3).trans e4) _ fun H5 e5 => a_cons ((show Eo X _ _ H5 _ from eo_tup (vs := [.int 0, .int 0]) (av_cons ev_int (av_cons ev_int av_nil))).go fun pt H6 hpt e6 h6 => a_nil ⟨r, v, v, .ref pt, d, 0, 0, rfl, by omega, rd.mono (e2.trans (e3.trans (e4.trans (e5.trans e6)))), rd.mono (e2.trans (e3.trans (e4.trans (e5.trans e6)))), dep_flat hseq 5, lotOut_flat hseq, .tup h6 (RepL.ints (ns := [0, 0])), fun H' e' => kk H' (e3.trans (e4.trans (e5.trans (e6.trans e'))))⟩)))))⟩
  refine b_no (tv_w (tw_or (t := false) (u := false) (tv_not (t := true) (tv_val (refu (by walk_at "ev") (fun p => by walk_at "ev") (rt.mono nw_ex) hseq))) fun _ => tw_or1 (tv_not (t := true) (tv_val (refu (by walk_at "ev") (fun p => by walk_at "ev") (rd7.mono e8) rfl))))) fun H9 e9 => ?_
  have e09 := e07.trans (e8.trans e9)
  -- a bad number of pins
  refine b_setI hC (by walk_at "mem") (by walk_at "set") (ei_sub (ei_ev (ev_neg ev_int)) (ei_mod (ei_fdiv (ei_int hC Z.B (by walk_at "mem") (cell (k := 22) e09 (by walk_at "ev") ev_int rfl)) ev_int (by decide)) ev_int (by decide))) fun lo HA eA hlo => ?_
  have hlo1 : lo < 0 := by
    obtain ⟨i, j, rfl, hj, rfl⟩ := hlo
    omega
  have e0A := e09.trans eA
  refine b_set hC (by walk_at "mem") (by walk_at "set") (Es.go (P := fun d => DepLe 5 d ∧ ∀ p, d = .int p → p < 0) (es_pickI (n := 7) (as_cons (es_int (by walk_at "ev") ⟨dep_flat rfl 5, fun p hp => by cases hp; exact hlo1⟩) (as_cons (es_bl ev_bl ⟨dep_flat rfl 5, fun p hp => nomatch hp⟩) (as_cons (es_bl ev_bl ⟨dep_flat rfl 5, fun p hp => nomatch hp⟩) (as_cons (es_ev ev_non .non ⟨dep_flat rfl 5, fun p hp => nomatch hp⟩) (as_cons ?_ (as_cons (es_er (er_tup (ns := [(r : Int)]) (av_cons (by walk_at "ev") av_nil)) ⟨DepLe.up (DepLe.up (DepLe.up (DepLe.up (dep_ints.mpr (by simp))))), fun p hp => nomatch hp⟩) (as_cons (es_er (er_eol (ns := [(r : Int)]) (eo_lst (av_cons (by walk_at "ev") av_nil))) ⟨DepLe.up (DepLe.up (DepLe.up (DepLe.up (dep_lstD (r := [(r : Int)]) (by simp))))), fun p hp => nomatch hp⟩) as_nil))))))) (ei_mod (ei_int hC Z.B (by walk_at "mem") (cell (k := 22) e0A (by walk_at "ev") ev_int rfl)) ev_int (by decide)) (by decide)) fun wv wd HB eB hw rw => ?_)
  · exact ⟨fun H1 e1 Q k => we_of (pe_callTy call_str_int (hC.glo (by walk_at "mem")) Z.B.str bt_str pa_wa (by decide) (by decide) rfl rfl) (a_cons ((show Ev X _ _ HA (.int (r : Int)) from by walk_at "ev").run H1 e1 _ fun H2 e2 => a_nil ⟨r, rfl, log_small (c := 40) ⟨by omega, by omega⟩ (by decide), k _ (.str _) H2 e2 ⟨dep_flat rfl 5, fun p hp => nomatch hp⟩ (.str _)⟩))⟩
  have e0B := e0A.trans eB
  have bad : ∀ {H1 : Hp} {σ : St} {a b : Expr} {pv : V} {pd : D} {rs : List D} {p1 p2 : Pos}, Ev X a σ H1 pv → Em X b σ H1 (.lst rs) → Rep H1 pv pd → DepLe 5 pd → (∀ p, pd = .int p → p < 0) → NoTup rs → rs.length < 10000 → (∀ d ∈ rs, DepLe 4 d) → starEach (a :: b :: []) X.env = (false, eval a X.env) :: starEach (b :: []) X.env → starEach (b :: []) X.env = (false, eval b X.env) :: starEach [] X.env → Ev X (.Call (.Name "_law_bad_pins" p1) [a, b] [] p2) σ H1 (.bl true) := fun {H1 σ a b pv pd rs p1 p2} ha hb rp hd hp nt hl hdep he he2 =>
    ⟨fun H2 e2 Q kk => we_call hC (Z.cal dBp) (by walk_at "mem") (a_cons (ha.run H2 e2 _ fun H3 e3 => a_cons (hb.run H3 (e2.trans e3) _ fun v H4 e4 r4 => a_nil ⟨pv, pd, v, rs, rfl, rp.mono (e2.trans (e3.trans e4)), hd, hp, r4, nt, hl, dep_passD (by omega) hdep, fun H' e' => kk H' (e3.trans (e4.trans e'))⟩) he2) he) he (by rw [he2]; rfl)⟩
  have rwB := rw.mono nw_ex
  have oeB : Ex H4 HB := e5.trans (e57.trans (e8.trans (e9.trans (eA.trans eB))))
  refine b_no (tv_w (tw_or (t := false) (u := false) (tv_not (t := true) (tv_val (bad (by walk_at "ev") (em_eh (eh_ev (by walk_at "ev") (rr.mono e0B))) rwB hw.1 hw.2 hgrid.noTup (by rw [List.length_map]; omega) (hgrid.dep (by decide)) rfl rfl))) fun _ => tw_or (t := false) (u := false) (tv_not (t := true) (tv_val (bad (by walk_at "ev") (em_eh (eh_ev (by walk_at "ev") (ro.mono oeB))) rwB hw.1 hw.2 go.noTup (by have := go.1; omega) (go.dep (by decide)) rfl rfl))) fun _ => tw_or1 (tv_not (t := true) (tv_val (bad (pd := .int lo) (rs := []) (by walk_at "ev") ⟨fun H1 e1 Q kk => (show Eo X _ _ H1 _ from eo_lst av_nil).go fun p H2 hp e2 h2 => kk _ H2 e2 (.lst h2 .nil)⟩ (.int lo) (dep_flat rfl 5) (fun p hp => by cases hp; exact hlo1) (fun d h => nomatch h) (by simp) (fun d h => nomatch h) rfl rfl))))) fun HC eC => ?_
  have e0C := e0B.trans eC
  exact b_ret ((lotis e0C (lot2 e0C (by walk_at "ev") (by walk_at "ev") (by walk_at "ev")) (by walk_at "ev") (by walk_at "ev") rfl).go fun HD eD => q HD (e0C.trans eD))
end
end RC
/-! law, walked: to the rows -/
namespace RC
open PySem PySem.Spec PyProof.Rows L2
section
variable {P : Program} {w : World} {K : PySem.W.Frag} {mg : Str → Option Value} {base : Heap} {C CP CT CN : Addr}
def spLaw (K : PySem.W.Frag) : Sp := fun vs H Q _ => ∃ (a : Addr) (ns : List Int), vs = [.ref a] ∧ SqL K H a (ns.map V.int) ∧ ns.length < 100000 ∧ ∀ H', Q (.bl true) H'
theorem law_ok {f : Addr} {fd : FuncData} (F : FunD K "law" "law" (defArgs (topS 58)) (defBody (topS 58)) (defScope (topS 58)) [] [] f fd) (B : Bi mg) (k : LotK K mg C) (dPi : Df P w K mg base CX0 2 "_law_pins" spPins) (dC : Df P w K mg base CX0 1 "_law_cell" (spCell K)) (dLo : Df P w K mg base CX0 2 "_law_lot" (spLot K)) (dT : Df P w K mg base CX0 1 "_law_table" spLTab)
    (dI : Df P w K mg base CX0 5 "_law_lot_is" (spLotIs C)) (dP : Df P w K mg base CX0 1 "_law_passed" spPassed) (dF : Df P w K mg base CX0 10 "_law_found" spFound) (dFr : Df P w K mg base CX0 2 "_law_free" spFree) (dJ : Df P w K mg base CX0 11 "_law_judged" spJudged) (dA : Df P w K mg base CX0 12 "_law_all_spoilt" (spAllSp K))
    (dR : Df P w K mg base CX0 9 "_law_refused" spRefused) (dBp : Df P w K mg base CX0 9 "_law_bad_pins" spBadPins) (dL : Df P w K mg base (L2N.CX P w) 6 "lot_of" (spLotOf C CP CT CN))
    (lf : ∃ (f : Addr) (fd : FuncData), FunD K "lot_of" "lot_of" (defArgs (topS 31)) (defBody (topS 31)) (defScope (topS 31)) [] [] f fd ∧ FnOk P w K mg base (L2N.CX P w) 6 f fd ["pins", "table"] (spLotOf C CP CT CN) ∧ mg "lot_of" = some (.ref f)) :
    FnOk P w K mg base CX0 13 f fd ["_law_script"] (spLaw K) := by
  refine fn_ok F B sc58 cb58 (fun vs H Q E ⟨_, _, e, _⟩ => by rw [e]; rfl) ?_
  rintro X rfl rfl rfl rfl rfl Z vs H Q E ⟨sp, ns, rfl, hS, hlS, q⟩
  have hC := Z.C
  have hs : Scr X.K H (.ref sp) := ⟨sp, ns, rfl, hS, hlS⟩
  have cell : ∀ {e : Expr} {k : Nat} {σ : St} {H1 : Hp} {p1 p2 p3 : Pos}, Ex H H1 → Ev X (.Name "_law_script" p3) σ H1 (.ref sp) → Ev X e σ H1 (.int (k : Int)) → starEach [e] X.env = (false, eval e X.env) :: starEach [] X.env → Ei X (.Call (.Name "_law_cell" p1) [.Name "_law_script" p3, e] [] p2) σ H1 (fun _ => True) := fun {e k σ H1 p1 p2 p3} e1 h1 h2 hst =>
    ei_call hC (Z.cal dC) (by walk_at "mem") (av_cons h1 (av_cons h2 av_nil hst)) (fun H2 e2 Q kk => ⟨.ref sp, k, rfl, hs.mono (e1.trans e2), fun i H' e' => kk i H' e' trivial⟩) rfl (by rw [hst]; rfl)
  show WB X _ _ [some _, none, none, none, none, none, none, none, none, none, none, none, none, none, none, none, none, none] _
  refine b_set hC (by walk_at "mem") (by walk_at "set") (we_call hC (Z.cal dPi) (by walk_at "mem") (a_cons ((cell (k := 0) Ex.rfl' (by walk_at "ev") ev_int rfl).go fun c H1 e1 _ => a_nil ⟨c, rfl, fun r H2 e2 hr => ?_⟩)))
  have e02 := e1.trans e2
  refine b_set hC (by walk_at "mem") (by walk_at "set") (we_call hC (Z.cal dLo) (by walk_at "mem") ((show Av X [_, _] _ H2 [V.ref sp, V.int (r : Int)] from av_cons (by walk_at "ev") (av_cons (by walk_at "ev") av_nil)).go fun H3 e3 => ⟨.ref sp, r, rfl, hs.mono (e02.trans e3), hr, fun L bv H4 e4 hnf hLl htot rb => ?_⟩))
  have rb4 := rb.mono nw_ex
  have e04 := e02.trans (e3.trans e4)
  refine b_setI hC (by walk_at "mem") (by walk_at "set") (ei_mod (j := 8) (ei_int hC Z.B (by walk_at "mem") (cell (k := 2) e04 (by walk_at "ev") ev_int rfl)) ev_int (by decide)) fun fm H5 e5 hfm => ?_
  obtain ⟨form, rfl⟩ : ∃ n : Nat, fm = (n : Int) := ⟨fm.toNat, by omega⟩
  obtain ⟨n, hn⟩ : ∃ n : Nat, n = max r 1 := ⟨_, rfl⟩
  refine b_setV (v := .int (n : Int)) hC (by walk_at "mem") (by walk_at "set") ((ev_max2 hC Z.B Z.calm (by walk_at "mem") (by walk_at "ev") (by walk_at "ev")).is (by congr 1; split <;> omega)) fun H6 e6 => ?_
  have e46 := e5.trans e6
  refine b_setR (d := rowsT (tabR (max r 1) L)) hC (by walk_at "mem") (by walk_at "set") (er_call hC (Z.cal dT) (by walk_at "mem") (av_cons (by walk_at "ev") (av_cons (by walk_at "ev") av_nil)) fun H7 e7 Q kk => ⟨r, bv, L, rfl, by omega, hnf, rb4.mono (e46.trans e7), by omega, kk⟩) fun ov H7 e7 ro => ?_
  obtain ⟨op, oxs, rfl, hop, rox⟩ := Rep.tup_inv (ds := (tabR (max r 1) L).map fun row => D.tup (row.map D.int)) (ro.mono nw_ex)
  have hpos : ∀ t ∈ L, 1 ≤ t.2.2 := fun t ht => (hnf.inr t ht).2.2.2
  refine b_setV (v := .int 1) hC (by walk_at "mem") (by walk_at "set") ev_int fun H8 e8 => ?_
  have e48 := e46.trans (e7.trans e8)
  have e08 := e04.trans e48
  have e10 : ∀ {σ : St} {H : Hp} {p1 p2 p3 : Pos} {n1 n2 : Nat}, Ev X (.BinOp (.Constant (.int 10) n1 p1) .Pow (.Constant (.int 9) n2 p2) p3) σ H (.int (10 ^ 9)) := (ev_pow ev_int ev_int ⟨by decide, by decide, by decide⟩).is rfl
  -- times
  refine b_whenJ (P := fun _ => True) (fun σ' H' => ∃ m : Int, σ' = [some (.ref sp), some (.int (r : Int)), some bv, some (.int (form : Int)), some (.int (n : Int)), some (.ref op), some (.int m), none, none, none, none, none, none, none, none, none, none, none] ∧ Ex H8 H' ∧ 1 ≤ m ∧ m ≤ 1000000000)
    (tz_eq (ei_mod (j := 6) (ei_int hC Z.B (by walk_at "mem") (cell (k := 23) e08 (by walk_at "ev") ev_int rfl)) ev_int (by decide)) (ei_ev ev_int) (fun _ => trivial)) ?_ (fun _ H9 e9 => ⟨1, rfl, e9, by decide, by decide⟩) ?_
  · intro _ H9 e9
    have hb := max_bd (n := max r 1) (b := 200030000) (by omega) hpos htot (by decide)
    generalize hM : mxL ((tabR (max r 1) L).map mxL ++ [1]) = M at hb
    refine b_setV (v := .int (10 ^ 9 / M)) hC (by walk_at "mem") (by walk_at "set") (ev_fdiv e10 (Ev.is (ev_maxO (ns := (tabR (max r 1) L).map mxL ++ [1]) hC Z.B Z.calm (by walk_at "mem") ?_ (by simp)) (by rw [hM])) ⟨by omega, by omega⟩) fun HA eA => b_nil ⟨_, rfl, e9.trans eA, ?_, ?_⟩
    · rw [List.map_append]
      refine eo_cat ?_ (eo_lst (vs := [.int 1]) (av_cons ev_int av_nil)) (by simp [tabR]; omega)
      rw [List.map_map, ← filterMap_some]
      refine eo_comp (own := [("_law_row", 7)]) (tabR (max r 1) L) _ hC Z.calm (by decide +kernel) (sr_tup (Hb := H7) (by walk_at "ev") (sqT hop) (e8.trans e9)) gN_mon (fun Y b => pgN (b.ctx (M' := M58_0) (L' := L58_0) (G' := G58_0) hC (by decide +kernel)) (by walk_at "mem")) (by rw [rox.len, List.length_map]) (by rw [rox.len, List.length_map]; simp [tabR]; omega) (by walk_at "wipe") ?_
      intro i x row Hc h1 h2 ex
      obtain ⟨d, hd, rd⟩ := rox.get h1
      rw [List.getElem?_map, h2] at hd
      obtain rfl := Option.some.inj hd
      obtain ⟨a, ys, rfl, hy, ry⟩ := Rep.tup_inv (ds := row.map D.int) rd
      rw [ry.ints_inv] at hy
      refine g1_of (by walk_at "set") ⟨rfl, fun Y b => ?_⟩
      have ZY := Z.blk (M' := M58_0) (L' := L58_0) (G' := G58_0) b (by decide +kernel)
      have hY := ZY.C
      have hu := ZY.room.units
      exact st_all (ev_maxT hY ZY.B ZY.calm (by omega) (by walk_at "mem") (by walk_at "ev") (sqT ((e8.trans (e9.trans ex)) _ _ hy)) (by rw [(tabR_row (List.mem_of_getElem? h2)).1]; omega))
    · rw [Int.le_ediv_iff_mul_le (by omega)]
      omega
    · exact Int.ediv_le_self _ (by decide)
  rintro σ' H9 ⟨m, rfl, e9, hm1, hm9⟩
  have e49 := e48.trans e9
  have e79 := e8.trans e9
  obtain ⟨bp, bxs, rfl, hbp, hbx, hbat⟩ := crd_inv (rb4.mono e49)
  -- the bunch, times
  refine b_setR (d := crdD (L.map (scl m))) hC (by walk_at "mem") (by walk_at "set") ((er_et (f := fun t : T3 => [t.1, t.2.1, t.2.2 * m]) (l := L) (et_tupleO hC Z.B (by walk_at "mem") ?_)).is (by show D.tup _ = D.tup _; rw [List.map_map]; rfl)) fun bv2 HA eA rb2 => ?_
  · rw [← filterMap_some]
    refine ec_comp (own := [("_law_c", 8)]) L _ hC Z.calm (by decide +kernel) (sr_tup (Hb := H9) (by walk_at "ev") (sqT hbp) Ex.rfl') gN_mon (fun Y b => pgN (b.ctx (M' := M58_1) (L' := L58_1) (G' := G58_1) hC (by decide +kernel)) (by walk_at "mem")) hbx.symm (by omega) (by walk_at "wipe") ?_
    intro i x t Hc h1 h2 ex
    obtain ⟨u, rfl, hu⟩ := hbat i x t h1 h2
    have hu2 := ex _ _ hu
    refine g1_of (by walk_at "set") ⟨rfl, fun Y b => ?_⟩
    have hY := b.ctx (M' := M58_1) (L' := L58_1) (G' := G58_1) hC (by decide +kernel)
    exact st_allo (eo_tup (vs := [.int t.1, .int t.2.1, .int (t.2.2 * m)]) (av_cons (ev_tI (by walk_at "ev") hu2) (av_cons (ev_tI (by walk_at "ev") hu2) (av_cons (ev_mul (ev_tI (by walk_at "ev") hu2) (by walk_at "ev") (.inr ⟨by omega, by omega⟩)) av_nil))))
  have rb2A := rb2.mono nw_ex
  have e7A := e79.trans eA
  -- the rows, times
  refine b_setCo (own := [("_law_row", 7)]) (tabR (max r 1) L) (fun row => some (HO.lst ((row.map (· * m)).map V.int))) hC Z.calm (by decide +kernel) (sr_tup (Hb := H7) (by walk_at "ev") (sqT hop) e7A) gN_mon (fun Y b => pgN (b.ctx (M' := M58_3) (L' := L58_3) (G' := G58_3) hC (by decide +kernel)) (by walk_at "mem")) (by rw [rox.len, List.length_map]) (by rw [rox.len, List.length_map]; simp [tabR]; omega) (by decide +kernel) (by walk_at "set") (by walk_at "wipe") ?_ ?_
  · intro i x row Hc h1 h2 ex
    obtain ⟨d, hd, rd⟩ := rox.get h1
    rw [List.getElem?_map, h2] at hd
    obtain rfl := Option.some.inj hd
    obtain ⟨a, ys, rfl, hy, ry⟩ := Rep.tup_inv (ds := row.map D.int) rd
    rw [ry.ints_inv] at hy
    have hrl := (tabR_row (List.mem_of_getElem? h2)).1
    refine g1_of (by walk_at "set") ⟨rfl, fun Y b => ?_⟩
    have ZY := Z.blk (M' := M58_3) (L' := L58_3) (G' := G58_3) b (by decide +kernel)
    have hY := ZY.C
    refine st_allo ?_
    rw [List.map_map, ← filterMap_some]
    refine eo_comp (own := [("_law_value", 9)]) row _ hY ZY.calm (by decide +kernel) (sr_tup (Hb := Hc) (by walk_at "ev") (sqT ((e7A.trans ex) _ _ hy)) Ex.rfl') gN_mon (fun W b' => pgN (b'.ctx (M' := M58_2) (L' := L58_2) (G' := G58_2) hY (by decide +kernel)) (by walk_at "mem")) (by rw [List.length_map]) (by rw [List.length_map]; omega) (by walk_at "wipe") ?_
    intro i2 x2 z Hd h3 h4 ex2
    rw [List.getElem?_map, h4] at h3
    obtain rfl := Option.some.inj h3
    refine g1_of (by walk_at "set") ⟨rfl, fun W b' => ?_⟩
    have hW := b'.ctx (M' := M58_2) (L' := L58_2) (G' := G58_2) hY (by decide +kernel)
    exact st_all (ev_mul (by walk_at "ev") (by walk_at "ev") (.inr ⟨by omega, by omega⟩))
  intro rp rps HB hrpn eB hrp hk
  rw [filterMap_some] at hk
  have rr : Rep HB (.ref rp) (.lst ((tabR (max r 1) (L.map (scl m))).map lstD)) := by
    rw [tabR_scl, List.map_map]
    exact .lst hrp (kids_repL (p := rp) (f := fun row : List Int => row.map (· * m)) hk.1)
  have nfs : Nf r (L.map (scl m)) := nf_scl hnf hm1
  have rbB := rb2A.mono eB
  have hout : ∀ fm : Nat, lotOut (.int (r : Int)) (passD ((tabR (max r 1) (L.map (scl m))).map lstD) fm) = .lot r (L.map (scl m)) := fun fm => lotOut_tabR nfs
  have hcor : cordsOf r (tabR (max r 1) (L.map (scl m))) = L.map (scl m) := cords_tabR nfs (Nat.le_max_left r 1)
  have hgrid : Grid (10 ^ 20) 40 ((tabR (max r 1) (L.map (scl m))).map lstD) := by
    refine grid_tab (sqr_tabR _ _) (by omega) fun row hrow x hx => ?_
    rw [tabR_scl] at hrow
    obtain ⟨row0, hr0, rfl⟩ := List.mem_map.mp hrow
    obtain ⟨x0, hx0, rfl⟩ := List.mem_map.mp hx
    obtain ⟨i, j, rfl⟩ := (tabR_row hr0).2 x0 hx0
    obtain ⟨b1, b2⟩ := passing_bd hpos i j
    have c1 : 0 ≤ passing L i j * m := Int.mul_nonneg b1 (by omega)
    have c2 : passing L i j * m ≤ 200030000 * 1000000000 := Int.mul_le_mul (by omega) hm9 (by omega) (by decide)
    show -(10 ^ 20) ≤ passing L i j * m ∧ passing L i j * m ≤ 10 ^ 20
    omega
  have hLs : (L.map (scl m)).length ≤ 1000 := by rw [List.length_map]; exact hLl
  have hsq := sqr_tabR (max r 1) (L.map (scl m))
  have hrl : (tabR (max r 1) (L.map (scl m))).length ≤ 40 := by rw [hsq.1]; omega
  generalize hLs2 : L.map (scl m) = Ls at rr nfs rbB hout hcor hgrid hLs hsq hrl rb2 rb2A
  generalize hT : tabR (max r 1) Ls = T at rr hout hcor hgrid hsq hrl
  have e4B := e49.trans (eA.trans eB)
  have e0B := e04.trans e4B
  exact law_tail Z k dC dI dP dF dFr dJ dA dR dBp dL lf (hs.mono e0B) hr hn (by omega) rr rbB hLs nfs hout hcor hgrid hsq hT fun H' _ => q H'
end
end RC
/-! What the head tells: the facts, looked at by the kernel. -/
namespace RC
open PySem PySem.Spec PyProof.Rows L2
/-! ### a def that stands behind a property -/
def gtr (K : PySem.W.Frag) : Addr := match PySem.W.recIn K (He.ma K (He.ga K "Lot") "table") "property" with
  | some (.ref g :: _) => g
  | _ => 0
def whatAt (K : PySem.W.Frag) (a : Addr) : He.FnW := (K.lookup a).bind fun o => match o.data with
  | .func d => some (d.name, d.qualname, d.params, d.body, d.scope, d.globals, d.closure, d.builtins)
  | _ => none
def restAt (K : PySem.W.Frag) (a : Addr) (q : Str) : Bool := PySem.W.keepIn K (.ref a) && ((K.lookup a).any fun o => match o.data with
  | .func d => PySem.W.codeIn K d.code q && He.dflB K d.defaults []
  | _ => false)
theorem funD_at {K : PySem.W.Frag} {a : Addr} {nm qual : Str} {ar : Arguments} {body : List Stmt} {sc : Scope} (e : whatAt K a = some (nm, qual, ar, .stmts body, sc, mainGlobals, [], builtinsNs)) (c : restAt K a qual = true) : ∃ fd, FunD K nm qual ar body sc [] [] a fd := by
  unfold whatAt at e
  obtain ⟨kp, c2⟩ := He.ba c
  cases hl : K.lookup a with
  | none => rw [hl] at e; cases e
  | some o =>
    rw [hl] at e c2
    obtain ⟨oc, od, dt, sl⟩ := o
    cases dt with
    | func d =>
      obtain ⟨c3, c4⟩ := He.ba (show (PySem.W.codeIn K d.code qual && He.dflB K d.defaults []) = true from c2)
      have e2 := Option.some.inj (show some (d.name, d.qualname, d.params, d.body, d.scope, d.globals, d.closure, d.builtins) = _ from e)
      obtain ⟨x1, x2, x3, x4, x5, x6, x7, x8, x9, xa, xb, xc, xd, xe, xf⟩ := d
      simp only [Prod.mk.injEq] at e2
      obtain ⟨rfl, rfl, rfl, rfl, rfl, rfl, rfl, rfl⟩ := e2
      exact ⟨_, ⟨oc, od, _, _, _, _, _, _, _, sl, rfl, hl, c3, He.dflB_ok c4, .inl rfl⟩, kp⟩
    | _ => cases e
/-! ### the class of an exception -/
def xcB (K : PySem.W.Frag) (C : Addr) : Bool :=
  decide (PySem.W.findIn K (.ref C) "__getattribute__" = some (some (.builtin "BaseException.__getattribute__"))) && (decide (PySem.W.findIn K (.ref C) "__getattr__" = some none) && (decide (PySem.W.subIn K (.ref C) (.type "BaseException") = some true) &&
  (PySem.W.hasDictIn K C && (decide (PySem.W.findIn K (.ref C) "__class__" = some (some (.builtin "object.__class__"))) && (decide (PySem.W.mroIn K C (.type "object") = some true) && (decide (PySem.W.findIn K (.ref C) "__setattr__" = some (some (.builtin "object.__setattr__"))) &&
  (decide (PySem.W.typeIn K (.ref C) = some (.type "type")) && PySem.W.keepIn K (.ref C))))))))
def obB (K : PySem.W.Frag) : Bool := decide (PySem.W.specialIn K (.builtin "object.__class__") "__get__" = some (some (.builtin "getset_descriptor.__get__"))) && decide (PySem.W.takesIn K (.builtin "object.__class__") = some true)
/-- its object -/
def xoB (K : PySem.W.Frag) (C : Addr) : Bool := match K.lookup C with
  | some ⟨.type "type", _, .cls cd, sl⟩ => cd.hasDict && (!cd.hasDel && (match cd.mro with
    | .ref D :: bm => decide (D = C) && PySem.HandSPX.refsVE bm
    | _ => false) && (match sl.toList with
    | [_, _, _, _, some (.builtin i), _] => decide (i = "ValueError.__new__")
    | _ => false))
  | _ => false
theorem xo_ok {K : PySem.W.Frag} {C : Addr} (h : xoB K C = true) : ∃ nm q N bs bm sn sub ab col dd k0 k1 k2 k3 k5, K.lookup C = some (PySem.excClassObj nm q C N bs bm true sn sub ab col dd k0 k1 k2 k3 k5 "ValueError.__new__") ∧ PySem.HandSPX.refsVE bm = true := by
  unfold xoB at h
  split at h
  · rename_i dd cd sl hl
    obtain ⟨nm, bs, mro, ns, qn, hd, sn, sub, ab, col, del⟩ := cd
    obtain ⟨l⟩ := sl
    simp only [Bool.and_eq_true, Bool.not_eq_true'] at h
    obtain ⟨h1, ⟨h4, h5⟩, h3⟩ := h
    subst h1 h4
    match mro, h5 with
    | .ref D :: bm, h5 =>
      obtain ⟨h6, h7⟩ := He.ba h5
      obtain rfl := of_decide_eq_true h6
      match l, h3 with
      | [k0, k1, k2, k3, some (.builtin i), k5], h3 =>
        obtain rfl := of_decide_eq_true h3
        exact ⟨nm, qn, ns, bs, bm, sn, sub, ab, col, dd, k0, k1, k2, k3, k5, hl, h7⟩
  · cases h
theorem xc_ok {K : PySem.W.Frag} {C : Addr} (h : xcB K C = true) (ho : obB K = true) (hx : xoB K C = true) : ExcC K C ∧ XfC K C ∧ OexC K C := by
  simp only [xcB, obB, Bool.and_eq_true, decide_eq_true_eq] at h ho
  obtain ⟨h1, h2, h3, h4, h5, h6, h7, h8, h9⟩ := h
  exact ⟨⟨h1, h2, h3, h4, h5, ho.1, ho.2, h6⟩, ⟨h1, h2, h3, h4⟩, ⟨xo_ok hx, h7, h3, h8, h9⟩⟩
/-- isinstance of it -/
def kiB (K : PySem.W.Frag) (x : Str) (others : List Str) : Bool := (others.all fun o => decide (PySem.W.kitOne K (.ref (He.ga K x)) (.ref (He.ga K o)) = some false)) && (decide (PySem.W.kitOne K (.ref (He.ga K x)) (.ref (He.ga K "RimError")) = some true) &&
  (decide (PySem.W.kitOne K (.ref (He.ga K x)) (.type "ValueError") = some true) && decide (PySem.W.exmOne K (.ref (He.ga K x)) (.ref (He.ga K x)) = some true)))
/-- its __init__ is a function -/
def inB (K : PySem.W.Frag) (x : Str) : Bool := decide (PySem.W.findIn K (.ref (He.ga K x)) "__init__" = some (some (.ref (He.ma K (He.ga K x) "__init__")))) && decide (PySem.W.typeIn K (.ref (He.ma K (He.ga K x) "__init__")) = some (.type "function"))
/-! ### Lot -/
def loB (K : PySem.W.Frag) : Bool := decide (PySem.W.findIn K (.ref (He.ga K "Lot")) "__class__" = some (some (.builtin "object.__class__"))) && (decide (PySem.W.mroIn K (He.ga K "Lot") (.type "object") = some true) &&
  (decide (PySem.W.findIn K (.ref (He.ga K "Lot")) "table" = some (some (.ref (He.ma K (He.ga K "Lot") "table")))) && (decide (PySem.W.specialIn K (.ref (He.ma K (He.ga K "Lot") "table")) "__get__" = some (some (.builtin "property.__get__"))) &&
  (decide (PySem.W.takesIn K (.ref (He.ma K (He.ga K "Lot") "table")) = some true) && (match PySem.W.recIn K (He.ma K (He.ga K "Lot") "table") "property" with
    | some (.ref _ :: _) => true
    | _ => false)))))
theorem lo_ok {K : PySem.W.Frag} (h : loB K = true) : PySem.W.findIn K (.ref (He.ga K "Lot")) "__class__" = some (some (.builtin "object.__class__")) ∧ PySem.W.mroIn K (He.ga K "Lot") (.type "object") = some true ∧ PropOf K (He.ga K "Lot") "table" (He.ma K (He.ga K "Lot") "table") (gtr K) := by
  unfold loB at h
  obtain ⟨h1, h⟩ := He.ba h
  obtain ⟨h2, h⟩ := He.ba h
  obtain ⟨h3, h⟩ := He.ba h
  obtain ⟨h4, h⟩ := He.ba h
  obtain ⟨h5, h6⟩ := He.ba h
  refine ⟨of_decide_eq_true h1, of_decide_eq_true h2, ⟨of_decide_eq_true h3, of_decide_eq_true h4, of_decide_eq_true h5, ?_⟩⟩
  split at h6
  · rename_i g r e
    refine ⟨r, ?_⟩
    rw [e]
    unfold gtr
    rw [e]
  · cases h6
/-! ### all of it -/
def dl : List (Str × Nat) := [(("gaps" : Str), (12 : Nat)), (("is_whole" : Str), (14 : Nat)), (("combined" : Str), (15 : Nat)), (("raw_passing" : Str), (16 : Nat)), (("raw_table" : Str), (17 : Nat)), (("raw_doubles" : Str), (18 : Nat)), (("raw_cords" : Str), (19 : Nat)), (("is_pin" : Str), (24 : Nat)), (("is_entry" : Str), (25 : Nat)), (("is_good_place" : Str), (29 : Nat)), (("check_table" : Str), (30 : Nat)), (("lot_of" : Str), (31 : Nat)),
  (("_law_whole" : Str), (33 : Nat)), (("_law_cell" : Str), (34 : Nat)), (("_law_digits" : Str), (35 : Nat)), (("_law_same" : Str), (36 : Nat)), (("_law_norm" : Str), (37 : Nat)), (("_law_table" : Str), (38 : Nat)), (("_law_lot_is" : Str), (39 : Nat)), (("_law_pins" : Str), (40 : Nat)), (("_law_lot" : Str), (41 : Nat)), (("_law_free" : Str), (42 : Nat)), (("_law_strange" : Str), (43 : Nat)), (("_law_no_row" : Str), (44 : Nat)), (("_law_behind" : Str), (45 : Nat)), (("_law_changed" : Str), (46 : Nat)), (("_law_spoilt" : Str), (47 : Nat)),
  (("_law_wrong" : Str), (48 : Nat)), (("_law_none" : Str), (49 : Nat)), (("_law_passed" : Str), (50 : Nat)), (("_law_refused" : Str), (51 : Nat)), (("_law_no_lot" : Str), (52 : Nat)), (("_law_bad_pins" : Str), (53 : Nat)), (("_law_normal" : Str), (54 : Nat)), (("_law_found" : Str), (55 : Nat)), (("_law_judged" : Str), (56 : Nat)), (("_law_all_spoilt" : Str), (57 : Nat)), (("law" : Str), (58 : Nat))]
def dOf (p : Str × Nat) : He.DefD := ⟨(p.1, none), p.1, p.1, defArgs (topS p.2), defBody (topS p.2), defScope (topS p.2), [], []⟩
def dM (i j : Nat) (c m q : Str) (dfl : List He.Dv) : He.DefD := ⟨(c, some m), m, q, defArgs (topM i j), defBody (topM i j), defScope (topM i j), dfl, []⟩
def ml : List He.DefD := [dM 3 0 "BadPins" "__init__" "BadPins.__init__" [], dM 9 0 "BadTable" "__init__" "BadTable.__init__" [], dM 10 0 "NoLot" "__init__" "NoLot.__init__" [], dM 27 0 "Lot" "__init__" "Lot.__init__" [.adr (He.dflAt ("Lot", some "__init__") 0)], dM 27 3 "Lot" "__eq__" "Lot.__eq__" [], dM 27 11 "Lot" "total" "Lot.total" []]
def fnX : List He.DefD := ml ++ dl.map dOf
def clsX : List Str := ["Lot", "RimError", "BadPins", "BadTable", "NoLot", "BadCord", "BadNumber"]
def freeX : List Str := ["len", "range", "isinstance", "int", "bool", "str", "list", "tuple", "dict", "max", "min", "sum", "sorted", "ValueError"]
def faX : List He.Fa := [.cls "Lot", .noat "Lot" "pins", .noat "Lot" "cords", .mkr "Lot", .meth "Lot" "__eq__", .meth "Lot" "total", .noat "BadPins" "pins", .noat "BadTable" "row", .noat "BadTable" "column", .noat "NoLot" "a", .noat "NoLot" "b", .noat "NoLot" "twice"] ++ (clsX.map He.Fa.glo ++ (freeX.map He.Fa.free ++ dl.map fun p => He.Fa.glo p.1))
def bsX (K : PySem.W.Frag) : Bool := obB K && (loB K && (restAt K (gtr K) "Lot.table" && (((["BadPins", "BadTable", "NoLot"] : List Str).all fun x => xcB K (He.ga K x) && (xoB K (He.ga K x) && inB K x)) &&
  (kiB K "BadPins" ["BadTable", "NoLot", "BadCord", "BadNumber"] && (kiB K "BadTable" ["NoLot", "BadPins", "BadCord", "BadNumber"] && kiB K "NoLot" ["BadTable", "BadPins", "BadCord", "BadNumber"])))))
abbrev AlX : Type := He.AlD × Bool × He.FnW
def obsX (K : PySem.W.Frag) : AlX := (He.obsD faX fnX K, bsX K, whatAt K (gtr K))
def valX : AlX := (He.valD fnX, true, some (("table" : Str), ("Lot.table" : Str), defArgs (topM 27 8), .stmts (defBody (topM 27 8)), defScope (topM 27 8), mainGlobals, [], builtinsNs))
def obsXG (n : Nat) (g : Addr → Option Obj) : AlX := obsX (He.frG g (He.asD g n))
def hookX (n : Nat) : PySem.W.Hook where
  α := AlX
  obs := fun s => obsXG n s.heap.get?
  val := fun _ => valX
  says := fun _ h => ∃ K : PySem.W.Frag, K.In h ∧ obsX K = valX
  of := fun _ _ e => ⟨_, He.frG_in, e⟩
  keeps := fun _ _ _ ⟨K, hK, c⟩ k => ⟨K, PySem.W.Frag.In.keeps hK k, c⟩
theorem obsXG_eq {n : Nat} {g : Addr → Option Obj} {s : Shared} (h : ∀ a, g a = s.heap.get? a) : obsXG n g = (hookX n).obs s := by
  have e : g = s.heap.get? := funext h
  rw [e]
  rfl
/-! ### what follows -/
section
variable {K : PySem.W.Frag} {h : Heap} {mg : Str → Option Value}
theorem says_d (c : obsX K = valX) : He.SaysD faX fnX K := congrArg (fun z : AlX => z.1) c
theorem says_b (c : obsX K = valX) : bsX K = true := congrArg (fun z : AlX => z.2.1) c
theorem says_t (c : obsX K = valX) : whatAt K (gtr K) = some (("table" : Str), ("Lot.table" : Str), defArgs (topM 27 8), .stmts (defBody (topM 27 8)), defScope (topM 27 8), mainGlobals, [], builtinsNs) := congrArg (fun z : AlX => z.2.2) c
theorem fact_mem (c : obsX K = valX) {f : He.Fa} (h : f ∈ faX) : f.ok K = true := by
  obtain ⟨i, hi, e⟩ := List.getElem_of_mem h
  exact (says_d c).fact i (by rw [List.getElem?_eq_getElem hi, e])
theorem glo_cls (X : K.In h) (G : h.Ns mainGlobals mg) (c : obsX K = valX) {x : Str} (hx : x ∈ clsX) : mg x = some (.ref (He.ga K x)) :=
  He.glo_ok X G (fact_mem c (List.mem_append.mpr (.inr (List.mem_append.mpr (.inl (List.mem_map.mpr ⟨x, hx, rfl⟩))))))
theorem free_nm (X : K.In h) (G : h.Ns mainGlobals mg) (c : obsX K = valX) {x : Str} (hx : x ∈ freeX) : mg x = none :=
  He.free_ok X G (fact_mem c (List.mem_append.mpr (.inr (List.mem_append.mpr (.inr (List.mem_append.mpr (.inl (List.mem_map.mpr ⟨x, hx, rfl⟩))))))))
theorem has_def (X : K.In h) (G : h.Ns mainGlobals mg) (c : obsX K = valX) (j : Nat) {nm : Str} {i : Nat} (hj : dl[j]? = some (nm, i) := by rfl) : Has K mg nm i := by
  have hm : (nm, i) ∈ dl := List.mem_of_getElem? hj
  have g := He.glo_ok X G (fact_mem (f := .glo nm) c (List.mem_append.mpr (.inr (List.mem_append.mpr (.inr (List.mem_append.mpr (.inr (List.mem_map.mpr ⟨(nm, i), hm, rfl⟩))))))))
  obtain ⟨fd, F⟩ := (says_d c).def_ (ml.length + j) (d := dOf (nm, i)) (by
    show (ml ++ dl.map dOf)[ml.length + j]? = _
    rw [List.getElem?_append_right (Nat.le_add_right _ _), Nat.add_sub_cancel_left, List.getElem?_map, hj]
    rfl)
  exact ⟨_, fd, F, g⟩
theorem bi_of (X : K.In h) (G : h.Ns mainGlobals mg) (c : obsX K = valX) : Bi mg := by
  have f := fun {x : Str} (hx : x ∈ freeX) => free_nm X G c hx
  exact ⟨f (by simp [freeX]), f (by simp [freeX]), f (by simp [freeX]), f (by simp [freeX]), f (by simp [freeX]), f (by simp [freeX]), f (by simp [freeX]), f (by simp [freeX]), f (by simp [freeX]), f (by simp [freeX]), f (by simp [freeX]), f (by simp [freeX]), f (by simp [freeX]), f (by simp [freeX])⟩
theorem lot_of_head (X : K.In h) (G : h.Ns mainGlobals mg) (c : obsX K = valX) : LotK K mg (He.ga K "Lot") := by
  have b := says_b c
  obtain ⟨b0, b⟩ := He.ba b
  obtain ⟨b1, b⟩ := He.ba b
  obtain ⟨b2, _⟩ := He.ba b
  simp only [obB, Bool.and_eq_true, decide_eq_true_eq] at b0
  obtain ⟨l1, l2, l3⟩ := lo_ok b1
  have d := says_d c
  have m := He.meth_ok (d.fact 4 (f := .meth "Lot" "__eq__"))
  have mt := He.meth_ok (d.fact 5 (f := .meth "Lot" "total"))
  obtain ⟨f1, F1⟩ := d.def_ 3
  obtain ⟨f2, F2⟩ := d.def_ 4
  obtain ⟨f3, F3⟩ := d.def_ 5
  obtain ⟨f4, F4⟩ := funD_at (says_t c) b2
  exact ⟨glo_cls X G c (by simp [clsX]), He.cls_ok (d.fact 0), He.noat_ok (d.fact 1), He.noat_ok (d.fact 2), ⟨_, f1, _, He.mkr_ok (d.fact 3), F1⟩, ⟨_, f2, m.at_, m.fn, F2⟩, ⟨_, _, f4, l3, F4⟩, ⟨_, f3, mt, F3⟩, l1, b0.1, b0.2, l2⟩
theorem ki_ok (X : K.In h) (G : h.Ns mainGlobals mg) (c : obsX K = valX) {x : Str} {others : List Str} (hk : kiB K x others = true) (hx : xcB K (He.ga K x) = true) (ho : xoB K (He.ga K x) = true) (hs : ∀ o ∈ others, o ∈ clsX) : XK2 K mg (He.ga K x) others := by
  obtain ⟨b0, _⟩ := He.ba (says_b c)
  obtain ⟨k1, k2, k3⟩ := xc_ok hx b0 ho
  obtain ⟨a1, hk⟩ := He.ba hk
  obtain ⟨a2, hk⟩ := He.ba hk
  obtain ⟨a3, a4⟩ := He.ba hk
  exact ⟨k1, k2, of_decide_eq_true a4, fun o hm => ⟨_, glo_cls X G c (hs o hm), of_decide_eq_true (List.all_eq_true.mp a1 o hm)⟩, ⟨_, glo_cls X G c (by simp [clsX]), of_decide_eq_true a2⟩, of_decide_eq_true a3⟩
end
end RC
set_option maxHeartbeats 0
/-! The head's run. -/
namespace RC
open PySem PySem.Spec PyProof.Rows L2
abbrev R : PySem.W.OpenRow := PySem.W.OpenLaw.row PySem.Challenge.rw_rimcords_k05_lots_of_tables_whole
abbrev hkX : PySem.W.Hook := hookX 5
def obX (s : PySem.W.SharedT) : AlX := obsXG 5 (HandSHeadRun.getT s)
theorem obX_eq (s : PySem.W.SharedT) : obX s = hkX.obs s.abs := obsXG_eq (HandSHeadRun.getT_eq s)
def nmA : List PySem.Str := ["_wall", "RimError", "BadPins", "BadPin", "UnlikePins", "BadCord", "NotPart", "BadNumber", "BadTable", "NoLot", "gaps", "is_whole", "combined", "raw_passing", "raw_table", "raw_doubles", "raw_cords", "raw_bar", "raw_ends", "raw_odd", "is_pin", "is_entry", "check_pin", "Lot", "is_good_place", "check_table", "lot_of"]
def nmB : List PySem.Str := ["_law_whole", "_law_cell", "_law_digits", "_law_same", "_law_norm", "_law_table", "_law_lot_is", "_law_pins", "_law_lot", "_law_free", "_law_strange", "_law_no_row", "_law_behind", "_law_changed", "_law_spoilt", "_law_wrong", "_law_none", "_law_passed", "_law_refused", "_law_no_lot", "_law_bad_pins", "_law_normal", "_law_found", "_law_judged", "_law_all_spoilt"]
def nms : List PySem.Str := nmA ++ nmB
theorem run (w : World) : HandSHeadRun.RunEq R (PySem.W.view R.prog [58]) hkX obX 20000 nms w := by
  intro os
  kernel_rfl
end RC
set_option maxHeartbeats 4000000
/-! All promises, one behind the other; the law. -/
namespace RC
open PySem PySem.Spec PyProof.Rows L2
theorem exk_of {K : PySem.W.Frag} {h : Heap} {mg : Str → Option Value} (X : K.In h) (G : h.Ns mainGlobals mg) (c : obsX K = valX) {x qual : Str} {i j : Nat} {fl : List Str} (hx : x ∈ clsX) (hb : x ∈ (["BadPins", "BadTable", "NoLot"] : List Str)) (hj : fnX[j]? = some (dM i 0 x "__init__" qual []) := by rfl) (nof : ∀ f ∈ fl, PySem.W.findIn K (.ref (He.ga K x)) f = some none) :
    ExK K mg x qual i (He.ga K x) fl ∧ xcB K (He.ga K x) = true ∧ xoB K (He.ga K x) = true := by
  obtain ⟨b0, b⟩ := He.ba (says_b c)
  obtain ⟨_, b⟩ := He.ba b
  obtain ⟨_, b⟩ := He.ba b
  obtain ⟨b1, _⟩ := He.ba b
  obtain ⟨x1, x2⟩ := He.ba (List.all_eq_true.mp b1 x hb)
  obtain ⟨x2, x3⟩ := He.ba x2
  obtain ⟨k1, k2, k3⟩ := xc_ok x1 b0 x2
  obtain ⟨i1, i2⟩ := He.ba x3
  obtain ⟨fd, F⟩ := (says_d c).def_ j hj
  exact ⟨⟨glo_cls X G c hx, k3, ⟨_, fd, of_decide_eq_true i1, of_decide_eq_true i2, F⟩, nof⟩, x1, x2⟩
theorem noat {K : PySem.W.Frag} (c : obsX K = valX) (j : Nat) {x f : Str} (h : faX[j]? = some (.noat x f) := by rfl) : PySem.W.findIn K (.ref (He.ga K x)) f = some none := He.noat_ok ((says_d c).fact j h)
theorem facts {P : Program} {w : World} {K : PySem.W.Frag} {h : Heap} {mg : Str → Option Value} {f : Addr} (X : K.In h) (G : h.Ns mainGlobals mg) (hfa : mg ("law" : Str) = some (.ref f)) (c : obsX K = valX) :
    ∃ fd : FuncData, (∀ (s : Shared) (v : Value), BindsTo s fd ⟨[v], []⟩ [("_law_script", v)]) ∧ ∀ base : Heap, FnOk P w K mg base CX0 13 f fd ["_law_script"] (spLaw K) := by
  have B := bi_of X G c
  have k := lot_of_head X G c
  obtain ⟨f0, fd, F, gm⟩ := (has_def X G c 37 : Has K mg "law" 58).ex
  obtain rfl : f0 = f := Value.ref.inj (Option.some.inj (gm.symm.trans hfa))
  have b := FunD.bindsA (ps := ["_law_script"]) F fun _ _ _ _ _ _ us hl => match us, hl with | [_], _ => rfl
  refine ⟨fd, fun s v => b s [v] rfl, fun base => ?_⟩
  obtain ⟨eP, xP, oP⟩ := exk_of X G c (x := "BadPins") (qual := "BadPins.__init__") (i := 3) (j := 0) (fl := ["pins"]) (by simp [clsX]) (by simp) rfl (fun f hf => by rw [List.mem_singleton.mp hf]; exact noat c 6)
  obtain ⟨eT, xT, oT⟩ := exk_of X G c (x := "BadTable") (qual := "BadTable.__init__") (i := 9) (j := 1) (fl := ["row", "column"]) (by simp [clsX]) (by simp) rfl (fun f hf => by
    rcases List.mem_cons.mp hf with rfl | hf
    · exact noat c 7
    · rw [List.mem_singleton.mp hf]; exact noat c 8)
  obtain ⟨eN, xN, oN⟩ := exk_of X G c (x := "NoLot") (qual := "NoLot.__init__") (i := 10) (j := 2) (fl := ["a", "b", "twice"]) (by simp [clsX]) (by simp) rfl (fun f hf => by
    rcases List.mem_cons.mp hf with rfl | hf
    · exact noat c 9
    rcases List.mem_cons.mp hf with rfl | hf
    · exact noat c 10
    · rw [List.mem_singleton.mp hf]; exact noat c 11)
  obtain ⟨_, b1⟩ := He.ba (says_b c)
  obtain ⟨_, b1⟩ := He.ba b1
  obtain ⟨_, b1⟩ := He.ba b1
  obtain ⟨_, b1⟩ := He.ba b1
  obtain ⟨kP, b1⟩ := He.ba b1
  obtain ⟨kT, kN⟩ := He.ba b1
  have kP := ki_ok X G c kP xP oP (by simp [clsX])
  have kT := ki_ok X G c kT xT oT (by simp [clsX])
  have kN := ki_ok X G c kN xN oN (by simp [clsX])
  have rP := ex_pins (P := P) (w := w) (base := base) eP B
  have rT := ex_table (P := P) (w := w) (base := base) eT B
  have rN := ex_lot (P := P) (w := w) (base := base) eN B
  have gaps := df_gaps (P := P) (w := w) (base := base) (has_def X G c 0) B
  have whole := df_whole (P := P) (w := w) (base := base) (has_def X G c 1) B
  have pass := df_pass (P := P) (w := w) (base := base) (has_def X G c 3) B
  have table := df_table (P := P) (w := w) (base := base) (has_def X G c 4) B gaps pass
  have doubles := df_doubles (P := P) (w := w) (base := base) (has_def X G c 5) B
  have cords := df_cords (P := P) (w := w) (base := base) (has_def X G c 6) B doubles
  have comb := df_comb (P := P) (w := w) (base := base) (has_def X G c 2) B
  have pin := df_pin (P := P) (w := w) (base := base) (has_def X G c 7) B whole
  have entry := df_entry (P := P) (w := w) (base := base) (has_def X G c 8) B whole pin
  have lm := lot_init k B whole entry comb
  have le := lot_eq (P := P) (w := w) (base := base) k B
  have lt := lot_table k B table
  have lo := lot_total (P := P) (w := w) (base := base) k B
  have good := df_good (P := P) (w := w) (base := base) (has_def X G c 9) B whole
  have check := df_check (P := P) (w := w) (base := base) (has_def X G c 10) B good rT
  have lotf := lotof_fn (P := P) (w := w) (base := base) (has_def X G c 11) B k whole gaps doubles cords check rP rN lm
  have lotof := df_lotof (P := P) (w := w) (base := base) (has_def X G c 11) B k whole gaps doubles cords check rP rN lm
  have lwhole := df_lwhole (P := P) (w := w) (base := base) (has_def X G c 12) B
  have cell := df_cell (P := P) (w := w) (base := base) (has_def X G c 13) B
  have digits := df_digits (P := P) (w := w) (base := base) (has_def X G c 14) B
  have norm := df_norm (P := P) (w := w) (base := base) (has_def X G c 16) B
  have pins := df_pins (P := P) (w := w) (base := base) (has_def X G c 19) B digits
  have llot := df_llot (P := P) (w := w) (base := base) (has_def X G c 20) B digits cell norm
  have ltab := df_ltab (P := P) (w := w) (base := base) (has_def X G c 17) B
  have same := df_same (P := P) (w := w) (base := base) (has_def X G c 15) B lwhole
  have lotis := df_lotis (P := P) (w := w) (base := base) (has_def X G c 18) B k same
  have none := df_none (P := P) (w := w) (base := base) (has_def X G c 28) B
  have wrong := df_wrong (P := P) (w := w) (base := base) (has_def X G c 27) B lwhole
  have strange := df_strange (P := P) (w := w) (base := base) (has_def X G c 22) B
  have norow := df_norow (P := P) (w := w) (base := base) (has_def X G c 23) B
  have behind := df_behind (P := P) (w := w) (base := base) (has_def X G c 24) B
  have changed := df_changed (P := P) (w := w) (base := base) (has_def X G c 25) B
  have free := df_free (P := P) (w := w) (base := base) (has_def X G c 21) B digits
  have spoilt := df_spoilt (P := P) (w := w) (base := base) (has_def X G c 26) B lwhole strange norow behind changed
  have lwholeH := df_lwholeH (P := P) (w := w) (base := base) (has_def X G c 12) B
  have sameH := df_sameH (P := P) (w := w) (base := base) (has_def X G c 15) B lwholeH
  have passed := df_passed (P := P) (w := w) (base := base) (has_def X G c 29) B
  have passedH := df_passedH (P := P) (w := w) (base := base) (has_def X G c 29) B
  have refused := df_refused (P := P) (w := w) (base := base) (has_def X G c 30) B lotof sameH eT.mg kT eT.nof
  have nolot := df_nolot (P := P) (w := w) (base := base) (has_def X G c 31) B lotof passed passedH sameH eN.mg kN eN.nof
  have badpins := df_badpins (P := P) (w := w) (base := base) (has_def X G c 32) B lotof passed passedH sameH eP.mg kP eP.nof
  have normal := df_normal (P := P) (w := w) (base := base) (has_def X G c 33) B k lwhole same
  have found := df_found (P := P) (w := w) (base := base) (has_def X G c 34) B k lotof passed same normal ltab lotis lm lt lo le
  have judged := df_judged (P := P) (w := w) (base := base) (has_def X G c 35) B wrong refused passed none nolot found
  have allSp := df_allSp (P := P) (w := w) (base := base) (has_def X G c 36) B cell digits spoilt judged
  exact law_ok F B k pins cell llot ltab lotis passed found free judged allSp refused badpins lotof lotf
end RC
open PySem PySem.W PySem.Calls PyProof.Rows
set_option maxRecDepth 100000 in
set_option maxHeartbeats 0 in
theorem PySem.Challenge.cw_rimcords_k05_lots_of_tables_whole_holds : PySem.Challenge.rw_rimcords_k05_lots_of_tables_whole.Holds := by
  w_on; o_law
  refine HandSHeadRun.head_any (r := RC.R) (q := view RC.R.prog [58]) (H := RC.hkX) (ob := RC.obX) (M := 20000) (loose := RC.nms) (d := HandSHeadRun.topDef RC.R.prog 58) (kwd := []) RC.obX_eq
    (by kernel_rfl) (fun s => by kernel_rfl) RC.run (by kernel_rfl) (by kernel_rfl) (by kernel_rfl) (by rfl) (by first | assumption | decide +kernel) (by decide +kernel) ⟨rfl, rfl, rfl, rfl, rfl, by decide +kernel⟩ ?hw ?hc
  case hw => w_witness2
  case hc =>
    refine L2.walk_ofE (l := PySem.Challenge.rw_rimcords_k05_lots_of_tables_whole) (n := 63) (k := 13) (x := "_law_script") (CX := L2.CX0) rfl (by decide) (by kernel_rfl) ⟨rfl, by decide, by decide⟩ ?F (fun _ _ _ _ z => z)
    intro w mg fa h Y G hmg0
    obtain ⟨K, KX, c⟩ := Y
    have e : (HandSHeadRun.topDef RC.R.prog 58).name = ("law" : PySem.Str) := by kernel_rfl
    have hmg : mg ("law" : PySem.Str) = some (.ref fa) := e ▸ hmg0
    obtain ⟨fd, hb, hF⟩ := RC.facts (P := (PySem.Challenge.rw_rimcords_k05_lots_of_tables_whole).prog) (w := w) KX G hmg c
    exact ⟨K, fd, RC.spLaw K, KX, hb, fun H a ns hl _ hS => ⟨a, ns, rfl, hS, by omega, fun _ => rfl⟩, fun base _ _ => hF base⟩
