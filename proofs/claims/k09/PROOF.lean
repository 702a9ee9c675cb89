import PyProof.Rows.All
import Wide.All
import OpenK.AllK
import Wide.FinOn
import HandS.ForMost
import HandS.IsInst
import HandS.AnyAll
import PyProof.GenCompD
import PySem.Challenge.RW_chiefdeeds_k09_whole_prices
import HandS.Conv
import HandS.TupSets
import KE.KDictDisplayH
import KE.KDictZip
import KE.GoesMore
import KE.GoesZip
import HandS.Zip0
import HandS.TupMul
import HandS.TupAny
import HandS.Style
import HandS.ForExc
import HandS.Star
import HandS.Deep
import HandS.TupLe
import HandS.EndTab
set_option Elab.async false
set_option linter.all false
set_option maxRecDepth 100000
set_option maxHeartbeats 2000000
/-! quiet expressions: they only lay new objects. For the elements of generator expressions. -/
namespace Cq
open PySem PySem.Spec PyProof.Rows L2

abbrev Grw (h h' : Heap) : Prop := ∀ b o, h.get? b = some o → h'.get? b = some o
theorem kp_refl (s : Shared) : Keeps s s := ⟨s.heap, s.toks, rfl, fun _ _ e => e⟩
theorem kp_tok (s : Shared) (t : Nat) : Keeps s { s with toks := t } := ⟨s.heap, t, rfl, fun _ _ e => e⟩
theorem kp_trans {s s1 s2 : Shared} (a : Keeps s s1) (b : Keeps s1 s2) : Keeps s s2 := by
  obtain ⟨h1, t1, rfl, k1⟩ := a
  obtain ⟨h2, t2, rfl, k2⟩ := b
  exact ⟨h2, t2, rfl, fun x o e => k2 x o (k1 x o e)⟩
theorem kp_grw {s s1 : Shared} (a : Keeps s s1) : Grw s.heap s1.heap := by
  obtain ⟨h1, t1, rfl, k1⟩ := a
  exact k1

/-- where a quiet expression stands -/
structure Qc where
  P : Program
  w : World
  K : PySem.W.Frag
  mg : Str → Option Value
  A : Around
  env : Env
  J : Heap → Prop
structure Qc.Ok (X : Qc) : Prop where
  grow : ∀ h h', X.J h → Grw h h' → X.J h'
  mod : ∀ h, X.J h → Mod X.K X.mg h
  kind : X.env.scope.kind = .function
  glob : X.env.globals = mainGlobals
  blt : X.env.builtins = builtinsNs

structure QE (X : Qc) (e : Expr) (v : V) : Prop where
  run : ∀ (E : Value → Shared → Prop) (s : Shared), X.J s.heap → wpAny (model X.P X.w) X.A (eval e X.env) (fun u s' => RelV v u ∧ Keeps s s') E s
structure QA (X : Qc) (es : List Expr) (vs : List V) : Prop where
  run : ∀ (pos : Pos) (E : Value → Shared → Prop) (s : Shared), X.J s.heap → wpAny (model X.P X.w) X.A (spliced (backTo pos (starEach es X.env))) (fun us s' => Vals vs us ∧ Keeps s s') E s
structure QT (X : Qc) (e : Expr) (b : Bool) : Prop where
  run : ∀ (E : Value → Shared → Prop) (s : Shared), X.J s.heap → wpAny (model X.P X.w) X.A (isTrue e X.env (eval e X.env)) (fun c s' => c = b ∧ Keeps s s') E s
/-- a test whatever its whole is -/
structure QW (X : Qc) (e : Expr) (b : Bool) : Prop where
  run : ∀ (wh : Sem Value) (E : Value → Shared → Prop) (s : Shared), X.J s.heap → wpAny (model X.P X.w) X.A (isTrue e X.env wh) (fun c s' => c = b ∧ Keeps s s') E s
/-- the same in a state that another one has kept -/
def QC (X : Qc) (ss : List Stmt) (v : V) : Prop := ∀ (E : Value → Shared → Prop) (s : Shared), X.J s.heap →
  wpAny (model X.P X.w) X.A (execs ss X.env) (fun f s' => (∃ u, f = .ret u ∧ RelV v u) ∧ Keeps s s') E s

section
variable {X : Qc} {x : Str} {pos p1 p2 : Pos} {a b : Expr} {v : V}
theorem Qc.Ok.on (ok : X.Ok) {s s1 : Shared} (j : X.J s.heap) (k : Keeps s s1) : X.J s1.heap := ok.grow _ _ j (kp_grw k)

theorem qe_loc (ok : X.Ok) (hx : X.env.kindOf x = some .local) (hv : ∀ h, X.J h → ∃ m u, h.Ns X.env.locals m ∧ m x = some u ∧ RelV v u) (hd : (x == ("__debug__" : Str)) = false := by decide) : QE X (.Name x pos) v := by
  refine ⟨fun E s j => ?_⟩
  obtain ⟨m, u, h1, h2, h3⟩ := hv _ j
  exact wpAny_Name (wpAny_loadName_local ok.kind hx h1 h2 ⟨h3, kp_refl s⟩) hd
theorem qe_free (ok : X.Ok) (hx : X.env.kindOf x = some .free) (hv : ∀ h, X.J h → ∃ c u, X.env.cells.lookup x = some c ∧ h.IsCell c (some u) ∧ RelV v u) (hd : (x == ("__debug__" : Str)) = false := by decide)
    (hcd : (x == ("__classdict__" : Str)) = false := by decide) : QE X (.Name x pos) v := by
  refine ⟨fun E s j => ?_⟩
  obtain ⟨c, u, h1, h2, h3⟩ := hv _ j
  exact wpAny_Name (wpAny_loadName_free ok.kind hx h1 h2 ⟨h3, kp_refl s⟩ hcd) hd
theorem q_glob (ok : X.Ok) {E : Value → Shared → Prop} {s : Shared} (j : X.J s.heap) {u : Value} {Q : Value → Shared → Prop} (hg : X.env.kindOf x = some .globalImplicit) (hm : X.mg x = some u) (h : Q u s) (hd : (x == ("__debug__" : Str)) = false := by decide) :
    wpAny (model X.P X.w) X.A (eval (.Name x pos) X.env) Q E s :=
  Calls.Name_function_global ok.kind hg (Calls.loadGlobal_global (by rw [ok.glob]; exact (ok.mod _ j).glob) hm h) hd
theorem q_blt (ok : X.Ok) {E : Value → Shared → Prop} {s : Shared} (j : X.J s.heap) {u : Value} {Q : Value → Shared → Prop} (hg : X.env.kindOf x = some .globalImplicit) (hm : X.mg x = none) (hv : bootBuiltins x = some u) (h : Q u s)
    (hn : x ≠ "__name__" := by decide) (hd : (x == ("__debug__" : Str)) = false := by decide) :
    wpAny (model X.P X.w) X.A (eval (.Name x pos) X.env) Q E s := by
  obtain ⟨mb, g1, g2⟩ := (ok.mod _ j).blt
  exact Calls.Name_function_global ok.kind hg (Calls.loadGlobal_builtin (by rw [ok.glob]; exact (ok.mod _ j).glob) hm (by rw [ok.blt]; exact g1) ((g2 x hn).trans hv) h) hd
theorem qe_glob (ok : X.Ok) {u : Value} (hg : X.env.kindOf x = some .globalImplicit) (hm : X.mg x = some u) (r : RelV v u) (hd : (x == ("__debug__" : Str)) = false := by decide) : QE X (.Name x pos) v :=
  ⟨fun E s j => q_glob ok j hg hm ⟨r, kp_refl s⟩ hd⟩
theorem qe_blt (ok : X.Ok) {u : Value} (hg : X.env.kindOf x = some .globalImplicit) (hm : X.mg x = none) (hv : bootBuiltins x = some u) (r : RelV v u) (hn : x ≠ "__name__" := by decide) (hd : (x == ("__debug__" : Str)) = false := by decide) : QE X (.Name x pos) v :=
  ⟨fun E s j => q_blt ok j hg hm hv ⟨r, kp_refl s⟩ hn hd⟩
theorem qe_int {i : Int} {k : Nat} : QE X (.Constant (.int i) k pos) (.int i) := ⟨fun E s j => wpAny_Constant_int ⟨⟨_, rfl⟩, kp_tok s _⟩⟩
theorem qe_bool {c : Bool} {k : Nat} : QE X (.Constant (.bool c) k pos) (.bl c) := ⟨fun E s j => Constant_bool ⟨rfl, kp_refl s⟩⟩

/-- two in a row -/
theorem qe_bin (ok : X.Ok) {vx vy : V} (ha : QE X a vx) (hb : QE X b vy) {E : Value → Shared → Prop} {s : Shared} (j : X.J s.heap) {α : Type} {Q : α → Shared → Prop} {f : Value → Value → Sem α}
    (hf : ∀ u u' s2, Keeps s s2 → RelV vx u → RelV vy u' → wpAny (model X.P X.w) X.A (f u u') Q E s2) :
    wpAny (model X.P X.w) X.A (eval a X.env) (fun u s1 => wpAny (model X.P X.w) X.A (eval b X.env) (fun u' s2 => wpAny (model X.P X.w) X.A (f u u') Q E s2) E s1) E s := by
  refine wpAny_mono (ha.run E s j) (fun u s1 h1 => ?_) fun _ _ e => e
  refine wpAny_mono (hb.run E s1 (ok.on j h1.2)) (fun u' s2 h2 => ?_) fun _ _ e => e
  exact hf u u' s2 (kp_trans h1.2 h2.2) h1.1 h2.1
theorem qe_ne (ok : X.Ok) {i k : Int} (ha : QE X a (.int i)) (hb : QE X b (.int k)) : QE X (.Compare a [.NotEq] [b] pos) (.bl (!decide (i = k))) := by
  refine ⟨fun E s j => wpAny_Compare1 (qe_bin ok ha hb j fun u u' s2 kp r1 r2 => ?_) (nobehind _ (by decide) (by decide))⟩
  obtain ⟨t1, rfl⟩ := r1
  obtain ⟨t2, rfl⟩ := r2
  refine ne_int ?_
  rw [bne, Bool.beq_eq_decide_eq]
  exact ⟨rfl, kp⟩
theorem qe_sub (ok : X.Ok) {i k : Int} (ha : QE X a (.int i)) (hb : QE X b (.int k)) : QE X (.BinOp a .Sub b pos) (.int (i - k)) := by
  refine ⟨fun E s j => wpAny_BinOp (qe_bin ok ha hb j fun u u' s2 kp r1 r2 => ?_)⟩
  obtain ⟨t1, rfl⟩ := r1
  obtain ⟨t2, rfl⟩ := r2
  exact sub_int ⟨⟨_, rfl⟩, kp_trans kp (kp_tok _ _)⟩
theorem qe_chain (ok : X.Ok) {c : Expr} {i k l : Int} (ha : QE X a (.int i)) (hb : QE X b (.int k)) (hc : QE X c (.int l)) (hm : lastMarks [.LtE, .LtE] [b, c] = false := by with_unfolding_all rfl) :
    QE X (.Compare a [.LtE, .LtE] [b, c] pos) (.bl (decide (i ≤ k) && decide (k ≤ l))) := by
  refine ⟨fun E s j => Compare_chain (wpAny_mono (ha.run E s j) (fun u s1 h1 => chain_link (wpAny_mono (hb.run E s1 (ok.on j h1.2)) (fun u' s2 h2 => ?_) fun _ _ e => e)) fun _ _ e => e) hm⟩
  obtain ⟨⟨t1, rfl⟩, k1⟩ := h1
  obtain ⟨⟨t2, rfl⟩, k2⟩ := h2
  refine le_int (wpAny_truthy_bool ?_)
  by_cases q : i ≤ k
  · rw [decide_eq_true q]
    refine ite_tt (chain_last (wpAny_mono (hc.run E s2 (ok.on j (kp_trans k1 k2))) (fun u3 s3 h3 => ?_) fun _ _ e => e))
    obtain ⟨⟨t3, rfl⟩, k3⟩ := h3
    exact le_int ⟨rfl, kp_trans (kp_trans k1 k2) k3⟩
  · rw [decide_eq_false q]
    exact ite_ff ⟨rfl, kp_trans k1 k2⟩
theorem qe_and1 {op : BoolOp} (ha : QE X a v) : QE X (.BoolOp op [a] pos) v := ⟨fun E s j => BoolOp_one (ha.run E s j)⟩
theorem qe_and (ok : X.Ok) {rest : List Expr} {c d : Bool} (ha : QE X a (.bl c)) (hb : c = true → QE X (.BoolOp .And (b :: rest) pos) (.bl d)) : QE X (.BoolOp .And (a :: b :: rest) pos) (.bl (c && d)) := by
  refine ⟨fun E s j => BoolOp_and (wpAny_mono (ha.run E s j) (fun u s1 h1 => ?_) fun _ _ e => e)⟩
  obtain ⟨r1, k1⟩ := h1
  cases r1
  refine wpAny_truthy_bool ?_
  cases c with
  | true =>
    refine wpAny_mono ((hb rfl).run E s1 (ok.on j k1)) (fun u2 s2 h2 => ⟨h2.1, kp_trans k1 h2.2⟩) fun _ _ e => e
  | false => exact ⟨rfl, k1⟩
theorem qe_not {c : Bool} (ha : QE X a (.bl c)) : QE X (.UnaryOp .Not a pos) (.bl (!c)) := by
  refine ⟨fun E s j => UnaryOp_ (wpAny_mono (ha.run E s j) (fun u s1 h1 => ?_) fun _ _ e => e)⟩
  obtain ⟨r1, k1⟩ := h1
  cases r1
  exact not_of (wpAny_truthy_bool ⟨rfl, k1⟩)

/-! ### arguments, calls -/
theorem qa_nil : QA X [] [] := ⟨fun pos E s j => Calls.spliced_nil ⟨.nil, kp_refl s⟩⟩
theorem qa_cons (ok : X.Ok) {es : List Expr} {vs : List V} (ha : QE X a v) (hr : QA X es vs) (hs : starEach (a :: es) X.env = (false, eval a X.env) :: starEach es X.env := by rfl) : QA X (a :: es) (v :: vs) := by
  refine ⟨fun pos E s j => ?_⟩
  rw [hs]
  show wpAny _ _ (spliced ((false, eval a X.env) :: backTo pos (starEach es X.env))) _ _ s
  refine Calls.spliced_cons (wpAny_mono (ha.run E s j) (fun u s1 h1 => ?_) fun _ _ e => e)
  exact wpAny_mono (hr.run pos E s1 (ok.on j h1.2)) (fun us s2 h2 => ⟨.cons h1.1 h2.1, kp_trans h1.2 h2.2⟩) fun _ _ e => e
/-- a built-in by values -/
def QB (X : Qc) (id : String) (vs : List V) (v : V) : Prop := ∀ (E : Value → Shared → Prop) (s : Shared) (us : List Value), X.J s.heap → Vals vs us → wpAny (model X.P X.w) X.A (call (.builtin id) us) (fun u s' => RelV v u ∧ Keeps s s') E s
theorem qe_callB (ok : X.Ok) {es : List Expr} {vs : List V} {id : String} (hb : QB X id vs v) (hg : X.env.kindOf x = some .globalImplicit) (hm : X.mg x = none) (hv : bootBuiltins x = some (.builtin id)) (ha : QA X (a :: es) vs) (hn : x ≠ "__name__" := by decide) (hd : (x == ("__debug__" : Str)) = false := by decide)
    (he : starEach (a :: es) X.env = (false, eval a X.env) :: starEach es X.env := by rfl) (hpl : (backTo pos (starEach es X.env)).any (·.1) = false := by rfl) : QE X (.Call (.Name x p1) (a :: es) [] pos) v := by
  refine ⟨fun E s j => wpAny_Call_Name_kw (q_blt ok j hg hm hv ?_ hn hd)⟩
  refine PyProof.Rows.callWith_builtin1 (wpAny_mono (ha.run pos E s j) (fun us s1 h1 => ?_) fun _ _ e => e) he hpl
  exact wpAny_mono (hb E s1 us (ok.on j h1.2) h1.1) (fun u s2 h2 => ⟨h2.1, kp_trans h1.2 h2.2⟩) fun _ _ e => e
/-- what isinstance asks of a value -/
def QTy (X : Qc) (v : V) (t : Value) : Prop := ∀ (u : Value) (h : Heap), X.J h → RelV v u → ∃ D : Heap → Prop, PySem.W.KitX X.K u t D ∧ D h ∧ u ≠ .builtin "__main__.__loader__#opaque"
theorem qty_int {i : Int} : QTy X (.int i) (.type "int") := fun u h _ r => by
  obtain ⟨t, rfl⟩ := r
  exact ⟨_, PySem.W.kitx_int, True.intro, fun z => nomatch z⟩
theorem qty_non : QTy X .non (.type "NoneType") := fun u h _ r => by
  cases r
  exact ⟨_, PySem.W.kitx_none, True.intro, fun z => nomatch z⟩
theorem qty_tup {c : Addr} {its : Heap → Array Value} (hT : ∀ h, X.J h → IsTup h c (its h)) : QTy X (.ref c) (.type "tuple") := fun u h j r => by
  cases r
  obtain ⟨o, e1, e2, _⟩ := hT h j
  exact ⟨_, PySem.W.kitx_tuple, ⟨o, e1, e2⟩, fun z => nomatch z⟩
theorem qb_isi (ok : X.Ok) {t : Value} {T : String} {c : Bool} (ht : QTy X v t) (e : PySem.W.kitOne X.K t (.type T) = some c) : QB X "isinstance" [v, .ty T] (.bl c) := fun E s us j r => by
  obtain ⟨u1, u2, rfl, r1, r2⟩ := vals2 r
  cases r2
  obtain ⟨D, Z, d, hx⟩ := ht u1 _ j r1
  exact PySem.W.kia_one Z (ok.mod _ j).kin d e hx fun tk => ⟨rfl, kp_tok s tk⟩
/-- the tuple that stands at c -/
def QTup (X : Qc) (c : Addr) (xs : List V) : Prop := ∀ h, X.J h → ∃ its : List Value, Vals xs its ∧ IsTup h c its.toArray
theorem qb_len {c : Addr} {xs : List V} (hT : QTup X c xs) (hl : xs.length ≤ 1000) : QB X "len" [.ref c] (.int xs.length) := fun E s us j r => by
  obtain ⟨u1, rfl, r1⟩ := vals1 r
  cases r1
  obtain ⟨its, rv, ht⟩ := hT _ j
  have e := rv.length
  refine PyProof.Rows.len_tuple ht (by rw [List.size_toArray]; omega) ?_
  rw [List.size_toArray, ← e]
  exact ⟨⟨_, rfl⟩, kp_tok s _⟩
theorem qe_ix (ok : X.Ok) {c : Addr} {xs : List V} {k : Int} (ha : QE X a (.ref c)) (hb : QE X b (.int k)) (hT : QTup X c xs) (hi : atI xs k = some v) (hl : xs.length ≤ 1000)
    (hs : ∀ o k, subscripted b false o k = operate [o, k] (getItem o k)) : QE X (.Subscript a b pos) v := by
  obtain ⟨j, h1, h2, h3, h4, h5⟩ := atI_get hi
  refine ⟨fun E s jj => Subscript_ (wpAny_mono (ha.run E s jj) (fun u s1 q1 => wpAny_mono (hb.run E s1 (ok.on jj q1.2)) (fun u' s2 q2 => ?_) fun _ _ e => e) fun _ _ e => e)⟩
  obtain ⟨r1, k1⟩ := q1
  obtain ⟨⟨t, rfl⟩, k2⟩ := q2
  cases r1
  have kp := kp_trans k1 k2
  obtain ⟨its, rv, ht⟩ := hT _ (ok.on jj kp)
  obtain ⟨z, ez, rz⟩ := rv.get h2
  have e := rv.length
  have g1 : seqIndex? k its.toArray.size = some j := by
    rw [List.size_toArray, ← e]
    exact h1
  have g2 : its.toArray[j]? = some z := by simpa using ez
  have lo : -(2 ^ 63 : Int) ≤ k := by omega
  have hi' : k < (2 ^ 63 : Int) := by omega
  exact subscriptTail_builtinR (x := z) ht.typeIs slot_tuple_getitem.lookup
    (getItem_tuple (j := j) (Q := fun r s3 => r = z ∧ (RelV v r ∧ Keeps s s3)) ht lo hi' g1 g2 ⟨rfl, rz, kp⟩) (hs _ _)
end
end Cq

set_option Elab.async false
set_option linter.all false
set_option maxRecDepth 100000
set_option maxHeartbeats 2000000
/-! quiet statements, quiet defs -/
namespace Cq
open PySem PySem.Spec PyProof.Rows L2
section
variable {X : Qc} {x : Str} {pos p1 p2 : Pos} {a b : Expr} {v : V} {c d : Bool} {rest : List Expr}
theorem qt_call {e : Expr} (h : QE X e (.bl c)) (he : ∀ wh, isTrue e X.env wh = (do let v ← wh; standAt e.pos; holding [v] (truthy v)) := by intro _; rfl) : QT X e c := by
  refine ⟨fun E s j => isTrue_plain (wpAny_mono (h.run E s j) (fun u s1 h1 => ?_) fun _ _ e => e) (he _)⟩
  obtain ⟨r1, k1⟩ := h1
  cases r1
  exact wpAny_truthy_bool ⟨rfl, k1⟩
theorem qt_not (h : QT X a c) : QT X (.UnaryOp .Not a pos) (!c) := by
  refine ⟨fun E s j => isTrue_not (wpAny_mono (h.run E s j) (fun u s1 h1 => ?_) fun _ _ e => e)⟩
  obtain ⟨rfl, k1⟩ := h1
  exact ⟨rfl, k1⟩
theorem qt_ne (ok : X.Ok) {i k : Int} (ha : QE X a (.int i)) (hb : QE X b (.int k)) : QT X (.Compare a [.NotEq] [b] pos) (!decide (i = k)) := by
  refine ⟨fun E s j => wpAny_isTrue_Compare1 (qe_bin ok ha hb j fun u u' s2 kp r1 r2 => ?_) (nobehind _ (by decide) (by decide))⟩
  obtain ⟨t1, rfl⟩ := r1
  obtain ⟨t2, rfl⟩ := r2
  refine ne_int ?_
  rw [bne, Bool.beq_eq_decide_eq]
  exact wpAny_truthy_bool ⟨rfl, kp⟩
theorem qw_or1 (h : QT X a c) : QW X (.BoolOp .Or [a] pos) c := by
  refine ⟨fun wh E s j => isTrue_or (wpAny_mono (h.run E s j) (fun u s1 h1 => ?_) fun _ _ e => e)⟩
  obtain ⟨rfl, k1⟩ := h1
  cases u with
  | true => exact ⟨rfl, k1⟩
  | false => exact isTrue_or_nil ⟨rfl, k1⟩
theorem qw_or (ok : X.Ok) (h : QT X a c) (hr : c = false → QW X (.BoolOp .Or (b :: rest) pos) d) : QW X (.BoolOp .Or (a :: b :: rest) pos) (c || d) := by
  refine ⟨fun wh E s j => isTrue_or (wpAny_mono (h.run E s j) (fun u s1 h1 => ?_) fun _ _ e => e)⟩
  obtain ⟨rfl, k1⟩ := h1
  cases u with
  | true => exact ⟨rfl, k1⟩
  | false => exact wpAny_mono ((hr rfl).run wh E s1 (ok.on j k1)) (fun u2 s2 h2 => ⟨h2.1, kp_trans k1 h2.2⟩) fun _ _ e => e
theorem QT.to {e : Expr} (h : QT X e c) (q : c = d) : QT X e d := q ▸ h
theorem QW.qt {e : Expr} (h : QW X e c) : QT X e c := ⟨fun E s j => h.run _ E s j⟩
theorem qs_ret {rs : List Stmt} (h : QE X a v) : QC X (.Return (some a) pos :: rs) v := fun E s j => by
  refine wpAny_execs_cons (wpAny_Return_some (wpAny_mono (h.run E s j) (fun u s1 h1 => ?_) fun _ _ e => e))
  exact ⟨⟨u, rfl, h1.1⟩, h1.2⟩
theorem qs_if (ok : X.Ok) {ss rs : List Stmt} (h : QT X a c) (h1 : c = true → QC X ss v) (h2 : c = false → QC X rs v) : QC X (.If a ss [] pos :: rs) v := fun E s j => by
  refine wpAny_execs_cons (wpAny_If (wpAny_mono (h.run E s j) (fun u s1 q1 => ?_) fun _ _ e => e))
  obtain ⟨rfl, k1⟩ := q1
  cases u with
  | true =>
    refine wpAny_mono (h1 rfl E s1 (ok.on j k1)) (fun f s2 q2 => ?_) fun _ _ e => e
    obtain ⟨⟨z, rfl, r⟩, k2⟩ := q2
    exact ⟨⟨z, rfl, r⟩, kp_trans k1 k2⟩
  | false =>
    refine wpAny_execs_nil ?_
    refine wpAny_mono (h2 rfl E s1 (ok.on j k1)) (fun f s2 q2 => ?_) fun _ _ e => e
    exact ⟨q2.1, kp_trans k1 q2.2⟩
end

/-- a quiet def's promise -/
structure FnQ (P : Program) (w : World) (K : PySem.W.Frag) (mg : Str → Option Value) (k : Nat) (f : Addr) (fd : FuncData) (ps : List Str) (sp : List V → Heap → V → Prop) : Prop where
  len : ∀ vs h v, sp vs h v → vs.length = ps.length
  run : ∀ (A : Around) (E : Value → Shared → Prop) (s : Shared) (us : List Value) (vs : List V) (v : V), Room k A → Mod K mg s.heap → Vals vs us → sp vs s.heap v →
    wpAny (model P w) A (call (.ref f) us) (fun u s' => RelV v u ∧ Keeps s s') E s
/-- the context of a quiet def's body -/
abbrev qcOf (P : Program) (w : World) (K : PySem.W.Frag) (mg : Str → Option Value) (qual : Str) (sc : Scope) (f : Addr) (cdv : Value) (A : Around) (h0 : Heap) (m : Str → Option Value) : Qc :=
  ⟨P, w, K, mg, A.deeper (envOfC qual sc h0.objs.size f cdv), envOfC qual sc h0.objs.size f cdv, fun h => Grw h0 h ∧ h.Ns h0.objs.size m⟩
theorem mod_grw {K : PySem.W.Frag} {mg : Str → Option Value} {h h' : Heap} (M : Mod K mg h) (g : Grw h h') : Mod K mg h' :=
  ⟨M.kin.keeps g, M.glob.keeps g, let ⟨mb, h1, h2⟩ := M.blt; ⟨mb, h1.keeps g, h2⟩, M.nolimit.keeps g⟩
theorem qcOf_ok {P : Program} {w : World} {K : PySem.W.Frag} {mg : Str → Option Value} {qual : Str} {sc : Scope} {f : Addr} {cdv : Value} {A : Around} {h0 : Heap} {m : Str → Option Value} (M : Mod K mg h0) (hk : sc.kind = .function) : (qcOf P w K mg qual sc f cdv A h0 m).Ok :=
  ⟨fun h h' j g => ⟨fun b o e => g b o (j.1 b o e), j.2.keeps g⟩, fun h j => mod_grw M j.1, hk, rfl, rfl⟩
theorem fnq_of {P : Program} {w : World} {K : PySem.W.Frag} {mg : Str → Option Value} {x qual : Str} {st : Stmt} {f : Addr} {fd : FuncData} {ps : List Str} {k : Nat} {sp : List V → Heap → V → Prop} (F : Fun K x qual st f fd)
    (hk : (defScope st).kind = .function) (hco : (defScope st).isCoroutine = false) (hge : (defScope st).isGenerator = false) (nd : ps.Nodup) (hloc : ∀ y ∈ ps, (defScope st).names.lookup y = some .local) (hb : Binds K fd ps [])
    (len : ∀ vs h v, sp vs h v → vs.length = ps.length)
    (body : ∀ (cdv : Value) (A : Around) (h0 : Heap) (m : Str → Option Value) (vs : List V) (us : List Value) (v : V), Room k (A.deeper (envOfC qual (defScope st) h0.objs.size f cdv)) → Mod K mg h0 → Vals vs us → sp vs h0 v →
      (∀ (i : Nat) (y : Str) (z : V), ps[i]? = some y → vs[i]? = some z → ∃ u, m y = some u ∧ RelV z u) → QC (qcOf P w K mg qual (defScope st) f cdv A h0 m) (defBody st) v) :
    FnQ P w K mg (k + 1) f fd ps sp := by
  obtain ⟨oc, od, kV, doc, pm, an, cdv, ct, osl, rfl, lk, hcd⟩ := F.ex
  refine ⟨len, fun A E s us vs v hr M r hsp => ?_⟩
  have hl := len _ _ _ hsp
  have hlu : us.length = ps.length := by rw [← r.length, hl]
  refine wpAny_call ?_
  refine codeAny_call_function hr.depth (M.kin _ _ lk) rfl hco hge rfl (PySem.W.codeRec_of M.kin hcd) ((by simpa using hb s us M.kin (by simpa using hlu) : BindsTo s _ ⟨us, []⟩ (ps.zip us)) _ _ _ _ ?_)
  refine wpAny_newFunctionEnv_cells hk (fun y hy => .inl (hloc _ (List.of_mem_zip hy).1)) fun env he s1 xc => ?_
  subst he
  obtain ⟨h1, tk, rfl, hkp⟩ := xc.done
  refine ⟨M.nolimit.keeps hkp, codeAny_func ?_⟩
  have q := body cdv A s.heap (bindL (envOfC qual (defScope st) s.heap.objs.size f cdv).kindOf (ps.zip us) fun _ => none) vs us v (hr.deeper _) M r hsp (fun i y z e1 e2 => by
    obtain ⟨u, eu, ru⟩ := r.get e2
    exact ⟨u, bindL_get (kindOf := (envOfC qual (defScope st) s.heap.objs.size f cdv).kindOf) nd e1 eu (hloc y (List.mem_of_getElem? e1)), ru⟩)
  refine wpAny_mono (q _ { s with heap := h1, toks := tk } ⟨hkp, xc.toInCall.ns⟩) (fun fl s2 q2 => ?_) fun _ _ e => e
  obtain ⟨⟨u, rfl, ru⟩, k2⟩ := q2
  exact ⟨ru, kp_trans ⟨h1, tk, rfl, hkp⟩ k2⟩

section
variable {X : Qc} {x : Str} {pos p1 p2 : Pos} {a b : Expr} {v : V}
/-- a call of a quiet def -/
theorem qe_call (ok : X.Ok) {es : List Expr} {vs : List V} {k : Nat} {f : Addr} {fd : FuncData} {ps : List Str} {sp : List V → Heap → V → Prop} (F : FnQ X.P X.w X.K X.mg k f fd ps sp) (hr : Room k X.A) (kp : PySem.W.keepIn X.K (.ref f) = true)
    (hg : X.env.kindOf x = some .globalImplicit) (hm : X.mg x = some (.ref f)) (ha : QA X (a :: es) vs) (hsp : ∀ h, X.J h → sp vs h v) (hd : (x == ("__debug__" : Str)) = false := by decide)
    (he : starEach (a :: es) X.env = (false, eval a X.env) :: starEach es X.env := by rfl) (hpl : (backTo pos (starEach es X.env)).any (·.1) = false := by rfl) : QE X (.Call (.Name x p1) (a :: es) [] pos) v := by
  refine ⟨fun E s j => wpAny_Call_Name_kw (q_glob ok j hg hm ?_ hd)⟩
  refine PySem.W.callWith_K (h₀ := s.heap) (ok.mod _ j).kin kp (wpAny_mono (ha.run pos E s j) (fun us s1 h1 => ?_) fun _ _ e => e) he hpl
  have j1 := ok.on j h1.2
  refine ⟨(ok.mod _ j1).kin, wpAny_mono (F.run X.A E s1 us vs v hr (ok.mod _ j1) h1.1 (hsp _ j1)) (fun u s2 h2 => ⟨h2.1, kp_trans h1.2 h2.2⟩) fun _ _ e => e⟩
end
end Cq

set_option Elab.async false
set_option linter.all false
set_option maxRecDepth 100000
set_option maxHeartbeats 4000000
/-! all(element for x in a tuple): the element quiet -/
namespace Cq
open PySem PySem.Spec PyProof.Rows L2
/-- where an element stands: the state s1 when the generator was made, x holds u -/
abbrev gQc (X : Cx) (P : Addr) (sc : Scope) (cl : List (Str × Addr)) (C : Addr) (code : Value) (h1 : Heap) (x : Str) (u : Value) (A : Around) : Qc :=
  ⟨X.prog, X.w, X.K, X.mg, A, genEnv sc cl C code builtinsNs X.env, fun h => (∀ b o, b ≠ P → h1.get? b = some o → h.get? b = some o) ∧ ∃ m, h.Ns C m ∧ m x = some u⟩
/-- the element's value: EC tells it of the slots, the heap, the item -/
def EltQ (X : Cx) (P : Addr) (sc : Scope) (x : Str) (elt : Expr) (EC : L2.St → Hp → V → V → Prop) : Prop :=
  ∀ (pins : List (Addr × Obj)) (σ : L2.St) (H1 : Hp) (s1 : Shared) (xv yv : V) (u : Value) (C : Addr) (code : Value) (A : Around), Inv X pins σ H1 s1 → EC σ H1 xv yv → RelV xv u → TabG' H1 P → A.handled = none → A.depth ≤ X.A.depth + 1 → A.units ≤ X.A.units + 8 →
    QE (gQc X P sc (cloFrom X.env.cells sc.names []) C code s1.heap x u A) elt yv
where TabG' (H : Hp) (P : Addr) : Prop := GxR.TabG H P
section
variable {X : Cx} {pins : List (Addr × Obj)} {σ : L2.St} {H : Hp} {s : Shared}
theorem gQc_ok {P : Addr} {sc : Scope} {cl : List (Str × Addr)} {C : Addr} {code : Value} {x : Str} {u : Value} {A : Around} (I : Inv X pins σ H s) (hP : GxR.TabG H P) (hk : sc.kind = .function) : (gQc X P sc cl C code s.heap x u A).Ok where
  grow := fun h h' j g => ⟨fun b o hb e => g b o (j.1 b o hb e), let ⟨m, h1, h2⟩ := j.2; ⟨m, h1.keeps g, h2⟩⟩
  mod := fun h j => by
    obtain ⟨ps, hP, _⟩ := hP
    refine mod_grw I.ok.mod fun b o e => j.1 b o (fun z => ?_) (I.bk b o e)
    have n := (I.bs b o e).2
    rw [z, hP] at n
    cases n
  kind := hk
  glob := I.ok.glob
  blt := rfl
/-- the generator, ready to be walked -/
def ReadyG (X : Cx) (pins : List (Addr × Obj)) (σ : L2.St) (H1 : Hp) (P : Addr) (ys : List V) (g : Addr) (s5 : Shared) : Prop :=
  ∃ (fp wr : List Addr) (G : Array GenState → Array GenState → Prop) (F : Nat → Value → Prop) (S : Nat → Shared → Prop),
    WalksS X.prog X.w X.A.in1 g fp wr G ys.length F S ∧ S 0 s5 ∧ (∀ b ∈ fp, b < s5.heap.objs.size) ∧ (∀ j u, F j u → ∃ y, ys[j]? = some y ∧ RelV y u) ∧
    ∀ s', Moved wr G s5 s' → ∃ H2, GxR.Tabbed P H1 H2 ∧ Inv X pins σ H2 s'
theorem pass_all (n : Nat) : passing (fun _ => true) n 0 = List.range n := by
  unfold passing
  simp
theorem gen_tup {c P : Addr} {elt iter : Expr} {x : Str} {px gpos : Pos} {sc : Scope} {te : TE} {k : Nat} {Q' : Value → Shared → Prop} {EC : L2.St → Hp → V → V → Prop} {R : List V → Hp → Prop}
    (hr : Room k X.A) (TB : GxR.TabB X.base X.mg c P) (hcode : X.env.code = .ref c) (S : GxR.GenS X.env sc x) (hi : PE X iter te) (hel : EltQ X P sc x elt EC)
    (hs : ∀ v, genFold iter X.env v = pure v) (I : Inv X pins σ H s)
    (h : te σ H fun v H1 => ∃ (a : Addr) (xs ys : List V), v = .ref a ∧ SqT X.K H1 a xs ∧ xs.length = ys.length ∧ (∀ (i : Nat) (x y : V), xs[i]? = some x → ys[i]? = some y → EC σ H1 x y) ∧ GxR.TabG H1 P ∧ R ys H1)
    (hQ : ∀ ys H1 g s5, R ys H1 → ReadyG X pins σ H1 P ys g s5 → Q' (.ref g) s5) :
    wpAny (model X.prog X.w) X.A (eval (.GeneratorExp elt [⟨.Name x px, iter, [], 0⟩] sc gpos) X.env) Q' X.xe s := by
  refine wpAny_GeneratorExp_walksQD hr.hd S.co (closure_ok S.free) S.cell S.dot S.loc S.kind (by have := hr.dp; omega) ?_ hs
  refine thn (hi.run pins s σ H _ I h) fun xv s1 ⟨v, H1, I1, r1, q1⟩ => ?_
  obtain ⟨a, xs, ys, rfl, hT, hlen, hEC, hTG, q1⟩ := q1
  obtain ⟨ps, hP, htr⟩ := _root_.id hTG
  cases r1
  obtain ⟨its, rv, hit, hz⟩ := I1.tuple hT
  have hPs : s1.heap.get? P = some { cls := .none, data := .fields ps } := I1.hok P _ hP
  have hPlt : P < s1.heap.objs.size := Heap.lt_size hPs
  have halt : a < s1.heap.objs.size := by
    obtain ⟨_, e, _⟩ := hit
    exact Heap.lt_size e
  have haP : a ≠ P := fun e => by
    obtain ⟨o, ho, hc, _⟩ := hit
    rw [e, hPs] at ho
    cases ho
    cases hc
  have hsize : its.toArray.size = ys.length := by rw [List.size_toArray, ← rv.length, hlen]
  refine wpAny_pyIter_tuple (show s1.heap.IsTuple a its.toArray from hit) ?_
  have lim2 : (s1.heap.push { cls := .type "tuple_iterator", data := .fields #[.ref a, .int 0 0] }).NoLimit := I1.nolimit.push _
  refine ⟨lim2, ?_⟩
  have hP2 : (s1.heap.push { cls := .type "tuple_iterator", data := .fields #[.ref a, .int 0 0] }).get? P = some { cls := .none, data := .fields ps } := Heap.get?_push_of_some _ hPs
  have cd : PySem.W.CodeHd (s1.heap.push { cls := .type "tuple_iterator", data := .fields #[.ref a, .int 0 0] }) c P := TB.code.keeps fun b u e => Heap.get?_push_of_some _ (I1.bk b u e)
  have cont : ∀ (code : Value) (h3 : Heap) (tk : Nat) (ps' : Array Value), Heap.ExtBut P (s1.heap.push { cls := .type "tuple_iterator", data := .fields #[.ref a, .int 0 0] }) h3 → (s1.heap.push { cls := .type "tuple_iterator", data := .fields #[.ref a, .int 0 0] }).objs.size ≤ h3.objs.size →
      h3.get? P = some { cls := .none, data := .fields ps' } → (∃ more, ps' = ps ++ more) → TriplesOk ps'.toList →
      wpAny (model X.prog X.w) X.A (builtinsFor X.env.globals X.env.builtins) (fun bi s₄ =>
        ∃ Ia fp wr n₀ Pf St₀ pz F, Value.ref s1.heap.objs.size = .ref Ia ∧ (∀ A' : Around, A'.handled = none → Walks X.prog X.w A' Ia fp wr n₀ Pf St₀) ∧ St₀ 0 s₄.heap ∧ (∀ b ∈ fp, b < s₄.heap.objs.size) ∧ s₄.heap.NoLimit ∧ cStatics ∉ wr ∧
          (∀ href : Heap, (∀ b o, s₄.heap.get? b = some o → href.get? b = some o) →
            QuietGenD X.prog X.w (genEnv sc (cloFrom X.env.cells sc.names []) s₄.heap.objs.size code bi X.env) x [] elt (List.range s₄.heap.objs.size) wr Pf pz F href (X.A.depth + 1) (X.A.units + 8)) ∧
          (∀ a h₅ tk gs, gs.bare = true → s₄.heap.objs.size < a → h₅.objs.size = a + 1 → (∀ b o, s₄.heap.get? b = some o → h₅.get? b = some o) →
            WalksS X.prog X.w X.A.in4 a (a :: s₄.heap.objs.size :: List.range s₄.heap.objs.size) (s₄.heap.objs.size :: wr) (GenOnlyQ s₄.gens.size) (passing pz n₀ 0).length
              (fun j y => ∃ i, (passing pz n₀ 0)[j]? = some i ∧ F i y) (GenAt X.prog X.w X.A.in4 a s₄.gens.size s₄.heap.objs.size (List.range s₄.heap.objs.size) wr pz n₀ F) →
            GenAt X.prog X.w X.A.in4 a s₄.gens.size s₄.heap.objs.size (List.range s₄.heap.objs.size) wr pz n₀ F 0 { s₄ with gens := s₄.gens.push gs, toks := tk, heap := h₅ } →
            Q' (.ref a) { s₄ with gens := s₄.gens.push gs, toks := tk, heap := h₅ })) X.xe { s1 with heap := h3, toks := tk } := by
    intro code h3 tk ps' hx hsz hP3 hmore ht3
    obtain ⟨bm, ob, e1, e2, e3, e4, e5, e6, e7, e8⟩ := TB.bm
    have hcP : cStatics ≠ P := fun e => by
      obtain ⟨_, hns, _⟩ := I1.nolimit
      obtain ⟨o', es, ep, ho, hd, _⟩ := hns
      rw [e, hPs] at ho
      cases ho
      cases hd
    have hcl : cStatics < s1.heap.objs.size := let ⟨_, hns, _⟩ := I1.nolimit; hns.lt
    have sz2 : (s1.heap.push { cls := .type "tuple_iterator", data := .fields #[.ref a, .int 0 0] }).objs.size = s1.heap.objs.size + 1 := Heap.size_push ..
    have keep3 : ∀ b u, b ≠ P → s1.heap.get? b = some u → h3.get? b = some u := fun b u hb e => hx b u hb (Heap.get?_push_of_some _ e)
    have hIP : s1.heap.objs.size ≠ P := (Nat.ne_of_lt hPlt).symm
    refine wpAny_builtinsFor (m := X.mg) (by rw [I1.ok.glob]; exact ((I1.mod.glob.keeps I1.bk).push _).extBut hx TB.gP) e1 e2 (keep3 _ _ e4 (I1.bk _ _ e5)) e6 e7 e8 ?_
    refine ⟨s1.heap.objs.size, [s1.heap.objs.size, a], [s1.heap.objs.size], its.toArray.size, (fun i v => its.toArray[i]? = some v), (fun i h => h.IsTupleIter s1.heap.objs.size a i ∧ h.IsTuple a its.toArray), (fun _ => true),
      (fun i u => ∃ y, ys[i]? = some y ∧ RelV y u), rfl, (fun A' hA => Walks.tuple hA _ _ (Nat.ne_of_lt halt) _), ?_, ?_, lim2.extBut hx hcP, ?_, ?_, ?_⟩
    · refine ⟨⟨_, hx _ _ hIP (Heap.get?_push_size _ rfl), rfl, rfl⟩, ?_⟩
      obtain ⟨o, ho, r⟩ := hit
      exact ⟨o, keep3 _ _ haP ho, r⟩
    · intro b hb
      have hb2 : b ≤ s1.heap.objs.size := by
        rcases List.mem_cons.mp hb with z | z
        · rw [z]
          exact Nat.le_refl _
        · rw [List.mem_singleton.mp z]
          exact Nat.le_of_lt halt
      show b < h3.objs.size
      exact Nat.lt_of_lt_of_le (Nat.lt_succ_of_le hb2) (by rw [sz2] at hsz; exact hsz)
    · intro z
      rw [List.mem_singleton.mp z] at hcl
      exact Nat.lt_irrefl _ hcl
    · intro href hhref
      refine ⟨fun A' E' i v s₂ m₂ hA hD hU hPv hn hm hk => ?_, fun A' E' i v s₂ m₂ hA hD hU hPv hp hn hm hk => ?_⟩
      · simp only [List.forIn_nil]
        exact wpAny_pure ⟨rfl, kp_refl _⟩
      · have hPv' : its[i]? = some v := by simpa using hPv
        have hil : i < its.length := (List.getElem?_eq_some_iff.mp hPv').1
        have hix : i < xs.length := by rw [rv.length]; exact hil
        have hiy : i < ys.length := by rw [← hlen]; exact hix
        obtain ⟨u, hu, ru⟩ := rv.get (List.getElem?_eq_getElem hix)
        rw [hPv'] at hu
        cases hu
        have q := (hel pins σ H1 s1 _ _ v h3.objs.size code A' I1 (hEC i _ _ (List.getElem?_eq_getElem hix) (List.getElem?_eq_getElem hiy)) ru hTG hA hD hU).run E' s₂
          ⟨fun b o hb e => hk b (List.mem_range.mpr (Heap.lt_size (keep3 b o hb e))) (fun z => by
            rw [List.mem_singleton.mp z] at e
            exact Nat.lt_irrefl _ (Heap.lt_size e)) o (hhref b o (keep3 b o hb e)), m₂, hn, hm⟩
        exact wpAny_mono q (fun y s3 r => ⟨⟨_, List.getElem?_eq_getElem hiy, r.1⟩, r.2⟩) fun _ _ e => e
    · intro g h5 tk5 gs hgb hag hsz5 hk5 W5 hat
      simp only [pass_all, List.length_range] at W5
      rw [hsize] at W5
      refine hQ ys H1 g _ q1 ⟨_, _, _, _, _, W5.in4_1, by rw [hsize] at hat; exact hat, ?_, ?_, fun s' hm => ?_⟩
      · intro b hb
        show b < h5.objs.size
        rw [hsz5]
        rcases List.mem_cons.mp hb with z | z
        · rw [z]
          exact Nat.lt_succ_self _
        rcases List.mem_cons.mp z with z | z
        · rw [z]
          exact Nat.lt_succ_of_lt hag
        · exact Nat.lt_succ_of_lt (Nat.lt_trans (List.mem_range.mp z) hag)
      · intro j u hy
        obtain ⟨i, hij, y, hy1, hy2⟩ := hy
        obtain ⟨hj, ej⟩ := List.getElem?_eq_some_iff.mp hij
        rw [List.getElem_range] at ej
        subst ej
        exact ⟨y, hy1, hy2⟩
      · obtain ⟨more, em⟩ := hmore
        have nwr : ∀ b u, s1.heap.get? b = some u → b ∉ h3.objs.size :: [s1.heap.objs.size] := fun b u e hb => by
          have hl := Heap.lt_size e
          rcases List.mem_cons.mp hb with z | z
          · rw [z] at hl
            have h9 : (h3.objs.size : Nat) < s1.heap.objs.size := hl
            omega
          · rw [List.mem_singleton.mp z] at hl
            exact Nat.lt_irrefl _ hl
        have J := GxR.inv_tab (more := more) (h' := s'.heap) (g' := s'.gens) (d' := s'.drawn) (t' := s'.toks) I1 hP (fun b u hb e => hm.heap b u (nwr b u e) (hk5 b u (keep3 b u hb e)))
          (by rw [← em]; exact hm.heap P _ (nwr P _ hPs) (hk5 P _ hP3)) (AllBare.movedS (I1.bare.push hgb) hm)
        rw [GxR.sh_eta s1 s' hm.os] at J
        exact ⟨upd H1 P (.tbl (ps ++ more)), ⟨⟨ps ++ more, upd_same, by rw [← em]; exact ht3⟩, fun b hb => upd_ne hb⟩, J⟩
  cases hf : codeAmong gpos ps.toList with
  | none =>
    refine wpAny_genexprCodeX hcode (cd.code hP2 htr) (cd.tab hP2) hf fun c' h' tk hx hge hlt hco' _ htab' _ => ?_
    obtain ⟨o1, vs, f1, tf, fl, tg, inF, tx, tt, op, _, _, _, _, _, _, _, _, _, htr', _⟩ := hco'
    exact cont _ h' tk _ hx (Nat.le_trans hge (Nat.le_of_lt hlt)) htab'.2 ⟨_, rfl⟩ htr'
  | some cv =>
    refine wpAny_genexprCode_hit hcode (cd.code hP2 htr) hf ?_
    exact cont cv _ s1.toks ps (Heap.ExtBut.refl _ _) (Nat.le_refl _) hP2 ⟨#[], by simp⟩ htr

/-- all(element for x in a tuple): behind it the def's table may have grown -/
def tAllT (K : PySem.W.Frag) (P : Addr) (EC : L2.St → Hp → V → V → Prop) (te : TE) : TE := fun σ H Q => te σ H fun v H1 => ∃ (a : Addr) (xs : List V) (bs : List Bool), v = .ref a ∧ SqT K H1 a xs ∧ xs.length = bs.length ∧
  (∀ (i : Nat) (x : V) (b : Bool), xs[i]? = some x → bs[i]? = some b → EC σ H1 x (.bl b)) ∧ GxR.TabG H1 P ∧ ∀ H2, GxR.Tabbed P H1 H2 → Q (.bl (bs.all _root_.id)) H2
theorem all_get (bs : List Bool) : (List.range bs.length).all (fun j => bs[j]? == some true) = bs.all _root_.id := by
  rw [Bool.eq_iff_iff, List.all_eq_true, List.all_eq_true]
  constructor
  · intro h b hb
    obtain ⟨j, hj, e⟩ := List.getElem_of_mem hb
    have q := h j (List.mem_range.mpr hj)
    rw [List.getElem?_eq_getElem hj, e] at q
    have q2 : (some b == some true) = true := q
    show b = true
    exact Option.some.inj (eq_of_beq q2)
  · intro h j hj
    have hj' := List.mem_range.mp hj
    have q : bs[j] = true := h _ (List.getElem_mem hj')
    rw [List.getElem?_eq_getElem hj', q] <;> rfl
theorem pe_allT {c P : Addr} {elt iter : Expr} {x : Str} {px p pos gpos : Pos} {sc : Scope} {te : TE} {k : Nat} {EC : L2.St → Hp → V → V → Prop}
    (hr : Room k X.A) (hg : Gl X "all") (hm : X.mg "all" = none) (hb : bootBuiltins "all" = some (.builtin "all")) (TB : GxR.TabB X.base X.mg c P) (hcode : X.env.code = .ref c) (S : GxR.GenS X.env sc x) (hi : PE X iter te) (hel : EltQ X P sc x elt EC)
    (hs : ∀ v, genFold iter X.env v = pure v)
    (he : starEach [.GeneratorExp elt [⟨.Name x px, iter, [], 0⟩] sc gpos] X.env = (false, eval (.GeneratorExp elt [⟨.Name x px, iter, [], 0⟩] sc gpos) X.env) :: starEach [] X.env := by rfl) :
    PE X (.Call (.Name "all" p) [.GeneratorExp elt [⟨.Name x px, iter, [], 0⟩] sc gpos] [] pos) (tAllT X.K P EC te) := by
  refine ⟨fun pins s σ H Q I h => ?_⟩
  refine wpAny_Call_Name_kw (ld_blt I hg hm hb ?_)
  refine PyProof.Rows.callWith_builtin1 ?_ he (by rfl)
  rw [he]
  show wpAny _ _ (spliced ((false, eval (.GeneratorExp elt [⟨.Name x px, iter, [], 0⟩] sc gpos) X.env) :: backTo pos (starEach [] X.env))) _ _ s
  refine Calls.spliced_cons (gen_tup (R := fun ys H1 => ∃ bs : List Bool, ys = bs.map V.bl ∧ ∀ H2, GxR.Tabbed P H1 H2 → Q (.bl (bs.all _root_.id)) H2) hr TB hcode S hi hel hs I (?_ : te σ H _) fun ys H1 g s5 hR hG => ?_)
  · have e : (fun v H1 => ∃ (a : Addr) (xs : List V) (bs : List Bool), v = V.ref a ∧ SqT X.K H1 a xs ∧ xs.length = bs.length ∧
        (∀ (i : Nat) (x : V) (b : Bool), xs[i]? = some x → bs[i]? = some b → EC σ H1 x (.bl b)) ∧ GxR.TabG H1 P ∧ ∀ H2, GxR.Tabbed P H1 H2 → Q (.bl (bs.all _root_.id)) H2) =
        (fun v H1 => ∃ (a : Addr) (xs ys : List V), v = V.ref a ∧ SqT X.K H1 a xs ∧ xs.length = ys.length ∧ (∀ (i : Nat) (x y : V), xs[i]? = some x → ys[i]? = some y → EC σ H1 x y) ∧ GxR.TabG H1 P ∧
          ∃ bs : List Bool, ys = bs.map V.bl ∧ ∀ H2, GxR.Tabbed P H1 H2 → Q (.bl (bs.all _root_.id)) H2) := by
      funext v H1
      apply propext
      constructor
      · rintro ⟨a, xs, bs, h1, h2, h3, h4, h5, h6⟩
        refine ⟨a, xs, bs.map V.bl, h1, h2, by rw [List.length_map]; exact h3, fun i x y e1 e2 => ?_, h5, bs, rfl, h6⟩
        rw [List.getElem?_map] at e2
        obtain ⟨b, eb, rfl⟩ := Option.map_eq_some_iff.mp e2
        exact h4 i x b e1 eb
      · rintro ⟨a, xs, ys, h1, h2, h3, h4, h5, bs, rfl, h6⟩
        refine ⟨a, xs, bs, h1, h2, by rw [List.length_map] at h3; exact h3, fun i x b e1 e2 => h4 i x _ e1 (by rw [List.getElem?_map, e2] <;> rfl), h5, h6⟩
    have h' : te σ H (fun v H1 => ∃ (a : Addr) (xs : List V) (bs : List Bool), v = V.ref a ∧ SqT X.K H1 a xs ∧ xs.length = bs.length ∧
        (∀ (i : Nat) (x : V) (b : Bool), xs[i]? = some x → bs[i]? = some b → EC σ H1 x (.bl b)) ∧ GxR.TabG H1 P ∧ ∀ H2, GxR.Tabbed P H1 H2 → Q (.bl (bs.all _root_.id)) H2) := h
    rw [e] at h'
    exact h'
  obtain ⟨bs, rfl, hR⟩ := hR
  obtain ⟨fp, wr, G, F, St, W, hst, hfp, hF, hI⟩ := hG
  refine Calls.spliced_nil ?_
  refine call_all_walkS (W.self 0 _ _ _ hst ⟨g, fp, wr, G, _, F, St, (fun j => bs[j]? == some true), rfl, W, hst, ?_, fun s' hmv => ?_⟩)
  · intro j u sj Qj Ej hy hQj
    obtain ⟨y, e1, e2⟩ := hF j u hy
    rw [List.getElem?_map] at e1
    obtain ⟨b, eb, rfl⟩ := Option.map_eq_some_iff.mp e1
    cases e2
    have hQ2 : Qj (bs[j]? == some true) sj := hQj
    rw [eb] at hQ2
    refine wpAny_truthy_bool ?_
    cases b <;> exact hQ2
  · obtain ⟨H2, hT, J⟩ := hI s' hmv
    refine ⟨.bl _, H2, J, rfl, ?_⟩
    rw [List.length_map, all_get]
    exact hR H2 hT
end
end Cq

set_option Elab.async false
set_option linter.all false
set_option maxRecDepth 100000
set_option maxHeartbeats 4000000
/-! sum(element for a, b in a tuple of pairs): the element quiet -/
namespace Cq
open PySem PySem.Spec PyProof.Rows L2
/-- a tuple of tuples, walked -/
theorem walksU_tup {prog : Program} {w : World} {A : Around} (hh : A.handled = none) (I ax : Addr) (hne : ax ≠ I) (items : Array Value) (ts : List (Addr × Array Value)) (hit : items.toList = ts.map fun q => Value.ref q.1) (hT : ∀ q ∈ ts, q.1 ≠ I) :
    WalksU prog w A I (I :: ax :: ts.map (·.1)) [I] items.size (fun i vals => ∃ T, ts[i]? = some (T, vals)) (fun i h => h.IsTupleIter I ax i ∧ h.IsTuple ax items ∧ ∀ q ∈ ts, h.IsTuple q.1 q.2)
      (fun i T h => (h.IsTupleIter I ax (i + 1) ∧ h.IsTuple ax items ∧ ∀ q ∈ ts, h.IsTuple q.1 q.2) ∧ T ≠ I) where
  sub := fun b hb => by
    rw [List.mem_singleton.mp hb]
    exact List.mem_cons_self
  frame := fun _ _ _ st hk => ⟨st.1.at fun o e => hk I List.mem_cons_self o e, st.2.1.at fun o e => hk ax (List.mem_cons_of_mem _ List.mem_cons_self) o e,
    fun q hq => (st.2.2 q hq).at fun o e => hk q.1 (List.mem_cons_of_mem _ (List.mem_cons_of_mem _ (List.mem_map.mpr ⟨q, hq, rfl⟩))) o e⟩
  item := fun i s Q E hi st hQ => by
    have hil : i < ts.length := by
      have e := congrArg List.length hit
      rw [List.length_map, Array.length_toList] at e
      omega
    have e1 : items[i]? = some (Value.ref ts[i].1) := by
      rw [← Array.getElem?_toList, hit, List.getElem?_map, List.getElem?_eq_getElem hil] <;> rfl
    refine wpAny_pyNext_tuple_item st.1 st.2.1 e1 fun h' hit' hs' => ?_
    have hm : ts[i] ∈ ts := List.getElem_mem hil
    have k2 : ∀ q ∈ ts, h'.IsTuple q.1 q.2 := fun q hq => (st.2.2 q hq).extBut hs'.extBut (hT q hq)
    exact hQ ts[i].1 ts[i].2 h' s.toks ⟨ts[i].1, by rw [List.getElem?_eq_getElem hil]⟩ (k2 _ hm) ⟨⟨hit', st.2.1.extBut hs'.extBut hne, k2⟩, hT _ hm⟩ fun b o hb e => hs'.extBut b o (fun z => hb (by rw [z]; exact List.mem_singleton.mpr rfl)) e
  go := fun elts k pos i T s Q E hm hQ => by
    obtain ⟨o, ho, hc, hd⟩ := hm.1.1
    exact go_of ho hc hd (by decide) (hQ s.heap hm.1 fun _ _ _ e => e)
  apart := fun i T h hm hb => hm.2 (List.mem_singleton.mp hb)
  done := fun s Q E st hQ => wpAny_pyNext_tuple_end hh st.1 st.2.1 (by simp) fun h' he' => hQ h' s.toks fun b o hb e => he' b o (fun z => hb (by rw [z]; exact List.mem_singleton.mpr rfl)) e
  self := fun _ _ _ _ st hQ => wpAny_pyIter_tupleiter st.1 hQ
/-- where an element stands: xa, xb hold ua, ub -/
abbrev gQc2 (X : Cx) (P : Addr) (sc : Scope) (cl : List (Str × Addr)) (C : Addr) (code : Value) (h1 : Heap) (xa xb : Str) (ua ub : Value) (A : Around) : Qc :=
  ⟨X.prog, X.w, X.K, X.mg, A, genEnv sc cl C code builtinsNs X.env, fun h => (∀ b o, b ≠ P → h1.get? b = some o → h.get? b = some o) ∧ ∃ m, h.Ns C m ∧ m xa = some ua ∧ m xb = some ub⟩
def EltQ2 (X : Cx) (P : Addr) (sc : Scope) (xa xb : Str) (elt : Expr) (EC : L2.St → Hp → V → V → V → Prop) : Prop :=
  ∀ (pins : List (Addr × Obj)) (σ : L2.St) (H1 : Hp) (s1 : Shared) (av bv yv : V) (ua ub : Value) (C : Addr) (code : Value) (A : Around), Inv X pins σ H1 s1 → EC σ H1 av bv yv → RelV av ua → RelV bv ub → GxR.TabG H1 P → A.handled = none → A.depth ≤ X.A.depth + 1 → A.units ≤ X.A.units + 8 →
    QE (gQc2 X P sc (cloFrom X.env.cells sc.names []) C code s1.heap xa xb ua ub A) elt yv
/-- the scope of a generator expression with two names -/
structure GenS2 (env : Env) (scope : Scope) (xa xb : Str) : Prop where
  kind : scope.kind = .function
  co : scope.isCoroutine = false
  cell : ∀ y ∈ scope.names, y.2 ≠ .cell
  dot : scope.names.lookup (".0" : Str) = some NameKind.local
  loca : scope.names.lookup xa = some .local
  locb : scope.names.lookup xb = some .local
  ne : xa ≠ xb
  free : ∀ y ∈ scope.names, y.2 = .free → ∃ c, env.cells.lookup y.1 = some c
section
variable {X : Cx} {pins : List (Addr × Obj)} {σ : L2.St} {H : Hp} {s : Shared}
theorem gQc2_ok {P : Addr} {sc : Scope} {cl : List (Str × Addr)} {C : Addr} {code : Value} {xa xb : Str} {ua ub : Value} {A : Around} (I : Inv X pins σ H s) (hP : GxR.TabG H P) (hk : sc.kind = .function) : (gQc2 X P sc cl C code s.heap xa xb ua ub A).Ok where
  grow := fun h h' j g => ⟨fun b o hb e => g b o (j.1 b o hb e), let ⟨m, h1, h2, h3⟩ := j.2; ⟨m, h1.keeps g, h2, h3⟩⟩
  mod := fun h j => by
    obtain ⟨ps, hP, _⟩ := hP
    refine mod_grw I.ok.mod fun b o e => j.1 b o (fun z => ?_) (I.bk b o e)
    have n := (I.bs b o e).2
    rw [z, hP] at n
    cases n
  kind := hk
  glob := I.ok.glob
  blt := rfl
/-- the tuples at the items of a tuple of pairs -/
theorem pairs_at (I : Inv X pins σ H s) : ∀ {xs : List V} {its : List Value} {ps : List (V × V)}, Vals xs its → Paired (fun x p => ∃ t, x = V.ref t ∧ SqT X.K H t [p.1, p.2]) xs ps →
    ∃ ts : List (Addr × Array Value), its = ts.map (fun q => Value.ref q.1) ∧ Paired (fun (q : Addr × Array Value) (p : V × V) => IsTup s.heap q.1 q.2 ∧ ∃ ua ub, q.2 = #[ua, ub] ∧ RelV p.1 ua ∧ RelV p.2 ub) ts ps
  | _, _, _, .nil, .nil => ⟨[], rfl, .nil⟩
  | _, _, _, .cons r rv, .cons ⟨t, e, h⟩ hp => by
    subst e
    cases r
    obtain ⟨ts, h1, h2⟩ := pairs_at I rv hp
    obtain ⟨us, rus, ht, _⟩ := I.tuple h
    cases rus with
    | cons ra r2 =>
      cases r2 with
      | cons rb r3 =>
        cases r3
        exact ⟨(t, _) :: ts, by rw [h1] <;> rfl, .cons ⟨ht, _, _, rfl, ra, rb⟩ h2⟩
theorem Paired.at {α β : Type} {F : α → β → Prop} : ∀ {xs : List α} {ys : List β} {i : Nat} {x : α}, Paired F xs ys → xs[i]? = some x → ∃ y, ys[i]? = some y ∧ F x y
  | _, _, _, _, .nil, e => by simp at e
  | _, _, 0, x, .cons r _, e => by
    simp at e
    subst e
    exact ⟨_, rfl, r⟩
  | _, _, i + 1, x, .cons _ t, e => by
    obtain ⟨y, h1, h2⟩ := Paired.at (i := i) (x := x) t (by simpa using e)
    exact ⟨y, by simpa using h1, h2⟩
theorem gen_pairs {c P : Addr} {elt iter : Expr} {xa xb : Str} {pxa pxb pt gpos : Pos} {kt : Nat} {sc : Scope} {te : TE} {k : Nat} {Q' : Value → Shared → Prop} {EC : L2.St → Hp → V → V → V → Prop} {R : List V → Hp → Prop}
    (hr : Room k X.A) (TB : GxR.TabB X.base X.mg c P) (hcode : X.env.code = .ref c) (S : GenS2 X.env sc xa xb) (hi : PE X iter te) (hel : EltQ2 X P sc xa xb elt EC)
    (hs : ∀ v, genFold iter X.env v = pure v) (I : Inv X pins σ H s)
    (h : te σ H fun v H1 => ∃ (a : Addr) (xs : List V) (prs : List (V × V)) (ys : List V), v = .ref a ∧ SqT X.K H1 a xs ∧ Paired (fun x p => ∃ t, x = V.ref t ∧ SqT X.K H1 t [p.1, p.2]) xs prs ∧ prs.length = ys.length ∧ (∀ (i : Nat) (p : V × V) (y : V), prs[i]? = some p → ys[i]? = some y → EC σ H1 p.1 p.2 y) ∧ GxR.TabG H1 P ∧ R ys H1)
    (hQ : ∀ ys H1 g s5, R ys H1 → ReadyG X pins σ H1 P ys g s5 → Q' (.ref g) s5) :
    wpAny (model X.prog X.w) X.A (eval (.GeneratorExp elt [⟨.Tuple [.Name xa pxa, .Name xb pxb] kt pt, iter, [], 0⟩] sc gpos) X.env) Q' X.xe s := by
  refine wpAny_GeneratorExp_walksQTD hr.hd S.co (closure_ok S.free) S.cell S.dot S.loca S.locb S.ne S.kind (by have := hr.dp; omega) ?_ hs
  refine thn (hi.run pins s σ H _ I h) fun xv s1 ⟨v, H1, I1, r1, q1⟩ => ?_
  obtain ⟨a, xs, prs, ys, rfl, hT, hPr, hlen, hEC, hTG, q1⟩ := q1
  obtain ⟨ps, hP, htr⟩ := _root_.id hTG
  cases r1
  obtain ⟨its, rv, hit, hz⟩ := I1.tuple hT
  obtain ⟨ts, ets, hts⟩ := pairs_at I1 rv hPr
  have ltT : ∀ q ∈ ts, q.1 < s1.heap.objs.size := fun q hq => by
    obtain ⟨i, hi, e⟩ := List.getElem_of_mem hq
    obtain ⟨p, _, ⟨o, ho, _⟩, _⟩ := Paired.at hts (List.getElem?_eq_getElem hi)
    rw [e] at ho
    exact Heap.lt_size ho
  have lprs : ts.length = prs.length := Paired.length hts
  have hPs : s1.heap.get? P = some { cls := .none, data := .fields ps } := I1.hok P _ hP
  have hPlt : P < s1.heap.objs.size := Heap.lt_size hPs
  have halt : a < s1.heap.objs.size := by
    obtain ⟨_, e, _⟩ := hit
    exact Heap.lt_size e
  have haP : a ≠ P := fun e => by
    obtain ⟨o, ho, hc, _⟩ := hit
    rw [e, hPs] at ho
    cases ho
    cases hc
  have hsize : its.toArray.size = ys.length := by rw [List.size_toArray, ets, List.length_map, lprs, hlen]
  refine wpAny_pyIter_tuple (show s1.heap.IsTuple a its.toArray from hit) ?_
  have lim2 : (s1.heap.push { cls := .type "tuple_iterator", data := .fields #[.ref a, .int 0 0] }).NoLimit := I1.nolimit.push _
  refine ⟨lim2, ?_⟩
  have hP2 : (s1.heap.push { cls := .type "tuple_iterator", data := .fields #[.ref a, .int 0 0] }).get? P = some { cls := .none, data := .fields ps } := Heap.get?_push_of_some _ hPs
  have cd : PySem.W.CodeHd (s1.heap.push { cls := .type "tuple_iterator", data := .fields #[.ref a, .int 0 0] }) c P := TB.code.keeps fun b u e => Heap.get?_push_of_some _ (I1.bk b u e)
  have cont : ∀ (code : Value) (h3 : Heap) (tk : Nat) (ps' : Array Value), Heap.ExtBut P (s1.heap.push { cls := .type "tuple_iterator", data := .fields #[.ref a, .int 0 0] }) h3 → (s1.heap.push { cls := .type "tuple_iterator", data := .fields #[.ref a, .int 0 0] }).objs.size ≤ h3.objs.size →
      h3.get? P = some { cls := .none, data := .fields ps' } → (∃ more, ps' = ps ++ more) → TriplesOk ps'.toList →
      wpAny (model X.prog X.w) X.A (builtinsFor X.env.globals X.env.builtins) (fun bi s₄ =>
        ∃ Ia fp wr n₀ Pf St₀ Mid pz F, Value.ref s1.heap.objs.size = .ref Ia ∧ (∀ A' : Around, A'.handled = none → WalksU X.prog X.w A' Ia fp wr n₀ Pf St₀ Mid) ∧ (∀ i vals, Pf i vals → ∃ va vb, vals = #[va, vb]) ∧ St₀ 0 s₄.heap ∧ (∀ b ∈ fp, b < s₄.heap.objs.size) ∧ s₄.heap.NoLimit ∧ cStatics ∉ wr ∧
          (∀ href : Heap, (∀ b o, s₄.heap.get? b = some o → href.get? b = some o) →
            QuietGenTD X.prog X.w (genEnv sc (cloFrom X.env.cells sc.names []) s₄.heap.objs.size code bi X.env) xa xb [] elt (List.range s₄.heap.objs.size) wr Pf pz F href (X.A.depth + 1) (X.A.units + 8)) ∧
          (∀ a h₅ tk gs, gs.bare = true → s₄.heap.objs.size < a → h₅.objs.size = a + 1 → (∀ b o, s₄.heap.get? b = some o → h₅.get? b = some o) →
            WalksS X.prog X.w X.A.in4 a (a :: s₄.heap.objs.size :: List.range s₄.heap.objs.size) (s₄.heap.objs.size :: wr) (GenOnlyQ s₄.gens.size) (passing pz n₀ 0).length
              (fun j y => ∃ i, (passing pz n₀ 0)[j]? = some i ∧ F i y) (GenAt X.prog X.w X.A.in4 a s₄.gens.size s₄.heap.objs.size (List.range s₄.heap.objs.size) wr pz n₀ F) →
            GenAt X.prog X.w X.A.in4 a s₄.gens.size s₄.heap.objs.size (List.range s₄.heap.objs.size) wr pz n₀ F 0 { s₄ with gens := s₄.gens.push gs, toks := tk, heap := h₅ } →
            Q' (.ref a) { s₄ with gens := s₄.gens.push gs, toks := tk, heap := h₅ })) X.xe { s1 with heap := h3, toks := tk } := by
    intro code h3 tk ps' hx hsz hP3 hmore ht3
    obtain ⟨bm, ob, e1, e2, e3, e4, e5, e6, e7, e8⟩ := TB.bm
    have hcP : cStatics ≠ P := fun e => by
      obtain ⟨_, hns, _⟩ := I1.nolimit
      obtain ⟨o', es, ep, ho, hd, _⟩ := hns
      rw [e, hPs] at ho
      cases ho
      cases hd
    have hcl : cStatics < s1.heap.objs.size := let ⟨_, hns, _⟩ := I1.nolimit; hns.lt
    have sz2 : (s1.heap.push { cls := .type "tuple_iterator", data := .fields #[.ref a, .int 0 0] }).objs.size = s1.heap.objs.size + 1 := Heap.size_push ..
    have keep3 : ∀ b u, b ≠ P → s1.heap.get? b = some u → h3.get? b = some u := fun b u hb e => hx b u hb (Heap.get?_push_of_some _ e)
    have hIP : s1.heap.objs.size ≠ P := (Nat.ne_of_lt hPlt).symm
    refine wpAny_builtinsFor (m := X.mg) (by rw [I1.ok.glob]; exact ((I1.mod.glob.keeps I1.bk).push _).extBut hx TB.gP) e1 e2 (keep3 _ _ e4 (I1.bk _ _ e5)) e6 e7 e8 ?_
    refine ⟨s1.heap.objs.size, s1.heap.objs.size :: a :: ts.map (·.1), [s1.heap.objs.size], its.toArray.size, _, _, _, (fun _ => true),
      (fun i u => ∃ y, ys[i]? = some y ∧ RelV y u), rfl, (fun A' hA => walksU_tup hA _ _ (Nat.ne_of_lt halt) _ ts (by simpa using ets) fun q hq => Nat.ne_of_lt (ltT q hq)), (fun i vals ⟨T, hv⟩ => by
        obtain ⟨p, _, _, ua, ub, e, _⟩ := Paired.at hts hv
        exact ⟨ua, ub, e⟩), ?_, ?_, lim2.extBut hx hcP, ?_, ?_, ?_⟩
    · refine ⟨⟨_, hx _ _ hIP (Heap.get?_push_size _ rfl), rfl, rfl⟩, ?_, fun q hq => ?_⟩
      · obtain ⟨o, ho, r⟩ := hit
        exact ⟨o, keep3 _ _ haP ho, r⟩
      · obtain ⟨i, hi, e⟩ := List.getElem_of_mem hq
        obtain ⟨p, _, ⟨o, ho, hc, r⟩, _⟩ := Paired.at hts (List.getElem?_eq_getElem hi)
        rw [e] at ho r
        refine ⟨o, keep3 _ _ (fun z => ?_) ho, hc, r⟩
        rw [z, hPs] at ho
        cases ho
        cases hc
    · intro b hb
      have hb2 : b ≤ s1.heap.objs.size := by
        rcases List.mem_cons.mp hb with z | z
        · rw [z]
          exact Nat.le_refl _
        rcases List.mem_cons.mp z with z | z
        · rw [z]
          exact Nat.le_of_lt halt
        · obtain ⟨q, hq, e⟩ := List.mem_map.mp z
          rw [← e]
          exact Nat.le_of_lt (ltT q hq)
      show b < h3.objs.size
      exact Nat.lt_of_lt_of_le (Nat.lt_succ_of_le hb2) (by rw [sz2] at hsz; exact hsz)
    · intro z
      rw [List.mem_singleton.mp z] at hcl
      exact Nat.lt_irrefl _ hcl
    · intro href hhref
      refine ⟨fun A' E' i va vb s₂ m₂ hA hD hU hPv hn hma hmb hk => ?_, fun A' E' i va vb s₂ m₂ hA hD hU hPv hp hn hma hmb hk => ?_⟩
      · simp only [List.forIn_nil]
        exact wpAny_pure ⟨rfl, kp_refl _⟩
      · obtain ⟨T, hPv⟩ := hPv
        obtain ⟨p, hp2, _, ua, ub, eu, ra, rb⟩ := Paired.at hts hPv
        have eu2 : va = ua ∧ vb = ub := by
          have e0 := congrArg Array.toList eu
          simp at e0
          exact e0
        obtain ⟨rfl, rfl⟩ := eu2
        have hiy : i < ys.length := by
          rw [← hlen]
          exact (List.getElem?_eq_some_iff.mp hp2).1
        have q := (hel pins σ H1 s1 _ _ _ va vb h3.objs.size code A' I1 (hEC i _ _ hp2 (List.getElem?_eq_getElem hiy)) ra rb hTG hA hD hU).run E' s₂
          ⟨fun b o hb e => hk b (List.mem_range.mpr (Heap.lt_size (keep3 b o hb e))) (fun z => by
            rw [List.mem_singleton.mp z] at e
            exact Nat.lt_irrefl _ (Heap.lt_size e)) o (hhref b o (keep3 b o hb e)), m₂, hn, hma, hmb⟩
        exact wpAny_mono q (fun y s3 r => ⟨⟨_, List.getElem?_eq_getElem hiy, r.1⟩, r.2⟩) fun _ _ e => e
    · intro g h5 tk5 gs hgb hag hsz5 hk5 W5 hat
      simp only [pass_all, List.length_range] at W5
      rw [hsize] at W5
      refine hQ ys H1 g _ q1 ⟨_, _, _, _, _, W5.in4_1, by rw [hsize] at hat; exact hat, ?_, ?_, fun s' hm => ?_⟩
      · intro b hb
        show b < h5.objs.size
        rw [hsz5]
        rcases List.mem_cons.mp hb with z | z
        · rw [z]
          exact Nat.lt_succ_self _
        rcases List.mem_cons.mp z with z | z
        · rw [z]
          exact Nat.lt_succ_of_lt hag
        · exact Nat.lt_succ_of_lt (Nat.lt_trans (List.mem_range.mp z) hag)
      · intro j u hy
        obtain ⟨i, hij, y, hy1, hy2⟩ := hy
        obtain ⟨hj, ej⟩ := List.getElem?_eq_some_iff.mp hij
        rw [List.getElem_range] at ej
        subst ej
        exact ⟨y, hy1, hy2⟩
      · obtain ⟨more, em⟩ := hmore
        have nwr : ∀ b u, s1.heap.get? b = some u → b ∉ h3.objs.size :: [s1.heap.objs.size] := fun b u e hb => by
          have hl := Heap.lt_size e
          rcases List.mem_cons.mp hb with z | z
          · rw [z] at hl
            have h9 : (h3.objs.size : Nat) < s1.heap.objs.size := hl
            omega
          · rw [List.mem_singleton.mp z] at hl
            exact Nat.lt_irrefl _ hl
        have J := GxR.inv_tab (more := more) (h' := s'.heap) (g' := s'.gens) (d' := s'.drawn) (t' := s'.toks) I1 hP (fun b u hb e => hm.heap b u (nwr b u e) (hk5 b u (keep3 b u hb e)))
          (by rw [← em]; exact hm.heap P _ (nwr P _ hPs) (hk5 P _ hP3)) (AllBare.movedS (I1.bare.push hgb) hm)
        rw [GxR.sh_eta s1 s' hm.os] at J
        exact ⟨upd H1 P (.tbl (ps ++ more)), ⟨⟨ps ++ more, upd_same, by rw [← em]; exact ht3⟩, fun b hb => upd_ne hb⟩, J⟩
  cases hf : codeAmong gpos ps.toList with
  | none =>
    refine wpAny_genexprCodeX hcode (cd.code hP2 htr) (cd.tab hP2) hf fun c' h' tk hx hge hlt hco' _ htab' _ => ?_
    obtain ⟨o1, vs, f1, tf, fl, tg, inF, tx, tt, op, _, _, _, _, _, _, _, _, _, htr', _⟩ := hco'
    exact cont _ h' tk _ hx (Nat.le_trans hge (Nat.le_of_lt hlt)) htab'.2 ⟨_, rfl⟩ htr'
  | some cv =>
    refine wpAny_genexprCode_hit hcode (cd.code hP2 htr) hf ?_
    exact cont cv _ s1.toks ps (Heap.ExtBut.refl _ _) (Nat.le_refl _) hP2 ⟨#[], by simp⟩ htr

/-- sum(element for a, b in a tuple of pairs) -/
def tSumP (K : PySem.W.Frag) (P : Addr) (EC : L2.St → Hp → V → V → V → Prop) (te : TE) : TE := fun σ H Q => te σ H fun v H1 => ∃ (a : Addr) (xs : List V) (prs : List (V × V)) (ns : List Int), v = .ref a ∧ SqT K H1 a xs ∧ Paired (fun x p => ∃ t, x = V.ref t ∧ SqT K H1 t [p.1, p.2]) xs prs ∧
  prs.length = ns.length ∧ (∀ (i : Nat) (p : V × V) (n : Int), prs[i]? = some p → ns[i]? = some n → EC σ H1 p.1 p.2 (.int n)) ∧ GxR.TabG H1 P ∧ ∀ H2, GxR.Tabbed P H1 H2 → Q (.int ns.sum) H2
theorem preSum_get (ns : List Int) : ∀ i, i ≤ ns.length → preSum (fun j => ns.getD j 0) i = (ns.take i).sum
  | 0, _ => rfl
  | i + 1, h => by
    have hi : i < ns.length := h
    rw [sum_take (List.getElem?_eq_getElem hi), ← preSum_get ns i (Nat.le_of_lt hi)]
    show preSum _ i + ns.getD i 0 = _
    rw [List.getD_eq_getElem?_getD, List.getElem?_eq_getElem hi] <;> rfl
theorem pe_sumP {c P : Addr} {elt iter : Expr} {xa xb : Str} {pxa pxb pt p pos gpos : Pos} {kt : Nat} {sc : Scope} {te : TE} {k : Nat} {EC : L2.St → Hp → V → V → V → Prop}
    (hr : Room k X.A) (hg : Gl X "sum") (hm : X.mg "sum" = none) (hb : bootBuiltins "sum" = some (.builtin "sum")) (TB : GxR.TabB X.base X.mg c P) (hcode : X.env.code = .ref c) (S : GenS2 X.env sc xa xb) (hi : PE X iter te) (hel : EltQ2 X P sc xa xb elt EC)
    (hs : ∀ v, genFold iter X.env v = pure v)
    (he : starEach [.GeneratorExp elt [⟨.Tuple [.Name xa pxa, .Name xb pxb] kt pt, iter, [], 0⟩] sc gpos] X.env = (false, eval (.GeneratorExp elt [⟨.Tuple [.Name xa pxa, .Name xb pxb] kt pt, iter, [], 0⟩] sc gpos) X.env) :: starEach [] X.env := by rfl) :
    PE X (.Call (.Name "sum" p) [.GeneratorExp elt [⟨.Tuple [.Name xa pxa, .Name xb pxb] kt pt, iter, [], 0⟩] sc gpos] [] pos) (tSumP X.K P EC te) := by
  refine ⟨fun pins s σ H Q I h => ?_⟩
  refine wpAny_Call_Name_kw (ld_blt I hg hm hb ?_)
  refine PyProof.Rows.callWith_builtin1 ?_ he (by rfl)
  rw [he]
  show wpAny _ _ (spliced ((false, eval (.GeneratorExp elt [⟨.Tuple [.Name xa pxa, .Name xb pxb] kt pt, iter, [], 0⟩] sc gpos) X.env) :: backTo pos (starEach [] X.env))) _ _ s
  refine Calls.spliced_cons (gen_pairs (R := fun ys H1 => ∃ ns : List Int, ys = ns.map V.int ∧ ∀ H2, GxR.Tabbed P H1 H2 → Q (.int ns.sum) H2) hr TB hcode S hi hel hs I (?_ : te σ H _) fun ys H1 g s5 hR hG => ?_)
  · have e : (fun v H1 => ∃ (a : Addr) (xs : List V) (prs : List (V × V)) (ns : List Int), v = V.ref a ∧ SqT X.K H1 a xs ∧ Paired (fun x p => ∃ t, x = V.ref t ∧ SqT X.K H1 t [p.1, p.2]) xs prs ∧ prs.length = ns.length ∧
        (∀ (i : Nat) (p : V × V) (n : Int), prs[i]? = some p → ns[i]? = some n → EC σ H1 p.1 p.2 (.int n)) ∧ GxR.TabG H1 P ∧ ∀ H2, GxR.Tabbed P H1 H2 → Q (.int ns.sum) H2) =
        (fun v H1 => ∃ (a : Addr) (xs : List V) (prs : List (V × V)) (ys : List V), v = V.ref a ∧ SqT X.K H1 a xs ∧ Paired (fun x p => ∃ t, x = V.ref t ∧ SqT X.K H1 t [p.1, p.2]) xs prs ∧ prs.length = ys.length ∧
          (∀ (i : Nat) (p : V × V) (y : V), prs[i]? = some p → ys[i]? = some y → EC σ H1 p.1 p.2 y) ∧ GxR.TabG H1 P ∧ ∃ ns : List Int, ys = ns.map V.int ∧ ∀ H2, GxR.Tabbed P H1 H2 → Q (.int ns.sum) H2) := by
      funext v H1
      apply propext
      constructor
      · rintro ⟨a, xs, prs, ns, h1, h2, h3, h4, h5, h6, h7⟩
        refine ⟨a, xs, prs, ns.map V.int, h1, h2, h3, by rw [List.length_map]; exact h4, fun i p y e1 e2 => ?_, h6, ns, rfl, h7⟩
        rw [List.getElem?_map] at e2
        obtain ⟨b, eb, rfl⟩ := Option.map_eq_some_iff.mp e2
        exact h5 i p b e1 eb
      · rintro ⟨a, xs, prs, ys, h1, h2, h3, h4, h5, h6, ns, rfl, h7⟩
        refine ⟨a, xs, prs, ns, h1, h2, h3, by rw [List.length_map] at h4; exact h4, fun i p n e1 e2 => h5 i p _ e1 (by rw [List.getElem?_map, e2] <;> rfl), h6, h7⟩
    have h' : te σ H (fun v H1 => ∃ (a : Addr) (xs : List V) (prs : List (V × V)) (ns : List Int), v = V.ref a ∧ SqT X.K H1 a xs ∧ Paired (fun x p => ∃ t, x = V.ref t ∧ SqT X.K H1 t [p.1, p.2]) xs prs ∧ prs.length = ns.length ∧
        (∀ (i : Nat) (p : V × V) (n : Int), prs[i]? = some p → ns[i]? = some n → EC σ H1 p.1 p.2 (.int n)) ∧ GxR.TabG H1 P ∧ ∀ H2, GxR.Tabbed P H1 H2 → Q (.int ns.sum) H2) := h
    rw [e] at h'
    exact h'
  obtain ⟨ns, rfl, hR⟩ := hR
  obtain ⟨fp, wr, G, F, S5, W, hst, hfp, hF, hI⟩ := hG
  refine Calls.spliced_nil ?_
  refine call_sum_walkAnyS (W.self 0 _ _ _ hst ⟨g, fp, wr, G, _, F, S5, (fun j => ns.getD j 0), rfl, W, hst, hfp, ?_, fun s' t' hmv => ?_⟩)
  · intro j u hy
    obtain ⟨y, e1, e2⟩ := hF j u hy
    rw [List.getElem?_map] at e1
    obtain ⟨b, eb, rfl⟩ := Option.map_eq_some_iff.mp e1
    obtain ⟨t, rfl⟩ := e2
    refine ⟨t, ?_⟩
    show Value.int b t = Value.int (ns.getD j 0) t
    rw [List.getD_eq_getElem?_getD, eb] <;> rfl
  · obtain ⟨H2, hT, J⟩ := hI s' hmv
    refine ⟨.int _, H2, J, ⟨t', rfl⟩, ?_⟩
    rw [List.length_map, preSum_get ns ns.length (Nat.le_refl _), List.take_length]
    exact hR H2 hT
end
end Cq

set_option Elab.async false
set_option linter.all false
set_option maxRecDepth 100000
set_option maxHeartbeats 2000000
/-! the text by places -/
namespace Cd
open PySem PySem.Spec PyProof.Rows L2
def topS (i : Nat) : Stmt := PySem.Challenge.pw_chiefdeeds_k09_whole_prices.main.body.getD i (.Pass ⟨0, 0, 0, 0⟩)
/-- a def of the text as it stands behind the top -/
structure Df (K : PySem.W.Frag) (mg : Str → Option Value) (x : Str) (st : Stmt) (ps : List Str) : Type where
  f : Addr
  fd : FuncData
  F : Fun K x x st f fd
  b : Binds K fd ps []
  g : mg x = some (.ref f)
abbrev sIn : Stmt := topS 7
abbrev sComes : Stmt := topS 8
abbrev sIsChart : Stmt := topS 9
abbrev sNeedChart : Stmt := topS 10
abbrev sAllCharts : Stmt := topS 11
abbrev sIsStep : Stmt := topS 12
abbrev sStepped : Stmt := topS 13
abbrev sAreSteps : Stmt := topS 14
abbrev sTrace : Stmt := topS 15
abbrev sAllSteps : Stmt := topS 16
abbrev sNeedTwo : Stmt := topS 18
abbrev sArePrices : Stmt := topS 23
abbrev sNeedShaped : Stmt := topS 24
abbrev sNeedFew : Stmt := topS 25
abbrev sNeedPrices : Stmt := topS 26
abbrev sLeast : Stmt := topS 27
abbrev sNeedPriced : Stmt := topS 28
abbrev sCheap : Stmt := topS 29
abbrev sPriceOf : Stmt := topS 30
abbrev sShowsRow : Stmt := topS 31
abbrev sWorths : Stmt := topS 32
abbrev sShowsPaper : Stmt := topS 33
abbrev sTaken : Stmt := topS 35
abbrev sPick : Stmt := topS 36
abbrev sAlike : Stmt := topS 37
abbrev sLStep : Stmt := topS 38
abbrev sLDone : Stmt := topS 39
abbrev sLSteps : Stmt := topS 40
abbrev sLRow : Stmt := topS 41
abbrev sLIsChart : Stmt := topS 43
abbrev sLCharts : Stmt := topS 44
abbrev sLChart : Stmt := topS 45
abbrev sLTable : Stmt := topS 46
abbrev sLPapers : Stmt := topS 47
abbrev sLaw : Stmt := topS 48
/-- the built-ins are the built-ins -/
structure Bl (mg : Str → Option Value) : Prop where
  isi : mg "isinstance" = none
  int : mg "int" = none
  bool : mg "bool" = none
  str : mg "str" = none
  tuple : mg "tuple" = none
  list : mg "list" = none
  dict : mg "dict" = none
  len : mg "len" = none
  range : mg "range" = none
  all : mg "all" = none
  sum : mg "sum" = none
  sorted : mg "sorted" = none
  zip : mg "zip" = none
theorem boot_isi : bootBuiltins "isinstance" = some (.builtin "isinstance") := by decide +kernel
theorem boot_int : bootBuiltins "int" = some (.type "int") := by decide +kernel
theorem boot_bool : bootBuiltins "bool" = some (.type "bool") := by decide +kernel
theorem boot_tup : bootBuiltins "tuple" = some (.type "tuple") := by decide +kernel
section
variable {P : Program} {w : World} {K : PySem.W.Frag} {mg : Str → Option Value}
open Cq
/-- a name of a quiet def's frame -/
theorem qe_par {qual : Str} {sc : Scope} {f : Addr} {cdv : Value} {A : Around} {h0 : Heap} {m : Str → Option Value} {x : Str} {v : V} {pos : Pos} (M : Mod K mg h0) (hk : sc.kind = .function) (hx : sc.names.lookup x = some .local) (hv : ∃ u, m x = some u ∧ RelV v u)
    (hd : (x == ("__debug__" : Str)) = false := by decide) : QE (qcOf P w K mg qual sc f cdv A h0 m) (.Name x pos) v := by
  obtain ⟨u, h1, h2⟩ := hv
  exact qe_loc (qcOf_ok M hk) hx (fun h j => ⟨m, u, j.2, h1, h2⟩) hd
/-- is_in(n, a, b) -/
def sqIn : List V → Heap → V → Prop := fun vs _ v => ∃ n a b : Int, vs = [.int n, .int a, .int b] ∧ v = .bl (decide (a ≤ n) && decide (n ≤ b))
theorem kit_ii : PySem.W.kitOne K (.type "int") (.type "int") = some true := kit_ty (by decide +kernel)
theorem kit_ib : PySem.W.kitOne K (.type "int") (.type "bool") = some false := kit_ty (by decide +kernel)
theorem kit_ni : PySem.W.kitOne K (.type "NoneType") (.type "int") = some false := kit_ty (by decide +kernel)
theorem kit_tt : PySem.W.kitOne K (.type "tuple") (.type "tuple") = some true := kit_ty (by decide +kernel)
theorem qf_in (B : Bl mg) (D : Df K mg "is_in" sIn ["value", "least", "most"]) : FnQ P w K mg 1 D.f D.fd ["value", "least", "most"] sqIn := by
  refine fnq_of D.F rfl rfl rfl (by decide) (fun y hy => ?_) D.b (fun vs h v q => ?_) fun cdv A h0 m vs us v hr M r q hm => ?_
  · rcases List.mem_cons.mp hy with rfl | hy
    · rfl
    rcases List.mem_cons.mp hy with rfl | hy
    · rfl
    rcases List.mem_cons.mp hy with rfl | hy
    · rfl
    · cases hy
  · obtain ⟨n, a, b, rfl, _⟩ := q
    rfl
  · obtain ⟨n, a, b, rfl, rfl⟩ := q
    have ok := qcOf_ok (P := P) (w := w) (qual := "is_in") (sc := defScope sIn) (f := D.f) (cdv := cdv) (A := A) (m := m) M rfl
    have hn := hm 0 "value" (.int n) rfl rfl
    have ha := hm 1 "least" (.int a) rfl rfl
    have hb := hm 2 "most" (.int b) rfl rfl
    have e : V.bl (decide (a ≤ n) && decide (n ≤ b)) = V.bl (true && (!false && (decide (a ≤ n) && decide (n ≤ b)))) := by simp
    rw [e]
    exact qs_ret (qe_and ok (qe_callB ok (qb_isi ok qty_int kit_ii) (by rfl) B.isi boot_isi (qa_cons ok (qe_par M rfl (by rfl) hn) (qa_cons ok (qe_blt ok (by rfl) B.int boot_int rfl) qa_nil))) fun _ =>
      qe_and ok (qe_not (qe_callB ok (qb_isi ok qty_int kit_ib) (by rfl) B.isi boot_isi (qa_cons ok (qe_par M rfl (by rfl) hn) (qa_cons ok (qe_blt ok (by rfl) B.bool boot_bool rfl) qa_nil)))) fun _ =>
      qe_and1 (qe_chain ok (qe_par M rfl (by rfl) ha) (qe_par M rfl (by rfl) hn) (qe_par M rfl (by rfl) hb)))
/-- is_step(size, (p, c)) -/
def sqStep : List V → Heap → V → Prop := fun vs h v => ∃ (n p c : Int) (t : Addr) (its : List Value), vs = [.int n, .ref t] ∧ Vals [.int p, .int c] its ∧ IsTup h t its.toArray ∧ v = .bl (decide (1 ≤ p) && decide (p ≤ n) && (decide (0 ≤ c) && decide (c ≤ n) && !decide (p = c)))
theorem tup_grw {h h' : Heap} {t : Addr} {xs : Array Value} (x : IsTup h t xs) (g : Grw h h') : IsTup h' t xs := by
  obtain ⟨o, e, c, n, d⟩ := x
  exact ⟨o, g _ _ e, c, n, d⟩
theorem qf_step (B : Bl mg) (DI : Df K mg "is_in" sIn ["value", "least", "most"]) (D : Df K mg "is_step" sIsStep ["size", "value"]) : FnQ P w K mg 2 D.f D.fd ["size", "value"] sqStep := by
  have GI : FnQ P w K mg 1 DI.f DI.fd _ sqIn := qf_in B DI
  refine fnq_of D.F rfl rfl rfl (by decide) (fun y hy => ?_) D.b (fun vs h v q => ?_) fun cdv A h0 m vs us v hr M r q hm => ?_
  · rcases List.mem_cons.mp hy with rfl | hy
    · rfl
    rcases List.mem_cons.mp hy with rfl | hy
    · rfl
    · cases hy
  · obtain ⟨n, p, c, t, its, rfl, _⟩ := q
    rfl
  · obtain ⟨n, p, c, t, its, rfl, rv, ht, rfl⟩ := q
    have ok := qcOf_ok (P := P) (w := w) (qual := "is_step") (sc := defScope sIsStep) (f := D.f) (cdv := cdv) (A := A) (m := m) M rfl
    have hn := hm 0 "size" (.int n) rfl rfl
    have hv := hm 1 "value" (.ref t) rfl rfl
    have hT : QTup (qcOf P w K mg "is_step" (defScope sIsStep) D.f cdv A h0 m) t [.int p, .int c] := fun h j => ⟨its, rv, tup_grw ht j.1⟩
    have ev : ∀ pos, QE (qcOf P w K mg "is_step" (defScope sIsStep) D.f cdv A h0 m) (.Name "value" pos) (.ref t) := fun pos => qe_par M rfl (by rfl) hv
    have hty : QTy (qcOf P w K mg "is_step" (defScope sIsStep) D.f cdv A h0 m) (.ref t) (.type "tuple") := qty_tup (its := fun _ => its.toArray) fun h j => tup_grw ht j.1
    cases hc : decide (1 ≤ p) && decide (p ≤ n) with
    | false =>
      have e : V.bl (false && (decide (0 ≤ c) && decide (c ≤ n) && !decide (p = c))) = V.bl false := by simp
      rw [e]
      refine qs_if ok (c := true) ?_ (fun _ => qs_ret qe_bool) fun z => nomatch z
      refine QT.to (qw_or ok (qt_not (qt_call (qe_callB ok (qb_isi ok hty kit_tt) (by rfl) B.isi boot_isi (qa_cons ok (ev _) (qa_cons ok (qe_blt ok (by rfl) B.tuple boot_tup rfl) qa_nil))))) fun _ =>
          qw_or ok (qt_ne ok (qe_callB ok (qb_len hT (by show 2 ≤ 1000; decide)) (by rfl) B.len PySem.boot_len (qa_cons ok (ev _) qa_nil)) qe_int) fun _ =>
          qw_or1 (qt_not (qt_call (qe_call ok GI (hr.mono (by decide)) DI.F.kp (by rfl) DI.g (qa_cons ok (qe_ix ok (ev _) qe_int hT (atI_nat (j := 0) rfl) (by show 2 ≤ 1000; decide) (fun _ _ => rfl)) (qa_cons ok qe_int (qa_cons ok (qe_par M rfl (by rfl) hn) qa_nil))) fun h j => ⟨p, 1, n, rfl, rfl⟩)))).qt (by rw [hc]; rfl)
    | true =>
      have e : V.bl (true && (decide (0 ≤ c) && decide (c ≤ n) && !decide (p = c))) = V.bl (decide (0 ≤ c) && decide (c ≤ n) && !decide (p = c)) := by simp
      rw [e]
      refine qs_if ok (c := false) ?_ (fun z => nomatch z) fun _ => ?_
      · refine QT.to (qw_or ok (qt_not (qt_call (qe_callB ok (qb_isi ok hty kit_tt) (by rfl) B.isi boot_isi (qa_cons ok (ev _) (qa_cons ok (qe_blt ok (by rfl) B.tuple boot_tup rfl) qa_nil))))) fun _ =>
            qw_or ok (qt_ne ok (qe_callB ok (qb_len hT (by show 2 ≤ 1000; decide)) (by rfl) B.len PySem.boot_len (qa_cons ok (ev _) qa_nil)) qe_int) fun _ =>
            qw_or1 (qt_not (qt_call (qe_call ok GI (hr.mono (by decide)) DI.F.kp (by rfl) DI.g (qa_cons ok (qe_ix ok (ev _) qe_int hT (atI_nat (j := 0) rfl) (by show 2 ≤ 1000; decide) (fun _ _ => rfl)) (qa_cons ok qe_int (qa_cons ok (qe_par M rfl (by rfl) hn) qa_nil))) fun h j => ⟨p, 1, n, rfl, rfl⟩)))).qt (by rw [hc]; rfl)
      · exact qs_ret (qe_and ok (qe_call ok GI (hr.mono (by decide)) DI.F.kp (by rfl) DI.g (qa_cons ok (qe_ix ok (ev _) qe_int hT (atI_nat (j := 1) rfl) (by show 2 ≤ 1000; decide) (fun _ _ => rfl)) (qa_cons ok qe_int (qa_cons ok (qe_par M rfl (by rfl) hn) qa_nil))) fun h j => ⟨c, 0, n, rfl, rfl⟩) fun _ =>
          qe_and1 (qe_ne ok (qe_ix ok (ev _) qe_int hT (atI_nat (j := 0) rfl) (by show 2 ≤ 1000; decide) (fun _ _ => rfl)) (qe_ix ok (ev _) qe_int hT (atI_nat (j := 1) rfl) (by show 2 ≤ 1000; decide) (fun _ _ => rfl))))
end
end Cd

set_option Elab.async false
set_option linter.all false
set_option maxRecDepth 100000
set_option maxHeartbeats 4000000
/-! dicts whose keys are tuples of ints: a display of one pair, dict(list of pairs), sorted(d) -/
namespace Cd
open PySem PySem.Spec PyProof.Rows L2
/-- pairs stored one behind the other -/
def mergeT (kvs more : List (List Key × V)) : List (List Key × V) := more.foldl (fun acc kv => putK acc kv.1 kv.2) kvs
theorem kt_merge {H : Hp} : ∀ {more : List (List Key × V)} {rs : List (List Key × Addr × Value)} {kvs : List (List Key × V)} {xs : List (List Key × Addr × Value)}, KT H more rs → KT H kvs xs → KT H (mergeT kvs more) (storedAllH xs rs)
  | _, _, _, _, .nil, h => h
  | _, _, _, _, .cons r t, h => by
    rename_i p q ps qs
    have z : KT H (putK _ p.1 p.2) (storedH _ p.1 q.2.1 q.2.2) := h.put _ r.2.1 r.2.2
    rw [r.1] at z
    show KT H (mergeT (putK _ p.1 p.2) ps) (storedAllH (storedH _ q.1 q.2.1 q.2.2) qs)
    rw [r.1]
    exact kt_merge t z
theorem len_mergeT : ∀ (more kvs : List (List Key × V)), (mergeT kvs more).length ≤ kvs.length + more.length
  | [], kvs => by
    show kvs.length ≤ kvs.length + 0
    omega
  | p :: r, kvs => by
    have h1 := len_mergeT r (putK kvs p.1 p.2)
    have h2 := length_putK kvs p.1 p.2
    show (mergeT (putK kvs p.1 p.2) r).length ≤ _
    rw [List.length_cons]
    omega
/-- the dict's object -/
theorem dt_obj {P : Program} {w : World} {H : Hp} {h : Heap} {a : Addr} {kvs : List (List Key × V)} {xs : List (List Key × Addr × Value)} (z : kvs.length ≤ sizeLine) (hs : (a == sysModules) = false) (r : KT H kvs xs) (d : h.DictOfH (tupleKind (mixKind P w)) a xs) :
    ObjOk P w H h a (.dT kvs) := by
  obtain ⟨o, es, ep, h1, h2, h3, h4, _, h5⟩ := d
  exact ⟨z, hs, xs, r, o, es, ep, h1, h2, h3, h4, h5⟩
section
variable {X : Cx}
/-- {k: v}, k a tuple of ints and texts -/
def tDisp1T (tk tv : TE) : TE := fun σ H Q => ∀ p, H p = none → tk σ (upd H p (.dT [])) fun x H1 => tv σ H1 fun y H2 => H2 p = some (.dT []) ∧ ∃ b k, x = .ref b ∧ H2 b = some (.tup (k.map kV)) ∧ Q (.ref p) (upd H2 p (.dT [(k, y)]))
theorem pe_disp1T {pos : Pos} {k v : Expr} {tk tv : TE} (hu : X.A.units + 1 < cLine) (hk : PE X k tk) (hv : PE X v tv) : PE X (.Dict [some k] [v] pos) (tDisp1T tk tv) := by
  refine ⟨fun pins s σ H Q I q => ?_⟩
  have hn := I.hok.fresh (Nat.le_refl s.heap.objs.size)
  have I1 := I.laid (a := s.heap.objs.size) (o := .dT []) (h' := s.heap.push { cls := .type "dict", data := .dict #[] }) (t' := s.toks) (fun _ _ q => Heap.get?_push_of_some _ q) (Nat.le_refl _) (dt_empty s.heap I.big)
  have hpp : PPs X pos [some k] [v] [(tk, tv)] := pps_cons hk hv pps_nil
  rw [arm_eval_Dict, zip_pairTrees [some k] [v] X.env pos rfl rfl, dictDisplay_pairs (pairTrees [some k] [v] X.env pos) (by intro z; cases z) (show 1 < 17 by decide)]
  refine wpAny_bind (wpAny_standAt (wpAny_bind (wpAny_subDictH (knd := tupleKind (mixKind X.prog X.w)) (show X.A.units < cLine by omega) (show 1 ≤ 15 by decide)
    (thn (hpp.run pins _ σ _ (fun ps H3 => ∃ x y, ps = [(x, y)] ∧ H3 s.heap.objs.size = some (.dT []) ∧ ∃ b ks, x = .ref b ∧ H3 b = some (.tup (ks.map kV)) ∧ Q (.ref s.heap.objs.size) (upd H3 s.heap.objs.size (.dT [(ks, y)]))) I1 ?_) fun ws s2 h2 => ?_))))
  · have q1 : tk σ (upd H s.heap.objs.size (.dT [])) (fun x H1 => tv σ H1 fun y H2 => H2 s.heap.objs.size = some (.dT []) ∧ ∃ b ks, x = .ref b ∧ H2 b = some (.tup (ks.map kV)) ∧ Q (.ref s.heap.objs.size) (upd H2 s.heap.objs.size (.dT [(ks, y)]))) := q _ hn
    have e : (fun x H1 => tv σ H1 fun y H2 => H2 s.heap.objs.size = some (.dT []) ∧ ∃ b ks, x = V.ref b ∧ H2 b = some (.tup (ks.map kV)) ∧ Q (.ref s.heap.objs.size) (upd H2 s.heap.objs.size (.dT [(ks, y)]))) =
        (fun x H1 => tv σ H1 fun y H2 => tPairs [] σ H2 fun ps H3 => ∃ x' y', (x, y) :: ps = [(x', y')] ∧ H3 s.heap.objs.size = some (.dT []) ∧ ∃ b ks, x' = V.ref b ∧ H3 b = some (.tup (ks.map kV)) ∧ Q (.ref s.heap.objs.size) (upd H3 s.heap.objs.size (.dT [(ks, y')]))) := by
      funext x H1
      congr 1
      funext y H2
      apply propext
      constructor
      · rintro ⟨h1, b, ks, h2, h3, h4⟩
        exact ⟨x, y, rfl, h1, b, ks, h2, h3, h4⟩
      · rintro ⟨x', y', e, h1, b, ks, h2, h3, h4⟩
        cases e
        exact ⟨h1, b, ks, h2, h3, h4⟩
    rw [e] at q1
    exact q1
  · obtain ⟨ps, H3, I3, rel, x, y, rfl, e0, b, ks, rfl, eb, q3⟩ := h2
    cases rel with
    | cons r0 r1 =>
      cases r1
      obtain ⟨rx, ry⟩ := r0
      rename_i pr
      obtain ⟨u1, u2⟩ := pr
      have rx' : u1 = Value.ref b := rx
      subst rx'
      obtain ⟨z, hs, xs0, r0, d0⟩ := dt_of I3.hok e0
      cases r0
      refine ⟨[(ks, b, u2)], ⟨rfl, rfl, key_of I3.hok eb, True.intro⟩, d0, fun h' tk dk hs2 => wpAny_pure ?_⟩
      have hb2 : b ≠ s.heap.objs.size := fun e => by
        rw [e, e0] at eb
        cases eb
      have he : ∃ q, h'.get? s.heap.objs.size = some q := let ⟨q, _, _, hq, _⟩ := dk; ⟨q, hq⟩
      refine ⟨.ref s.heap.objs.size, _, d_write (t' := tk) I3 (by rw [e0]; exact True.intro) hs2 he (dt_obj (kvs := [(ks, y)]) (show 1 ≤ sizeLine by decide) hs ?_ dk), rfl, q3⟩
      exact .cons ⟨rfl, by rw [upd_ne hb2]; exact eb, ry⟩ .nil
end
end Cd

set_option Elab.async false
set_option linter.all false
set_option maxRecDepth 100000
set_option maxHeartbeats 4000000
/-! sorted(d), d a dict whose keys are tuples of ints -/
namespace Cd
open PySem PySem.Spec PyProof.Rows L2
theorem perm_map_inv {α β : Type} {f : α → β} {l m : List β} (h : l.Perm m) : ∀ {L : List α}, m = L.map f → ∃ L' : List α, L'.Perm L ∧ l = L'.map f := by
  induction h with
  | nil =>
    intro L e
    cases L with
    | nil => exact ⟨[], .nil, rfl⟩
    | cons a r => cases e
  | cons x _ ih =>
    intro L e
    cases L with
    | nil => cases e
    | cons a r =>
      rw [List.map_cons] at e
      injection e with e1 e2
      obtain ⟨L', p, e3⟩ := ih e2
      exact ⟨a :: L', p.cons a, by rw [List.map_cons, e1, e3]⟩
  | swap x y l =>
    intro L e
    cases L with
    | nil => cases e
    | cons a r =>
      cases r with
      | nil =>
        rw [List.map_cons] at e
        injection e with e1 e2
        cases e2
      | cons b r =>
        rw [List.map_cons, List.map_cons] at e
        injection e with e1 e2
        injection e2 with e2 e3
        exact ⟨b :: a :: r, .swap a b r, by rw [List.map_cons, List.map_cons, e1, e2, e3]⟩
  | trans _ _ ih1 ih2 =>
    intro L e
    obtain ⟨M, p, e2⟩ := ih2 e
    obtain ⟨L', p2, e3⟩ := ih1 e2
    exact ⟨L', p2.trans p, e3⟩
/-- the keys of a dict with tuples of ints, by their addresses -/
theorem keys_by {H : Hp} : ∀ {kvs : List (List Key × V)} {ks : List (List Key × Addr × Value)} {cs : List (List Int)}, KT H kvs ks → kvs.map (·.1) = cs.map (fun c => c.map (Sum.inl : Int → Key)) →
    ∃ L : List (Addr × List Int), L.map (·.2) = cs ∧ ks.map (fun x => x.2.1) = L.map (·.1) ∧ ∀ q ∈ L, H q.1 = some (.tup (q.2.map V.int))
  | _, _, cs, .nil, e => by
    cases cs with
    | nil => exact ⟨[], rfl, rfl, fun q hq => nomatch hq⟩
    | cons c r => cases e
  | _, _, cs, .cons r t, e => by
    rename_i p q ps qs
    cases cs with
    | nil => cases e
    | cons c rc =>
      rw [List.map_cons, List.map_cons] at e
      injection e with e1 e2
      obtain ⟨L, h1, h2, h3⟩ := keys_by t e2
      refine ⟨(q.2.1, c) :: L, by rw [List.map_cons, h1], by rw [List.map_cons, List.map_cons, h2], fun z hz => ?_⟩
      rcases List.mem_cons.mp hz with rfl | hz
      · have q2 := r.2.1
        rw [e1, List.map_map] at q2
        exact q2
      · exact h3 z hz
section
variable {X : Cx}
def rSortedDT (d : Nat) (B : Int) : List V → Hp → VK → Prop := fun vs H Q => ∃ (a : Addr) (kvs : List (List Key × V)) (cs : List (List Int)), vs = [V.ref a] ∧ H a = some (.dT kvs) ∧ kvs.map (·.1) = cs.map (fun c => c.map (Sum.inl : Int → Key)) ∧ cs.length < 64 ∧ (∀ c ∈ cs, c.length = d ∧ TS.Bd B c) ∧
  ∀ (L : List (Addr × List Int)) (p : Addr), (L.map (·.2)).Perm cs → (∀ q ∈ L, H q.1 = some (.tup (q.2.map V.int))) → L.Pairwise (fun q r => TS.code B q.2 ≤ TS.code B r.2) → H p = none → Q (.ref p) (upd H p (.lst (L.map fun q => V.ref q.1)))
theorem cr_sortedDT {d : Nat} {B : Int} (hc : X.calm = true) (hd : 1 ≤ d) : CallR X (.builtin "sorted") (rSortedDT d B) := by
  intro pins s σ H vs us Q I r h
  obtain ⟨a, kvs, cs, rfl, ha, hk, h64, hB, q⟩ := h
  rw [Vals.ref1 r]
  obtain ⟨z, hs, ks, pr, o, es, ep, ho, hx, hdt, he, hn⟩ := (show ObjOk X.prog X.w H s.heap a (.dT kvs) from I.hok a _ ha)
  obtain ⟨L, hL2, hL1, hLH⟩ := keys_by pr hk
  have l1 : es.size = ks.length := size_of_entries he
  have lL : ks.length = L.length := by
    have e := congrArg List.length hL1
    rw [List.length_map, List.length_map] at e
    exact e
  have lc : L.length = cs.length := by
    have e := congrArg List.length hL2
    rw [List.length_map] at e
    exact e
  refine Calls.call_function_entry kind_sorted plain_sorted entry_sorted (args_sorted1 _) ?_
  unfold Builtin.«sorted»
  refine wpAny_bind (m := checkCount "sorted" 1 1 _) (wpAny_pure ?_)
  refine wpAny_bind (PySem.W.kdu_collect (A := X.A.in1) (kdl_raw hs hx hdt) (I.ok.hd hc) ho (by rw [sizeLine_eq]; omega) fun h' tk acc hkp it => ?_)
  have ea : acc.toList = ks.map fun x => Value.ref x.2.1 := by
    have hl : acc.toList.length = ks.length := by
      rw [Array.length_toList, it.1]
      exact l1
    apply List.ext_getElem?
    intro j
    rw [List.getElem?_map]
    cases hj : acc.toList[j]? with
    | none =>
      have h1 := List.getElem?_eq_none_iff.mp hj
      rw [List.getElem?_eq_none (by omega)] <;> rfl
    | some v =>
      obtain ⟨en, hen, hv⟩ := it.2 j v (by rw [← Array.getElem?_toList]; exact hj)
      have qe := entry_at he j
      rw [hen] at qe
      cases hb : ks[j]? with
      | none =>
        rw [hb] at qe
        cases qe
      | some b =>
        rw [hb] at qe
        have e2 : en = entryOfKey (tupleKind (mixKind X.prog X.w)) b := Option.some.inj qe
        rw [hv, e2] <;> rfl
  have eb : acc.toList = L.map fun q => Value.ref q.1 := by
    rw [ea]
    have e := congrArg (List.map Value.ref) hL1
    rw [List.map_map, List.map_map] at e
    exact e
  have hvl : acc.toList.length < 64 := by
    rw [eb, List.length_map]
    omega
  refine wpAny_bind (wpAny_newList ?_ (by rw [sizeLine_eq]; omega))
  have I1 : Inv X pins σ H { s with heap := h', toks := tk } := I.kept hkp
  have hoL : (h'.push (seqObj "list" acc.toList.toArray 0)).get? h'.objs.size = some (seqObj "list" acc.toList.toArray 0) := Heap.get?_push_size _ rfl
  have tkI : ∀ q ∈ L, TS.TupInts (h'.push (seqObj "list" acc.toList.toArray 0)) (.ref q.1) q.2 := fun q hq => by
    obtain ⟨t, xs, e1, e2, e3⟩ := tupI_raw I1 (SqT.of (hLH q hq))
    obtain ⟨o', ho', r'⟩ := e2
    exact ⟨t, xs, e1, ⟨o', Heap.get?_push_of_some _ ho', r'⟩, e3⟩
  have x : TS.TupsOk (h'.push (seqObj "list" acc.toList.toArray 0)) d B acc.toList := fun v hv => by
    rw [eb] at hv
    obtain ⟨q, hq, e⟩ := List.mem_map.mp hv
    have hm : q.2 ∈ cs := by
      rw [← hL2]
      exact List.mem_map.mpr ⟨q, hq, rfl⟩
    rw [← e]
    exact ⟨q.2, tkI q hq, (hB _ hm).1, (hB _ hm).2⟩
  refine wpAny_bind (wpAny_holding (TS.call_sort_tups (s := { s with heap := h'.push (seqObj "list" acc.toList.toArray 0), toks := tk }) hoL hvl hd x fun out a1 a2 => ?_))
  obtain ⟨c, hcc⟩ := sortedHeap_at (vs := acc.toList) (out := out) hoL
  obtain ⟨L', pL, eL⟩ := perm_map_inv (f := fun q : Addr × List Int => Value.ref q.1) a1 eb
  have hL'H : ∀ q ∈ L', H q.1 = some (.tup (q.2.map V.int)) := fun q hq => hLH q (pL.mem_iff.mp hq)
  have pw : L'.Pairwise (fun q r => TS.code B q.2 ≤ TS.code B r.2) := by
    rw [eL] at a2
    refine List.Pairwise.imp_of_mem (fun {q r} hq hr hle => ?_) (List.pairwise_map.mp a2)
    have f1 : TS.intsOf (h'.push (seqObj "list" acc.toList.toArray 0)) (.ref q.1) = q.2 := (tkI q (pL.mem_iff.mp hq)).ints
    have f2 : TS.intsOf (h'.push (seqObj "list" acc.toList.toArray 0)) (.ref r.1) = r.2 := (tkI r (pL.mem_iff.mp hr)).ints
    rw [← f1, ← f2]
    exact hle
  have hlen : (L'.map fun q => V.ref q.1).length ≤ sizeLine := by
    rw [List.length_map, pL.length_eq, sizeLine_eq]
    omega
  have rv : Vals (L'.map fun q => V.ref q.1) out.toList := by
    rw [eL]
    have e := vals_refs (L'.map (·.1))
    rw [List.map_map, List.map_map] at e
    exact e
  refine wpAny_pure ⟨_, rfl, .ref h'.objs.size, upd H h'.objs.size (.lst (L'.map fun q => V.ref q.1)), I1.laid (t' := tk) (fun b u e => ?_) (Nat.le_refl _) ⟨hlen, out.toList, c, rv, hcc⟩, rfl, q L' _ ?_ hL'H pw (I1.hok.fresh (Nat.le_refl _))⟩
  · have e2 : h'.get? b = some u := e
    have hlt := Heap.lt_size e2
    show (sortedHeap (h'.push (seqObj "list" acc.toList.toArray 0)) h'.objs.size acc.toList out).get? b = some u
    rw [sortedHeap_old (Nat.ne_of_lt hlt) (by rw [size_push']; exact Nat.lt_succ_of_lt hlt)]
    exact Heap.get?_push_of_some _ e2
  · rw [← hL2]
    exact pL.map (·.2)
end
end Cd

set_option Elab.async false
set_option linter.all false
set_option maxRecDepth 100000
set_option maxHeartbeats 4000000
/-! dict(pairs), dict(zip(a list, a tuple)): keys tuples of ints -/
namespace Cd
open PySem PySem.Spec PyProof.Rows L2
abbrev ik (c : List Int) : List Key := c.map Sum.inl
theorem ik_kV (c : List Int) : (ik c).map kV = c.map V.int := by
  unfold ik
  rw [List.map_map]
  rfl
section
variable {X : Cx}
theorem is_key {P : Program} {w : World} {H : Hp} {h h' : Heap} {b : Addr} {c : List Int} (ok : HOk P w H h) (e : H b = some (.tup (c.map V.int))) (k : ∀ o, h.get? b = some o → h'.get? b = some o) : (tupleKind (mixKind P w)).is h' (ik c) b := by
  rw [← ik_kV] at e
  obtain ⟨_, its, r, o, h1, h2, n, h3⟩ := (show ObjOk P w H h b (.tup ((ik c).map kV)) from ok b _ e)
  exact ⟨o, its.toArray, n, k _ h1, h2, h3, by simpa using items_are r⟩
/-- dict(xs), xs a list of pairs -/
def rDictPL : List V → Hp → VK → Prop := fun vs H Q => ∃ (l : Addr) (rows : List (Addr × List Int × Addr × V)), vs = [V.ref l] ∧ H l = some (.lst (rows.map fun q => V.ref q.1)) ∧
  (∀ q ∈ rows, H q.1 = some (.tup [.ref q.2.2.1, q.2.2.2]) ∧ H q.2.2.1 = some (.tup (q.2.1.map V.int))) ∧ rows.length ≤ 1000 ∧ ∀ p, H p = none → Q (.ref p) (upd H p (.dT (mergeT [] (rows.map fun q => (ik q.2.1, q.2.2.2)))))
theorem refs_vals : ∀ {as : List Addr} {us : List Value}, Vals (as.map V.ref) us → us = as.map Value.ref
  | [], _, .nil => rfl
  | a :: as, _, .cons r t => by
    cases r
    rw [refs_vals t] <;> rfl
/-- the values of the rows -/
theorem rows_vals {P : Program} {w : World} {H : Hp} {h : Heap} (ok : HOk P w H h) : ∀ rows : List (Addr × List Int × Addr × V), (∀ q ∈ rows, H q.1 = some (.tup [.ref q.2.2.1, q.2.2.2])) → ∃ us : List Value, Paired (fun (q : Addr × List Int × Addr × V) u => RelV q.2.2.2 u ∧ IsTup h q.1 #[.ref q.2.2.1, u]) rows us
  | [], _ => ⟨[], .nil⟩
  | q :: rows, hq => by
    obtain ⟨us, p⟩ := rows_vals ok rows fun z hz => hq z (List.mem_cons_of_mem _ hz)
    obtain ⟨_, its, r, ht⟩ := (show ObjOk P w H h q.1 (.tup [.ref q.2.2.1, q.2.2.2]) from ok _ _ (hq q List.mem_cons_self))
    obtain ⟨u1, u2, rfl, r1, r2⟩ := vals2 r
    cases r1
    exact ⟨u2 :: us, .cons ⟨r2, ht⟩ p⟩
theorem paired_get {α β : Type} {F : α → β → Prop} : ∀ {xs : List α} {ys : List β} {i : Nat} {y : β}, Paired F xs ys → ys[i]? = some y → ∃ x, xs[i]? = some x ∧ F x y
  | _, _, _, _, .nil, e => by simp at e
  | _, _, 0, y, .cons r _, e => by
    simp at e
    subst e
    exact ⟨_, rfl, r⟩
  | _, _, i + 1, y, .cons _ t, e => by
    obtain ⟨x, h1, h2⟩ := paired_get (i := i) (y := y) t (by simpa using e)
    exact ⟨x, by simpa using h1, h2⟩
theorem paired_at {α β : Type} {F : α → β → Prop} : ∀ {xs : List α} {ys : List β} {i : Nat} {x : α}, Paired F xs ys → xs[i]? = some x → ∃ y, ys[i]? = some y ∧ F x y
  | _, _, _, _, .nil, e => by simp at e
  | _, _, 0, x, .cons r _, e => by
    simp at e
    subst e
    exact ⟨_, rfl, r⟩
  | _, _, i + 1, x, .cons _ t, e => by
    obtain ⟨y, h1, h2⟩ := paired_at (i := i) (x := x) t (by simpa using e)
    exact ⟨y, by simpa using h1, h2⟩
theorem kt_rows {H : Hp} {h : Heap} : ∀ {rows : List (Addr × List Int × Addr × V)} {us : List Value}, Paired (fun (q : Addr × List Int × Addr × V) u => RelV q.2.2.2 u ∧ IsTup h q.1 #[.ref q.2.2.1, u]) rows us → (∀ q ∈ rows, H q.2.2.1 = some (.tup (q.2.1.map V.int))) →
    KT H (rows.map fun q => (ik q.2.1, q.2.2.2)) (List.zipWith (fun (q : Addr × List Int × Addr × V) u => (ik q.2.1, q.2.2.1, u)) rows us)
  | _, _, .nil, _ => .nil
  | _, _, .cons r t, hk => .cons ⟨rfl, by rw [ik_kV]; exact hk _ List.mem_cons_self, r.1⟩ (kt_rows t fun z hz => hk z (List.mem_cons_of_mem _ hz))
theorem cr_dictPL (hc : X.calm = true) (hu : X.A.units + 64 < cLine) : CallR X (.type "dict") rDictPL := by
  intro pins s σ H vs us Q I r h
  obtain ⟨l, rows, rfl, hl, hrow, hlen, q⟩ := h
  rw [Vals.ref1 r]
  obtain ⟨z, its, n, rv, ho⟩ := (show ObjOk X.prog X.w H s.heap l (.lst (rows.map fun q => V.ref q.1)) from I.hok l _ hl)
  have eits : its = rows.map fun q => Value.ref q.1 := by
    have e := refs_vals (as := rows.map (·.1)) (us := its) (by rw [List.map_map]; exact rv)
    rw [List.map_map] at e
    exact e
  obtain ⟨ws, pw⟩ := rows_vals I.hok rows fun q hq => (hrow q hq).1
  have lw : rows.length = ws.length := Paired.length pw
  refine call_dict_pairsH (knd := tupleKind (mixKind X.prog X.w)) (ps := List.zipWith (fun (q : Addr × List Int × Addr × V) u => (ik q.2.1, q.2.2.1, u)) rows ws)
    (PairArg.list l its.toArray (fun j => (rows.map (·.1)).getD j 0) (List.zipWith (fun (q : Addr × List Int × Addr × V) u => (Value.ref q.2.2.1, u)) rows ws)) (I.ok.hd hc) (show X.A.units + 1 + 1 < cLine by omega)
    ⟨⟨_, n, ho, rfl, rfl, rfl⟩, ?_, fun j k v hj => ?_⟩ ⟨?_, fun i key v hr => ?_⟩ ?_ ?_ fun h' tk hd hk => ?_
  · rw [List.size_toArray, eits, List.length_map, List.length_zipWith]
    omega
  · obtain ⟨q0, u0, e1, e2, e3⟩ := List.getElem?_zipWith_eq_some.mp hj
    cases e3
    obtain ⟨u1, e4, r4⟩ := paired_at pw e1
    rw [e2] at e4
    cases e4
    refine ⟨?_, .inl ?_⟩
    · rw [List.getElem?_toArray, eits, List.getElem?_map, e1]
      show some (Value.ref q0.1) = some (Value.ref ((rows.map (·.1)).getD j 0))
      rw [List.getD_eq_getElem?_getD, List.getElem?_map, e1] <;> rfl
    · have ej : (rows.map (·.1)).getD j 0 = q0.1 := by rw [List.getD_eq_getElem?_getD, List.getElem?_map, e1] <;> rfl
      show s.heap.IsTuple ((rows.map (·.1)).getD j 0) _
      rw [ej]
      exact r4.2
  · rw [List.length_zipWith, List.length_zipWith]
  · obtain ⟨q0, u0, e1, e2, e3⟩ := List.getElem?_zipWith_eq_some.mp hr
    cases e3
    exact ⟨ik q0.2.1, q0.2.2.1, List.getElem?_zipWith_eq_some.mpr ⟨q0, _, e1, e2, rfl⟩, rfl⟩
  · intro h' hk x hx
    obtain ⟨i, hi, e⟩ := List.getElem_of_mem hx
    have e' := List.getElem?_eq_getElem hi
    rw [e] at e'
    obtain ⟨q0, u0, e1, e2, e3⟩ := List.getElem?_zipWith_eq_some.mp e'
    subst e3
    have hm := hrow q0 (List.mem_of_getElem? e1)
    exact is_key I.hok hm.2 fun o eo => hk _ o (Nat.ne_of_lt (Heap.lt_size eo)) (fun z => nomatch z) eo
  · rw [List.length_zipWith, sizeLine_eq]
    omega
  · have hn : H s.heap.objs.size = none := I.hok.fresh (Nat.le_refl _)
    refine ⟨.ref s.heap.objs.size, _, I.laid (t' := tk) (fun b u e => hk b u (fun z => nomatch z) e) (Nat.le_refl _) (dt_obj ?_ ?_ (kt_merge ((kt_rows pw fun q hq => (hrow q hq).2).keeps fun b ys e => by rw [upd_ne (ne_of_none e hn)]; exact e) .nil) hd), rfl, q _ hn⟩
    · have hz := len_mergeT (rows.map fun q => (ik q.2.1, q.2.2.2)) []
      rw [List.length_map, List.length_nil] at hz
      rw [sizeLine_eq]
      omega
    · have hb := I.big
      exact beq_eq_false_iff_ne.mpr (Nat.ne_of_gt hb)
end
end Cd

set_option Elab.async false
set_option linter.all false
set_option maxRecDepth 100000
set_option maxHeartbeats 4000000
/-! zip over any two iterators while the pair that was handed out is still there -/
namespace Cd
open PySem PySem.Spec PyProof.Rows L2
section
variable {prog : Program} {w : World} {A : Around} {E : Value → Shared → Prop} {s : Shared} {z TI TO i1 i2 T : Addr} {fp1 fp2 : List Addr} {n1 n2 i : Nat} {P1 P2 : Nat → Value → Prop} {S1 S2 : Nat → Heap → Prop} {f : Bool} {oT : Obj}
theorem zipH_item {Q : Value → Shared → Prop} (S : ZipSep2 z TI TO i1 i2 fp1 fp2) (D1 : Draws prog w A i1 fp1 n1 P1 S1) (D2 : Draws prog w A i2 fp2 n2 P2 S2) (hz : IsZipHeld s.heap z TI TO T f) (hT : s.heap.get? T = some oT)
    (hTI : IsTupOf2 s.heap TI (.ref i1) (.ref i2)) (st1 : S1 i s.heap) (st2 : S2 i s.heap) (hlt1 : i < n1) (hlt2 : i < n2)
    (hQ : ∀ x1 x2 h' tk, P1 i x1 → P2 i x2 → IsZipHeld h' z TI TO T true → S1 (i + 1) h' → S2 (i + 1) h' → IsTupOf2 h' s.heap.objs.size x1 x2 → h'.objs.size = s.heap.objs.size + 1 →
      (∀ c o, c ≠ z → c ≠ i1 → c ≠ i2 → s.heap.get? c = some o → h'.get? c = some o) → Q (.ref s.heap.objs.size) { s with heap := h', toks := tk }) :
    wpAny (model prog w) A (Builtin.«zip.__next__» ⟨[.ref z], []⟩) (fun fin s' => ∃ v, fin = .done (.ret v) ∧ Q v s') E s := by
  obtain ⟨hp, g, d, tk0, os⟩ := s
  show wpAny _ _ (field (.ref z) 2 >>= _) _ _ _
  refine wpAny_bind (wpAny_field hz rfl (x := .bool false) rfl ?_)
  show wpAny _ _ (field (.ref z) 3 >>= _) _ _ _
  refine wpAny_bind (wpAny_field hz rfl (x := .ref TI) rfl ?_)
  refine wpAny_bind (wpAny_seqItems hTI rfl ?_)
  show wpAny _ _ (Builtin.SmallTypes.ownedTupleIsFree (.ref z) >>= _) _ _ _
  refine wpAny_bind (wpAny_tupleHeld_zip hz hT fun g0 hz0 hs0 => ?_)
  replace hs0 : Heap.SameBut z hp g0 := hs0
  simp only [Bool.false_eq_true, if_false]
  refine wpAny_bind ?_
  rw [← Array.forIn_toList]
  simp only [List.forIn_cons, List.forIn_nil]
  refine wpAny_bind (wpAny_bind (wpAny_holding ?_))
  show wpAny _ _ (Builtin.SmallTypes.nextOf (.ref i1) >>= _) _ _ ⟨g0, g, d, tk0, os⟩
  refine wpAny_bind (D1.item i _ _ _ hlt1 (D1.over st1 hs0 S.zf1) fun x1 p1 tk1 hx1 sn1 hp1 => wpAny_pure ?_)
  replace hp1 : Heap.SameBut i1 g0 p1 := hp1
  refine wpAny_pure ?_
  refine wpAny_bind (wpAny_bind (wpAny_holding ?_))
  show wpAny _ _ (Builtin.SmallTypes.nextOf (.ref i2) >>= _) _ _ ⟨p1, g, d, tk1, os⟩
  refine wpAny_bind (D2.item i _ _ _ hlt2 (D2.over (D2.over st2 hs0 S.zf2) hp1 S.sep1_2) fun x2 p2 tk2 hx2 sn2 hp2 => wpAny_pure ?_)
  replace hp2 : Heap.SameBut i2 p1 p2 := hp2
  refine wpAny_pure (wpAny_pure ?_)
  show wpAny _ _ (newTuple [x1, x2] >>= _) _ _ ⟨p2, g, d, tk2, os⟩
  refine wpAny_bind (wpAny_newTuple ?_)
  have hsz : p2.objs.size = hp.objs.size := by rw [hp2.1, hp1.1, hs0.1]
  have hzz : IsZipHeld p2 z TI TO T true := hp2.extBut _ _ S.zi2 (hp1.extBut _ _ S.zi1 hz0)
  have hkk : ∀ c o, c ≠ z → c ≠ i1 → c ≠ i2 → hp.get? c = some o → p2.get? c = some o := fun c o cz c1 c2 e => hp2.extBut _ _ c2 (hp1.extBut _ _ c1 (hs0.extBut _ _ cz e))
  have hj1 : S1 (i + 1) p2 := D1.over sn1 hp2 S.sep2_1
  refine wpAny_pure ⟨_, rfl, ?_⟩
  show Q (.ref p2.objs.size) _
  have hp4 : IsTupOf2 (p2.push { cls := .type "tuple", data := .seq #[x1, x2] }) p2.objs.size x1 x2 := Heap.get?_push_size _ rfl
  have hz4 : (p2.push { cls := .type "tuple", data := .seq #[x1, x2] }).objs.size = p2.objs.size + 1 := Heap.size_push ..
  rw [hsz] at hp4 hz4 ⊢
  exact hQ x1 x2 _ tk2 hx1 hx2 (Heap.get?_push_of_some _ hzz) (D1.frame _ _ _ hj1 fun b _ o e => Heap.get?_push_of_some _ e) (D2.frame _ _ _ sn2 fun b _ o e => Heap.get?_push_of_some _ e) hp4 hz4
    fun c o cz c1 c2 e => Heap.get?_push_of_some _ (hkk c o cz c1 c2 e)
theorem zipH_end {Q : Fin → Shared → Prop} (S : ZipSep2 z TI TO i1 i2 fp1 fp2) (D1 : Draws prog w A i1 fp1 n1 P1 S1) (D2 : Draws prog w A i2 fp2 n2 P2 S2) (hz : IsZipHeld s.heap z TI TO T f) (hT : s.heap.get? T = some oT)
    (hTI : IsTupOf2 s.heap TI (.ref i1) (.ref i2)) (st1 : S1 i s.heap) (st2 : S2 i s.heap) (he1 : i = n1)
    (hE : ∀ h' e, (∀ c o, c ≠ z → c ≠ i1 → c ≠ i2 → s.heap.get? c = some o → h'.get? c = some o) → (∃ o, h'.get? e = some o ∧ o.cls = .type "StopIteration") → E (.ref e) { s with heap := h' }) :
    wpAny (model prog w) A (Builtin.«zip.__next__» ⟨[.ref z], []⟩) Q E s := by
  obtain ⟨hp, g, d, tk0, os⟩ := s
  show wpAny _ _ (field (.ref z) 2 >>= _) _ _ _
  refine wpAny_bind (wpAny_field hz rfl (x := .bool false) rfl ?_)
  show wpAny _ _ (field (.ref z) 3 >>= _) _ _ _
  refine wpAny_bind (wpAny_field hz rfl (x := .ref TI) rfl ?_)
  refine wpAny_bind (wpAny_seqItems hTI rfl ?_)
  show wpAny _ _ (Builtin.SmallTypes.ownedTupleIsFree (.ref z) >>= _) _ _ _
  refine wpAny_bind (wpAny_tupleHeld_zip hz hT fun g0 hz0 hs0 => ?_)
  replace hs0 : Heap.SameBut z hp g0 := hs0
  simp only [Bool.false_eq_true, if_false]
  refine wpAny_bind ?_
  rw [← Array.forIn_toList]
  simp only [List.forIn_cons, List.forIn_nil]
  refine wpAny_bind (wpAny_bind (wpAny_holding ?_))
  show wpAny _ _ (Builtin.SmallTypes.nextOf (.ref i1) >>= _) _ _ ⟨g0, g, d, tk0, os⟩
  refine wpAny_bind (D1.done ⟨g0, g, d, tk0, os⟩ _ _ (by rw [← he1]; exact D1.over st1 hs0 S.zf1) fun q e hq he => ?_)
  exact hE q e (fun c o cz c1 _ x => hq _ _ c1 (hs0.extBut _ _ cz x)) he
theorem pyNext_zipH_item {Q : Option Value → Shared → Prop} (S : ZipSep2 z TI TO i1 i2 fp1 fp2) (D1 : Draws prog w A.in1 i1 fp1 n1 P1 S1) (D2 : Draws prog w A.in1 i2 fp2 n2 P2 S2) (hz : IsZipHeld s.heap z TI TO T f) (hT : s.heap.get? T = some oT)
    (hTI : IsTupOf2 s.heap TI (.ref i1) (.ref i2)) (st1 : S1 i s.heap) (st2 : S2 i s.heap) (hlt1 : i < n1) (hlt2 : i < n2)
    (hQ : ∀ x1 x2 h' tk, P1 i x1 → P2 i x2 → IsZipHeld h' z TI TO T true → S1 (i + 1) h' → S2 (i + 1) h' → IsTupOf2 h' s.heap.objs.size x1 x2 → h'.objs.size = s.heap.objs.size + 1 →
      (∀ c o, c ≠ z → c ≠ i1 → c ≠ i2 → s.heap.get? c = some o → h'.get? c = some o) → Q (some (.ref s.heap.objs.size)) { s with heap := h', toks := tk }) :
    wpAny (model prog w) A (pyNext (.ref z)) Q E s := by
  have hTy : s.TypeIs (.ref z) "zip" := ⟨_, hz, rfl⟩
  unfold pyNext
  exact wpAny_bind (wpAny_attempt (wpAny_callSpecial?_slot (name := Str.ofString "__next__") hTy F.slot_zip_next
    (wpAny_call_entry F.slot_zip_next hTy F.entry_zip_next
      (zipH_item S D1 D2 hz hT hTI st1 st2 hlt1 hlt2 fun x1 x2 h' tk a1 a2 a3 a4 a5 a6 a7 a8 => wpAny_pure (hQ x1 x2 h' tk a1 a2 a3 a4 a5 a6 a7 a8)) (F.args_zip_next_1 _))))
theorem pyNext_zipH_end {Q : Option Value → Shared → Prop} (S : ZipSep2 z TI TO i1 i2 fp1 fp2) (D1 : Draws prog w A.in1 i1 fp1 n1 P1 S1) (D2 : Draws prog w A.in1 i2 fp2 n2 P2 S2) (hz : IsZipHeld s.heap z TI TO T f) (hT : s.heap.get? T = some oT)
    (hTI : IsTupOf2 s.heap TI (.ref i1) (.ref i2)) (st1 : S1 i s.heap) (st2 : S2 i s.heap) (he1 : i = n1)
    (hQ : ∀ h', (∀ c o, c ≠ z → c ≠ i1 → c ≠ i2 → s.heap.get? c = some o → h'.get? c = some o) → Q none { s with heap := h' }) : wpAny (model prog w) A (pyNext (.ref z)) Q E s := by
  have hTy : s.TypeIs (.ref z) "zip" := ⟨_, hz, rfl⟩
  unfold pyNext
  refine wpAny_bind (wpAny_attempt (wpAny_callSpecial?_slot (name := Str.ofString "__next__") hTy F.slot_zip_next
    (wpAny_call_entry F.slot_zip_next hTy F.entry_zip_next (zipH_end S D1 D2 hz hT hTI st1 st2 he1 fun h' e hk he => ?_) (F.args_zip_next_1 _))))
  obtain ⟨o, ho, hc⟩ := he
  refine wpAny_bind (wpAny_isInstance (T := "StopIteration") (b := true) ⟨o, ho, hc⟩ isSubtype_stop ?_)
  exact wpAny_pure (hQ _ hk)
end
/-- zip of a list and a tuple of one length, as the argument of dict -/
theorem pairArg_zipLT {prog : Program} {w : World} (z TI TO i1 i2 l1 l2 : Addr) (S : ZipSep2 z TI TO i1 i2 [i1, l1] [i2, l2]) (xs ys : Array Value) (hl : xs.size = ys.size) :
    PairArg prog w "zip" z [z, TI, TO, i1, i2, l1, l2] [z, TO, i1, i2] xs.size (fun i k v => xs[i]? = some k ∧ ys[i]? = some v)
      (fun h => IsZip h z TI TO .none ∧ IsTupOf2 h TI (.ref i1) (.ref i2) ∧ (∃ a b, IsTupOf2 h TO a b) ∧ h.IsListIter i1 l1 0 ∧ h.IsTupleIter i2 l2 0 ∧ h.IsList l1 xs ∧ h.IsTuple l2 ys) where
  type := fun s ok => ⟨_, ok.1, rfl⟩
  notDict := by decide
  keep := fun h h' ok hk => by
    obtain ⟨hz, hTI, ⟨a, b, hTO⟩, h1, h2, hl1, hl2⟩ := ok
    exact ⟨hk _ _ hz, hk _ _ hTI, ⟨a, b, hk _ _ hTO⟩, h1.at fun o e => hk _ o e, h2.at fun o e => hk _ o e, hl1.at fun o e => hk _ o e, hl2.at fun o e => hk _ o e⟩
  there := fun h ok b hb => by
    obtain ⟨hz, hTI, ⟨a, c, hTO⟩, ⟨o1, h1, _⟩, ⟨o2, h2, _⟩, ⟨o3, hl1, _⟩, ⟨o4, hl2, _⟩⟩ := ok
    simp only [List.mem_cons, List.not_mem_nil, or_false] at hb
    rcases hb with rfl | rfl | rfl | rfl | rfl | rfl | rfl
    · exact ⟨_, hz⟩
    · exact ⟨_, hTI⟩
    · exact ⟨_, hTO⟩
    · exact ⟨_, h1⟩
    · exact ⟨_, h2⟩
    · exact ⟨_, hl1⟩
    · exact ⟨_, hl2⟩
  sub := fun b hb => by
    simp at hb ⊢
    rcases hb with rfl | rfl | rfl | rfl <;> simp
  noKeys := fun A s Q E hA ok h => getAttrOr_miss_zip ok.1 rfl rfl rfl zip_no_keys (by decide +kernel) hA h
  iter := fun A s d Q E hA ok hd hdf h => by
    obtain ⟨hz, hTI, ⟨a, b, hTO⟩, h1, h2, hl1, hl2⟩ := ok
    simp only [List.mem_cons, List.not_mem_nil, or_false, not_or] at hdf
    obtain ⟨dz, dTI, dTO, di1, di2, dl1, dl2⟩ := hdf
    have n1 : l1 ≠ i1 := fun e => by
      obtain ⟨o1, e1, c1, _⟩ := h1
      obtain ⟨o2, e2, c2, _⟩ := hl1
      rw [e, e1] at e2
      cases e2
      rw [c1] at c2
      exact absurd c2 (by simp)
    have n2 : l2 ≠ i2 := fun e => by
      obtain ⟨o1, e1, c1, _⟩ := h2
      obtain ⟨o2, e2, c2, _⟩ := hl2
      rw [e, e1] at e2
      cases e2
      rw [c1] at c2
      exact absurd c2 (by simp)
    have DL : ∀ A' : Around, A'.handled = none → Draws prog w A' i1 [i1, l1] xs.size (fun i v => xs[i]? = some v) (fun i h => h.IsListIter i1 l1 i ∧ h.IsList l1 xs) := fun A' hA' => Draws.list hA' i1 l1 n1 xs
    have DT : ∀ A' : Around, A'.handled = none → Draws prog w A' i2 [i2, l2] ys.size (fun i v => ys[i]? = some v) (fun i h => h.IsTupleIter i2 l2 i ∧ h.IsTuple l2 ys) := fun A' hA' => Draws.tuple hA' i2 l2 n2 ys
    have hA1 : A.in1.handled = none := hA
    refine wpAny_pyIter_zip hz (h z [z, TO, i1, i2] (fun i h => IsTupOf2 h TI (.ref i1) (.ref i2) ∧ (h.IsListIter i1 l1 i ∧ h.IsList l1 xs) ∧ (h.IsTupleIter i2 l2 i ∧ h.IsTuple l2 ys) ∧
      ((IsZip h z TI TO .none ∧ ∃ a b, IsTupOf2 h TO a b) ∨ ∃ T f oT, IsZipHeld h z TI TO T f ∧ h.get? T = some oT ∧ T ≠ z ∧ T ≠ i1 ∧ T ≠ i2 ∧ T ≠ d)) s.heap s.toks ?_
      ⟨hTI, ⟨h1, hl1⟩, ⟨h2, hl2⟩, .inl ⟨hz, a, b, hTO⟩⟩ (fun _ _ e => e) fun b hb => .inl hb)
    exact {
      off := fun hm => by
        simp only [List.mem_cons, List.not_mem_nil, or_false] at hm
        rcases hm with e | e | e | e
        · exact dz e
        · exact dTO e
        · exact di1 e
        · exact di2 e
      frame := fun i h₁ h₂ st hk => by
        obtain ⟨hTI, ⟨h1, hl1⟩, ⟨h2, hl2⟩, hz⟩ := st
        refine ⟨hk _ _ (Ne.symm dTI) hTI, ⟨h1.at fun o e => hk _ o (Ne.symm di1) e, hl1.at fun o e => hk _ o (Ne.symm dl1) e⟩, ⟨h2.at fun o e => hk _ o (Ne.symm di2) e, hl2.at fun o e => hk _ o (Ne.symm dl2) e⟩, ?_⟩
        rcases hz with ⟨hz, a, b, hTO⟩ | ⟨T, f, oT, hz, hT, r1, r2, r3, r4⟩
        · exact .inl ⟨hk _ _ (Ne.symm dz) hz, a, b, hk _ _ (Ne.symm dTO) hTO⟩
        · exact .inr ⟨T, f, oT, hk _ _ (Ne.symm dz) hz, hk _ _ r4 hT, r1, r2, r3, r4⟩
      item := fun i s₁ Q₁ E₁ hi st hds hQ => by
        obtain ⟨hTI, st1, st2, hz⟩ := st
        have lt : ∀ {c o}, s₁.heap.get? c = some o → s₁.heap.objs.size ≠ c := fun e => Nat.ne_of_gt (Heap.lt_size e)
        have m1 : s₁.heap.objs.size ≠ i1 := let ⟨_, e, _⟩ := st1.1; lt e
        have m2 : s₁.heap.objs.size ≠ i2 := let ⟨_, e, _⟩ := st2.1; lt e
        rcases hz with ⟨hz, a, b, hTO⟩ | ⟨T, f, oT, hz, hT, r1, r2, r3, r4⟩
        · refine wpAny_pyNext_zipD2_item S (DL _ hA1) (DT _ hA1) hz hTI hTO st1 st2 hi (by omega) fun x1 x2 h' tk y1 y2 b1 b2 d1 d2 b5 b6 hk => ?_
          exact hQ s₁.heap.objs.size _ _ h' tk ⟨y1, y2⟩ (.inl ⟨_, b5, rfl, _, rfl⟩)
            ⟨hk _ _ S.TIz S.TITO S.TIi1 S.TIi2 hTI, d1, d2, .inr ⟨s₁.heap.objs.size, false, _, b1, b5, lt hz, m1, m2, Nat.ne_of_gt hds⟩⟩
            fun c o hc e => hk c o (fun x => hc (by simp [x])) (fun x => hc (by simp [x])) (fun x => hc (by simp [x])) (fun x => hc (by simp [x])) e
        · refine pyNext_zipH_item S (DL _ hA1) (DT _ hA1) hz hT hTI st1 st2 hi (by omega) fun x1 x2 h' tk y1 y2 b1 d1 d2 b5 b6 hk => ?_
          exact hQ s₁.heap.objs.size _ _ h' tk ⟨y1, y2⟩ (.inl ⟨_, b5, rfl, _, rfl⟩)
            ⟨hk _ _ S.TIz S.TIi1 S.TIi2 hTI, d1, d2, .inr ⟨T, true, oT, b1, hk _ _ r1 r2 r3 hT, r1, r2, r3, r4⟩⟩
            fun c o hc e => hk c o (fun x => hc (by simp [x])) (fun x => hc (by simp [x])) (fun x => hc (by simp [x])) e
      done := fun s₁ Q₁ E₁ st hQ => by
        obtain ⟨hTI, st1, st2, hz⟩ := st
        rcases hz with ⟨hz, a, b, hTO⟩ | ⟨T, f, oT, hz, hT, r1, r2, r3, r4⟩
        · exact wpAny_pyNext_zipD2_end S (DL _ hA1) (DT _ hA1) hz hTI hTO st1 st2 (Nat.le_refl _) (Nat.le_of_eq hl) (.inl rfl) fun h' tk hk => hQ h' tk fun c o hc e => hk c o (fun x => hc (by simp [x])) (fun x => hc (by simp [x])) (fun x => hc (by simp [x])) (fun x => hc (by simp [x])) e
        · exact pyNext_zipH_end S (DL _ hA1) (DT _ hA1) hz hT hTI st1 st2 rfl fun h' hk => hQ h' s₁.toks fun c o hc e => hk c o (fun x => hc (by simp [x])) (fun x => hc (by simp [x])) (fun x => hc (by simp [x])) e }
end Cd

set_option Elab.async false
set_option linter.all false
set_option maxRecDepth 100000
set_option maxHeartbeats 4000000
/-! dict(zip(a list of keys, a tuple of values)) -/
namespace Cd
open PySem PySem.Spec PyProof.Rows L2
theorem sep_of (n l t : Nat) (hl : l < n) (ht : t < n) : ZipSep2 (n + 4) (n + 2) (n + 3) n (n + 1) [n, l] [n + 1, t] where
  TIz := by
    show (n + 2 : Nat) ≠ n + 4
    omega
  TOz := by
    show (n + 3 : Nat) ≠ n + 4
    omega
  TITO := by
    show (n + 2 : Nat) ≠ n + 3
    omega
  TIi1 := by
    show (n + 2 : Nat) ≠ n
    omega
  mem1 := List.mem_cons_self
  zf1 := by
    intro h
    have h' : (n + 4 : Nat) = n ∨ (n + 4 : Nat) = l := by simpa using h
    omega
  Tf1 := by
    intro h
    have h' : (n + 3 : Nat) = n ∨ (n + 3 : Nat) = l := by simpa using h
    omega
  TIi2 := by
    show (n + 2 : Nat) ≠ n + 1
    omega
  mem2 := List.mem_cons_self
  zf2 := by
    intro h
    have h' : (n + 4 : Nat) = n + 1 ∨ (n + 4 : Nat) = t := by simpa using h
    omega
  Tf2 := by
    intro h
    have h' : (n + 3 : Nat) = n + 1 ∨ (n + 3 : Nat) = t := by simpa using h
    omega
  sep1_2 := by
    intro h
    have h' : (n : Nat) = n + 1 ∨ (n : Nat) = t := by simpa using h
    omega
  sep2_1 := by
    intro h
    have h' : (n + 1 : Nat) = n ∨ (n + 1 : Nat) = l := by simpa using h
    omega
theorem off_ne (n b : Nat) (hb : b < n) : ¬ (b = n + 4 ∨ b = n + 3 ∨ b = n ∨ b = n + 1) := by omega
theorem kt_zip {H : Hp} : ∀ {ks : List (Addr × List Int)} {ys : List V} {us : List Value}, Vals ys us → (∀ q ∈ ks, H q.1 = some (.tup (q.2.map V.int))) →
    KT H (List.zipWith (fun (q : Addr × List Int) y => (ik q.2, y)) ks ys) (List.zipWith (fun (q : Addr × List Int) u => (ik q.2, q.1, u)) ks us)
  | [], _, _, r, _ => by
    rw [List.zipWith_nil_left, List.zipWith_nil_left]
    exact .nil
  | _ :: _, _, _, .nil, _ => .nil
  | q :: ks, _, _, .cons r t, hk => .cons ⟨rfl, by rw [ik_kV]; exact hk _ List.mem_cons_self, r⟩ (kt_zip t fun z hz => hk z (List.mem_cons_of_mem _ hz))
section
variable {X : Cx}
def tDictZ (ta : TA) : TE := fun σ H Q => ta σ H fun vs H1 => ∃ (l t : Addr) (ks : List (Addr × List Int)) (ys : List V), vs = [V.ref l, V.ref t] ∧ H1 l = some (.lst (ks.map fun q => V.ref q.1)) ∧ H1 t = some (.tup ys) ∧ ks.length = ys.length ∧
  (∀ q ∈ ks, H1 q.1 = some (.tup (q.2.map V.int))) ∧ ks.length ≤ 1000 ∧ ∀ p, H1 p = none → Q (.ref p) (upd H1 p (.dT (mergeT [] (List.zipWith (fun (q : Addr × List Int) y => (ik q.2, y)) ks ys))))
theorem pe_dictZ {e1 e2 : Expr} {ta : TA} {p1 p2 zp pos : Pos} (hc : X.calm = true) (hu : X.A.units + 64 < cLine) (hg : Gl X "dict") (hm : X.mg "dict" = none) (hv : bootBuiltins "dict" = some (.type "dict")) (hg2 : Gl X "zip") (hm2 : X.mg "zip" = none) (hv2 : bootBuiltins "zip" = some (.type "zip"))
    (ha : PA X [e1, e2] ta)
    (he : starEach [.Call (.Name "zip" p2) [e1, e2] [] zp] X.env = (false, eval (.Call (.Name "zip" p2) [e1, e2] [] zp) X.env) :: starEach [] X.env := by rfl)
    (he2 : starEach [e1, e2] X.env = (false, eval e1 X.env) :: starEach [e2] X.env := by rfl) (hpl2 : (backTo zp (starEach [e2] X.env)).any (·.1) = false := by rfl) :
    PE X (.Call (.Name "dict" p1) [.Call (.Name "zip" p2) [e1, e2] [] zp] [] pos) (tDictZ ta) := by
  refine ⟨fun pins s σ H Q I h => ?_⟩
  refine wpAny_Call_Name_kw (ld_blt I hg hm hv ?_)
  refine PyProof.Rows.callWith_type1 ?_ he (by rfl)
  rw [he]
  show wpAny _ _ (spliced ((false, eval (.Call (.Name "zip" p2) [e1, e2] [] zp) X.env) :: backTo pos (starEach [] X.env))) _ _ s
  refine Calls.spliced_cons (wpAny_Call_Name_kw (ld_blt I hg2 hm2 hv2 ?_))
  refine PyProof.Rows.callWith_type1 (thn (ha.run zp pins s σ H _ I h) fun us s1 ⟨vs, H1, I1, r, q1⟩ => ?_) he2 hpl2
  obtain ⟨l, t, ks, ys, rfl, hl, ht, hlen, hks, hsz, q⟩ := q1
  obtain ⟨u1, u2, rfl, r1, r2⟩ := vals2 r
  cases r1
  cases r2
  obtain ⟨zl, its, n, rv, ho⟩ := (show ObjOk X.prog X.w H1 s1.heap l (.lst (ks.map fun q => V.ref q.1)) from I1.hok l _ hl)
  obtain ⟨zt, jts, rw2, hjt⟩ := (show ObjOk X.prog X.w H1 s1.heap t (.tup ys) from I1.hok t _ ht)
  have hll : l < s1.heap.objs.size := Heap.lt_size ho
  have htl : t < s1.heap.objs.size := by
    obtain ⟨_, e, _⟩ := hjt
    exact Heap.lt_size e
  have eits : its = ks.map fun q => Value.ref q.1 := by
    have e := refs_vals (as := ks.map (·.1)) (us := its) (by rw [List.map_map]; exact rv)
    rw [List.map_map] at e
    exact e
  have lj : ys.length = jts.length := rw2.length
  have hil : s1.heap.IsList l its.toArray := ⟨_, ho, rfl, _, rfl⟩
  refine zip_begins2 (begins_list l its.toArray) (begins_tuple t jts.toArray) hil hjt fun h' hz hTI hTO g1 g2 hs hk => ?_
  refine Calls.spliced_nil ?_
  have S := sep_of s1.heap.objs.size l t hll htl
  have I2 : Inv X pins σ H1 { s1 with heap := h' } := I1.kept (t' := s1.toks) hk
  have ne5 : ∀ b o, s1.heap.get? b = some o → b ∉ [s1.heap.objs.size + 4, s1.heap.objs.size + 3, s1.heap.objs.size, s1.heap.objs.size + 1] := fun b o e hm => by
    have hb := Heap.lt_size e
    have hm' : b = s1.heap.objs.size + 4 ∨ b = s1.heap.objs.size + 3 ∨ b = s1.heap.objs.size ∨ b = s1.heap.objs.size + 1 := by simpa using hm
    exact off_ne s1.heap.objs.size b hb hm'
  refine call_dict_pairsH (knd := tupleKind (mixKind X.prog X.w)) (s := { s1 with heap := h' }) (ps := List.zipWith (fun (q : Addr × List Int) u => (ik q.2, q.1, u)) ks jts)
    (pairArg_zipLT _ _ _ _ _ l t S its.toArray jts.toArray (by rw [List.size_toArray, List.size_toArray, eits, List.length_map]; omega)) (I1.ok.hd hc) (show X.A.units + 1 + 1 < cLine by omega)
    ⟨hz, hTI, ⟨_, _, hTO⟩, ⟨_, g1, rfl, rfl⟩, ⟨_, g2, rfl, rfl⟩, hil.at fun o e => hk _ o e, (show s1.heap.IsTuple t jts.toArray from hjt).at fun o e => hk _ o e⟩ ⟨?_, fun i key v hr => ?_⟩ ?_ ?_ fun h'' tk hd hk2 => ?_
  · rw [List.length_zipWith, List.size_toArray, eits, List.length_map]
    omega
  · obtain ⟨a1, a2⟩ := hr
    rw [List.getElem?_toArray, eits, List.getElem?_map] at a1
    obtain ⟨q0, b1, b2⟩ := Option.map_eq_some_iff.mp a1
    rw [List.getElem?_toArray] at a2
    exact ⟨ik q0.2, q0.1, List.getElem?_zipWith_eq_some.mpr ⟨q0, v, b1, a2, rfl⟩, b2.symm⟩
  · intro h3 hk3 x hx
    obtain ⟨i, hi, e⟩ := List.getElem_of_mem hx
    have e' := List.getElem?_eq_getElem hi
    rw [e] at e'
    obtain ⟨q0, u0, c1, c2, c3⟩ := List.getElem?_zipWith_eq_some.mp e'
    subst c3
    refine is_key I1.hok (hks q0 (List.mem_of_getElem? c1)) fun o eo => hk3 _ o (Nat.ne_of_lt (Heap.lt_size (hk _ _ eo))) (ne5 _ o eo) (hk _ _ eo)
  · rw [List.size_toArray, eits, List.length_map, sizeLine_eq]
    omega
  · have hn : H1 h'.objs.size = none := I2.hok.fresh (Nat.le_refl _)
    refine ⟨.ref h'.objs.size, _, I1.laid (h' := h'') (t' := tk) (fun b u e => hk2 b u (ne5 b u e) (hk b u e)) ?_ (dt_obj ?_ ?_ (kt_merge ((kt_zip rw2 hks).keeps fun b zs e => by rw [upd_ne (ne_of_none e hn)]; exact e) .nil) hd), rfl, q _ hn⟩
    · show s1.heap.objs.size ≤ h'.objs.size
      rw [hs]
      exact Nat.le_add_right _ 5
    · have hz := len_mergeT (List.zipWith (fun (q : Addr × List Int) y => (ik q.2, y)) ks ys) []
      rw [List.length_zipWith, List.length_nil] at hz
      rw [sizeLine_eq]
      omega
    · have hb := I2.big
      exact beq_eq_false_iff_ne.mpr (Nat.ne_of_gt hb)
end
end Cd

set_option Elab.async false
set_option linter.all false
set_option maxRecDepth 100000
set_option maxHeartbeats 4000000
/-! more rules: a tuple backwards, a tuple times 0 or 1, three names at once -/
namespace Cd
open PySem PySem.Spec PyProof.Rows L2
theorem fm_congr {α β : Type} {f g : α → Option β} : ∀ (l : List α), (∀ x ∈ l, f x = g x) → l.filterMap f = l.filterMap g
  | [], _ => rfl
  | x :: l, h => by
    rw [List.filterMap_cons, List.filterMap_cons, h x List.mem_cons_self, fm_congr l fun y hy => h y (List.mem_cons_of_mem _ hy)]
section
variable {prog : Program} {w : World} {A : Around} {E : Value → Shared → Prop} {s : Shared}
theorem adjust_back (n : Nat) : Builtin.Slice.sliceAdjust none none (-1) (n : Int) = ((n : Int) - 1, -1) := rfl
theorem places_back (n : Nat) : Builtin.Slice.slicePlaces ((n : Int) - 1) (-1) (-1) = n := by
  unfold Builtin.Slice.slicePlaces
  rw [if_neg (by decide)]
  by_cases h : (n : Int) - 1 > -1
  · rw [if_pos h, show (-(-1) : Int) = 1 by decide, Int.ediv_one]
    omega
  · rw [if_neg h]
    omega
theorem applied_back {sl : Addr} {vs : Value} {n : Nat} {Q : Int × Int × Nat → Shared → Prop} (hs : s.heap.IsSliceOf sl .none .none vs) (pv : IsPart vs (some (-1))) (h : Q ((n : Int) - 1, -1, n) s) :
    wpAny (model prog w) A (Builtin.Slice.sliceApplied (.ref sl) (pure (n : Int))) Q E s := by
  obtain ⟨os, hos, hcs, hds⟩ := id hs
  unfold Builtin.Slice.sliceApplied Builtin.Slice.sliceFields
  refine wpAny_bind (wpAny_bind (wpAny_field hos hds (x := .none) rfl (wpAny_bind (wpAny_field hos hds (x := .none) rfl (wpAny_bind (wpAny_field hos hds (x := vs) rfl (wpAny_pure ?_)))))))
  refine wpAny_bind (HT.slicePart_ pv ?_)
  show wpAny _ _ (if ((-1 : Int) == 0) = true then _ else _) _ _ s
  rw [if_neg (by decide)]
  refine wpAny_bind (HT.slicePart_ .none (wpAny_bind (HT.slicePart_ .none (wpAny_bind (wpAny_pure ?_)))))
  show wpAny _ _ (match Builtin.Slice.sliceAdjust none none (-1) (n : Int) with | (lo, hi) => pure (lo, (-1 : Int), Builtin.Slice.slicePlaces lo hi (-1))) _ _ s
  rw [adjust_back]
  show wpAny _ _ (pure ((n : Int) - 1, (-1 : Int), Builtin.Slice.slicePlaces ((n : Int) - 1) (-1) (-1))) _ _ s
  rw [places_back]
  exact wpAny_pure h
theorem pick_back (items : Array Value) : ((List.range items.size).filterMap fun (k : Nat) => items[((items.size : Int) - 1 + (k : Int) * -1).toNat]?).toArray = items.toList.reverse.toArray := by
  have e : (List.range items.size).filterMap (fun (k : Nat) => items[((items.size : Int) - 1 + (k : Int) * -1).toNat]?) = ((List.range items.size).map fun k => items.size - 1 - k).filterMap (items[·]?) := by
    rw [List.filterMap_map]
    refine fm_congr _ fun k hk => ?_
    have hk' := List.mem_range.mp hk
    show _ = items[items.size - 1 - k]?
    rw [show ((items.size : Int) - 1 + (k : Int) * -1).toNat = items.size - 1 - k by omega]
  rw [e, PySem.W.krv_range, List.filterMap_reverse, PySem.W.krv_all]
theorem getItem_tuple_back {t sl : Addr} {items : Array Value} {vs : Value} {Q : Value → Shared → Prop} (ht : IsTup s.heap t items) (hs : s.heap.IsSliceOf sl .none .none vs) (pv : IsPart vs (some (-1)))
    (h : Q (.ref s.heap.objs.size) { s with heap := s.heap.push { cls := .type "tuple", data := .seq items.toList.reverse.toArray } }) (hsz : items.size ≤ sizeLine) : wpAny (model prog w) A (getItem (.ref t) (.ref sl)) Q E s := by
  have hfit : sizeOk (.seq items.toList.reverse.toArray) := by
    show items.toList.reverse.toArray.size ≤ sizeLine
    rw [List.size_toArray, List.length_reverse, Array.length_toList]
    exact hsz
  obtain ⟨os, hos, hcs, hds⟩ := id hs
  have hTs : s.TypeIs (.ref sl) "slice" := ⟨os, hos, hcs⟩
  unfold getItem
  try with_reducible refine wpAny_holding ?_
  first | refine wpAny_bind (wpAny_pure ?_) | skip
  refine wpAny_bind (wpAny_sequenceKey ht.typeIs (by decide) ?_)
  refine wpAny_bind (wpAny_callSpecial?_slot (name := Str.ofString "__getitem__") ht.typeIs PyProof.Rows.slot_tuple_getitem
    (wpAny_call_entry PyProof.Rows.slot_tuple_getitem ht.typeIs entry_tuple_getitem ?_ (args_tuple_getitem _ _)))
  show wpAny _ _ (Builtin.Tuple.tupleItemsOf (.ref t) >>= _) _ _ s
  refine wpAny_bind (tupleItemsOf_ ht ?_)
  refine wpAny_bind (wpAny_typeOf hTs ?_)
  rw [if_pos (by decide)]
  refine wpAny_bind (applied_back hs pv ?_)
  have hno : ¬ (((items.size : Int) - 1 == 0 && (-1 : Int) == 1 && items.size == items.size) = true) := by
    intro q
    rw [Bool.and_eq_true, Bool.and_eq_true] at q
    exact absurd q.1.2 (by decide)
  show wpAny _ _ (if ((items.size : Int) - 1 == 0 && (-1 : Int) == 1 && items.size == items.size) = true then _ else _) _ _ s
  rw [if_neg hno, pick_back]
  first
    | exact wpAny_bind (m := Builtin.Tuple.tupleExact _) (wpAny_newObj_type (wpAny_pure ⟨_, rfl, wpAny_pure h⟩) hfit)
    | exact wpAny_bind (m := Builtin.Tuple.tupleExact _) (wpAny_newObj_type (wpAny_bind (wpAny_pure (wpAny_pure ⟨_, rfl, wpAny_pure h⟩))) hfit)
    | exact wpAny_bind (wpAny_bind (m := Builtin.Tuple.tupleExact _) (wpAny_newObj_type (wpAny_pure (wpAny_pure ⟨_, rfl, wpAny_pure h⟩)) hfit))
    | exact wpAny_bind (wpAny_bind (m := Builtin.Tuple.tupleExact _) (wpAny_newObj_type (wpAny_pure ⟨_, rfl, wpAny_pure h⟩) hfit))
end
section
variable {X : Cx}
/-- t[::-1] -/
def tRevT (K : PySem.W.Frag) (te : TE) : TE := fun σ H Q => te σ H fun x H1 => ∃ a xs, x = .ref a ∧ SqT K H1 a xs ∧ ∀ p, H1 p = none → Q (.ref p) (upd H1 p (.tup xs.reverse))
theorem pe_revT {e : Expr} {te : TE} {k : Nat} {p1 p2 p3 pos : Pos} (he : PE X e te) : PE X (.Subscript e (.Slice none none (some (.UnaryOp .USub (.Constant (.int 1) k p1) p2)) p3) pos) (tRevT X.K te) := by
  refine ⟨fun pins s σ H Q I h => ?_⟩
  refine Subscript_ (thn (he.run pins s σ H _ I h) fun v s1 ⟨x, H1, I1, r1, q1⟩ => ?_)
  obtain ⟨a, xs, ex, hx, q⟩ := q1
  subst ex
  cases r1
  have hst : PO X (some (.UnaryOp .USub (.Constant (.int 1) k p1) p2)) (tPart (tUn (rU fun i => .int (-i)) (tC (.int 1)))) := po_some (pe_un un_neg pe_int)
  refine wpAny_Slice (thn (po_none.run pins s1 σ H1 (fun o H2 => o = none ∧ H2 = H1) I1 ⟨rfl, rfl⟩) fun vl s2 ⟨l, H2, I2, pl, el, e2⟩ => ?_)
  subst el e2
  refine thn (po_none.run pins s2 σ H2 (fun o H3 => o = none ∧ H3 = H2) I2 ⟨rfl, rfl⟩) fun vu s3 ⟨u, H3, I3, pu, eu, e3⟩ => ?_
  subst eu e3
  refine thn (hst.run pins s3 σ H3 (fun o H4 => o = some (-1) ∧ H4 = H3) I3 ⟨1, rfl, -1, rfl, rfl, rfl⟩) fun vs s4 ⟨o, H4, I4, ps, eo, e4⟩ => ?_
  subst eo e4
  cases pl
  cases pu
  have I5 : Inv X pins σ H4 { s4 with heap := s4.heap.push { cls := .type "slice", data := .fields #[.none, .none, vs] } } := I4.kept (t' := s4.toks) fun b ob q => Heap.get?_push_of_some _ q
  obtain ⟨its, r, ht, hz⟩ := I5.tuple hx
  have hlen := r.length
  show wpAny (model X.prog X.w) X.A (subscriptTail e (.Slice none none (some (.UnaryOp .USub (.Constant (.int 1) k p1) p2)) p3) (.ref a) (.ref s4.heap.objs.size)) (EP X pins σ Q) X.xe { s4 with heap := s4.heap.push { cls := .type "slice", data := .fields #[.none, .none, vs] } }
  refine tail_any (ops := [.ref a, .ref s4.heap.objs.size]) ht.typeIs (PyProof.Rows.slot_tuple_getitem.lookup) ?_ (by with_unfolding_all rfl)
  refine getItem_tuple_back ht (Heap.IsSliceOf.new _ .none .none vs) ps ?_ (by rw [List.size_toArray]; omega)
  refine ⟨.ref _, _, I5.laid (t' := s4.toks) (o := .tup xs.reverse) (fun b ob q => Heap.get?_push_of_some _ q) (Nat.le_refl _) ?_, rfl, q _ (I5.hok.fresh (Nat.le_refl _))⟩
  exact ⟨by rw [List.length_reverse]; exact hz, _, r.reverse, IsTup.new _ _⟩
/-- tuple * 1: the same object -/
theorem tuple_mul1 (l : Addr) (items : Array Value) (n : Nat) (dd : Option Addr) (sl : Array (Option Value)) (u : Tok) (hx : True) :
    Meets (Builtin.«tuple.__mul__» ⟨[.ref l, .int 1 u], []⟩) (fun _ R s => s.heap.get? l = some { cls := .type "tuple", dict := dd, data := .seq items n, slots := sl } ∧
      R (.ok (.ret (Value.ref l))) s) :=
  .of_wp fun prog w A R s h => by
    obtain ⟨hp, g, d, tk, os⟩ := s
    obtain ⟨hl, h⟩ := h
    have f1 := AutoSeq1.idx_int
    have c0 : (decide ((1 : Int) < -(2 ^ 63)) || decide ((1 : Int) ≥ 2 ^ 63)) = false := by decide
    have c1 : (items.isEmpty || (1 : Int) == 1) = true := by simp
    wp_walk using wpAny_loadPart' hl
    repeat (first
      | (refine wpAny_ite_false (decide_eq_false (by rw [c0]; exact Bool.false_ne_true)) ?_; wp_walk using wpAny_loadPart' hl)
      | (refine wpAny_ite_true (decide_eq_true c1) ?_; wp_walk using wpAny_loadPart' hl))
    exact ⟨_, rfl, h⟩
/-- tuple * 0 -/
theorem tuple_mul0 (l : Addr) (items : Array Value) (n : Nat) (dd : Option Addr) (sl : Array (Option Value)) (u : Tok) (hx : items.isEmpty = false) :
    Meets (Builtin.«tuple.__mul__» ⟨[.ref l, .int 0 u], []⟩) (fun _ R s => s.heap.get? l = some { cls := .type "tuple", dict := dd, data := .seq items n, slots := sl } ∧
      R (.ok (.ret (Value.ref s.heap.objs.size))) { s with heap := s.heap.push { cls := Value.type "tuple", data := Data.seq #[] }, toks := s.toks }) :=
  .of_wp fun prog w A R s h => by
    obtain ⟨hp, g, d, tk, os⟩ := s
    obtain ⟨hl, h⟩ := h
    have f1 := AutoSeq1.idx_int
    have c0 : (decide ((0 : Int) < -(2 ^ 63)) || decide ((0 : Int) ≥ 2 ^ 63)) = false := by decide
    have c1 : (items.isEmpty || (0 : Int) == 1) = false := by rw [hx]; decide
    have c2 : (decide ((0 : Int) ≤ 0) || items.isEmpty) = true := by simp
    wp_walk using wpAny_loadPart' hl
    repeat (first
      | (refine wpAny_ite_false (decide_eq_false (by rw [c0]; exact Bool.false_ne_true)) ?_; wp_walk using wpAny_loadPart' hl)
      | (refine wpAny_ite_false (decide_eq_false (by rw [c1]; exact Bool.false_ne_true)) ?_; wp_walk using wpAny_loadPart' hl)
      | (refine wpAny_ite_true (decide_eq_true c2) ?_; wp_walk using wpAny_loadPart' hl))
    exact ⟨_, rfl, h⟩
/-- tuple * k, k from 0 -/
def rRepAny (K : PySem.W.Frag) : R2 := fun x y H Q => ∃ l k xs, x = .ref l ∧ y = .int k ∧ SqT K H l xs ∧ xs ≠ [] ∧ 0 ≤ k ∧ k ≤ 1000 ∧ xs.length ≤ 1000 ∧ (k = 1 → Q (.ref l) H) ∧ ∀ p, H p = none → Q (.ref p) (upd H p (.tup (List.replicate k.toNat xs).flatten))
theorem op_repAny : OpR X (binaryOp .Mult) (rRepAny X.K) := by
  intro pins s σ H x y v u Q I rx ry h
  obtain ⟨l, k, xs, rfl, rfl, hT, hne, h0, h1000, hz, q1, q⟩ := h
  by_cases k2 : 2 ≤ k
  · exact op_repT pins s σ H _ _ v u Q I rx ry ⟨l, k, xs, rfl, rfl, hT, hne, k2, h1000, hz, q⟩
  have hk : k = 0 ∨ k = 1 := by omega
  cases rx
  obtain ⟨t, rfl⟩ := ry
  obtain ⟨its, r, ⟨⟨cls, dd, data, sl⟩, ho, hc, n, hd⟩, hs⟩ := I.tuple hT
  simp only at hc hd
  subst hc hd
  have hle : its.length = xs.length := r.length.symm
  have hn : its ≠ [] := fun e => hne (by
    rw [e] at hle
    exact List.eq_nil_of_length_eq_zero hle.symm)
  have hi : its.toArray.isEmpty = false := by
    cases its with
    | nil => exact absurd rfl hn
    | cons a b => rfl
  rcases hk with rfl | rfl
  · refine wpAny_binaryOp_repeat_ref (T := "tuple") (U := "int") (by decide) ⟨_, ho, rfl⟩ (fun s' => typeIs_int s' 0 t) noFill_tuple_mul F.fills_int_mul F.slot_int_rmul repeat_tuple F.slot_int_index.lookup
      (call_meets F.slot_int_rmul (typeIs_int s 0 t) F.entry_int_rmul (F.args_int_rmul_2 _ _) (int_rmul_tuple 0 t l its.toArray n dd sl)
        ⟨ho, rfl, ⟨_, ho, rfl⟩, call_meets F.slot_tuple_mul ⟨_, ho, rfl⟩ F.entry_tuple_mul (F.args_tuple_mul_2 _ _) (tuple_mul0 l its.toArray n dd sl t hi) ⟨ho, ?_⟩⟩)
    refine ⟨.ref s.heap.objs.size, _, I.laid (t' := s.toks) (o := .tup []) (fun b ob q => Heap.get?_push_of_some _ q) (Nat.le_refl _) ?_, rfl, q _ (I.hok.fresh (Nat.le_refl _))⟩
    exact ⟨by decide, _, .nil, IsTup.new _ _⟩
  · refine wpAny_binaryOp_repeat_ref (T := "tuple") (U := "int") (by decide) ⟨_, ho, rfl⟩ (fun s' => typeIs_int s' 1 t) noFill_tuple_mul F.fills_int_mul F.slot_int_rmul repeat_tuple F.slot_int_index.lookup
      (call_meets F.slot_int_rmul (typeIs_int s 1 t) F.entry_int_rmul (F.args_int_rmul_2 _ _) (int_rmul_tuple 1 t l its.toArray n dd sl)
        ⟨ho, rfl, ⟨_, ho, rfl⟩, call_meets F.slot_tuple_mul ⟨_, ho, rfl⟩ F.entry_tuple_mul (F.args_tuple_mul_2 _ _) (tuple_mul1 l its.toArray n dd sl t True.intro) ⟨ho, ?_⟩⟩)
    exact ⟨.ref l, _, I, rfl, q1 rfl⟩
/-- x, y, z = a, b, c: three plain local names -/
def tPar3 (i j k : Nat) (ta : TA) : TS := fun D σ H => ta σ H fun vs H1 => ∃ v w z, vs = [v, w, z] ∧ D.nx (((σ.set k (some z)).set j (some w)).set i (some v)) H1
theorem ps_par3 {i j k : Nat} {x y z : Str} {a b c : Expr} {ta : TA} {px py pz pt : Pos} {kt k2 pt2} (hc : X.calm = true) (hN : X.N.Nodup) (hi : X.N[i]? = some x) (hj : X.N[j]? = some y) (hk : X.N[k]? = some z)
    (hx : X.env.scope.names.lookup x = some .local) (hy : X.env.scope.names.lookup y = some .local) (hz : X.env.scope.names.lookup z = some .local) (ha : PA X [a, b, c] ta)
    (hw : swappedStores [.Tuple [.Name x px, .Name y py, .Name z pz] kt pt] (.Tuple [a, b, c] k2 pt2) X.env = pure (some [x, y, z]))
    (hs : swapsWithSole [.Tuple [.Name x px, .Name y py, .Name z pz] kt pt] (.Tuple [a, b, c] k2 pt2) pos.line X.env = pure false := by rfl) :
    PS X (.Assign [.Tuple [.Name x px, .Name y py, .Name z pz] kt pt] (.Tuple [a, b, c] k2 pt2) pos) (tPar3 i j k ta) := by
  refine ⟨fun pins s σ H D I h => ?_⟩
  rw [exec_Assign_arm]
  refine wpAny_bind (wpAny_standAt ?_)
  rw [hs]
  refine wpAny_bind (wpAny_pure ?_)
  rw [if_neg (by decide)]
  refine wpAny_bind (Tuple_ (thn (ha.run _ pins s σ H _ I h) fun us s1 ⟨vs, H1, I1, r1, q1⟩ => ?_))
  obtain ⟨v, w, zz, e1, q1⟩ := q1
  subst e1
  obtain ⟨u1, u2, u3, rfl, rv, rw', rz⟩ : ∃ u1 u2 u3, us = [u1, u2, u3] ∧ RelV v u1 ∧ RelV w u2 ∧ RelV zz u3 := by
    cases r1 with
    | cons p q =>
      cases q with
      | cons p' q' =>
        cases q' with
        | cons p'' q'' =>
          cases q''
          exact ⟨_, _, _, rfl, p, p', p''⟩
  refine wpAny_newObj_type ?_ (by show 3 ≤ sizeLine; decide)
  have I2 : Inv X pins σ H1 { s1 with heap := s1.heap.push { cls := .type "tuple", data := .seq [u1, u2, u3].toArray } } := I1.kept (t' := s1.toks) fun b o e => Heap.get?_push_of_some _ e
  rw [hw]
  refine wpAny_bind (wpAny_pure ?_)
  show wpAny (model X.prog X.w) X.A (do rule "assign.swapped-stores"; let items ← unpackItems (.ref s1.heap.objs.size) 3 none; assignInOrder [fun v => bindName X.env z v, fun v => bindName X.env y v, fun v => bindName X.env x v] items.reverse; pure Flow.next) _ _ _
  refine wpAny_bind (wpAny_rule (wpAny_bind (unpackItems_tuple (items := #[u1, u2, u3]) (I.ok.hd hc) (IsTup.new s1.heap _) fun h' hx' => ?_)))
  have I3 := I2.kept (h' := h') (t' := s1.toks) fun b o e => hx' b o (Nat.ne_of_lt (Heap.lt_size e)) e
  show wpAny _ _ (assignInOrder [fun v => bindName X.env z v, fun v => bindName X.env y v, fun v => bindName X.env x v] [u3, u2, u1] >>= fun _ => pure Flow.next) _ _ _
  refine wpAny_bind (assignInOrder_cons (wpAny_bindName (store_ok I3 hN hk (.inl hz) rz (fun s2 I4 => ?_) (.inr hz))))
  refine assignInOrder_cons (wpAny_bindName (store_ok I4 hN hj (.inl hy) rw' (fun s3 I5 => ?_) (.inr hy)))
  refine assignInOrder_cons (wpAny_bindName (store_ok I5 hN hi (.inl hx) rv (fun s4 I6 => assignInOrder_nil (wpAny_pure ?_)) (.inr hx)))
  exact ⟨_, H1, I6, q1⟩
end
end Cd

set_option Elab.async false
set_option linter.all false
set_option maxRecDepth 100000
set_option maxHeartbeats 2000000
/-! the plain law: charts, steps, prices -/
namespace Cm
abbrev Ch := List Int
abbrev Sq := Int × Int
def mv (c : Ch) (p q : Int) : Ch := (c.map fun o => if o = p then c.getD (p - 1).toNat 0 else o).set (p - 1).toNat q
def climb (c : Ch) : Nat → Int → Int
  | 0, h => h
  | k + 1, h => if h = 0 then 0 else climb c k (c.getD (h - 1).toNat 0)
def up (c : Ch) : Bool := (List.range c.length).all fun (k : Nat) => climb c (c.length + 1) ((k : Int) + 1) == 0
def lup (c : Ch) : Bool := (List.range c.length).all fun (k : Nat) => climb c c.length ((k : Int) + 1) == 0
def grow (n : Nat) : Nat → List Ch
  | 0 => [[]]
  | i + 1 => (grow n i).flatMap fun c => (List.range (n + 1)).map fun (x : Nat) => c ++ [(x : Int)]
def CH (n : Nat) : List Ch := (grow n n).filter up
def stp (n : Nat) : List Sq := (List.range n).flatMap fun (p : Nat) => ((List.range (n + 1)).filter fun (c : Nat) => decide ((c : Int) ≠ (p : Int) + 1)).map fun (c : Nat) => ((p : Int) + 1, (c : Int))
def wt (pr : List (List Int)) (s : Sq) : Int := (pr.getD (s.1 - 1).toNat []).getD s.2.toNat 0
def Sz (n : Nat) : Prop := n = 1 ∨ n = 2 ∨ n = 3

theorem ch_facts {n : Nat} (h : Sz n) : (CH n).length ≤ 16 ∧ (stp n).length ≤ 9 ∧ (CH n).Nodup ∧ (∀ c ∈ CH n, c.length = n ∧ ∀ x ∈ c, 0 ≤ x ∧ x ≤ n) ∧ (∀ c ∈ grow n n, up c = lup c) ∧ ∀ c ∈ CH n, ∀ s ∈ stp n, mv c s.1 s.2 ∈ CH n := by
  rcases h with rfl | rfl | rfl <;> decide +kernel
theorem grow_facts (n : Nat) : ∀ i, ∀ c ∈ grow n i, c.length = i ∧ ∀ x ∈ c, 0 ≤ x ∧ x ≤ n
  | 0, c, h => by
    rcases List.mem_singleton.mp h with rfl
    exact ⟨rfl, fun x hx => nomatch hx⟩
  | i + 1, c, h => by
    obtain ⟨d, hd, hc⟩ := List.mem_flatMap.mp h
    obtain ⟨x, hx, rfl⟩ := List.mem_map.mp hc
    obtain ⟨h1, h2⟩ := grow_facts n i d hd
    refine ⟨by rw [List.length_append, h1]; rfl, fun y hy => ?_⟩
    rcases List.mem_append.mp hy with hy | hy
    · exact h2 y hy
    · rcases List.mem_singleton.mp hy with rfl
      have := List.mem_range.mp hx
      omega
theorem grow_len (n : Nat) (h : Sz n) : ∀ i ≤ n, (grow n i).length ≤ 64 := by
  rcases h with rfl | rfl | rfl <;> decide +kernel
theorem stp_facts {n : Nat} {s : Sq} : s ∈ stp n ↔ 1 ≤ s.1 ∧ s.1 ≤ n ∧ 0 ≤ s.2 ∧ s.2 ≤ n ∧ s.1 ≠ s.2 := by
  obtain ⟨p, c⟩ := s
  unfold stp
  rw [List.mem_flatMap]
  constructor
  · rintro ⟨i, hi, h⟩
    obtain ⟨j, hj, e⟩ := List.mem_map.mp h
    cases e
    obtain ⟨h1, h2⟩ := List.mem_filter.mp hj
    have a := List.mem_range.mp hi
    have b := List.mem_range.mp h1
    have d := of_decide_eq_true h2
    show 1 ≤ (i : Int) + 1 ∧ (i : Int) + 1 ≤ n ∧ 0 ≤ (j : Int) ∧ (j : Int) ≤ n ∧ (i : Int) + 1 ≠ j
    omega
  · rintro ⟨h1, h2, h3, h4, h5⟩
    replace h1 : 1 ≤ p := h1
    replace h2 : p ≤ n := h2
    replace h3 : 0 ≤ c := h3
    replace h4 : c ≤ n := h4
    replace h5 : p ≠ c := h5
    refine ⟨(p - 1).toNat, List.mem_range.mpr (by omega), List.mem_map.mpr ⟨c.toNat, List.mem_filter.mpr ⟨List.mem_range.mpr (by omega), decide_eq_true (by omega)⟩, ?_⟩⟩
    refine Prod.ext ?_ ?_
    · show ((p - 1).toNat : Int) + 1 = p
      omega
    · show (c.toNat : Int) = c
      omega
/-- the charts from which g is reached in k steps -/
def bk (n : Nat) (R : List Ch) : List Ch := (CH n).filter fun c => R.contains c || (stp n).any fun s => R.contains (mv c s.1 s.2)
def bks (n : Nat) (g : Ch) : Nat → List Ch
  | 0 => [g]
  | k + 1 => bk n (bks n g k)
theorem bks_all {n : Nat} (h : Sz n) : ∀ g ∈ CH n, ∀ c ∈ CH n, (bks n g 6).contains c = true := by
  rcases h with rfl | rfl | rfl <;> decide +kernel
end Cm

set_option Elab.async false
set_option linter.all false
set_option maxRecDepth 100000
set_option maxHeartbeats 2000000
/-! tables of charts, one pass over them -/
namespace Cm
section
variable {α : Type}
def gv (st : List (Ch × α)) (c : Ch) : Option α := (st.find? fun kv => decide (kv.1 = c)).map (·.2)
def pv (st : List (Ch × α)) (c : Ch) (e : α) : List (Ch × α) := if (st.any fun kv => decide (kv.1 = c)) = true then st.map (fun kv => if kv.1 = c then (kv.1, e) else kv) else st ++ [(c, e)]
theorem gv_nil {c : Ch} : gv ([] : List (Ch × α)) c = none := rfl
theorem gv_pos {p : Ch × α} {r : List (Ch × α)} {c : Ch} (e : p.1 = c) : gv (p :: r) c = some p.2 := by simp [gv, List.find?_cons, e]
theorem gv_neg {p : Ch × α} {r : List (Ch × α)} {c : Ch} (e : ¬ p.1 = c) : gv (p :: r) c = gv r c := by simp [gv, List.find?_cons, e]
theorem gv_mem {st : List (Ch × α)} {c : Ch} {e : α} (h : gv st c = some e) : (c, e) ∈ st := by
  induction st with
  | nil => cases h
  | cons p r ih =>
    by_cases q : p.1 = c
    · rw [gv_pos q] at h
      cases h
      rw [← q]
      exact List.mem_cons_self
    · rw [gv_neg q] at h
      exact List.mem_cons_of_mem _ (ih h)
theorem gv_none {st : List (Ch × α)} {c : Ch} : gv st c = none ↔ c ∉ st.map (·.1) := by
  induction st with
  | nil => exact ⟨fun _ h => (nomatch h), fun _ => rfl⟩
  | cons p r ih =>
    by_cases q : p.1 = c
    · rw [gv_pos q]
      exact ⟨fun h => (nomatch h), fun h => absurd (by rw [List.map_cons, q]; exact List.mem_cons_self) h⟩
    · rw [gv_neg q, ih, List.map_cons, List.mem_cons]
      exact ⟨fun h z => z.elim (fun z => q z.symm) h, fun h z => h (.inr z)⟩
theorem gv_map (st : List (Ch × α)) (c d : Ch) (e : α) : gv (st.map fun kv => if kv.1 = c then (kv.1, e) else kv) d = if d = c then (gv st d).map (fun _ => e) else gv st d := by
  induction st with
  | nil => split <;> rfl
  | cons p r ih =>
    rw [List.map_cons]
    by_cases q : p.1 = d
    · by_cases z : d = c
      · rw [if_pos z, if_pos (q.trans z), gv_pos q, gv_pos (p := (p.1, e)) q] <;> rfl
      · rw [if_neg z, if_neg (fun x => z (q ▸ x)), gv_pos q, gv_pos q]
    · rw [gv_neg q, ← ih]
      refine gv_neg ?_
      split
      · exact q
      · exact q
theorem gv_app (st : List (Ch × α)) (c d : Ch) (e : α) (h : gv st c = none) : gv (st ++ [(c, e)]) d = if d = c then some e else gv st d := by
  induction st with
  | nil =>
    by_cases z : d = c
    · rw [if_pos z]
      exact gv_pos z.symm
    · rw [if_neg z]
      exact gv_neg fun x => z x.symm
  | cons p r ih =>
    rw [List.cons_append]
    by_cases q : p.1 = c
    · rw [gv_pos q] at h
      cases h
    · rw [gv_neg q] at h
      by_cases z : p.1 = d
      · rw [gv_pos z, gv_pos z, if_neg (fun x => q (z.trans x))]
      · rw [gv_neg z, gv_neg z, ih h]
theorem any_gv (st : List (Ch × α)) (c : Ch) : (st.any fun kv => decide (kv.1 = c)) = (gv st c).isSome := by
  induction st with
  | nil => rfl
  | cons p r ih =>
    rw [List.any_cons]
    by_cases q : p.1 = c
    · rw [gv_pos q, decide_eq_true q] <;> rfl
    · rw [gv_neg q, decide_eq_false q, ih] <;> rfl
theorem gv_pv (st : List (Ch × α)) (c d : Ch) (e : α) : gv (pv st c e) d = if d = c then some e else gv st d := by
  unfold pv
  rw [any_gv]
  cases h : gv st c with
  | none => exact gv_app st c d e h
  | some o =>
    rw [Option.isSome_some, if_pos rfl, gv_map]
    by_cases z : d = c
    · rw [if_pos z, if_pos z, z, h] <;> rfl
    · rw [if_neg z, if_neg z]
theorem keys_pv (st : List (Ch × α)) (c : Ch) (e : α) : (pv st c e).map (·.1) = if (gv st c).isSome = true then st.map (·.1) else st.map (·.1) ++ [c] := by
  unfold pv
  rw [any_gv]
  split
  · rw [List.map_map]
    refine List.map_congr_left fun kv _ => ?_
    show (if kv.1 = c then (kv.1, e) else kv).1 = kv.1
    split <;> rfl
  · rw [List.map_append] <;> rfl
end
/-- one kind of table -/
structure Alg (α : Type) where
  lift : α → Sq → Int → α
  lt : α → α → Bool
  ok : Ch → Bool
section
variable {α : Type} (A : Alg α) (n : Nat) (pr : List (List Int))
def cand (st : List (Ch × α)) (here : Ch) (s : Sq) : Option α := if A.ok here = true then (gv st (mv here s.1 s.2)).map fun e => A.lift e s (wt pr s) else none
def better (st : List (Ch × α)) (here : Ch) (e : α) : Bool := match gv st here with
  | none => true
  | some o => A.lt e o
def relax (here : Ch) (acc : List (Ch × α) × Bool) (s : Sq) : List (Ch × α) × Bool := match cand A pr acc.1 here s with
  | none => acc
  | some e => if better A acc.1 here e = true then (pv acc.1 here e, true) else acc
def inner (here : Ch) (acc : List (Ch × α) × Bool) : List (Ch × α) × Bool := (stp n).foldl (relax A pr here) acc
def pass (st : List (Ch × α)) : List (Ch × α) × Bool := (CH n).foldl (fun acc here => inner A n pr here acc) (st, false)
/-- nothing is bettered any more -/
def Still (st : List (Ch × α)) : Prop := ∀ here ∈ CH n, ∀ s ∈ stp n, ∀ e, cand A pr st here s = some e → better A st here e = false
theorem relax_fl (here : Ch) (acc : List (Ch × α) × Bool) (s : Sq) : (relax A pr here acc s).2 = false → relax A pr here acc s = acc ∧ ∀ e, cand A pr acc.1 here s = some e → better A acc.1 here e = false := by
  unfold relax
  cases h : cand A pr acc.1 here s with
  | none => exact fun _ => ⟨rfl, fun e z => nomatch z⟩
  | some e =>
    show (if better A acc.1 here e = true then (pv acc.1 here e, true) else acc).2 = false → _
    cases q : better A acc.1 here e with
    | true => exact fun z => nomatch z
    | false =>
      refine fun _ => ⟨?_, fun e' z => by cases z; exact q⟩
      show (if better A acc.1 here e = true then (pv acc.1 here e, true) else acc) = acc
      rw [q]
      rfl
theorem inner_fl (here : Ch) : ∀ (ss : List Sq) (acc : List (Ch × α) × Bool), (ss.foldl (relax A pr here) acc).2 = false → ss.foldl (relax A pr here) acc = acc ∧ ∀ s ∈ ss, ∀ e, cand A pr acc.1 here s = some e → better A acc.1 here e = false
  | [], acc, _ => ⟨rfl, fun s hs => nomatch hs⟩
  | s :: ss, acc, h => by
    rw [List.foldl_cons] at h ⊢
    have q := inner_fl here ss _ h
    have q1 : (relax A pr here acc s).2 = false := by
      rw [q.1] at h
      exact h
    have q2 := relax_fl A pr here acc s q1
    rw [q2.1] at q ⊢
    refine ⟨q.1, fun t ht => ?_⟩
    rcases List.mem_cons.mp ht with rfl | ht
    · exact q2.2
    · exact q.2 t ht
theorem pass_fl : ∀ (hs : List Ch) (acc : List (Ch × α) × Bool), (hs.foldl (fun acc here => inner A n pr here acc) acc).2 = false → hs.foldl (fun acc here => inner A n pr here acc) acc = acc ∧ ∀ here ∈ hs, ∀ s ∈ stp n, ∀ e, cand A pr acc.1 here s = some e → better A acc.1 here e = false
  | [], acc, _ => ⟨rfl, fun s hs => nomatch hs⟩
  | here :: hs, acc, h => by
    rw [List.foldl_cons] at h ⊢
    have q := pass_fl hs _ h
    have q1 : (inner A n pr here acc).2 = false := by
      rw [q.1] at h
      exact h
    have q2 := inner_fl A pr here (stp n) acc q1
    have e2 : inner A n pr here acc = acc := q2.1
    rw [e2] at q ⊢
    refine ⟨q.1, fun t ht => ?_⟩
    rcases List.mem_cons.mp ht with rfl | ht
    · exact q2.2
    · exact q.2 t ht
theorem pass_still {st : List (Ch × α)} (h : (pass A n pr st).2 = false) : (pass A n pr st).1 = st ∧ Still A n pr st := by
  have q := pass_fl A n pr (CH n) (st, false) h
  exact ⟨congrArg Prod.fst q.1, q.2⟩
/-- what every single step keeps, a pass keeps -/
theorem inner_keep (I : List (Ch × α) → Prop) (here : Ch) : ∀ (ss : List Sq), (∀ s ∈ ss, ∀ st b, I st → I (relax A pr here (st, b) s).1) → ∀ acc, I acc.1 → I (ss.foldl (relax A pr here) acc).1
  | [], _, acc, h => h
  | s :: ss, k, acc, h => inner_keep I here ss (fun t ht => k t (List.mem_cons_of_mem _ ht)) _ (k s List.mem_cons_self acc.1 acc.2 h)
theorem pass_keep (I : List (Ch × α) → Prop) : ∀ (hs : List Ch), (∀ here ∈ hs, ∀ s ∈ stp n, ∀ st b, I st → I (relax A pr here (st, b) s).1) → ∀ acc, I acc.1 → I (hs.foldl (fun acc here => inner A n pr here acc) acc).1
  | [], _, acc, h => h
  | here :: hs, k, acc, h => pass_keep I hs (fun t ht => k t (List.mem_cons_of_mem _ ht)) _ (inner_keep A pr I here (stp n) (k here List.mem_cons_self) acc h)
end
end Cm

set_option Elab.async false
set_option linter.all false
set_option maxRecDepth 100000
set_option maxHeartbeats 2000000
/-! the passes come to an end -/
namespace Cm
section
variable {β : Type} (r : β → β → Prop)
inductive Dec : List β → List β → Prop
  | hd0 {x y : β} {l : List β} : r x y → Dec (x :: l) (y :: l)
  | hd1 {x y : β} {l m : List β} : r x y → Dec l m → Dec (x :: l) (y :: m)
  | tl {x : β} {l m : List β} : Dec l m → Dec (x :: l) (x :: m)
theorem dec_nil : Acc (Dec r) ([] : List β) := ⟨_, fun y h => nomatch h⟩
theorem dec_cons {y : β} (hy : Acc r y) : ∀ {m : List β}, Acc (Dec r) m → Acc (Dec r) (y :: m) := by
  induction hy with
  | intro y _ ih =>
    intro m hm
    induction hm with
    | intro m hm' ih2 =>
      refine ⟨_, fun z h => ?_⟩
      cases h with
      | hd0 a => exact ih _ a ⟨_, hm'⟩
      | hd1 a b => exact ih _ a (hm' _ b)
      | tl a => exact ih2 _ a
theorem dec_acc (hr : ∀ y, Acc r y) : ∀ m : List β, Acc (Dec r) m
  | [] => dec_nil r
  | y :: m => dec_cons r (hr y) (dec_acc hr m)
theorem dec_map {γ : Type} (f g : γ → β) : ∀ {l : List γ}, (∀ c ∈ l, f c = g c ∨ r (f c) (g c)) → (∃ c ∈ l, r (f c) (g c)) → Dec r (l.map f) (l.map g)
  | [], _, hx => by
    obtain ⟨c, h, _⟩ := hx
    cases h
  | c :: l, h, hx => by
    rw [List.map_cons, List.map_cons]
    by_cases q : ∃ d ∈ l, r (f d) (g d)
    · have t := dec_map f g (fun d hd => h d (List.mem_cons_of_mem _ hd)) q
      rcases h c List.mem_cons_self with e | e
      · rw [e]
        exact .tl t
      · exact .hd1 e t
    · obtain ⟨d, hd, z⟩ := hx
      rcases List.mem_cons.mp hd with rfl | hd
      · have e : l.map f = l.map g := by
          refine List.map_congr_left fun d hd => ?_
          rcases h d (List.mem_cons_of_mem _ hd) with e | e
          · exact e
          · exact absurd ⟨d, hd, e⟩ q
        rw [e]
        exact .hd0 z
      · exact absurd ⟨d, hd, z⟩ q
end
def lex3 : Nat × Nat × Nat → Nat × Nat × Nat → Prop := Prod.Lex (· < ·) (Prod.Lex (· < ·) (· < ·))
theorem lex3_acc (y : Nat × Nat × Nat) : Acc lex3 y := (Prod.lex Nat.lt_wfRel (Prod.lex Nat.lt_wfRel Nat.lt_wfRel)).wf.apply y
section
variable {α : Type} (A : Alg α) (n : Nat) (pr : List (List Int))
/-- m passes that better, then one that doesn't -/
def Runs : Nat → List (Ch × α) → Prop
  | 0, st => (pass A n pr st).2 = false
  | m + 1, st => (pass A n pr st).2 = true ∧ Runs m (pass A n pr st).1
variable (rk : α → Nat × Nat)
def rank : Option α → Nat × Nat × Nat
  | none => (1, 0, 0)
  | some e => (0, rk e)
def vec (st : List (Ch × α)) : List (Nat × Nat × Nat) := (CH n).map fun c => rank rk (gv st c)
variable (I : List (Ch × α) → Prop)
theorem relax_dec (hk : ∀ here ∈ CH n, ∀ s ∈ stp n, ∀ st e o, I st → cand A pr st here s = some e → gv st here = some o → A.lt e o = true → lex3 (rank rk (some e)) (rank rk (some o)))
    {here : Ch} (hh : here ∈ CH n) {s : Sq} (hs : s ∈ stp n) {st : List (Ch × α)} {b : Bool} (hI : I st) :
    relax A pr here (st, b) s = (st, b) ∨ ((relax A pr here (st, b) s).2 = true ∧ Dec lex3 (vec n rk (relax A pr here (st, b) s).1) (vec n rk st)) := by
  unfold relax
  cases h : cand A pr st here s with
  | none =>
    exact .inl rfl
  | some e =>
    cases q : better A st here e with
    | false =>
      refine .inl ?_
      show (if better A st here e = true then (pv st here e, true) else (st, b)) = _
      rw [q] <;> rfl
    | true =>
      refine .inr ?_
      show (if better A st here e = true then (pv st here e, true) else (st, b)).2 = true ∧ Dec lex3 (vec n rk (if better A st here e = true then (pv st here e, true) else (st, b)).1) (vec n rk st)
      rw [q, if_pos rfl]
      refine ⟨rfl, dec_map lex3 _ _ (fun c hc => ?_) ⟨here, hh, ?_⟩⟩
      · by_cases z : c = here
        · refine .inr ?_
          show lex3 (rank rk (gv (pv st here e) c)) (rank rk (gv st c))
          rw [gv_pv, if_pos z, z]
          unfold better at q
          cases g : gv st here with
          | none => exact Prod.Lex.left _ _ (by decide)
          | some o =>
            rw [g] at q
            exact hk here hh s hs st e o hI h g q
        · refine .inl ?_
          show rank rk (gv (pv st here e) c) = rank rk (gv st c)
          rw [gv_pv, if_neg z]
      · show lex3 (rank rk (gv (pv st here e) here)) (rank rk (gv st here))
        rw [gv_pv, if_pos rfl]
        unfold better at q
        cases g : gv st here with
        | none => exact Prod.Lex.left _ _ (by decide)
        | some o =>
          rw [g] at q
          exact hk here hh s hs st e o hI h g q
/-- what a stretch of steps does -/
def Moves (st0 : List (Ch × α)) (acc : List (Ch × α) × Bool) : Prop := acc = (st0, false) ∨ (acc.2 = true ∧ Relation.TransGen (Dec lex3) (vec n rk acc.1) (vec n rk st0))
theorem trans_head {β : Type} {r : β → β → Prop} {a b c : β} (h : r a b) (t : Relation.TransGen r b c) : Relation.TransGen r a c := by
  induction t with
  | single x => exact .tail (.single h) x
  | tail _ x ih => exact .tail ih x
theorem step_moves (hk : ∀ here ∈ CH n, ∀ s ∈ stp n, ∀ st e o, I st → cand A pr st here s = some e → gv st here = some o → A.lt e o = true → lex3 (rank rk (some e)) (rank rk (some o)))
    {here : Ch} (hh : here ∈ CH n) {s : Sq} (hs : s ∈ stp n) {st0 : List (Ch × α)} {acc : List (Ch × α) × Bool} (hI : I acc.1) (h : Moves n rk st0 acc) : Moves n rk st0 (relax A pr here acc s) := by
  obtain ⟨st, b⟩ := acc
  rcases relax_dec A n pr rk I hk hh hs hI (b := b) with e | ⟨e1, e2⟩
  · rw [e]
    exact h
  · refine .inr ⟨e1, ?_⟩
    rcases h with h | ⟨_, h⟩
    · cases h
      exact .single e2
    · exact trans_head e2 h
theorem inner_moves (hk : ∀ here ∈ CH n, ∀ s ∈ stp n, ∀ st e o, I st → cand A pr st here s = some e → gv st here = some o → A.lt e o = true → lex3 (rank rk (some e)) (rank rk (some o)))
    (keep : ∀ here ∈ CH n, ∀ s ∈ stp n, ∀ st b, I st → I (relax A pr here (st, b) s).1) {here : Ch} (hh : here ∈ CH n) {st0 : List (Ch × α)} :
    ∀ (ss : List Sq), (∀ s ∈ ss, s ∈ stp n) → ∀ acc, I acc.1 → Moves n rk st0 acc → I (ss.foldl (relax A pr here) acc).1 ∧ Moves n rk st0 (ss.foldl (relax A pr here) acc)
  | [], _, acc, hI, h => ⟨hI, h⟩
  | s :: ss, hs, acc, hI, h => inner_moves hk keep hh ss (fun t ht => hs t (List.mem_cons_of_mem _ ht)) _ (keep here hh s (hs s List.mem_cons_self) acc.1 acc.2 hI) (step_moves A n pr rk I hk hh (hs s List.mem_cons_self) hI h)
theorem outer_moves (hk : ∀ here ∈ CH n, ∀ s ∈ stp n, ∀ st e o, I st → cand A pr st here s = some e → gv st here = some o → A.lt e o = true → lex3 (rank rk (some e)) (rank rk (some o)))
    (keep : ∀ here ∈ CH n, ∀ s ∈ stp n, ∀ st b, I st → I (relax A pr here (st, b) s).1) {st0 : List (Ch × α)} :
    ∀ (hs : List Ch), (∀ h ∈ hs, h ∈ CH n) → ∀ acc, I acc.1 → Moves n rk st0 acc → I (hs.foldl (fun acc here => inner A n pr here acc) acc).1 ∧ Moves n rk st0 (hs.foldl (fun acc here => inner A n pr here acc) acc)
  | [], _, acc, hI, h => ⟨hI, h⟩
  | here :: hs, hh, acc, hI, h =>
    have q := inner_moves A n pr rk I hk keep (hh here List.mem_cons_self) (stp n) (fun _ z => z) acc hI h
    outer_moves hk keep hs (fun t ht => hh t (List.mem_cons_of_mem _ ht)) _ q.1 q.2
theorem runs_of (hk : ∀ here ∈ CH n, ∀ s ∈ stp n, ∀ st e o, I st → cand A pr st here s = some e → gv st here = some o → A.lt e o = true → lex3 (rank rk (some e)) (rank rk (some o)))
    (keep : ∀ here ∈ CH n, ∀ s ∈ stp n, ∀ st b, I st → I (relax A pr here (st, b) s).1) (st : List (Ch × α)) (hI : I st) : ∃ m, Runs A n pr m st := by
  have ac : Acc (Relation.TransGen (Dec lex3)) (vec n rk st) := (dec_acc lex3 lex3_acc _).transGen
  generalize hv : vec n rk st = v at ac
  induction ac generalizing st with
  | intro v _ ih =>
    subst hv
    have q := outer_moves A n pr rk I hk keep (CH n) (fun _ z => z) (st, false) hI (.inl rfl)
    rcases q.2 with e | ⟨e1, e2⟩
    · exact ⟨0, congrArg Prod.snd e⟩
    · obtain ⟨m, hm⟩ := ih _ e2 (pass A n pr st).1 q.1 rfl
      exact ⟨m + 1, e1, hm⟩
end
end Cm

set_option Elab.async false
set_option linter.all false
set_option maxRecDepth 100000
set_option maxHeartbeats 2000000
/-! the program's table and the law's -/
namespace Cm
structure PrOk (n : Nat) (pr : List (List Int)) : Prop where
  len : pr.length = n
  row : ∀ l ∈ pr, l.length = n + 1 ∧ ∀ x ∈ l, 0 ≤ x ∧ x ≤ 1000
abbrev Ent := Int × Int × Option Sq
def AP (g : Ch) : Alg Ent where
  lift e s w := (e.1 + w, e.2.1 + 1, some s)
  lt a b := decide (a.1 < b.1 ∨ (a.1 = b.1 ∧ a.2.1 < b.2.1))
  ok c := decide (c ≠ g)
def AL : Alg Int where
  lift e _ w := e + w
  lt a b := decide (a < b)
  ok _ := true
/-- there is a row of that price from c to g -/
inductive Wk (n : Nat) (pr : List (List Int)) (g : Ch) : Ch → Int → Prop
  | nil : Wk n pr g g 0
  | cons {c : Ch} {s : Sq} {k : Int} : s ∈ stp n → Wk n pr g (mv c s.1 s.2) k → Wk n pr g c (k + wt pr s)
structure Best (n : Nat) (pr : List (List Int)) (g c : Ch) (x : Int) : Prop where
  wk : Wk n pr g c x
  least : ∀ k, Wk n pr g c k → x ≤ k
theorem Best.eq {n : Nat} {pr : List (List Int)} {g c : Ch} {x y : Int} (a : Best n pr g c x) (b : Best n pr g c y) : x = y := Int.le_antisymm (a.least _ b.wk) (b.least _ a.wk)
section
variable {n : Nat} {pr : List (List Int)} {g : Ch}
theorem wt_row (P : PrOk n pr) {s : Sq} (h : s ∈ stp n) : ∃ l, pr[(s.1 - 1).toNat]? = some l ∧ l[s.2.toNat]? = some (wt pr s) ∧ 0 ≤ wt pr s ∧ wt pr s ≤ 1000 := by
  obtain ⟨h1, h2, h3, h4, _⟩ := stp_facts.mp h
  have a : (s.1 - 1).toNat < pr.length := by
    rw [P.len]
    omega
  have e1 := List.getElem?_eq_getElem a
  have hm := List.getElem_mem a
  obtain ⟨q1, q2⟩ := P.row _ hm
  have b : s.2.toNat < (pr[(s.1 - 1).toNat]).length := by
    rw [q1]
    omega
  have e2 := List.getElem?_eq_getElem b
  have e3 : wt pr s = (pr[(s.1 - 1).toNat])[s.2.toNat] := by
    unfold wt
    rw [List.getD_eq_getElem?_getD, List.getD_eq_getElem?_getD, e1, Option.getD_some, e2, Option.getD_some]
  exact ⟨_, e1, by rw [e2, e3], by rw [e3]; exact (q2 _ (List.getElem_mem b)).1, by rw [e3]; exact (q2 _ (List.getElem_mem b)).2⟩
theorem wt_nn (P : PrOk n pr) {s : Sq} (h : s ∈ stp n) : 0 ≤ wt pr s := (wt_row P h).choose_spec.2.2.1
section
variable {α : Type} (A : Alg α)
theorem relax_cases (here : Ch) (st : List (Ch × α)) (b : Bool) (s : Sq) : (relax A pr here (st, b) s).1 = st ∨ ∃ e, cand A pr st here s = some e ∧ better A st here e = true ∧ (relax A pr here (st, b) s).1 = pv st here e := by
  unfold relax
  cases h : cand A pr st here s with
  | none => exact .inl rfl
  | some e =>
    cases q : better A st here e with
    | false =>
      refine .inl ?_
      show (if better A st here e = true then (pv st here e, true) else (st, b)).1 = _
      rw [q]
      rfl
    | true =>
      refine .inr ⟨e, rfl, q, ?_⟩
      show (if better A st here e = true then (pv st here e, true) else (st, b)).1 = _
      rw [q]
      rfl
theorem cand_some {st : List (Ch × α)} {here : Ch} {s : Sq} {e : α} (h : cand A pr st here s = some e) : A.ok here = true ∧ ∃ o, gv st (mv here s.1 s.2) = some o ∧ e = A.lift o s (wt pr s) := by
  unfold cand at h
  by_cases q : A.ok here = true
  · rw [if_pos q] at h
    cases z : gv st (mv here s.1 s.2) with
    | none =>
      rw [z] at h
      cases h
    | some o =>
      rw [z] at h
      cases h
      exact ⟨q, o, rfl, rfl⟩
  · rw [if_neg q] at h
    cases h
theorem keys_nd {st : List (Ch × α)} {c : Ch} {e : α} (h : (st.map (·.1)).Nodup) : ((pv st c e).map (·.1)).Nodup := by
  rw [keys_pv]
  split
  · exact h
  · rename_i q
    rw [List.nodup_append]
    refine ⟨h, List.nodup_cons.mpr ⟨(nomatch ·), List.nodup_nil⟩, fun a ha b hb => ?_⟩
    rcases List.mem_singleton.mp hb with rfl
    intro z
    rw [z] at ha
    have : gv st b = none := by
      cases z : gv st b with
      | none => rfl
      | some o =>
        rw [z] at q
        exact absurd rfl q
    exact gv_none.mp this ha
end
def lle (a b c d : Int) : Prop := a < c ∨ (a = c ∧ b ≤ d)
structure IP (n : Nat) (pr : List (List Int)) (g : Ch) (st : List (Ch × Ent)) : Prop where
  goal : gv st g = some (0, 0, none)
  ent : ∀ c e, gv st c = some e → c ∈ CH n ∧ 0 ≤ e.1 ∧ 0 ≤ e.2.1 ∧ Wk n pr g c e.1 ∧ (c = g ∨ ∃ s ∈ stp n, e.2.2 = some s ∧ ∃ e', gv st (mv c s.1 s.2) = some e' ∧ lle (e'.1 + wt pr s) (e'.2.1 + 1) e.1 e.2.1)
  nd : (st.map (·.1)).Nodup
structure IL (n : Nat) (pr : List (List Int)) (g : Ch) (st : List (Ch × Int)) : Prop where
  goal : gv st g = some 0
  ent : ∀ c x, gv st c = some x → c ∈ CH n ∧ 0 ≤ x ∧ Wk n pr g c x
  nd : (st.map (·.1)).Nodup
theorem ip_start (hg : g ∈ CH n) : IP n pr g [(g, (0, 0, none))] := by
  refine ⟨gv_pos rfl, fun c e h => ?_, List.nodup_cons.mpr ⟨(nomatch ·), List.nodup_nil⟩⟩
  by_cases z : g = c
  · rw [gv_pos z] at h
    cases h
    subst z
    exact ⟨hg, Int.le_refl _, Int.le_refl _, .nil, .inl rfl⟩
  · rw [gv_neg z] at h
    cases h
theorem il_start (hg : g ∈ CH n) : IL n pr g [(g, 0)] := by
  refine ⟨gv_pos rfl, fun c e h => ?_, List.nodup_cons.mpr ⟨(nomatch ·), List.nodup_nil⟩⟩
  by_cases z : g = c
  · rw [gv_pos z] at h
    cases h
    subst z
    exact ⟨hg, Int.le_refl _, .nil⟩
  · rw [gv_neg z] at h
    cases h
theorem ip_keep (P : PrOk n pr) (here : Ch) (hh : here ∈ CH n) (s : Sq) (hs : s ∈ stp n) (st : List (Ch × Ent)) (b : Bool) (I : IP n pr g st) : IP n pr g (relax (AP g) pr here (st, b) s).1 := by
  rcases relax_cases (AP g) here st b s with e | ⟨e, h1, h2, e1⟩
  · rw [e]
    exact I
  · rw [e1]
    obtain ⟨k1, o, k2, rfl⟩ := cand_some (AP g) h1
    have hne : here ≠ g := of_decide_eq_true k1
    have w := wt_nn P hs
    obtain ⟨o1, o2, o3, o4, _⟩ := I.ent _ _ k2
    have hmv : mv here s.1 s.2 ≠ here := by
      intro z
      rw [z] at k2
      unfold better at h2
      rw [k2] at h2
      have h3 := of_decide_eq_true (show decide (o.1 + wt pr s < o.1 ∨ (o.1 + wt pr s = o.1 ∧ o.2.1 + 1 < o.2.1)) = true from h2)
      omega
    refine ⟨by rw [gv_pv, if_neg (fun z => hne z.symm)]; exact I.goal, fun c e h => ?_, keys_nd I.nd⟩
    rw [gv_pv] at h
    by_cases z : c = here
    · rw [if_pos z] at h
      cases h
      subst z
      refine ⟨hh, ?_, ?_, .cons hs o4, .inr ⟨s, hs, rfl, o, by rw [gv_pv, if_neg hmv]; exact k2, .inr ⟨rfl, Int.le_refl _⟩⟩⟩
      · show 0 ≤ o.1 + wt pr s
        omega
      · show 0 ≤ o.2.1 + 1
        omega
    · rw [if_neg z] at h
      obtain ⟨q1, q2, q3, q4, q5⟩ := I.ent c e h
      refine ⟨q1, q2, q3, q4, ?_⟩
      rcases q5 with q5 | ⟨t, t1, t2, e', t3, t4⟩
      · exact .inl q5
      · refine .inr ⟨t, t1, t2, ?_⟩
        rw [gv_pv]
        by_cases y : mv c t.1 t.2 = here
        · rw [if_pos y]
          refine ⟨_, rfl, ?_⟩
          rw [y] at t3
          unfold better at h2
          rw [t3] at h2
          have h3 := of_decide_eq_true (show decide (o.1 + wt pr s < e'.1 ∨ (o.1 + wt pr s = e'.1 ∧ o.2.1 + 1 < e'.2.1)) = true from h2)
          show lle (o.1 + wt pr s + wt pr t) (o.2.1 + 1 + 1) e.1 e.2.1
          unfold lle at t4 ⊢
          omega
        · rw [if_neg y]
          exact ⟨e', t3, t4⟩
theorem il_keep (P : PrOk n pr) (here : Ch) (hh : here ∈ CH n) (s : Sq) (hs : s ∈ stp n) (st : List (Ch × Int)) (b : Bool) (I : IL n pr g st) : IL n pr g (relax AL pr here (st, b) s).1 := by
  rcases relax_cases AL here st b s with e | ⟨e, h1, h2, e1⟩
  · rw [e]
    exact I
  · rw [e1]
    obtain ⟨k1, o, k2, rfl⟩ := cand_some AL h1
    have w := wt_nn P hs
    obtain ⟨o1, o2, o3⟩ := I.ent _ _ k2
    refine ⟨?_, fun c e h => ?_, keys_nd I.nd⟩
    · rw [gv_pv]
      by_cases z : g = here
      · unfold better at h2
        rw [← z, I.goal] at h2
        have h3 := of_decide_eq_true (show decide (o + wt pr s < 0) = true from h2)
        omega
      · rw [if_neg z]
        exact I.goal
    · rw [gv_pv] at h
      by_cases z : c = here
      · rw [if_pos z] at h
        cases h
        subst z
        refine ⟨hh, ?_, .cons hs o3⟩
        show 0 ≤ o + wt pr s
        omega
      · rw [if_neg z] at h
        exact I.ent c e h
theorem ip_runs (P : PrOk n pr) (st : List (Ch × Ent)) (I : IP n pr g st) : ∃ m, Runs (AP g) n pr m st := by
  refine runs_of (AP g) n pr (fun e => (e.1.toNat, e.2.1.toNat)) (IP n pr g) (fun here hh s hs st e o J h1 h2 h3 => ?_) (ip_keep P) st I
  obtain ⟨_, o1, o2, _⟩ := J.ent _ _ h2
  obtain ⟨_, x, k2, rfl⟩ := cand_some (AP g) h1
  obtain ⟨_, x1, x2, _⟩ := J.ent _ _ k2
  have w := wt_nn P hs
  have h4 := of_decide_eq_true (show decide (x.1 + wt pr s < o.1 ∨ (x.1 + wt pr s = o.1 ∧ x.2.1 + 1 < o.2.1)) = true from h3)
  refine Prod.Lex.right _ ?_
  show Prod.Lex _ _ ((x.1 + wt pr s).toNat, (x.2.1 + 1).toNat) (o.1.toNat, o.2.1.toNat)
  rcases h4 with h4 | ⟨h4, h5⟩
  · exact Prod.Lex.left _ _ (by omega)
  · rw [h4]
    exact Prod.Lex.right _ (by omega)
theorem il_runs (P : PrOk n pr) (st : List (Ch × Int)) (I : IL n pr g st) : ∃ m, Runs AL n pr m st := by
  refine runs_of AL n pr (fun e => (e.toNat, 0)) (IL n pr g) (fun here hh s hs st e o J h1 h2 h3 => ?_) (il_keep P) st I
  obtain ⟨_, o1, _⟩ := J.ent _ _ h2
  obtain ⟨_, x, k2, rfl⟩ := cand_some AL h1
  obtain ⟨_, x1, _⟩ := J.ent _ _ k2
  have w := wt_nn P hs
  have h4 := of_decide_eq_true (show decide (x + wt pr s < o) = true from h3)
  refine Prod.Lex.right _ ?_
  show Prod.Lex _ _ ((x + wt pr s).toNat, 0) (o.toNat, 0)
  exact Prod.Lex.left _ _ (by omega)
/-- whatever holds at g and goes backwards over steps holds at every chart -/
theorem reach (hn : Sz n) (hg : g ∈ CH n) (Q : Ch → Prop) (h0 : Q g) (h1 : ∀ c ∈ CH n, ∀ s ∈ stp n, Q (mv c s.1 s.2) → Q c) : ∀ c ∈ CH n, Q c := by
  have key : ∀ k, ∀ c, (bks n g k).contains c = true → Q c := by
    intro k
    induction k with
    | zero =>
      intro c hc
      have := List.contains_iff_mem.mp hc
      rcases List.mem_singleton.mp this with rfl
      exact h0
    | succ k ih =>
      intro c hc
      have hm := List.contains_iff_mem.mp hc
      obtain ⟨a, b⟩ := List.mem_filter.mp hm
      rcases Bool.or_eq_true_iff.mp b with b | b
      · exact ih c b
      · obtain ⟨s, hs, z⟩ := List.any_eq_true.mp b
        exact h1 c a s hs (ih _ z)
  exact fun c hc => key 6 c (bks_all hn g hg c hc)
/-- prices that no step betters are below every row's -/
theorem below (hn : Sz n) (f : Ch → Int) (h0 : f g ≤ 0) (h : ∀ c ∈ CH n, ∀ s ∈ stp n, f c ≤ f (mv c s.1 s.2) + wt pr s) : ∀ c k, Wk n pr g c k → c ∈ CH n → f c ≤ k := by
  intro c k w
  induction w with
  | nil => exact fun _ => h0
  | cons hs _ ih =>
    intro hc
    have a := h _ hc _ hs
    have b := ih ((ch_facts hn).2.2.2.2.2 _ hc _ hs)
    omega
end
end Cm

set_option Elab.async false
set_option linter.all false
set_option maxRecDepth 100000
set_option maxHeartbeats 2000000
/-! what stands in the tables at the end -/
namespace Cm
structure FinP (n : Nat) (pr : List (List Int)) (g : Ch) (st : List (Ch × Ent)) : Prop where
  keys : (st.map (·.1)).Perm (CH n)
  goal : gv st g = some (0, 0, none)
  ptr : ∀ c ∈ CH n, c ≠ g → ∃ s ∈ stp n, ∃ e e', gv st c = some e ∧ e.2.2 = some s ∧ gv st (mv c s.1 s.2) = some e' ∧ e.1 = e'.1 + wt pr s ∧ e.2.1 = e'.2.1 + 1
  best : ∀ c e, gv st c = some e → c ∈ CH n ∧ 0 ≤ e.2.1 ∧ Best n pr g c e.1
structure FinL (n : Nat) (pr : List (List Int)) (g : Ch) (st : List (Ch × Int)) : Prop where
  all : ∀ c ∈ CH n, ∃ x, gv st c = some x ∧ Best n pr g c x
section
variable {n : Nat} {pr : List (List Int)} {g : Ch}
theorem all_in {α : Type} {A : Alg α} (hn : Sz n) (hg : g ∈ CH n) {st : List (Ch × α)} (hok : ∀ c, c ≠ g → A.ok c = true) (h0 : (gv st g).isSome = true) (S : Still A n pr st) : ∀ c ∈ CH n, ∃ e, gv st c = some e := by
  refine reach hn hg (fun c => ∃ e, gv st c = some e) (Option.isSome_iff_exists.mp h0) fun c hc s hs ⟨e, he⟩ => ?_
  cases z : gv st c with
  | some o => exact ⟨o, rfl⟩
  | none =>
    exfalso
    have hne : c ≠ g := by
      rintro rfl
      rw [z] at h0
      cases h0
    have c1 : cand A pr st c s = some (A.lift e s (wt pr s)) := by
      unfold cand
      rw [if_pos (hok c hne), he] <;> rfl
    have := S c hc s hs _ c1
    unfold better at this
    rw [z] at this
    cases this
theorem finP (hn : Sz n) (hg : g ∈ CH n) (P : PrOk n pr) {st : List (Ch × Ent)} (I : IP n pr g st) (S : Still (AP g) n pr st) : FinP n pr g st := by
  have ai := all_in (A := AP g) hn hg (fun c h => decide_eq_true h) (by rw [I.goal]; rfl) S
  have nb : ∀ c ∈ CH n, c ≠ g → ∀ s ∈ stp n, ∀ e e', gv st c = some e → gv st (mv c s.1 s.2) = some e' → ¬ (e'.1 + wt pr s < e.1 ∨ (e'.1 + wt pr s = e.1 ∧ e'.2.1 + 1 < e.2.1)) := by
    intro c hc hne s hs e e' h1 h2
    have c1 : cand (AP g) pr st c s = some ((AP g).lift e' s (wt pr s)) := by
      unfold cand
      rw [if_pos (show (AP g).ok c = true from decide_eq_true hne), h2] <;> rfl
    have := S c hc s hs _ c1
    unfold better at this
    rw [h1] at this
    exact of_decide_eq_false (show decide (e'.1 + wt pr s < e.1 ∨ (e'.1 + wt pr s = e.1 ∧ e'.2.1 + 1 < e.2.1)) = false from this)
  refine ⟨?_, I.goal, fun c hc hne => ?_, fun c e h => ?_⟩
  · refine (List.perm_ext_iff_of_nodup I.nd (ch_facts hn).2.2.1).mpr fun c => ⟨fun h => ?_, fun h => ?_⟩
    · cases z : gv st c with
      | none => exact absurd h (gv_none.mp z)
      | some e => exact (I.ent c e z).1
    · obtain ⟨e, he⟩ := ai c h
      exact List.mem_map.mpr ⟨_, gv_mem he, rfl⟩
  · obtain ⟨e, he⟩ := ai c hc
    rcases (I.ent c e he).2.2.2.2 with q | ⟨s, hs, q1, e', q2, q3⟩
    · exact absurd q hne
    · have := nb c hc hne s hs e e' he q2
      unfold lle at q3
      exact ⟨s, hs, e, e', he, q1, q2, by omega, by omega⟩
  · obtain ⟨q1, q2, q3, q4, _⟩ := I.ent c e h
    refine ⟨q1, q3, q4, fun k w => ?_⟩
    have := below hn (fun c => ((gv st c).map (·.1)).getD 0) (by show ((gv st g).map (·.1)).getD 0 ≤ 0; rw [I.goal]; exact Int.le_refl _) (fun d hd s hs => ?_) c k w q1
    · have e1 : ((gv st c).map (·.1)).getD 0 = e.1 := by rw [h] <;> rfl
      rw [← e1]
      exact this
    · obtain ⟨e1, he1⟩ := ai d hd
      obtain ⟨e2, he2⟩ := ai _ ((ch_facts hn).2.2.2.2.2 _ hd _ hs)
      show ((gv st d).map (·.1)).getD 0 ≤ ((gv st (mv d s.1 s.2)).map (·.1)).getD 0 + wt pr s
      rw [he1, he2]
      show e1.1 ≤ e2.1 + wt pr s
      by_cases z : d = g
      · rw [z, I.goal] at he1
        cases he1
        have a := (I.ent _ _ he2).2.1
        have b := wt_nn P hs
        show (0 : Int) ≤ _
        omega
      · have := nb d hd z s hs e1 e2 he1 he2
        omega
theorem finL (hn : Sz n) (hg : g ∈ CH n) (P : PrOk n pr) {st : List (Ch × Int)} (I : IL n pr g st) (S : Still AL n pr st) : FinL n pr g st := by
  have ai := all_in (A := AL) hn hg (fun c h => rfl) (by rw [I.goal]; rfl) S
  refine ⟨fun c hc => ?_⟩
  obtain ⟨x, hx⟩ := ai c hc
  refine ⟨x, hx, (I.ent c x hx).2.2, fun k w => ?_⟩
  have := below hn (fun c => (gv st c).getD 0) (by show (gv st g).getD 0 ≤ 0; rw [I.goal]; exact Int.le_refl _) (fun d hd s hs => ?_) c k w hc
  · have e1 : (gv st c).getD 0 = x := by rw [hx] <;> rfl
    rw [← e1]
    exact this
  · obtain ⟨e1, he1⟩ := ai d hd
    obtain ⟨e2, he2⟩ := ai _ ((ch_facts hn).2.2.2.2.2 _ hd _ hs)
    show (gv st d).getD 0 ≤ (gv st (mv d s.1 s.2)).getD 0 + wt pr s
    rw [he1, he2]
    show e1 ≤ e2 + wt pr s
    have c1 : cand AL pr st d s = some (e2 + wt pr s) := by
      unfold cand
      rw [if_pos (show AL.ok d = true from rfl), he2] <;> rfl
    have := S d hd s hs _ c1
    unfold better at this
    rw [he1] at this
    have := of_decide_eq_false (show decide (e2 + wt pr s < e1) = false from this)
    omega
theorem nd_len {β : Type} [DecidableEq β] : ∀ (l m : List β), l.Nodup → (∀ x ∈ l, x ∈ m) → l.length ≤ m.length
  | [], m, _, _ => Nat.zero_le _
  | x :: l, m, nd, h => by
    obtain ⟨n1, n2⟩ := List.nodup_cons.mp nd
    have hx := h x List.mem_cons_self
    have := nd_len l (m.erase x) n2 fun y hy => (List.mem_erase_of_ne (show y ≠ x from fun (z : y = x) => n1 (by rw [← z]; exact hy))).mpr (h y (List.mem_cons_of_mem _ hy))
    rw [List.length_erase_of_mem hx] at this
    have := List.length_pos_of_mem hx
    rw [List.length_cons]
    omega
/-- the row's length: below the number of charts -/
theorem cover (f : Ch → Option Nat) : ∀ (L : List Ch) (k : Nat), (∀ j, j ≤ k → ∃ c ∈ L, f c = some j) → k + 1 ≤ L.length := by
  intro L k h
  have h1 : (List.range (k + 1)).Nodup := List.nodup_range
  have h2 : ∀ x ∈ List.range (k + 1), x ∈ L.filterMap f := fun x hx => by
    obtain ⟨c, hc, e⟩ := h x (by have := List.mem_range.mp hx; omega)
    exact List.mem_filterMap.mpr ⟨c, hc, e⟩
  have h3 := nd_len _ _ h1 h2
  rw [List.length_range] at h3
  exact Nat.le_trans h3 (List.length_filterMap_le _ _)
theorem count_le (hn : Sz n) {st : List (Ch × Ent)} (F : FinP n pr g st) {c : Ch} {e : Ent} (h : gv st c = some e) : e.2.1 ≤ 15 := by
  have key : ∀ (k : Nat) (c : Ch) (e : Ent), gv st c = some e → e.2.1 = k → ∀ j, j ≤ k → ∃ d ∈ CH n, (gv st d).map (fun e => e.2.1.toNat) = some j := by
    intro k
    induction k with
    | zero =>
      intro c e h z j hj
      refine ⟨c, (F.best c e h).1, ?_⟩
      rw [h]
      show some e.2.1.toNat = some j
      rw [z, show j = 0 by omega] <;> rfl
    | succ k ih =>
      intro c e h z j hj
      by_cases q : j = k + 1
      · refine ⟨c, (F.best c e h).1, ?_⟩
        rw [h]
        show some e.2.1.toNat = some j
        rw [z, q] <;> rfl
      · have hne : c ≠ g := by
          rintro rfl
          rw [F.goal] at h
          cases h
          replace z : (0 : Int) = ((k + 1 : Nat) : Int) := z
          omega
        obtain ⟨s, hs, e1, e2, h1, h2, h3, h4, h5⟩ := F.ptr c (F.best c e h).1 hne
        rw [h] at h1
        cases h1
        exact ih _ e2 h3 (by omega) j (by omega)
  have p := (F.best c e h).2.1
  have := cover (fun d => (gv st d).map (fun e => e.2.1.toNat)) (CH n) e.2.1.toNat (key _ c e h (by omega))
  have := (ch_facts hn).1
  omega
end
end Cm

set_option Elab.async false
set_option linter.all false
set_option maxRecDepth 100000
set_option maxHeartbeats 2000000
/-! what stands in the heap, and what stays of it -/
namespace Cd
open PySem PySem.Spec PyProof.Rows L2 Cm
def Tb (T : List Addr) (H : Hp) : Prop := ∀ P ∈ T, GxR.TabG H P
/-- tuples stay -/
def Tp (H H' : Hp) : Prop := ∀ a xs, H a = some (.tup xs) → H' a = some (.tup xs)
theorem Tp.refl (H : Hp) : Tp H H := fun _ _ h => h
theorem Tp.trans {H H1 H2 : Hp} (a : Tp H H1) (b : Tp H1 H2) : Tp H H2 := fun p xs h => b p xs (a p xs h)
theorem Tp.upd {H H1 : Hp} {p : Addr} {o : HO} (h : Tp H H1) (n : ∀ xs, H1 p ≠ some (.tup xs)) : Tp H (upd H1 p o) := fun a xs e => by
  have e1 := h a xs e
  rw [upd_ne (show a ≠ p from fun z => n xs (z ▸ e1))]
  exact e1
structure Le (R T : List Addr) (H H' : Hp) : Prop where
  keep : ∀ a o, a ∉ R → (∀ ps, o ≠ .tbl ps) → H a = some o → H' a = some o
  tup : Tp H H'
  dom : ∀ a, H' a = none → H a = none
  tb : Tb T H → Tb T H'
section
variable {R T : List Addr} {H H1 H2 H' : Hp} {p : Addr} {o : HO}
theorem Le.refl (H : Hp) : Le R T H H := ⟨fun _ _ _ _ h => h, .refl H, fun _ h => h, fun h => h⟩
theorem Le.trans (a : Le R T H H1) (b : Le R T H1 H2) : Le R T H H2 :=
  ⟨fun x y n t h => b.keep x y n t (a.keep x y n t h), a.tup.trans b.tup, fun x h => a.dom x (b.dom x h), fun h => b.tb (a.tb h)⟩
theorem Le.weak (a : Le [] T H H1) : Le R T H H1 := ⟨fun x y _ t h => a.keep x y (nomatch ·) t h, a.tup, a.dom, a.tb⟩
/-- a new object, or a store to an object made meanwhile -/
theorem Le.new (a : Le R T H H1) (n : H p = none) : Le R T H (upd H1 p o) := by
  refine ⟨fun x y hx t h => ?_, fun x xs h => ?_, fun x h => ?_, fun h => ?_⟩
  · rw [upd_ne (show x ≠ p from ne_of_none h n)]
    exact a.keep x y hx t h
  · rw [upd_ne (show x ≠ p from ne_of_none h n)]
    exact a.tup x xs h
  · by_cases z : x = p
    · rw [z, upd_same] at h
      cases h
    · rw [upd_ne z] at h
      exact a.dom x h
  · intro P hP
    obtain ⟨ps, e, _⟩ := h P hP
    obtain ⟨qs, e2, t2⟩ := a.tb h P hP
    exact ⟨qs, by rw [upd_ne (show P ≠ p from ne_of_none e n)]; exact e2, t2⟩
theorem Le.one (n : H p = none) : Le R T H (upd H p o) := (Le.refl H).new n
/-- a store to a list that may change -/
theorem Le.row {xs ys : List V} (a : Le R T H H1) (hr : p ∈ R) (e : H1 p = some (.lst xs)) : Le R T H (upd H1 p (.lst ys)) := by
  refine ⟨fun x y hx t h => ?_, fun x zs h => ?_, fun x h => ?_, fun h => ?_⟩
  · rw [upd_ne (show x ≠ p from fun z => hx (z ▸ hr))]
    exact a.keep x y hx t h
  · have e1 := a.tup x zs h
    rw [upd_ne (show x ≠ p from fun z => by rw [z, e] at e1; cases e1)]
    exact e1
  · by_cases z : x = p
    · rw [z, upd_same] at h
      cases h
    · rw [upd_ne z] at h
      exact a.dom x h
  · intro P hP
    obtain ⟨qs, e2, t2⟩ := a.tb h P hP
    exact ⟨qs, by rw [upd_ne (show P ≠ p from fun z => by rw [z, e] at e2; cases e2)]; exact e2, t2⟩
theorem Le.tabbed {P : Addr} (h : GxR.TabG H P) (t : GxR.Tabbed P H H') : Le R T H H' := by
  obtain ⟨ps, e, _⟩ := h
  refine ⟨fun x y hx tt h => ?_, fun x xs h => ?_, fun x h => ?_, fun h Q hQ => ?_⟩
  · rw [t.2 x (fun z => by rw [z, e] at h; cases h; exact tt _ rfl)]
    exact h
  · rw [t.2 x (fun z => by rw [z, e] at h; cases h)]
    exact h
  · have n : x ≠ P := fun z => by
      obtain ⟨qs, e2, _⟩ := t.1
      rw [z, e2] at h
      cases h
    rw [← t.2 x n]
    exact h
  · by_cases z : Q = P
    · rw [z]
      exact t.1
    · obtain ⟨qs, e2, t2⟩ := h Q hQ
      exact ⟨qs, by rw [t.2 Q z]; exact e2, t2⟩
theorem Le.lst {xs : List V} (a : Le R T H H1) (hr : p ∉ R) (e : H p = some (.lst xs)) : H1 p = some (.lst xs) := a.keep p _ hr (fun _ => nofun) e
theorem Le.lst0 {xs : List V} (a : Le [] T H H1) (e : H p = some (.lst xs)) : H1 p = some (.lst xs) := a.keep p _ (nomatch ·) (fun _ => nofun) e
theorem Le.dt0 {kvs : List (List Key × V)} (a : Le [] T H H1) (e : H p = some (.dT kvs)) : H1 p = some (.dT kvs) := a.keep p _ (nomatch ·) (fun _ => nofun) e
theorem Le.dt {kvs : List (List Key × V)} (a : Le R T H H1) (hr : p ∉ R) (e : H p = some (.dT kvs)) : H1 p = some (.dT kvs) := a.keep p _ hr (fun _ => nofun) e
theorem nt_lst {xs : List V} (e : H1 p = some (.lst xs)) : ∀ ys, H1 p ≠ some (.tup ys) := fun ys z => by rw [e] at z; cases z
theorem nt_dt {kvs : List (List Key × V)} (e : H1 p = some (.dT kvs)) : ∀ ys, H1 p ≠ some (.tup ys) := fun ys z => by rw [e] at z; cases z
theorem nt_none (e : H1 p = none) : ∀ ys, H1 p ≠ some (.tup ys) := fun ys z => by rw [e] at z; cases z
theorem Tp.new (e : H p = none) : Tp H (L2.upd H p o) := (Tp.refl H).upd (nt_none e)
/-! ### tuples of ints, tuples of them, lists of them -/
def TI (H : Hp) (v : V) (c : List Int) : Prop := ∃ a, v = .ref a ∧ H a = some (.tup (c.map V.int))
def TT (H : Hp) (v : V) (pr : List (List Int)) : Prop := ∃ a xs, v = .ref a ∧ H a = some (.tup xs) ∧ Paired (TI H) xs pr
def LI (H : Hp) (v : V) (cs : List (List Int)) : Prop := ∃ a xs, v = .ref a ∧ H a = some (.lst xs) ∧ Paired (TI H) xs cs
abbrev l2 (s : Sq) : List Int := [s.1, s.2]
theorem TI.mono {v : V} {c : List Int} (t : Tp H H') (h : TI H v c) : TI H' v c := by
  obtain ⟨a, e, h⟩ := h
  exact ⟨a, e, t _ _ h⟩
theorem tis_mono {xs : List V} {cs : List (List Int)} (t : Tp H H') (h : Paired (TI H) xs cs) : Paired (TI H') xs cs := h.mono fun _ _ => TI.mono t
theorem TT.mono {v : V} {c : List (List Int)} (t : Tp H H') (h : TT H v c) : TT H' v c := by
  obtain ⟨a, xs, e, h, p⟩ := h
  exact ⟨a, xs, e, t _ _ h, tis_mono t p⟩
theorem TI.at {a : Addr} {c : List Int} (h : TI H (.ref a) c) : H a = some (.tup (c.map V.int)) := by
  obtain ⟨b, e, h⟩ := h
  cases e
  exact h
theorem LI.le0 {v : V} {cs : List (List Int)} (t : Le [] T H H') (h : LI H v cs) : LI H' v cs := by
  obtain ⟨a, xs, e, h, p⟩ := h
  exact ⟨a, xs, e, t.lst0 h, tis_mono t.tup p⟩
theorem TI.dp {K : PySem.W.Frag} {v : V} {c : List Int} (h : TI H v c) : Dp K H v (.tuple (c.map PyData.int)) := by
  obtain ⟨a, rfl, h⟩ := h
  refine .tup (SqT.of h) ?_
  clear h
  induction c with
  | nil => exact .nil
  | cons x r ih => exact .cons (.int x) ih
theorem eqv_ints : ∀ c d : List Int, PyData.eqvAll (c.map PyData.int) (d.map PyData.int) = decide (c = d)
  | [], [] => by simp [PyData.eqvAll]
  | [], _ :: _ => by simp [PyData.eqvAll]
  | _ :: _, [] => by simp [PyData.eqvAll]
  | x :: c, y :: d => by
    rw [List.map_cons, List.map_cons, PyData.eqvAll, eqv_ints c d]
    rw [Bool.eq_iff_iff]
    simp [PyData.eqv]
theorem eqv_tups (c d : List Int) : PyData.eqv (.tuple (c.map PyData.int)) (.tuple (d.map PyData.int)) = decide (c = d) := by
  rw [← eqv_ints]
  simp [PyData.eqv]
theorem lay_ints : ∀ ns : List Int, PyData.canLayAll0 (ns.map PyData.int) = true
  | [] => by simp [PyData.canLayAll0]
  | n :: r => by simp [PyData.canLayAll0, PyData.canLay0, lay_ints r]
theorem deep_ints : ∀ ns : List Int, PyData.depthAll (ns.map PyData.int) ≤ 1
  | [] => by simp [PyData.depthAll]
  | n :: r => by
    have := deep_ints r
    simp only [List.map_cons, PyData.depthAll, PyData.depth]
    omega
theorem shaped_ti (c : List Int) : SeqAt.shaped (.tuple (c.map PyData.int)) = true := by
  have h1 := deep_ints c
  have h2 : PyData.depth (.tuple (c.map PyData.int)) ≤ 64 := by simp only [PyData.depth]; omega
  show (PyData.canLay0 (.tuple (c.map PyData.int)) && decide (PyData.depth (.tuple (c.map PyData.int)) ≤ 64)) = true
  rw [Bool.and_eq_true]
  exact ⟨by simp only [PyData.canLay0]; exact lay_ints c, decide_eq_true h2⟩
end
end Cd

set_option Elab.async false
set_option linter.all false
set_option maxRecDepth 100000
set_option maxHeartbeats 2000000
/-! comes_up, stepped .. -/
namespace Cd
open PySem PySem.Spec PyProof.Rows L2 Cm
section
variable {P : Program} {w : World} {K : PySem.W.Frag} {mg : Str → Option Value} {base : Heap}
theorem scComes : FnScope ["chiefs", "person", "here", "many"] ["chiefs"] (defScope sComes) := ⟨rfl, rfl, rfl, by decide +kernel, rfl, by decide +kernel, by decide +kernel⟩
def Bd (c : List Int) : Prop := ∀ x ∈ c, 0 ≤ x ∧ x ≤ c.length
theorem at_ch {c : List Int} {h : Int} (h1 : 1 ≤ h) (h2 : h ≤ c.length) : atI (c.map V.int) (h - 1) = some (.int (c.getD (h - 1).toNat 0)) ∧ (Bd c → 0 ≤ c.getD (h - 1).toNat 0 ∧ c.getD (h - 1).toNat 0 ≤ c.length) := by
  have a : (h - 1).toNat < c.length := by omega
  have e : c.getD (h - 1).toNat 0 = c[(h - 1).toNat] := by rw [List.getD_eq_getElem?_getD, List.getElem?_eq_getElem a] <;> rfl
  constructor
  · have q : (h - 1 : Int) = ((h - 1).toNat : Nat) := by omega
    rw [e]
    have : (c.map V.int)[(h - 1).toNat]? = some (.int c[(h - 1).toNat]) := by rw [List.getElem?_map, List.getElem?_eq_getElem a] <;> rfl
    have z := atI_nat (j := (h - 1).toNat) this
    rw [← q] at z
    exact z
  · intro b
    rw [e]
    exact b _ (List.getElem_mem a)
def spComes : Sp := fun vs H Q _ => ∃ (a : Addr) (c : List Int), vs = [.ref a] ∧ H a = some (.tup (c.map V.int)) ∧ Bd c ∧ c.length ≤ 6 ∧ Q (.bl (up c)) H
theorem climb0 (c : Ch) : ∀ k, climb c k 0 = 0
  | 0 => rfl
  | _ + 1 => rfl
theorem ok_comes (B : Bl mg) (D : Df K mg "comes_up" sComes ["chiefs"]) : FnOk P w K mg base CX0 1 D.f D.fd ["chiefs"] spComes := by
  refine D.F.ok scComes (fun vs H Q E h => ?_) (fun cdv A outer s H vs Q E hr h => ?_)
  · obtain ⟨a, c, rfl, _⟩ := h
    rfl
  · obtain ⟨a, c, rfl, hT, hB, h6, q⟩ := h
    refine ⟨_, pss_cons (ps_for PassesOwn.never rfl (pi_range2 (by rfl) B.range (pa_cons pe_int (pa_cons (pe_op op_add (pe_callB call_len_seq (by rfl) B.len PySem.boot_len (pa_cons (pv 0) pa_nil)) pe_int) pa_nil)))
        (pg_name (i := 1) scComes.nd rfl (.inl rfl))
        (pss_cons (ps_par (i := 2) (j := 3) rfl scComes.nd rfl rfl (by decide) rfl rfl (pa_cons (pv 1) (pa_cons pe_int pa_nil)) (by rfl))
        (pss_cons (ps_while PassesOwn.never (PW.pt (pw_and (pt_cmpR op_ne (pv 2) pe_int (nomark _)) (pw_and1 (pt_cmpR op_le (pv 3) (pe_callB call_len_seq (by rfl) B.len PySem.boot_len (pa_cons (pv 0) pa_nil)) (nomark _)))))
          (pss_one (ps_par (i := 2) (j := 3) rfl scComes.nd rfl rfl (by decide) rfl rfl (pa_cons (pe_ix ix_tup (pv 0) (pe_op op_sub (pv 2) pe_int) (fun _ _ => rfl)) (pa_cons (pe_op op_add (pv 3) pe_int) pa_nil)) (by rfl))))
        (pss_one (ps_if (pt_cmpR op_ne (pv 2) pe_int (nomark _)) (pss_one (ps_ret pe_bl)) pss_nil)))))
      (pss_one (ps_ret pe_bl)), ?_⟩
    have hl : (c.map V.int).length = c.length := List.length_map ..
    refine ⟨.ref a, rfl, a, c.map V.int, rfl, .inr (SqT.of hT), ((c.map V.int).length : Int), 1, rfl, rfl, 1, _, rfl, ⟨by decide, by decide, by omega, by omega⟩, ?_⟩
    refine for_range (lo := 1) (n := (((c.map V.int).length : Int) + 1 - 1).toNat) (fun i σ H' => H = H' ∧ (∃ y1 y2 y3, σ = [some (.ref a), y1, y2, y3]) ∧ ∀ k : Nat, k < i → climb c (c.length + 1) ((k : Int) + 1) = 0) ⟨rfl, ⟨_, _, _, rfl⟩, fun k hk => absurd hk (Nat.not_lt_zero _)⟩ (fun i σ H' hi hP => ?_) (fun σ H' hP => ?_)
    · obtain ⟨rfl, ⟨y1, y2, y3, rfl⟩, hk⟩ := hP
      have hi' : i < c.length := by omega
      refine ⟨_, rfl, _, _, rfl, ?_⟩
      refine ⟨fun m σ2 H2 => H = H2 ∧ ∃ (h : Int) (k : Nat), σ2 = [some (.ref a), some (.int (1 + i)), some (.int h), some (.int k)] ∧ m + k = c.length + 1 ∧ 0 ≤ h ∧ h ≤ c.length ∧ climb c m h = climb c (c.length + 1) ((i : Int) + 1),
        ⟨c.length + 1, rfl, 1 + i, 0, rfl, rfl, by omega, by omega, by rw [Int.add_comm]⟩, fun m σ2 H2 hW => ?_⟩
      obtain ⟨rfl, h, k, rfl, hm, h0, hle, hc⟩ := hW
      have fin : ∀ (m : Nat), (h = 0 ∨ m = 0) → climb c m h = climb c (c.length + 1) ((i : Int) + 1) → h = climb c (c.length + 1) ((i : Int) + 1) := fun m hz e => by
        rw [← e]
        rcases hz with rfl | rfl
        · exact (climb0 c m).symm
        · rfl
      have out : h = climb c (c.length + 1) ((i : Int) + 1) → (h ≠ 0 → up c = false) ∧ (h = 0 → ∀ k : Nat, k < i + 1 → climb c (c.length + 1) ((k : Int) + 1) = 0) := fun e => by
        refine ⟨fun hz => ?_, fun hz k hk2 => ?_⟩
        · unfold up
          rw [List.all_eq_false]
          refine ⟨i, List.mem_range.mpr hi', ?_⟩
          rw [← e]
          simp [hz]
        · by_cases z : k = i
          · rw [z, ← e, hz]
          · exact hk k (by omega)
      refine ⟨_, rfl, rfl, _, rfl, ?_⟩
      by_cases z : h = 0
      · have o := out (fin m (.inl z) hc)
        subst z
        refine iteF ?_
        refine ⟨_, rfl, rfl, _, rfl, iteF ?_⟩
        exact ⟨rfl, ⟨_, _, _, rfl⟩, o.2 rfl⟩
      · rw [show (!decide (V.int h = V.int 0)) = true by simp [z]]
        refine iteT ?_
        refine ⟨_, rfl, .ref a, rfl, a, c.map V.int, rfl, .inr (SqT.of hT), _, _, rfl, rfl, _, rfl, ?_⟩
        rw [hl]
        by_cases y : k ≤ c.length
        · rw [decide_eq_true (show (k : Int) ≤ c.length by omega)]
          obtain ⟨m', rfl⟩ : ∃ m', m = m' + 1 := ⟨m - 1, by omega⟩
          have at1 := at_ch (c := c) (h := h) (by omega) hle
          have b1 := at1.2 hB
          refine iteT ⟨fun σ' H' => H = H' ∧ ∃ (h : Int) (k : Nat), σ' = [some (.ref a), some (.int (1 + i)), some (.int h), some (.int k)] ∧ m' + k = c.length + 1 ∧ 0 ≤ h ∧ h ≤ c.length ∧ climb c m' h = climb c (c.length + 1) ((i : Int) + 1),
            fun σ' H' hN => ⟨m', Nat.lt_succ_self _, hN⟩, ?_⟩
          refine ⟨.ref a, rfl, .int h, rfl, h, 1, rfl, rfl, a, c.map V.int, h - 1, _, rfl, rfl, SqT.of hT, at1.1, _, rfl, k, 1, rfl, rfl, _, _, rfl, rfl, _, k + 1, rfl, by omega, b1.1, b1.2, ?_⟩
          rw [← hc]
          show _ = (if h = 0 then 0 else _)
          rw [if_neg z]
        · rw [decide_eq_false (show ¬ (k : Int) ≤ c.length by omega)]
          have o := out (fin m (.inr (by omega)) hc)
          refine iteF ⟨_, rfl, rfl, _, rfl, ?_⟩
          rw [show (!decide (V.int h = V.int 0)) = true by simp [z]]
          refine iteT ?_
          show Q (.bl false) H
          rw [← o.1 z]
          exact q
    · obtain ⟨rfl, _, hk⟩ := hP
      show Q (.bl true) H
      have e : up c = true := by
        unfold up
        rw [List.all_eq_true]
        intro k hk2
        rw [hk k (by have := List.mem_range.mp hk2; omega)]
        rfl
      rw [← e]
      exact q
end
end Cd

set_option Elab.async false
set_option linter.all false
set_option maxRecDepth 100000
set_option maxHeartbeats 2000000
/-! stepped -/
namespace Cd
open PySem PySem.Spec PyProof.Rows L2 Cm
section
variable {P : Program} {w : World} {K : PySem.W.Frag} {mg : Str → Option Value} {base : Heap} {T : List Addr}
abbrev nStepped : List Str := ["chart", "step", "person", "chief", "old", "found", "one"]
theorem scStepped : FnScope nStepped ["chart", "step"] (defScope sStepped) := ⟨rfl, rfl, rfl, by decide +kernel, rfl, by decide +kernel, by decide +kernel⟩
def spStepped (T : List Addr) : Sp := fun vs H Q _ => ∃ (vc vs' : V) (c : List Int) (p q : Int), vs = [vc, vs'] ∧ TI H vc c ∧ TI H vs' [p, q] ∧ 1 ≤ p ∧ p ≤ c.length ∧ c.length ≤ 6 ∧ ∀ v H', Le [] T H H' → TI H' v (mv c p q) → Q v H'
theorem map_get {c : List Int} {i : Nat} {x : V} (h : (c.map V.int)[i]? = some x) : ∃ n, c[i]? = some n ∧ x = .int n := by
  rw [List.getElem?_map] at h
  cases e : c[i]? with
  | none =>
    rw [e] at h
    cases h
  | some n =>
    rw [e] at h
    cases h
    exact ⟨n, rfl, rfl⟩
theorem take_snoc {α : Type} {l : List α} {i : Nat} {x : α} (h : l[i]? = some x) : l.take (i + 1) = l.take i ++ [x] := by
  rw [List.take_add_one, h] <;> rfl
theorem ixN_of {h : Int} {n : Nat} (h1 : 1 ≤ h) (h2 : h ≤ n) : ixN n (h - 1) = some (h - 1).toNat := by
  unfold ixN
  rw [if_pos (by omega), if_pos (by omega)]
theorem ok_stepped (B : Bl mg) (D : Df K mg "stepped" sStepped ["chart", "step"]) : FnOk P w K mg base CX0 1 D.f D.fd ["chart", "step"] (spStepped T) := by
  refine D.F.ok scStepped (fun vs H Q E h => ?_) (fun cdv A outer s H vs Q E hr h => ?_)
  · obtain ⟨vc, v2, c, p, q, rfl, _⟩ := h
    rfl
  · obtain ⟨vc, v2, c, p, q, rfl, hc, hst, p1, p2, h6, k⟩ := h
    refine ⟨_, pss_cons (ps_asg (pv 1) (pg_tup rfl (pgs_cons (pg_name (i := 2) scStepped.nd rfl (.inr rfl)) (pgs_cons (pg_name (i := 3) scStepped.nd rfl (.inl rfl)) pgs_nil))))
      (pss_cons (ps_set (i := 4) scStepped.nd rfl (.inr rfl) (pe_ix ix_tup (pv 0) (pe_op op_sub (pv 2) pe_int) (fun _ _ => rfl)))
      (pss_cons (ps_setLc (i := 5) (own := [("one", 6)]) (g := gName 6) rfl scStepped.nd rfl rfl (sw_true rfl rfl rfl (by decide +kernel)) (pi_tup (pv 0)) (blkOk_by (own := [("one", 6)]) (N := nStepped) (sc := defScope sStepped) (by decide +kernel))
        (fun _ _ _ _ _ => pg_name (i := 6) scStepped.nd rfl (.inl rfl)) (fun _ _ _ _ _ => pts_nil) (fun _ _ _ _ _ => pe_ifExp (pt_cmpR op_eq (pv 6) (pv 2) (nomark _)) (pv 4) (pv 6)))
      (pss_cons (ps_asg (pv 3) (pg_sub (pv 5) (pe_op op_sub (pv 2) pe_int) set_list))
      (pss_one (ps_ret (pe_callTy call_tuple_of (by rfl) B.tuple boot_tup (pa_cons (pv 5) pa_nil))))))), ?_⟩
    obtain ⟨a, rfl, ha⟩ := hc
    obtain ⟨b, rfl, hb⟩ := hst
    have at1 := at_ch (c := c) (h := p) p1 p2
    refine ⟨.ref b, rfl, b, [.int p, .int q], rfl, SqT.of hb, rfl, .int p, [.int q], rfl, .int q, [], rfl, rfl, ?_⟩
    refine ⟨.ref a, rfl, .int p, rfl, p, 1, rfl, rfl, a, c.map V.int, p - 1, _, rfl, rfl, SqT.of ha, at1.1, ?_⟩
    refine ⟨.ref a, rfl, a, rfl, ⟨_, SqT.of ha⟩, fun d nd => ?_⟩
    refine lc_tup (xs := c.map V.int) (fun i H' => Le [] T H H' ∧ H' d = some (.lst (((c.map fun o => if o = p then c.getD (p - 1).toNat 0 else o).take i).map V.int))) ⟨Le.one nd, by rw [upd_same]; rfl⟩ (fun i H' _ hP => SqT.of (hP.1.tup _ _ ha)) (fun i x H' hx hP => ?_) (fun H' hP => ?_)
    · obtain ⟨hl, hd⟩ := hP
      obtain ⟨n, hn, rfl⟩ := map_get hx
      have tk : (c.map fun o => if o = p then c.getD (p - 1).toNat 0 else o).take (i + 1) = (c.map fun o => if o = p then c.getD (p - 1).toNat 0 else o).take i ++ [if n = p then c.getD (p - 1).toNat 0 else n] := take_snoc (by rw [List.getElem?_map, hn] <;> rfl)
      have sz : (((c.map fun o => if o = p then c.getD (p - 1).toNat 0 else o).take i).map V.int).length < sizeLine := by
        refine small1000 ?_
        rw [List.length_map, List.length_take, List.length_map]
        omega
      have fin : ∀ z, z = (if n = p then c.getD (p - 1).toNat 0 else n) → ∃ acc, H' d = some (HO.lst acc) ∧ acc.length < sizeLine ∧ Le [] T H (upd H' d (HO.lst (acc ++ [V.int z]))) ∧
          upd H' d (HO.lst (acc ++ [V.int z])) d = some (HO.lst (((c.map fun o => if o = p then c.getD (p - 1).toNat 0 else o).take (i + 1)).map V.int)) := fun z e => by
        refine ⟨_, hd, sz, hl.new nd, ?_⟩
        rw [upd_same, tk, List.map_append, e] <;> rfl
      refine ⟨rfl, _, rfl, _, rfl, rfl, _, rfl, ?_⟩
      by_cases z : n = p
      · rw [show decide (V.int n = V.int p) = true by simp [z]]
        refine iteT ⟨_, rfl, fin _ (by rw [if_pos z])⟩
      · rw [show decide (V.int n = V.int p) = false by simp [z]]
        refine iteF ⟨_, rfl, fin _ (by rw [if_neg z])⟩
    · obtain ⟨hl, hd⟩ := hP
      rw [List.length_map, List.take_of_length_le (by rw [List.length_map]; exact Nat.le_refl _)] at hd
      refine ⟨.int q, rfl, .ref d, rfl, .int p, rfl, p, 1, rfl, rfl, d, _, p - 1, (p - 1).toNat, rfl, rfl, hd, ixN_of p1 (by rw [List.length_map, List.length_map]; exact p2), ?_⟩
      refine ⟨.ref d, rfl, d, _, rfl, .inl ⟨SqL.of upd_same, fun l nl => ?_⟩⟩
      refine k _ _ ((hl.new nd).new ((hl.new nd).dom _ nl)) ⟨l, rfl, ?_⟩
      rw [upd_same]
      unfold mv
      rw [List.map_set]
end
end Cd

set_option Elab.async false
set_option linter.all false
set_option maxRecDepth 100000
set_option maxHeartbeats 2000000
/-! lists of tuples of ints -/
namespace Cd
open PySem PySem.Spec PyProof.Rows L2 Cm
section
variable {K : PySem.W.Frag} {R T : List Addr} {H H1 H2 H' : Hp} {p : Addr} {o : HO}
theorem LI.push {D : Addr} {cs : List (List Int)} {y : V} {c : List Int} (h : LI H (.ref D) cs) (t : TI H y c) (sz : cs.length < 1000) :
    ∃ acc, H D = some (.lst acc) ∧ acc.length < sizeLine ∧ LI (upd H D (.lst (acc ++ [y]))) (.ref D) (cs ++ [c]) := by
  obtain ⟨a, acc, e, h, ps⟩ := h
  cases e
  have tp : Tp H (upd H D (.lst (acc ++ [y]))) := (Tp.refl H).upd (nt_lst h)
  exact ⟨acc, h, small1000 (by rw [ps.length]; omega), D, _, rfl, upd_same, (tis_mono tp ps).snoc (t.mono tp)⟩
theorem LI.nil {D : Addr} : LI (upd H D (.lst [])) (.ref D) [] := ⟨D, [], rfl, upd_same, .nil⟩
theorem TI.new {t : Addr} {c : List Int} : TI (upd H t (.tup (c.map V.int))) (.ref t) c := ⟨t, rfl, upd_same⟩
theorem paired_app {α β : Type} {F : α → β → Prop} : ∀ {l1 l2 : List α} {m1 m2 : List β}, Paired F l1 m1 → Paired F l2 m2 → Paired F (l1 ++ l2) (m1 ++ m2)
  | _, _, _, _, .nil, h => h
  | _, _, _, _, .cons a b, h => .cons a (paired_app b h)
theorem LI.both {v u : V} {cs ds : List (List Int)} (a : LI H v cs) (b : LI H u ds) : ∃ a1 a2 xs ys, v = .ref a1 ∧ u = .ref a2 ∧ H a1 = some (.lst xs) ∧ H a2 = some (.lst ys) ∧ xs.length = cs.length ∧ ys.length = ds.length ∧
    ∀ p, H p = none → LI (upd H p (.lst (xs ++ ys))) (.ref p) (cs ++ ds) := by
  obtain ⟨a1, xs, e1, h1, p1⟩ := a
  obtain ⟨a2, ys, e2, h2, p2⟩ := b
  exact ⟨a1, a2, xs, ys, e1, e2, h1, h2, p1.length, p2.length, fun p n => ⟨p, _, rfl, upd_same, tis_mono (Tp.new n) (paired_app p1 p2)⟩⟩
end
def rowOf (n p : Nat) : List Sq := ((List.range (n + 1)).filter fun (c : Nat) => decide ((c : Int) ≠ (p : Int) + 1)).map fun (c : Nat) => ((p : Int) + 1, (c : Int))
def rowTo (n p i : Nat) : List Sq := ((List.range i).filter fun (c : Nat) => decide ((c : Int) ≠ (p : Int) + 1)).map fun (c : Nat) => ((p : Int) + 1, (c : Int))
def stpTo (n i : Nat) : List Sq := (List.range i).flatMap (rowOf n)
theorem stpTo_all (n : Nat) : stpTo n n = stp n := rfl
theorem stpTo_succ (n i : Nat) : stpTo n (i + 1) = stpTo n i ++ rowOf n i := by
  unfold stpTo
  rw [List.range_succ, List.flatMap_append]
  simp
theorem rowTo_succ (n p i : Nat) : rowTo n p (i + 1) = if (i : Int) = (p : Int) + 1 then rowTo n p i else rowTo n p i ++ [((p : Int) + 1, (i : Int))] := by
  unfold rowTo
  rw [List.range_succ, List.filter_append, List.map_append]
  by_cases h : (i : Int) = (p : Int) + 1
  · rw [if_pos h]
    simp [h]
  · rw [if_neg h]
    simp [h]
theorem rowTo_len (n p : Nat) : ∀ i, (rowTo n p i).length ≤ i
  | 0 => Nat.le_refl _
  | i + 1 => by
    have := rowTo_len n p i
    rw [rowTo_succ]
    split
    · omega
    · rw [List.length_append]
      simp
      omega
theorem stpTo_len (n : Nat) : ∀ i, (stpTo n i).length ≤ i * (n + 1)
  | 0 => Nat.zero_le _
  | i + 1 => by
    have := stpTo_len n i
    have h2 : (rowOf n i).length ≤ n + 1 := rowTo_len n i (n + 1)
    rw [stpTo_succ, List.length_append, Nat.succ_mul]
    omega
end Cd

set_option Elab.async false
set_option linter.all false
set_option maxRecDepth 100000
set_option maxHeartbeats 2000000
/-! all_steps, the law's steps -/
namespace Cd
open PySem PySem.Spec PyProof.Rows L2 Cm
section
variable {P : Program} {w : World} {K : PySem.W.Frag} {mg : Str → Option Value} {base : Heap} {T : List Addr}
def spSteps (T : List Addr) : Sp := fun vs H Q _ => ∃ n : Nat, vs = [.int n] ∧ n ≤ 6 ∧ ∀ v H', Le [] T H H' → LI H' v ((stp n).map l2) → Q v H'
abbrev nAllSteps : List Str := ["size", "found", "person", "chief"]
theorem scAllSteps : FnScope nAllSteps ["size"] (defScope sAllSteps) := ⟨rfl, rfl, rfl, by decide +kernel, rfl, by decide +kernel, by decide +kernel⟩
theorem ok_AllSteps (B : Bl mg) (D : Df K mg "all_steps" sAllSteps ["size"]) : FnOk P w K mg base CX0 1 D.f D.fd ["size"] (spSteps T) := by
  refine D.F.ok scAllSteps (fun vs H Q E h => ?_) (fun cdv A outer s H vs Q E hr h => ?_)
  · obtain ⟨n, rfl, _⟩ := h
    rfl
  · obtain ⟨n, rfl, h6, q⟩ := h
    refine ⟨_, pss_cons (ps_set (i := 1) scAllSteps.nd rfl (.inl rfl) (pe_lst pa_nil))
      (pss_cons (ps_for PassesOwn.never rfl (pi_range2 (by rfl) B.range (pa_cons pe_int (pa_cons (pe_op op_add (pv 0) pe_int) pa_nil))) (pg_name (i := 2) scAllSteps.nd rfl (.inr rfl))
        (pss_one (ps_set (i := 1) scAllSteps.nd rfl (.inl rfl) (pe_op op_cat (pv 1)
          (pe_lc (own := [("chief", 3)]) (g := gName 3) rfl scAllSteps.nd (pi_range1 (by rfl) B.range (pa_cons (pe_op op_add (pv 0) pe_int) pa_nil)) (blkOk_by (own := [("chief", 3)]) (N := nAllSteps) (sc := defScope sAllSteps) (by decide +kernel))
            (fun _ _ _ _ _ => pg_name (i := 3) scAllSteps.nd rfl (.inl rfl)) (fun _ _ _ _ _ => pts_one (pt_cmpR op_ne (pv 3) (pv 2) (nomark _))) (fun _ _ _ _ _ => pe_tup (pa_cons (pv 2) (pa_cons (pv 3) pa_nil))))))))
      (pss_one (ps_ret (pv 1)))), ?_⟩
    refine ⟨Nat.zero_le _, fun o no => ?_⟩
    refine ⟨.int n, rfl, n, 1, rfl, rfl, 1, _, rfl, ⟨by decide, by decide, by omega, by omega⟩, ?_⟩
    refine for_range (lo := 1) (n := ((n : Int) + 1 - 1).toNat) (fun i σ H' => Le [] T H H' ∧ ∃ vf y2 y3, σ = [some (.int n), some vf, y2, y3] ∧ LI H' vf ((stpTo n i).map l2)) ⟨Le.one no, _, _, _, rfl, LI.nil⟩ (fun i σ H' hi hP => ?_) (fun σ H' hP => ?_)
    · obtain ⟨hl, vf, y2, y3, rfl, hf⟩ := hP
      have hi' : i < n := by omega
      refine ⟨vf, rfl, .int n, rfl, n, 1, rfl, rfl, _, rfl, by omega, by omega, fun d nd => ?_⟩
      refine lc_range (lo := 0) (n := ((n : Int) + 1).toNat) (fun j H2 => Le [] T H' H2 ∧ LI H2 (.ref d) ((rowTo n i j).map l2)) ⟨Le.one nd, LI.nil⟩ (fun j H2 hj hP => ?_) (fun H2 hP => ?_)
      · obtain ⟨hl2, hd⟩ := hP
        have len := rowTo_len n i j
        refine ⟨rfl, _, rfl, _, rfl, rfl, _, rfl, ?_⟩
        by_cases z : (j : Int) = (i : Int) + 1
        · rw [show (!decide (V.int (0 + (j : Int)) = V.int (1 + (i : Int)))) = false by simp; omega]
          refine ⟨hl2, ?_⟩
          rw [rowTo_succ, if_pos z]
          exact hd
        · rw [show (!decide (V.int (0 + (j : Int)) = V.int (1 + (i : Int)))) = true by simp; omega]
          refine ⟨_, rfl, _, rfl, by show 2 ≤ sizeLine; decide, fun t nt => ?_⟩
          have hd1 : LI (upd H2 t (.tup [.int (1 + (i : Int)), .int (0 + (j : Int))])) (.ref d) ((rowTo n i j).map l2) := hd.le0 (T := T) (Le.one nt)
          have ht : TI (upd H2 t (.tup [.int (1 + (i : Int)), .int (0 + (j : Int))])) (.ref t) (l2 ((i : Int) + 1, (j : Int))) := ⟨t, rfl, by rw [upd_same, Int.add_comm 1, Int.zero_add] <;> rfl⟩
          obtain ⟨acc, e1, e2, e3⟩ := hd1.push ht (by rw [List.length_map]; omega)
          refine ⟨acc, e1, e2, (hl2.new (hl2.dom _ nt)).new nd, ?_⟩
          rw [rowTo_succ, if_neg z, List.map_append]
          exact e3
      · obtain ⟨hl2, hd⟩ := hP
        rw [show ((n : Int) + 1).toNat = n + 1 by omega] at hd
        obtain ⟨a1, a2, xs, ys, rfl, e2, h1, h2, z1, z2, hc⟩ := (hf.le0 hl2).both hd
        have l1 := stpTo_len n i
        have l3 := rowTo_len n i (n + 1)
        have b1 : i * (n + 1) ≤ 6 * 7 := Nat.mul_le_mul (by omega) (by omega)
        rw [List.length_map] at z1 z2
        refine ⟨a1, a2, xs, ys, rfl, e2, h1, h2, Nat.le_of_lt (small1000 (by omega)), fun p np => ?_⟩
        refine ⟨(hl.trans hl2).new (((hl.trans hl2)).dom _ np), _, _, _, rfl, ?_⟩
        rw [stpTo_succ, List.map_append]
        exact hc p np
    · obtain ⟨hl, vf, y2, y3, rfl, hf⟩ := hP
      rw [show ((n : Int) + 1 - 1).toNat = n by omega] at hf
      exact ⟨_, rfl, q _ _ hl hf⟩
abbrev nLSteps : List Str := ["_law_size", "_law_found", "_law_person", "_law_chief"]
theorem scLSteps : FnScope nLSteps ["_law_size"] (defScope sLSteps) := ⟨rfl, rfl, rfl, by decide +kernel, rfl, by decide +kernel, by decide +kernel⟩
theorem ok_LSteps (B : Bl mg) (D : Df K mg "_law_steps" sLSteps ["_law_size"]) : FnOk P w K mg base CX0 1 D.f D.fd ["_law_size"] (spSteps T) := by
  refine D.F.ok scLSteps (fun vs H Q E h => ?_) (fun cdv A outer s H vs Q E hr h => ?_)
  · obtain ⟨n, rfl, _⟩ := h
    rfl
  · obtain ⟨n, rfl, h6, q⟩ := h
    refine ⟨_, pss_cons (ps_set (i := 1) scLSteps.nd rfl (.inl rfl) (pe_lst pa_nil))
      (pss_cons (ps_for PassesOwn.never rfl (pi_range2 (by rfl) B.range (pa_cons pe_int (pa_cons (pe_op op_add (pv 0) pe_int) pa_nil))) (pg_name (i := 2) scLSteps.nd rfl (.inr rfl))
        (pss_one (ps_set (i := 1) scLSteps.nd rfl (.inl rfl) (pe_op op_cat (pv 1)
          (pe_lc (own := [("_law_chief", 3)]) (g := gName 3) rfl scLSteps.nd (pi_range1 (by rfl) B.range (pa_cons (pe_op op_add (pv 0) pe_int) pa_nil)) (blkOk_by (own := [("_law_chief", 3)]) (N := nLSteps) (sc := defScope sLSteps) (by decide +kernel))
            (fun _ _ _ _ _ => pg_name (i := 3) scLSteps.nd rfl (.inl rfl)) (fun _ _ _ _ _ => pts_one (pt_cmpR op_ne (pv 3) (pv 2) (nomark _))) (fun _ _ _ _ _ => pe_tup (pa_cons (pv 2) (pa_cons (pv 3) pa_nil))))))))
      (pss_one (ps_ret (pv 1)))), ?_⟩
    refine ⟨Nat.zero_le _, fun o no => ?_⟩
    refine ⟨.int n, rfl, n, 1, rfl, rfl, 1, _, rfl, ⟨by decide, by decide, by omega, by omega⟩, ?_⟩
    refine for_range (lo := 1) (n := ((n : Int) + 1 - 1).toNat) (fun i σ H' => Le [] T H H' ∧ ∃ vf y2 y3, σ = [some (.int n), some vf, y2, y3] ∧ LI H' vf ((stpTo n i).map l2)) ⟨Le.one no, _, _, _, rfl, LI.nil⟩ (fun i σ H' hi hP => ?_) (fun σ H' hP => ?_)
    · obtain ⟨hl, vf, y2, y3, rfl, hf⟩ := hP
      have hi' : i < n := by omega
      refine ⟨vf, rfl, .int n, rfl, n, 1, rfl, rfl, _, rfl, by omega, by omega, fun d nd => ?_⟩
      refine lc_range (lo := 0) (n := ((n : Int) + 1).toNat) (fun j H2 => Le [] T H' H2 ∧ LI H2 (.ref d) ((rowTo n i j).map l2)) ⟨Le.one nd, LI.nil⟩ (fun j H2 hj hP => ?_) (fun H2 hP => ?_)
      · obtain ⟨hl2, hd⟩ := hP
        have len := rowTo_len n i j
        refine ⟨rfl, _, rfl, _, rfl, rfl, _, rfl, ?_⟩
        by_cases z : (j : Int) = (i : Int) + 1
        · rw [show (!decide (V.int (0 + (j : Int)) = V.int (1 + (i : Int)))) = false by simp; omega]
          refine ⟨hl2, ?_⟩
          rw [rowTo_succ, if_pos z]
          exact hd
        · rw [show (!decide (V.int (0 + (j : Int)) = V.int (1 + (i : Int)))) = true by simp; omega]
          refine ⟨_, rfl, _, rfl, by show 2 ≤ sizeLine; decide, fun t nt => ?_⟩
          have hd1 : LI (upd H2 t (.tup [.int (1 + (i : Int)), .int (0 + (j : Int))])) (.ref d) ((rowTo n i j).map l2) := hd.le0 (T := T) (Le.one nt)
          have ht : TI (upd H2 t (.tup [.int (1 + (i : Int)), .int (0 + (j : Int))])) (.ref t) (l2 ((i : Int) + 1, (j : Int))) := ⟨t, rfl, by rw [upd_same, Int.add_comm 1, Int.zero_add] <;> rfl⟩
          obtain ⟨acc, e1, e2, e3⟩ := hd1.push ht (by rw [List.length_map]; omega)
          refine ⟨acc, e1, e2, (hl2.new (hl2.dom _ nt)).new nd, ?_⟩
          rw [rowTo_succ, if_neg z, List.map_append]
          exact e3
      · obtain ⟨hl2, hd⟩ := hP
        rw [show ((n : Int) + 1).toNat = n + 1 by omega] at hd
        obtain ⟨a1, a2, xs, ys, rfl, e2, h1, h2, z1, z2, hc⟩ := (hf.le0 hl2).both hd
        have l1 := stpTo_len n i
        have l3 := rowTo_len n i (n + 1)
        have b1 : i * (n + 1) ≤ 6 * 7 := Nat.mul_le_mul (by omega) (by omega)
        rw [List.length_map] at z1 z2
        refine ⟨a1, a2, xs, ys, rfl, e2, h1, h2, Nat.le_of_lt (small1000 (by omega)), fun p np => ?_⟩
        refine ⟨(hl.trans hl2).new (((hl.trans hl2)).dom _ np), _, _, _, rfl, ?_⟩
        rw [stpTo_succ, List.map_append]
        exact hc p np
    · obtain ⟨hl, vf, y2, y3, rfl, hf⟩ := hP
      rw [show ((n : Int) + 1 - 1).toNat = n by omega] at hf
      exact ⟨_, rfl, q _ _ hl hf⟩
end
end Cd

set_option Elab.async false
set_option linter.all false
set_option maxRecDepth 100000
set_option maxHeartbeats 2000000
/-! the law's is_chart -/
namespace Cd
open PySem PySem.Spec PyProof.Rows L2 Cm
section
variable {P : Program} {w : World} {K : PySem.W.Frag} {mg : Str → Option Value} {base : Heap} {T : List Addr}
theorem scLIs : FnScope ["_law_value", "_law_person", "_law_here", "_law_turn"] ["_law_value"] (defScope sLIsChart) := ⟨rfl, rfl, rfl, by decide +kernel, rfl, by decide +kernel, by decide +kernel⟩
def spLIs : Sp := fun vs H Q _ => ∃ (a : Addr) (c : List Int), vs = [.ref a] ∧ H a = some (.tup (c.map V.int)) ∧ Bd c ∧ c.length ≤ 6 ∧ Q (.bl (lup c)) H
theorem ok_LIs (B : Bl mg) (D : Df K mg "_law_is_chart" sLIsChart ["_law_value"]) : FnOk P w K mg base CX0 1 D.f D.fd ["_law_value"] spLIs := by
  refine D.F.ok scLIs (fun vs H Q E h => ?_) (fun cdv A outer s H vs Q E hr h => ?_)
  · obtain ⟨a, c, rfl, _⟩ := h
    rfl
  · obtain ⟨a, c, rfl, hT, hB, h6, q⟩ := h
    refine ⟨_, pss_cons (ps_for PassesOwn.never rfl (pi_range2 (by rfl) B.range (pa_cons pe_int (pa_cons (pe_op op_add (pe_callB call_len_seq (by rfl) B.len PySem.boot_len (pa_cons (pv 0) pa_nil)) pe_int) pa_nil)))
        (pg_name (i := 1) scLIs.nd rfl (.inl rfl))
        (pss_cons (ps_set (i := 2) scLIs.nd rfl (.inl rfl) (pv 1))
        (pss_cons (ps_for PassesOwn.never rfl (pi_range1 (by rfl) B.range (pa_cons (pe_callB call_len_seq (by rfl) B.len PySem.boot_len (pa_cons (pv 0) pa_nil)) pa_nil)) (pg_name (i := 3) scLIs.nd rfl (.inl rfl))
          (pss_one (ps_set (i := 2) scLIs.nd rfl (.inl rfl) (pe_ifExp (pt_cmpR op_ne (pv 2) pe_int (nomark _)) (pe_ix ix_tup (pv 0) (pe_op op_sub (pv 2) pe_int) (fun _ _ => rfl)) pe_int))))
        (pss_one (ps_if (pt_cmpR op_ne (pv 2) pe_int (nomark _)) (pss_one (ps_ret pe_bl)) pss_nil)))))
      (pss_one (ps_ret pe_bl)), ?_⟩
    have hl : (c.map V.int).length = c.length := List.length_map ..
    refine ⟨.ref a, rfl, a, c.map V.int, rfl, .inr (SqT.of hT), ((c.map V.int).length : Int), 1, rfl, rfl, 1, _, rfl, ⟨by decide, by decide, by omega, by omega⟩, ?_⟩
    refine for_range (lo := 1) (n := (((c.map V.int).length : Int) + 1 - 1).toNat) (fun i σ H' => H = H' ∧ (∃ y1 y2 y3, σ = [some (.ref a), y1, y2, y3]) ∧ ∀ k : Nat, k < i → climb c c.length ((k : Int) + 1) = 0) ⟨rfl, ⟨_, _, _, rfl⟩, fun k hk => absurd hk (Nat.not_lt_zero _)⟩ (fun i σ H' hi hP => ?_) (fun σ H' hP => ?_)
    · obtain ⟨rfl, ⟨y1, y2, y3, rfl⟩, hk⟩ := hP
      have hi' : i < c.length := by omega
      refine ⟨_, rfl, .ref a, rfl, a, c.map V.int, rfl, .inr (SqT.of hT), _, rfl, by omega, by omega, ?_⟩
      refine for_range (lo := 0) (n := (((c.map V.int).length : Nat) : Int).toNat) (fun m σ2 H2 => H = H2 ∧ ∃ (h : Int) (y : Option V), σ2 = [some (.ref a), some (.int (1 + i)), some (.int h), y] ∧ 0 ≤ h ∧ h ≤ c.length ∧ climb c (c.length - m) h = climb c c.length ((i : Int) + 1))
        ⟨rfl, 1 + i, _, rfl, by omega, by omega, by rw [Int.add_comm] <;> rfl⟩ (fun m σ2 H2 hm hP => ?_) (fun σ2 H2 hP => ?_)
      · obtain ⟨rfl, h, y, rfl, h0, hle, hc⟩ := hP
        obtain ⟨j, hj⟩ : ∃ j, c.length - m = j + 1 := ⟨c.length - m - 1, by omega⟩
        have hj2 : c.length - (m + 1) = j := by omega
        refine ⟨_, rfl, rfl, _, rfl, ?_⟩
        by_cases z : h = 0
        · subst z
          refine ⟨rfl, 0, _, rfl, by omega, by omega, ?_⟩
          rw [hj, climb0] at hc
          rw [climb0]
          exact hc
        · rw [show (!decide (V.int h = V.int 0)) = true by simp [z]]
          have at1 := at_ch (c := c) (h := h) (by omega) hle
          have b1 := at1.2 hB
          refine ⟨.ref a, rfl, .int h, rfl, h, 1, rfl, rfl, a, c.map V.int, h - 1, _, rfl, rfl, SqT.of hT, at1.1, rfl, _, _, rfl, b1.1, b1.2, ?_⟩
          rw [hj2, ← hc, hj]
          show _ = (if h = 0 then 0 else _)
          rw [if_neg z]
      · obtain ⟨rfl, h, y, rfl, h0, hle, hc⟩ := hP
        have e0 : c.length - (((c.map V.int).length : Nat) : Int).toNat = 0 := by omega
        rw [e0] at hc
        replace hc : h = climb c c.length ((i : Int) + 1) := hc
        refine ⟨_, rfl, rfl, _, rfl, ?_⟩
        by_cases z : h = 0
        · subst z
          refine ⟨rfl, ⟨_, _, _, rfl⟩, fun k hk2 => ?_⟩
          by_cases y : k = i
          · rw [y, ← hc]
          · exact hk k (by omega)
        · rw [show (!decide (V.int h = V.int 0)) = true by simp [z]]
          show Q (.bl false) H
          have e : lup c = false := by
            unfold lup
            rw [List.all_eq_false]
            refine ⟨i, List.mem_range.mpr hi', ?_⟩
            rw [← hc]
            simp [z]
          rw [← e]
          exact q
    · obtain ⟨rfl, _, hk⟩ := hP
      show Q (.bl true) H
      have e : lup c = true := by
        unfold lup
        rw [List.all_eq_true]
        intro k hk2
        rw [hk k (by have := List.mem_range.mp hk2; omega)]
        rfl
      rw [← e]
      exact q
end
end Cd

set_option Elab.async false
set_option linter.all false
set_option maxRecDepth 100000
set_option maxHeartbeats 2000000
/-! all_charts, the law's charts -/
namespace Cd
open PySem PySem.Spec PyProof.Rows L2 Cm
def ext (n : Nat) (c : Ch) : List Ch := (List.range (n + 1)).map fun (x : Nat) => c ++ [(x : Int)]
def extTo (n i : Nat) (c : Ch) : List Ch := (List.range i).map fun (x : Nat) => c ++ [(x : Int)]
def growTo (n i j : Nat) : List Ch := ((grow n i).take j).flatMap (ext n)
theorem growTo_all (n i : Nat) : growTo n i (grow n i).length = grow n (i + 1) := by
  unfold growTo
  rw [List.take_length] <;> rfl
theorem growTo_succ {n i j : Nat} {c : Ch} (h : (grow n i)[j]? = some c) : growTo n i (j + 1) = growTo n i j ++ ext n c := by
  unfold growTo
  rw [List.take_add_one, h, List.flatMap_append]
  simp
theorem extTo_succ (n i : Nat) (c : Ch) : extTo n (i + 1) c = extTo n i c ++ [c ++ [(i : Int)]] := by
  unfold extTo
  rw [List.range_succ, List.map_append]
  rfl
theorem extTo_len (n i : Nat) (c : Ch) : (extTo n i c).length = i := by
  unfold extTo
  rw [List.length_map, List.length_range]
theorem growTo_len (n i : Nat) : ∀ j, (growTo n i j).length ≤ j * (n + 1)
  | 0 => Nat.zero_le _
  | j + 1 => by
    have := growTo_len n i j
    cases h : (grow n i)[j]? with
    | none =>
      have e : growTo n i (j + 1) = growTo n i j := by
        unfold growTo
        rw [List.take_add_one, h]
        simp
      rw [e, Nat.succ_mul]
      omega
    | some c =>
      rw [growTo_succ h, List.length_append, Nat.succ_mul, show (ext n c).length = n + 1 from extTo_len n (n + 1) c]
      omega
theorem filter_take {α : Type} {f : α → Bool} {l : List α} {i : Nat} {x : α} (h : l[i]? = some x) : (l.take (i + 1)).filter f = if f x = true then (l.take i).filter f ++ [x] else (l.take i).filter f := by
  rw [take_snoc h, List.filter_append]
  by_cases z : f x = true
  · rw [if_pos z]
    simp [z]
  · rw [if_neg z]
    simp [z]
section
variable {P : Program} {w : World} {K : PySem.W.Frag} {mg : Str → Option Value} {base : Heap} {T : List Addr}
def spCharts (T : List Addr) : Sp := fun vs H Q _ => ∃ n : Nat, vs = [.int n] ∧ Sz n ∧ ∀ v H', Le [] T H H' → LI H' v (CH n) → Q v H'
abbrev nAllCharts : List Str := ["size", "found", "person", "more", "chiefs", "chief"]
theorem scAllCharts : FnScope nAllCharts ["size"] (defScope sAllCharts) := ⟨rfl, rfl, rfl, by decide +kernel, rfl, by decide +kernel, by decide +kernel⟩
theorem ok_AllCharts (B : Bl mg) (DC : Df K mg "comes_up" sComes ["chiefs"]) (D : Df K mg "all_charts" sAllCharts ["size"]) : FnOk P w K mg base CX0 2 D.f D.fd ["size"] (spCharts T) := by
  have GC : FnOk P w K mg base CX0 1 DC.f DC.fd ["chiefs"] spComes := ok_comes B DC
  refine D.F.ok scAllCharts (fun vs H Q E h => ?_) (fun cdv A outer s H vs Q E hr h => ?_)
  · obtain ⟨n, rfl, _⟩ := h
    rfl
  · obtain ⟨n, rfl, hn, q⟩ := h
    have n3 : n ≤ 3 := by rcases hn with rfl | rfl | rfl <;> decide
    refine ⟨_, pss_cons (ps_set (i := 1) scAllCharts.nd rfl (.inl rfl) (pe_lst (pa_cons (pe_tup pa_nil) pa_nil)))
      (pss_cons (ps_for PassesOwn.never rfl (pi_range1 (by rfl) B.range (pa_cons (pv 0) pa_nil)) (pg_name (i := 2) scAllCharts.nd rfl (.inl rfl))
        (pss_cons (ps_set (i := 3) scAllCharts.nd rfl (.inl rfl) (pe_lst pa_nil))
        (pss_cons (ps_for PassesOwn.never rfl (pi_list (pv 1)) (pg_name (i := 4) scAllCharts.nd rfl (.inr rfl))
          (pss_one (ps_set (i := 3) scAllCharts.nd rfl (.inl rfl) (pe_op op_cat (pv 3)
            (pe_lc (own := [("chief", 5)]) (g := gName 5) rfl scAllCharts.nd (pi_range1 (by rfl) B.range (pa_cons (pe_op op_add (pv 0) pe_int) pa_nil)) (blkOk_by (own := [("chief", 5)]) (N := nAllCharts) (sc := defScope sAllCharts) (by decide +kernel))
              (fun _ _ _ _ _ => pg_name (i := 5) scAllCharts.nd rfl (.inl rfl)) (fun _ _ _ _ _ => pts_nil) (fun _ _ _ _ _ => pe_tup (show PA _ _ (StX.tStar K (tVar 4) (tCons (tVar 5) tNil)) from StX.pa_star (pv 4) (pa_cons (pv 5) pa_nil))))))))
        (pss_one (ps_set (i := 1) scAllCharts.nd rfl (.inl rfl) (pv 3))))))
      (pss_one (ps_ret (pe_lc (own := [("chiefs", 4)]) (g := gName 4) rfl scAllCharts.nd (pi_list (pv 1)) (blkOk_by (own := [("chiefs", 4)]) (N := nAllCharts) (sc := defScope sAllCharts) (by decide +kernel))
              (fun _ _ _ _ _ => pg_name (i := 4) scAllCharts.nd rfl (.inl rfl)) (fun _ _ _ _ _ => pts_one (pt_val (pe_call GC hr (by rfl) DC.g DC.F.kp DC.b .nil pass0 (pa_cons (pv 4) pa_nil)))) (fun _ _ _ _ _ => pv 4))))), ?_⟩
    refine ⟨by show 0 ≤ sizeLine; decide, fun t nt => ⟨by show 1 ≤ sizeLine; decide, fun o no => ?_⟩⟩
    have l0 : Le [] T H (upd (upd H t (.tup [])) o (.lst [.ref t])) := (Le.one nt).trans (Le.one no)
    have li0 : LI (upd (upd H t (.tup [])) o (.lst [.ref t])) (.ref o) (grow n 0) := ⟨o, _, rfl, upd_same, .cons ((show TI (upd H t (.tup [])) (.ref t) [] from ⟨t, rfl, upd_same⟩).mono (Tp.new no)) .nil⟩
    refine ⟨_, rfl, n, rfl, by omega, by omega, ?_⟩
    refine for_range (lo := 0) (n := (n : Int).toNat) (fun i σ H' => Le [] T H H' ∧ ∃ vf y2 y3 y4 y5, σ = [some (.int n), some vf, y2, y3, y4, y5] ∧ LI H' vf (grow n i)) ⟨l0, _, _, _, _, _, rfl, li0⟩ (fun i σ H1 hi hP => ?_) (fun σ H1 hP => ?_)
    · obtain ⟨hl, vf, y2, y3, y4, y5, rfl, hf⟩ := hP
      have hi' : i < n := by omega
      have gl := grow_len n hn i (by omega)
      refine ⟨by show 0 ≤ sizeLine; decide, fun m nm => ?_⟩
      have hf2 : LI (upd H1 m (.lst [])) vf (grow n i) := hf.le0 (T := T) (Le.one nm)
      have hl2 : Le [] T H (upd H1 m (.lst [])) := hl.trans (Le.one nm)
      obtain ⟨fa, xs, rfl, hfa, hxs⟩ := hf2
      have hlen := hxs.length
      refine ⟨_, rfl, fa, rfl, ⟨xs, SqL.of hfa⟩, ?_⟩
      refine for_list (K := K) (a := fa) (xs := xs) (fun j σ H2 => Le [] T (upd H1 m (.lst [])) H2 ∧ ∃ vm y4 y5, σ = [some (.int n), some (.ref fa), some (.int (0 + i)), some vm, y4, y5] ∧ LI H2 vm (growTo n i j)) ⟨Le.refl _, _, _, _, rfl, LI.nil⟩ (fun j σ H2 _ hP => SqL.of (hP.1.lst0 hfa)) (fun j x σ H2 hx hP => ?_) (fun σ H2 hP => ?_)
      · obtain ⟨hl3, vm, y4, y5, rfl, hm⟩ := hP
        obtain ⟨c, hc, hxc⟩ := paired_at hxs hx
        have hj : j < xs.length := (List.getElem?_eq_some_iff.mp hx).1
        obtain ⟨ca, rfl, hca⟩ := hxc.mono hl3.tup
        refine ⟨vm, rfl, .int n, rfl, n, 1, rfl, rfl, _, rfl, by omega, by omega, fun d nd => ?_⟩
        refine lc_range (lo := 0) (n := ((n : Int) + 1).toNat) (fun k H3 => Le [] T H2 H3 ∧ LI H3 (.ref d) (extTo n k c)) ⟨Le.one nd, LI.nil⟩ (fun k H3 hk hP => ?_) (fun H3 hP => ?_)
        · obtain ⟨hl4, hd⟩ := hP
          have len := extTo_len n k c
          have hca3 := hl4.tup _ _ hca
          have stay : ∀ t, H3 t = none → Le [] T H2 (upd H3 t (.tup ((c ++ [(k : Int)]).map V.int))) ∧ ∃ acc, upd H3 t (.tup ((c ++ [(k : Int)]).map V.int)) d = some (HO.lst acc) ∧ acc.length < sizeLine ∧
              Le [] T H2 (upd (upd H3 t (.tup ((c ++ [(k : Int)]).map V.int))) d (.lst (acc ++ [.ref t]))) ∧ LI (upd (upd H3 t (.tup ((c ++ [(k : Int)]).map V.int))) d (.lst (acc ++ [.ref t]))) (.ref d) (extTo n (k + 1) c) := fun t nt => by
            have hd1 := hd.le0 (T := T) (Le.one (o := .tup ((c ++ [(k : Int)]).map V.int)) nt)
            obtain ⟨acc, e1, e2, e3⟩ := hd1.push (c := c ++ [(k : Int)]) ⟨t, rfl, upd_same⟩ (by omega)
            refine ⟨hl4.new (hl4.dom _ nt), acc, e1, e2, (hl4.new (hl4.dom _ nt)).new nd, ?_⟩
            rw [extTo_succ]
            exact e3
          refine ⟨rfl, .ref ca, rfl, ca, c.map V.int, rfl, .inl (SqT.of hca3), _, rfl, by rw [List.length_append, List.length_map]; have := (grow_facts n i c (List.mem_of_getElem? hc)).1; exact Nat.le_of_lt (small1000 (by simp; omega)), fun t nt => ?_⟩
          have z := (stay t nt).2
          rw [List.map_append] at z
          rw [Int.zero_add]
          exact z
        · obtain ⟨hl4, hd⟩ := hP
          rw [show ((n : Int) + 1).toNat = n + 1 by omega] at hd
          obtain ⟨a1, a2, us, ys, rfl, e2, h1, h2, z1, z2, hcat⟩ := (hm.le0 hl4).both hd
          have l1 := growTo_len n i j
          have l3 := extTo_len n (n + 1) c
          have b1 : j * (n + 1) ≤ 64 * 4 := Nat.mul_le_mul (by omega) (by omega)
          refine ⟨a1, a2, us, ys, rfl, e2, h1, h2, Nat.le_of_lt (small1000 (by omega)), fun p np => ?_⟩
          refine ⟨(hl3.trans hl4).new ((hl3.trans hl4).dom _ np), _, _, _, rfl, ?_⟩
          rw [growTo_succ hc]
          exact hcat p np
      · obtain ⟨hl3, vm, y4, y5, rfl, hm⟩ := hP
        rw [hlen, growTo_all] at hm
        exact ⟨_, rfl, hl2.trans hl3, _, _, _, _, _, rfl, hm⟩
    · obtain ⟨hl, vf, y2, y3, y4, y5, rfl, hf⟩ := hP
      rw [show (n : Int).toNat = n by omega] at hf
      obtain ⟨fa, xs, rfl, hfa, hxs⟩ := hf
      have hlen := hxs.length
      have gl := grow_len n hn n (Nat.le_refl _)
      refine ⟨_, rfl, fa, rfl, ⟨xs, SqL.of hfa⟩, fun d nd => ?_⟩
      refine lc_list (K := K) (a := fa) (xs := xs) (fun j H2 => Le [] T H1 H2 ∧ LI H2 (.ref d) (((grow n n).take j).filter up)) ⟨Le.one nd, LI.nil⟩ (fun j H2 _ hP => SqL.of (hP.1.lst0 hfa)) (fun j x H2 hx hP => ?_) (fun H2 hP => ?_)
      · obtain ⟨hl3, hd⟩ := hP
        obtain ⟨c, hc, hxc⟩ := paired_at hxs hx
        obtain ⟨ca, rfl, hca⟩ := hxc.mono hl3.tup
        have hmem := List.mem_of_getElem? hc
        obtain ⟨c1, c2⟩ := grow_facts n n c hmem
        refine ⟨rfl, _, rfl, ca, c, rfl, hca, fun x hx => ?_, by omega, ?_⟩
        · rw [c1]
          exact c2 x hx
        · have hj : j < (grow n n).length := (List.getElem?_eq_some_iff.mp hc).1
          have sz : (((grow n n).take j).filter up).length < 1000 := by
            refine Nat.lt_of_le_of_lt (List.length_filter_le _ _) ?_
            rw [List.length_take]
            omega
          rw [filter_take hc]
          refine ⟨_, rfl, ?_⟩
          cases z : up c with
          | true =>
            obtain ⟨acc, e1, e2, e3⟩ := hd.push (y := .ref ca) (c := c) ⟨ca, rfl, hca⟩ sz
            exact ⟨_, rfl, acc, e1, e2, hl3.new nd, e3⟩
          | false => exact ⟨hl3, hd⟩
      · obtain ⟨hl3, hd⟩ := hP
        rw [hlen, List.take_length] at hd
        refine q _ _ (hl.trans hl3) ?_
        exact hd
abbrev nLCharts : List Str := ["_law_size", "_law_found", "_law_person", "_law_more", "_law_one", "_law_chief"]
theorem scLCharts : FnScope nLCharts ["_law_size"] (defScope sLCharts) := ⟨rfl, rfl, rfl, by decide +kernel, rfl, by decide +kernel, by decide +kernel⟩
theorem ok_LCharts (B : Bl mg) (DC : Df K mg "_law_is_chart" sLIsChart ["_law_value"]) (D : Df K mg "_law_charts" sLCharts ["_law_size"]) : FnOk P w K mg base CX0 2 D.f D.fd ["_law_size"] (spCharts T) := by
  have GC : FnOk P w K mg base CX0 1 DC.f DC.fd ["_law_value"] spLIs := ok_LIs B DC
  refine D.F.ok scLCharts (fun vs H Q E h => ?_) (fun cdv A outer s H vs Q E hr h => ?_)
  · obtain ⟨n, rfl, _⟩ := h
    rfl
  · obtain ⟨n, rfl, hn, q⟩ := h
    have n3 : n ≤ 3 := by rcases hn with rfl | rfl | rfl <;> decide
    refine ⟨_, pss_cons (ps_set (i := 1) scLCharts.nd rfl (.inl rfl) (pe_lst (pa_cons (pe_tup pa_nil) pa_nil)))
      (pss_cons (ps_for PassesOwn.never rfl (pi_range1 (by rfl) B.range (pa_cons (pv 0) pa_nil)) (pg_name (i := 2) scLCharts.nd rfl (.inl rfl))
        (pss_cons (ps_set (i := 3) scLCharts.nd rfl (.inl rfl) (pe_lst pa_nil))
        (pss_cons (ps_for PassesOwn.never rfl (pi_list (pv 1)) (pg_name (i := 4) scLCharts.nd rfl (.inr rfl))
          (pss_one (ps_set (i := 3) scLCharts.nd rfl (.inl rfl) (pe_op op_cat (pv 3)
            (pe_lc (own := [("_law_chief", 5)]) (g := gName 5) rfl scLCharts.nd (pi_range1 (by rfl) B.range (pa_cons (pe_op op_add (pv 0) pe_int) pa_nil)) (blkOk_by (own := [("_law_chief", 5)]) (N := nLCharts) (sc := defScope sLCharts) (by decide +kernel))
              (fun _ _ _ _ _ => pg_name (i := 5) scLCharts.nd rfl (.inl rfl)) (fun _ _ _ _ _ => pts_nil) (fun _ _ _ _ _ => pe_op (show OpR _ _ (rCatA K) from op_catA) (pv 4) (pe_tup (pa_cons (pv 5) pa_nil))))))))
        (pss_one (ps_set (i := 1) scLCharts.nd rfl (.inl rfl) (pv 3))))))
      (pss_one (ps_ret (pe_lc (own := [("_law_one", 4)]) (g := gName 4) rfl scLCharts.nd (pi_list (pv 1)) (blkOk_by (own := [("_law_one", 4)]) (N := nLCharts) (sc := defScope sLCharts) (by decide +kernel))
              (fun _ _ _ _ _ => pg_name (i := 4) scLCharts.nd rfl (.inl rfl)) (fun _ _ _ _ _ => pts_one (pt_val (pe_call GC hr (by rfl) DC.g DC.F.kp DC.b .nil pass0 (pa_cons (pv 4) pa_nil)))) (fun _ _ _ _ _ => pv 4))))), ?_⟩
    refine ⟨by show 0 ≤ sizeLine; decide, fun t nt => ⟨by show 1 ≤ sizeLine; decide, fun o no => ?_⟩⟩
    have l0 : Le [] T H (upd (upd H t (.tup [])) o (.lst [.ref t])) := (Le.one nt).trans (Le.one no)
    have li0 : LI (upd (upd H t (.tup [])) o (.lst [.ref t])) (.ref o) (grow n 0) := ⟨o, _, rfl, upd_same, .cons ((show TI (upd H t (.tup [])) (.ref t) [] from ⟨t, rfl, upd_same⟩).mono (Tp.new no)) .nil⟩
    refine ⟨_, rfl, n, rfl, by omega, by omega, ?_⟩
    refine for_range (lo := 0) (n := (n : Int).toNat) (fun i σ H' => Le [] T H H' ∧ ∃ vf y2 y3 y4 y5, σ = [some (.int n), some vf, y2, y3, y4, y5] ∧ LI H' vf (grow n i)) ⟨l0, _, _, _, _, _, rfl, li0⟩ (fun i σ H1 hi hP => ?_) (fun σ H1 hP => ?_)
    · obtain ⟨hl, vf, y2, y3, y4, y5, rfl, hf⟩ := hP
      have hi' : i < n := by omega
      have gl := grow_len n hn i (by omega)
      refine ⟨by show 0 ≤ sizeLine; decide, fun m nm => ?_⟩
      have hf2 : LI (upd H1 m (.lst [])) vf (grow n i) := hf.le0 (T := T) (Le.one nm)
      have hl2 : Le [] T H (upd H1 m (.lst [])) := hl.trans (Le.one nm)
      obtain ⟨fa, xs, rfl, hfa, hxs⟩ := hf2
      have hlen := hxs.length
      refine ⟨_, rfl, fa, rfl, ⟨xs, SqL.of hfa⟩, ?_⟩
      refine for_list (K := K) (a := fa) (xs := xs) (fun j σ H2 => Le [] T (upd H1 m (.lst [])) H2 ∧ ∃ vm y4 y5, σ = [some (.int n), some (.ref fa), some (.int (0 + i)), some vm, y4, y5] ∧ LI H2 vm (growTo n i j)) ⟨Le.refl _, _, _, _, rfl, LI.nil⟩ (fun j σ H2 _ hP => SqL.of (hP.1.lst0 hfa)) (fun j x σ H2 hx hP => ?_) (fun σ H2 hP => ?_)
      · obtain ⟨hl3, vm, y4, y5, rfl, hm⟩ := hP
        obtain ⟨c, hc, hxc⟩ := paired_at hxs hx
        have hj : j < xs.length := (List.getElem?_eq_some_iff.mp hx).1
        obtain ⟨ca, rfl, hca⟩ := hxc.mono hl3.tup
        refine ⟨vm, rfl, .int n, rfl, n, 1, rfl, rfl, _, rfl, by omega, by omega, fun d nd => ?_⟩
        refine lc_range (lo := 0) (n := ((n : Int) + 1).toNat) (fun k H3 => Le [] T H2 H3 ∧ LI H3 (.ref d) (extTo n k c)) ⟨Le.one nd, LI.nil⟩ (fun k H3 hk hP => ?_) (fun H3 hP => ?_)
        · obtain ⟨hl4, hd⟩ := hP
          have len := extTo_len n k c
          have hca3 := hl4.tup _ _ hca
          have stay : ∀ t, H3 t = none → Le [] T H2 (upd H3 t (.tup ((c ++ [(k : Int)]).map V.int))) ∧ ∃ acc, upd H3 t (.tup ((c ++ [(k : Int)]).map V.int)) d = some (HO.lst acc) ∧ acc.length < sizeLine ∧
              Le [] T H2 (upd (upd H3 t (.tup ((c ++ [(k : Int)]).map V.int))) d (.lst (acc ++ [.ref t]))) ∧ LI (upd (upd H3 t (.tup ((c ++ [(k : Int)]).map V.int))) d (.lst (acc ++ [.ref t]))) (.ref d) (extTo n (k + 1) c) := fun t nt => by
            have hd1 := hd.le0 (T := T) (Le.one (o := .tup ((c ++ [(k : Int)]).map V.int)) nt)
            obtain ⟨acc, e1, e2, e3⟩ := hd1.push (c := c ++ [(k : Int)]) ⟨t, rfl, upd_same⟩ (by omega)
            refine ⟨hl4.new (hl4.dom _ nt), acc, e1, e2, (hl4.new (hl4.dom _ nt)).new nd, ?_⟩
            rw [extTo_succ]
            exact e3
          refine ⟨rfl, .ref ca, rfl, _, rfl, by show 1 ≤ sizeLine; decide, fun u nu => ?_⟩
          rw [Int.zero_add]
          have hca4 := (Tp.new (o := HO.tup [.int (k : Int)]) nu) _ _ hca3
          refine ⟨ca, u, c.map V.int, [.int (k : Int)], rfl, rfl, SqT.of hca4, SqT.of upd_same, by rw [List.length_map]; have := (grow_facts n i c (List.mem_of_getElem? hc)).1; exact Nat.le_of_lt (small1000 (by simp; omega)), fun e => ?_, fun _ e => absurd e (List.cons_ne_nil _ _), fun _ _ t nt => ?_⟩
          · have ec : c = [] := List.map_eq_nil_iff.mp e
            have z := (stay u nu).2
            rw [ec] at z ⊢
            exact z
          · have hd1 := (hd.le0 (T := T) (Le.one (o := .tup [.int (k : Int)]) nu)).le0 (T := T) (Le.one (o := .tup (c.map V.int ++ [.int (k : Int)])) nt)
            have hlu : Le [] T H2 (upd H3 u (.tup [.int (k : Int)])) := hl4.new (hl4.dom _ nu)
            obtain ⟨acc, e1, e2, e3⟩ := hd1.push (y := .ref t) (c := c ++ [(k : Int)]) ⟨t, rfl, by rw [upd_same, List.map_append] <;> rfl⟩ (by omega)
            refine ⟨acc, e1, e2, (hlu.new (hlu.dom _ nt)).new nd, ?_⟩
            rw [extTo_succ]
            exact e3
        · obtain ⟨hl4, hd⟩ := hP
          rw [show ((n : Int) + 1).toNat = n + 1 by omega] at hd
          obtain ⟨a1, a2, us, ys, rfl, e2, h1, h2, z1, z2, hcat⟩ := (hm.le0 hl4).both hd
          have l1 := growTo_len n i j
          have l3 := extTo_len n (n + 1) c
          have b1 : j * (n + 1) ≤ 64 * 4 := Nat.mul_le_mul (by omega) (by omega)
          refine ⟨a1, a2, us, ys, rfl, e2, h1, h2, Nat.le_of_lt (small1000 (by omega)), fun p np => ?_⟩
          refine ⟨(hl3.trans hl4).new ((hl3.trans hl4).dom _ np), _, _, _, rfl, ?_⟩
          rw [growTo_succ hc]
          exact hcat p np
      · obtain ⟨hl3, vm, y4, y5, rfl, hm⟩ := hP
        rw [hlen, growTo_all] at hm
        exact ⟨_, rfl, hl2.trans hl3, _, _, _, _, _, rfl, hm⟩
    · obtain ⟨hl, vf, y2, y3, y4, y5, rfl, hf⟩ := hP
      rw [show (n : Int).toNat = n by omega] at hf
      obtain ⟨fa, xs, rfl, hfa, hxs⟩ := hf
      have hlen := hxs.length
      have gl := grow_len n hn n (Nat.le_refl _)
      refine ⟨_, rfl, fa, rfl, ⟨xs, SqL.of hfa⟩, fun d nd => ?_⟩
      refine lc_list (K := K) (a := fa) (xs := xs) (fun j H2 => Le [] T H1 H2 ∧ LI H2 (.ref d) (((grow n n).take j).filter lup)) ⟨Le.one nd, LI.nil⟩ (fun j H2 _ hP => SqL.of (hP.1.lst0 hfa)) (fun j x H2 hx hP => ?_) (fun H2 hP => ?_)
      · obtain ⟨hl3, hd⟩ := hP
        obtain ⟨c, hc, hxc⟩ := paired_at hxs hx
        obtain ⟨ca, rfl, hca⟩ := hxc.mono hl3.tup
        have hmem := List.mem_of_getElem? hc
        obtain ⟨c1, c2⟩ := grow_facts n n c hmem
        refine ⟨rfl, _, rfl, ca, c, rfl, hca, fun x hx => ?_, by omega, ?_⟩
        · rw [c1]
          exact c2 x hx
        · have hj : j < (grow n n).length := (List.getElem?_eq_some_iff.mp hc).1
          have sz : (((grow n n).take j).filter lup).length < 1000 := by
            refine Nat.lt_of_le_of_lt (List.length_filter_le _ _) ?_
            rw [List.length_take]
            omega
          rw [filter_take hc]
          refine ⟨_, rfl, ?_⟩
          cases z : lup c with
          | true =>
            obtain ⟨acc, e1, e2, e3⟩ := hd.push (y := .ref ca) (c := c) ⟨ca, rfl, hca⟩ sz
            exact ⟨_, rfl, acc, e1, e2, hl3.new nd, e3⟩
          | false => exact ⟨hl3, hd⟩
      · obtain ⟨hl3, hd⟩ := hP
        rw [hlen, List.take_length] at hd
        refine q _ _ (hl.trans hl3) ?_
        rw [show CH n = (grow n n).filter lup from List.filter_congr (ch_facts hn).2.2.2.2.1]
        exact hd
end
end Cd

set_option Elab.async false
set_option linter.all false
set_option maxRecDepth 100000
set_option maxHeartbeats 2000000
/-! the law's step, done; trace -/
namespace Cd
open PySem PySem.Spec PyProof.Rows L2 Cm
theorem mv_len (c : Ch) (p q : Int) : (mv c p q).length = c.length := by
  unfold mv
  rw [List.length_set, List.length_map]
theorem mv_get {c : Ch} {p q : Int} {i : Nat} (hi : i < c.length) (hp : 1 ≤ p) : (mv c p q)[i]? = some (if (i : Int) + 1 = p then q else if c.getD i 0 = p then c.getD (p - 1).toNat 0 else c.getD i 0) := by
  unfold mv
  rw [List.getElem?_set]
  have e : c.getD i 0 = c[i] := by rw [List.getD_eq_getElem?_getD, List.getElem?_eq_getElem hi] <;> rfl
  by_cases z : (i : Int) + 1 = p
  · rw [if_pos z, if_pos (by omega), if_pos (by rw [List.length_map]; omega)]
  · rw [if_neg z, if_neg (by omega), List.getElem?_map, List.getElem?_eq_getElem hi, e]
    rfl
def doneTo (c : Ch) (ws : List Sq) : Ch := ws.foldl (fun c s => mv c s.1 s.2) c
theorem doneTo_len (c : Ch) : ∀ ws : List Sq, (doneTo c ws).length = c.length := by
  intro ws
  induction ws generalizing c with
  | nil => rfl
  | cons s ws ih =>
    show (doneTo (mv c s.1 s.2) ws).length = _
    rw [ih, mv_len]
theorem doneTo_succ (c : Ch) {ws : List Sq} {i : Nat} {s : Sq} (h : ws[i]? = some s) : doneTo c (ws.take (i + 1)) = mv (doneTo c (ws.take i)) s.1 s.2 := by
  unfold doneTo
  rw [take_snoc h, List.foldl_append]
  rfl
theorem dvi (a b : Int) : decide (V.int a = V.int b) = decide (a = b) := by
  rw [Bool.eq_iff_iff]
  simp
section
variable {P : Program} {w : World} {K : PySem.W.Frag} {mg : Str → Option Value} {base : Heap} {T : List Addr}
theorem scLStep : FnScope ["_law_chart_here", "_law_step_here", "_law_person", "_law_chief", "_law_found", "_law_k"] ["_law_chart_here", "_law_step_here"] (defScope sLStep) := ⟨rfl, rfl, rfl, by decide +kernel, rfl, by decide +kernel, by decide +kernel⟩
theorem ok_LStep (B : Bl mg) (D : Df K mg "_law_step" sLStep ["_law_chart_here", "_law_step_here"]) : FnOk P w K mg base CX0 1 D.f D.fd ["_law_chart_here", "_law_step_here"] (spStepped T) := by
  refine D.F.ok scLStep (fun vs H Q E h => ?_) (fun cdv A outer s H vs Q E hr h => ?_)
  · obtain ⟨vc, v2, c, p, q, rfl, _⟩ := h
    rfl
  · obtain ⟨vc, v2, c, p, q, rfl, hc, hst, p1, p2, h6, k⟩ := h
    refine ⟨_, pss_cons (ps_asg (pv 1) (pg_tup rfl (pgs_cons (pg_name (i := 2) scLStep.nd rfl (.inl rfl)) (pgs_cons (pg_name (i := 3) scLStep.nd rfl (.inl rfl)) pgs_nil))))
      (pss_cons (ps_set (i := 4) scLStep.nd rfl (.inl rfl) (pe_lst pa_nil))
      (pss_cons (ps_for PassesOwn.never rfl (pi_range1 (by rfl) B.range (pa_cons (pe_callB call_len_seq (by rfl) B.len PySem.boot_len (pa_cons (pv 0) pa_nil)) pa_nil)) (pg_name (i := 5) scLStep.nd rfl (.inl rfl))
        (pss_one (ps_expr (pe_bm PySem.F.plainAttrs_list PySem.F.slot_list_append PySem.F.type_list_append mt_append (pv 4)
          (pa_cons (pe_ifExp (pt_cmpR op_eq (pe_op op_add (pv 5) pe_int) (pv 2) (nomark _)) (pv 3)
            (pe_ifExp (pt_cmpR op_eq (pe_ix ix_tup (pv 0) (pv 5) (fun _ _ => rfl)) (pv 2) (nomark _)) (pe_ix ix_tup (pv 0) (pe_op op_sub (pv 2) pe_int) (fun _ _ => rfl)) (pe_ix ix_tup (pv 0) (pv 5) (fun _ _ => rfl)))) pa_nil)))))
      (pss_one (ps_ret (pe_callTy call_tuple_of (by rfl) B.tuple boot_tup (pa_cons (pv 4) pa_nil)))))), ?_⟩
    obtain ⟨a, rfl, ha⟩ := hc
    obtain ⟨b, rfl, hb⟩ := hst
    have at1 := at_ch (c := c) (h := p) p1 p2
    have hl : (c.map V.int).length = c.length := List.length_map ..
    refine ⟨.ref b, rfl, b, [.int p, .int q], rfl, SqT.of hb, rfl, .int p, [.int q], rfl, .int q, [], rfl, rfl, ?_⟩
    refine ⟨by show 0 ≤ sizeLine; decide, fun d nd => ?_⟩
    have ha0 := (Le.one (R := []) (T := T) (o := .lst []) nd).tup _ _ ha
    refine ⟨.ref a, rfl, a, c.map V.int, rfl, .inr (SqT.of ha0), _, rfl, by omega, by omega, ?_⟩
    refine for_range (lo := 0) (n := (((c.map V.int).length : Nat) : Int).toNat) (fun i σ H' => Le [] T H H' ∧ (∃ y, σ = [some (.ref a), some (.ref b), some (.int p), some (.int q), some (.ref d), y]) ∧ H' d = some (.lst (((mv c p q).take i).map V.int))) ⟨Le.one nd, ⟨_, rfl⟩, by rw [upd_same]; rfl⟩ (fun i σ H' hi hP => ?_) (fun σ H' hP => ?_)
    · obtain ⟨hle, ⟨y, rfl⟩, hd⟩ := hP
      have hi' : i < c.length := by omega
      have mg1 := mv_get (q := q) hi' p1
      have sz : (((mv c p q).take i).map V.int).length < sizeLine := by
        refine small1000 ?_
        rw [List.length_map, List.length_take, mv_len]
        omega
      have ha1 := hle.tup _ _ ha
      have at2 : atI (c.map V.int) (0 + (i : Int)) = some (.int (c.getD i 0)) := by
        have := (at_ch (c := c) (h := (i : Int) + 1) (by omega) (by omega)).1
        rw [show (i : Int) + 1 - 1 = 0 + (i : Int) by omega] at this
        rw [show ((0 : Int) + (i : Int)).toNat = i by omega] at this
        exact this
      have fin : ∀ z, some z = (mv c p q)[i]? → ∃ l xs y0, V.ref d = .ref l ∧ [V.int z] = [y0] ∧ H' l = some (.lst xs) ∧ xs.length < sizeLine ∧ (Le [] T H (upd H' l (.lst (xs ++ [y0]))) ∧
          (∃ y, [some (V.ref a), some (V.ref b), some (V.int p), some (V.int q), some (V.ref d), some (V.int (0 + (i : Int)))] = [some (V.ref a), some (V.ref b), some (V.int p), some (V.int q), some (V.ref d), y]) ∧ upd H' l (.lst (xs ++ [y0])) d = some (.lst (((mv c p q).take (i + 1)).map V.int))) := fun z e => by
        refine ⟨d, _, _, rfl, rfl, hd, sz, hle.new nd, ⟨_, rfl⟩, ?_⟩
        rw [upd_same, take_snoc e.symm, List.map_append] <;> rfl
      refine ⟨.ref d, rfl, .inl ⟨rfl, _, SqL.of hd⟩, .int (0 + (i : Int)), rfl, 0 + (i : Int), 1, rfl, rfl, .int p, rfl, rfl, _, rfl, ?_⟩
      by_cases z1 : (i : Int) + 1 = p
      · rw [show decide (V.int (0 + (i : Int) + 1) = V.int p) = true by simp [← z1]]
        rw [if_pos z1] at mg1
        exact ⟨.int q, rfl, fin q mg1.symm⟩
      · rw [show decide (V.int (0 + (i : Int) + 1) = V.int p) = false by simp [z1]]
        rw [if_neg z1] at mg1
        refine ⟨.ref a, rfl, _, rfl, a, _, _, _, rfl, rfl, SqT.of ha1, at2, .int p, rfl, rfl, _, rfl, ?_⟩
        by_cases z2 : c.getD i 0 = p
        · rw [dvi, decide_eq_true z2]
          rw [if_pos z2] at mg1
          exact ⟨.ref a, rfl, .int p, rfl, p, 1, rfl, rfl, a, _, _, _, rfl, rfl, SqT.of ha1, at1.1, fin _ mg1.symm⟩
        · rw [dvi, decide_eq_false z2]
          rw [if_neg z2] at mg1
          exact ⟨.ref a, rfl, _, rfl, a, _, _, _, rfl, rfl, SqT.of ha1, at2, fin _ mg1.symm⟩
    · obtain ⟨hle, ⟨y, rfl⟩, hd⟩ := hP
      rw [show (((c.map V.int).length : Nat) : Int).toNat = (mv c p q).length by rw [hl, mv_len]; omega, List.take_length] at hd
      refine ⟨.ref d, rfl, d, _, rfl, .inl ⟨SqL.of hd, fun l nl => ?_⟩⟩
      exact k _ _ (hle.new (hle.dom _ nl)) ⟨l, rfl, upd_same⟩
def rowsOk (n : Nat) (ws : List Sq) : Prop := ∀ s ∈ ws, 1 ≤ s.1 ∧ s.1 ≤ n
def spDone (T : List Addr) : Sp := fun vs H Q _ => ∃ (vc vw : V) (c : List Int) (ws : List Sq), vs = [vc, vw] ∧ TI H vc c ∧ TT H vw (ws.map l2) ∧ rowsOk c.length ws ∧ c.length ≤ 6 ∧ ∀ v H', Le [] T H H' → TI H' v (doneTo c ws) → Q v H'
theorem map_at {α β : Type} {f : α → β} {l : List α} {i : Nat} {y : β} (h : (l.map f)[i]? = some y) : ∃ x, l[i]? = some x ∧ y = f x := by
  rw [List.getElem?_map] at h
  cases e : l[i]? with
  | none =>
    rw [e] at h
    cases h
  | some n =>
    rw [e] at h
    cases h
    exact ⟨n, rfl, rfl⟩
theorem scLDone : FnScope ["_law_chart_here", "_law_steps_here", "_law_step_here"] ["_law_chart_here", "_law_steps_here"] (defScope sLDone) := ⟨rfl, rfl, rfl, by decide +kernel, rfl, by decide +kernel, by decide +kernel⟩
theorem ok_LDone (B : Bl mg) (DS : Df K mg "_law_step" sLStep ["_law_chart_here", "_law_step_here"]) (D : Df K mg "_law_done" sLDone ["_law_chart_here", "_law_steps_here"]) : FnOk P w K mg base CX0 2 D.f D.fd ["_law_chart_here", "_law_steps_here"] (spDone T) := by
  have GS : FnOk P w K mg base CX0 1 DS.f DS.fd ["_law_chart_here", "_law_step_here"] (spStepped T) := ok_LStep B DS
  refine D.F.ok scLDone (fun vs H Q E h => ?_) (fun cdv A outer s H vs Q E hr h => ?_)
  · obtain ⟨vc, v2, c, ws, rfl, _⟩ := h
    rfl
  · obtain ⟨vc, vw, c, ws, rfl, hc, ⟨b, xs, rfl, hb, hxs⟩, hw, h6, k⟩ := h
    refine ⟨_, pss_cons (ps_for PassesOwn.never rfl (pi_tup (pv 1)) (pg_name (i := 2) scLDone.nd rfl (.inl rfl))
        (pss_one (ps_set (i := 0) scLDone.nd rfl (.inl rfl) (pe_call GS hr (by rfl) DS.g DS.F.kp DS.b .nil pass0 (pa_cons (pv 0) (pa_cons (pv 2) pa_nil))))))
      (pss_one (ps_ret (pv 0))), ?_⟩
    refine ⟨.ref b, rfl, b, rfl, ⟨xs, SqT.of hb⟩, ?_⟩
    refine for_tup (K := K) (a := b) (xs := xs) (fun i σ H' => Le [] T H H' ∧ ∃ vc y, σ = [some vc, some (.ref b), y] ∧ TI H' vc (doneTo c (ws.take i))) ⟨Le.refl H, _, _, rfl, hc⟩ (fun i σ H' _ hP => SqT.of (hP.1.tup _ _ hb)) (fun i x σ H' hx hP => ?_) (fun σ H' hP => ?_)
    · obtain ⟨hl, vc, y, rfl, ht⟩ := hP
      obtain ⟨c2, hc2, hxc⟩ := paired_at hxs hx
      obtain ⟨s, hs, rfl⟩ := map_at hc2
      have hs1 := hw s (List.mem_of_getElem? hs)
      have dl := doneTo_len c (ws.take i)
      refine ⟨_, rfl, _, rfl, vc, x, doneTo c (ws.take i), s.1, s.2, rfl, ht, hxc.mono hl.tup, hs1.1, by omega, by omega, fun v H2 hl2 hv => ?_⟩
      refine ⟨hl.trans hl2, v, _, rfl, ?_⟩
      rw [doneTo_succ c hs]
      exact hv
    · obtain ⟨hl, vc, y, rfl, ht⟩ := hP
      rw [hxs.length, List.length_map, List.take_length] at ht
      exact ⟨_, rfl, k _ _ hl ht⟩
def spTrace (T : List Addr) : Sp := fun vs H Q _ => ∃ (vc vw : V) (c : List Int) (ws : List Sq), vs = [vc, vw] ∧ TI H vc c ∧ TT H vw (ws.map l2) ∧ rowsOk c.length ws ∧ c.length ≤ 6 ∧ ws.length ≤ 900 ∧
  ∀ o H' xs y, Le [] T H H' → H' o = some (.lst (xs ++ [y])) → TI H' y (doneTo c ws) → Q (.ref o) H'
theorem scTrace : FnScope ["chart", "row", "found", "step"] ["chart", "row"] (defScope sTrace) := ⟨rfl, rfl, rfl, by decide +kernel, rfl, by decide +kernel, by decide +kernel⟩
theorem ok_trace (B : Bl mg) (DS : Df K mg "stepped" sStepped ["chart", "step"]) (D : Df K mg "trace" sTrace ["chart", "row"]) : FnOk P w K mg base CX0 2 D.f D.fd ["chart", "row"] (spTrace T) := by
  have GS : FnOk P w K mg base CX0 1 DS.f DS.fd ["chart", "step"] (spStepped T) := ok_stepped B DS
  refine D.F.ok scTrace (fun vs H Q E h => ?_) (fun cdv A outer s H vs Q E hr h => ?_)
  · obtain ⟨vc, v2, c, ws, rfl, _⟩ := h
    rfl
  · obtain ⟨vc, vw, c, ws, rfl, hc, ⟨b, xs, rfl, hb, hxs⟩, hw, h6, h900, k⟩ := h
    refine ⟨_, pss_cons (ps_set (i := 2) scTrace.nd rfl (.inl rfl) (pe_lst (pa_cons (pv 0) pa_nil)))
      (pss_cons (ps_for PassesOwn.never rfl (pi_tup (pv 1)) (pg_name (i := 3) scTrace.nd rfl (.inl rfl))
        (pss_one (ps_expr (pe_bm PySem.F.plainAttrs_list PySem.F.slot_list_append PySem.F.type_list_append mt_append (pv 2) (pa_cons
          (pe_call GS hr (by rfl) DS.g DS.F.kp DS.b .nil pass0 (pa_cons (pe_ix ix_list (pv 2) (pe_un un_neg pe_int) (fun _ _ => rfl)) (pa_cons (pv 3) pa_nil))) pa_nil)))))
      (pss_one (ps_ret (pv 2)))), ?_⟩
    refine ⟨_, rfl, by show 1 ≤ sizeLine; decide, fun o no => ?_⟩
    have l0 := Le.one (R := []) (T := T) (o := .lst [vc]) no
    refine ⟨.ref b, rfl, b, rfl, ⟨xs, SqT.of (l0.tup _ _ hb)⟩, ?_⟩
    have xl := hxs.length
    rw [List.length_map] at xl
    refine for_tup (K := K) (a := b) (xs := xs) (fun i σ H' => Le [] T H H' ∧ ∃ y us z, σ = [some vc, some (.ref b), some (.ref o), y] ∧ H' o = some (.lst (us ++ [z])) ∧ us.length = i ∧ TI H' z (doneTo c (ws.take i))) ⟨l0, _, [], vc, rfl, upd_same, rfl, hc.mono l0.tup⟩ (fun i σ H' _ hP => SqT.of (hP.1.tup _ _ hb)) (fun i x σ H' hx hP => ?_) (fun σ H' hP => ?_)
    · obtain ⟨hl, y, us, z, rfl, ho, hul, ht⟩ := hP
      obtain ⟨c2, hc2, hxc⟩ := paired_at hxs hx
      obtain ⟨s, hs, rfl⟩ := map_at hc2
      have hs1 := hw s (List.mem_of_getElem? hs)
      have dl := doneTo_len c (ws.take i)
      have hi := (List.getElem?_eq_some_iff.mp hs).1
      refine ⟨.ref o, rfl, .inl ⟨rfl, _, SqL.of ho⟩, .ref o, rfl, 1, rfl, o, _, -1, z, rfl, rfl, SqL.of ho, atI_last us z, x, rfl, z, x, doneTo c (ws.take i), s.1, s.2, rfl, ht, hxc.mono hl.tup, hs1.1, by omega, by omega, fun v H2 hl2 hv => ?_⟩
      have ho2 := hl2.lst0 ho
      have tp : Tp H2 (upd H2 o (.lst ((us ++ [z]) ++ [v]))) := (Tp.refl H2).upd (nt_lst ho2)
      refine ⟨o, _, v, rfl, rfl, ho2, small1000 (by simp; omega), (hl.trans hl2).new no, _, us ++ [z], v, rfl, upd_same, by simp; omega, ?_⟩
      rw [doneTo_succ c hs]
      exact hv.mono tp
    · obtain ⟨hl, y, us, z, rfl, ho, hul, ht⟩ := hP
      rw [xl, List.take_length] at ht
      exact ⟨_, rfl, k _ _ _ _ hl ho ht⟩
end
end Cd

set_option Elab.async false
set_option linter.all false
set_option maxRecDepth 100000
set_option maxHeartbeats 2000000
/-! defs with generator expressions -/
namespace Cd
open PySem PySem.Spec PyProof.Rows L2 Cm
/-- a def whose code object is known -/
structure FunG (K : PySem.W.Frag) (x qual : Str) (st : Stmt) (f : Addr) (fd : FuncData) (c : Addr) : Prop where
  ex : ∃ (oc : Value) (od : Option Addr) (kV doc pm : Value) (an : Option Addr) (ct : Value) (osl : Array (Option Value)),
    fd = PySem.W.fnOf x qual (defArgs st) (defBody st) (defScope st) .none kV doc pm an (.ref c) ct ∧ K.lookup f = some ⟨oc, od, .func fd, osl⟩ ∧ PySem.W.codeIn K (.ref c) qual = true
  kp : PySem.W.keepIn K (.ref f) = true
structure DfG (K : PySem.W.Frag) (mg : Str → Option Value) (x : Str) (st : Stmt) (ps : List Str) : Type where
  f : Addr
  fd : FuncData
  c : Addr
  F : FunG K x x st f fd c
  b : Binds K fd ps []
  g : mg x = some (.ref f)
section
variable {P : Program} {w : World} {K : PySem.W.Frag} {mg : Str → Option Value} {base : Heap}
theorem FunG.ok {x qual : Str} {st : Stmt} {f : Addr} {fd : FuncData} {c : Addr} {N ps : List Str} {k : Nat} {sp : Sp} (F : FunG K x qual st f fd c) (S : FnScope N ps (defScope st)) (len : ∀ vs H Q E, sp vs H Q E → vs.length = ps.length)
    (hbody : ∀ (A : Around) (outer : List Env) (s : Shared) (H : Hp) (vs : List V) (Q : VK) (E : XK), Room k (A.deeper (envOfC qual (defScope st) s.heap.objs.size f (.ref c))) → sp vs H Q E →
      ∃ t, PSs (cxOf CX0 P w K mg base N qual (defScope st) f (.ref c) A outer s H E).nox (defBody st) t ∧ t { nx := fun _ H' => Q .non H', rt := Q } (start N vs) H) : FnOk P w K mg base CX0 (k + 1) f fd ps sp := by
  obtain ⟨oc, od, kV, doc, pm, an, ct, osl, rfl, lk, hcd⟩ := F.ex
  refine fn_of lk hcd S len fun A outer s H vs Q E hr hsp => ?_
  obtain ⟨t, h, q⟩ := hbody A outer s H vs Q E hr hsp
  exact ⟨t, h.nox, q⟩
theorem room_in {X : Cx} {A : Around} {k : Nat} (hr : Room (k + 1) X.A) (h0 : A.handled = none) (h1 : A.depth ≤ X.A.depth + 1) (h2 : A.units ≤ X.A.units + 8) : Room k A := by
  have a := hr.dp
  have b := hr.un
  exact ⟨h0, by omega, by omega⟩
end
open Cq in
/-- a name of the def around, read in the element -/
theorem qe_freeG {X : Cx} {pins : List (Addr × Obj)} {σ : L2.St} {H1 : Hp} {s1 : Shared} {Pt C : Addr} {sc : Scope} {code : Value} {x y : Str} {u : Value} {A : Around} {i : Nat} {v : V} {pos : Pos} (I : Inv X pins σ H1 s1) (hP : GxR.TabG H1 Pt)
    (ok : (gQc X Pt sc (cloFrom X.env.cells sc.names []) C code s1.heap x u A).Ok) (hN : X.N[i]? = some y) (hσ : σ[i]? = some (some v)) (hy : X.env.kindOf y = some .cell) (hs : sc.names.lookup y = some .free) (hcl : (cloFrom X.env.cells sc.names []).lookup y = some ((X.env.cells.lookup y).getD 0))
    (hd : (y == ("__debug__" : Str)) = false := by decide) (hcd : (y == ("__classdict__" : Str)) = false := by decide) : QE (gQc X Pt sc (cloFrom X.env.cells sc.names []) C code s1.heap x u A) (.Name y pos) v := by
  refine qe_free ok hs (fun h j => ?_) hd hcd
  obtain ⟨m, hn, hl⟩ := I.loc
  obtain ⟨z, r, l⟩ := hl i y v hN hσ (.inr (.inl hy))
  rcases l with ⟨hk, hm⟩ | ⟨hk, c, hc, o, ho, hcell⟩
  · exfalso
    have hk2 : X.env.kindOf y = some .local := hk
    rw [hk2] at hy
    cases hy
  · refine ⟨c, z, ?_, ⟨o, j.1 c o (fun e => ?_) ho, hcell⟩, r⟩
    · show (cloFrom X.env.cells sc.names []).lookup y = some c
      rw [hcl, hc]
      rfl
    · obtain ⟨ps, e1, _⟩ := hP
      have := I.freeC y c hc
      rw [e, e1] at this
      cases this
open Cq in
theorem qe_one {X : Cx} {s1 : Shared} {Pt C : Addr} {sc : Scope} {code : Value} {x : Str} {u : Value} {A : Around} {v : V} {pos : Pos} {cl : List (Str × Addr)} (ok : (gQc X Pt sc cl C code s1.heap x u A).Ok) (hs : sc.names.lookup x = some .local) (r : RelV v u)
    (hd : (x == ("__debug__" : Str)) = false := by decide) : QE (gQc X Pt sc cl C code s1.heap x u A) (.Name x pos) v :=
  qe_loc ok hs (fun h j => let ⟨m, h1, h2⟩ := j.2; ⟨m, u, h1, h2, r⟩) hd
end Cd

set_option Elab.async false
set_option linter.all false
set_option maxRecDepth 100000
set_option maxHeartbeats 2000000
/-! is_chart -/
namespace Cd
open PySem PySem.Spec PyProof.Rows L2 Cm
theorem boot_all : bootBuiltins "all" = some (.builtin "all") := by decide +kernel
open Cq in
theorem qtupG {X : Cx} {pins : List (Addr × Obj)} {σ : L2.St} {H1 : Hp} {s1 : Shared} {Pt C : Addr} {sc : Scope} {code : Value} {x : Str} {u : Value} {A : Around} {cl : List (Str × Addr)} {a : Addr} {xs : List V} (I : Inv X pins σ H1 s1) (hP : GxR.TabG H1 Pt) (h : H1 a = some (.tup xs)) :
    QTup (gQc X Pt sc cl C code s1.heap x u A) a xs := fun h' j => by
  obtain ⟨its, r, ⟨o, e1, e2⟩, _⟩ := I.tuple (SqT.of h)
  refine ⟨its, r, o, j.1 a o (fun e => ?_) e1, e2⟩
  obtain ⟨ps, e3, _⟩ := hP
  rw [e, e3] at h
  cases h
section
variable {P : Program} {w : World} {K : PySem.W.Frag} {mg : Str → Option Value} {base : Heap} {T : List Addr}
theorem scIsChart : FnScope ["value"] ["value"] (defScope sIsChart) := ⟨rfl, rfl, rfl, by decide +kernel, rfl, by decide +kernel, by decide +kernel⟩
def spIsChart (Pt : Addr) (T : List Addr) : Sp := fun vs H Q _ => ∃ (a : Addr) (c : List Int), vs = [.ref a] ∧ H a = some (.tup (c.map V.int)) ∧ Bd c ∧ 1 ≤ c.length ∧ c.length ≤ 6 ∧ Tb T H ∧ Pt ∈ T ∧ ∀ H', Le [] T H H' → Q (.bl (up c)) H'
def ecIn : L2.St → Hp → V → V → Prop := fun σ H x y => ∃ (c : List Int) (a : Addr) (n : Int), σ = [some (.ref a)] ∧ H a = some (.tup (c.map V.int)) ∧ c.length ≤ 1000 ∧ x = .int n ∧ y = .bl (decide (0 ≤ n) && decide (n ≤ c.length))
open Cq in
theorem ok_isChart {Pt : Addr} {tM : Tok} (B : Bl mg) (hM : mg "MOST_PEOPLE" = some (.int 6 tM)) (DI : Df K mg "is_in" sIn ["value", "least", "most"]) (DC : Df K mg "comes_up" sComes ["chiefs"]) (D : DfG K mg "is_chart" sIsChart ["value"]) (TB : GxR.TabB base mg D.c Pt) :
    FnOk P w K mg base CX0 3 D.f D.fd ["value"] (spIsChart Pt T) := by
  have GI : FnQ P w K mg 1 DI.f DI.fd _ sqIn := qf_in B DI
  have GC : FnOk P w K mg base CX0 1 DC.f DC.fd ["chiefs"] spComes := ok_comes B DC
  refine D.F.ok scIsChart (fun vs H Q E h => ?_) (fun A outer s H vs Q E hr h => ?_)
  · obtain ⟨a, c, rfl, _⟩ := h
    rfl
  · obtain ⟨a, c, rfl, hT, hB, h1, h6, hTb, hPt, q⟩ := h
    refine ⟨_, pss_cons (ps_if (PW.pt (pw_or (pt_not (pt_val (pe_callB call_isi (by rfl) B.isi boot_isi (pa_cons (pv 0) (pa_cons (pe_bltn (v := .ty "tuple") (by rfl) B.tuple boot_tup rfl) pa_nil)))))
        (pw_or1 (pt_not (pt_chain op_le op_le pe_int (pe_callB call_len_seq (by rfl) B.len PySem.boot_len (pa_cons (pv 0) pa_nil)) (pe_glob (v := .int 6) (by rfl) hM ⟨_, rfl⟩)))))) (pss_one (ps_ret pe_bl)) pss_nil)
      (pss_one (ps_ret (pe_and (pe_allT (P := Pt) (te := tVar 0) (EC := ecIn) hr (by rfl) B.all boot_all TB rfl ⟨rfl, rfl, by decide, by rfl, by rfl, ?_⟩ (pv 0) ?_ (fun _ => rfl))
        (pe_one (pe_call GC (hr.mono (by decide)) (by rfl) DC.g DC.F.kp DC.b .nil pass0 (pa_cons (pv 0) pa_nil)))))), ?_⟩
    · intro y hy e
      rcases List.mem_cons.mp hy with rfl | hy
      · cases e
      rcases List.mem_cons.mp hy with rfl | hy
      · cases e
      rcases List.mem_cons.mp hy with rfl | hy
      · exact ⟨_, rfl⟩
      rcases List.mem_cons.mp hy with rfl | hy
      · cases e
      rcases List.mem_cons.mp hy with rfl | hy
      · cases e
      cases hy
    · intro pins σ H1 s1 xv yv u C code A' I ec r hP h0 h1 h2
      obtain ⟨c, a, n, rfl, ha, hl, rfl, rfl⟩ := ec
      have ok := gQc_ok (sc := ⟨.function, [(".0", .local), ("one", .local), ("value", .free), ("is_in", .globalImplicit), ("len", .globalImplicit)], true, false, []⟩) (cl := cloFrom (cxOf CX0 P w K mg base ["value"] "is_chart" (defScope sIsChart) D.f (.ref D.c) A outer s H E).nox.env.cells [(".0", .local), ("one", .local), ("value", .free), ("is_in", .globalImplicit), ("len", .globalImplicit)] []) (C := C) (code := code) (x := "one") (u := u) (A := A') I hP rfl
      exact qe_call ok GI (room_in hr h0 h1 h2) DI.F.kp (by rfl) DI.g (qa_cons ok (qe_one ok rfl r) (qa_cons ok qe_int (qa_cons ok (qe_callB ok (qb_len (qtupG I hP ha) (by rw [List.length_map]; exact hl)) (by rfl) B.len PySem.boot_len (qa_cons ok (qe_freeG I hP ok (i := 0) rfl rfl rfl rfl rfl) qa_nil)) qa_nil))) (fun h j => ⟨n, 0, ((c.map V.int).length : Nat), rfl, by rw [List.length_map]⟩)
    · have hl : (c.map V.int).length = c.length := List.length_map ..
      refine ⟨.ref a, rfl, .ref a, .ty "tuple", .type "tuple", .type "tuple", true, rfl, .ty _, .base (.tup hT), kit_tt, true, rfl, ?_⟩
      refine ⟨.ref a, rfl, a, c.map V.int, rfl, .inr (SqT.of hT), _, _, rfl, rfl, _, rfl, ?_⟩
      rw [decide_eq_true (show (1 : Int) ≤ ((c.map V.int).length : Nat) by omega)]
      refine ⟨_, _, rfl, rfl, _, rfl, ?_⟩
      rw [decide_eq_true (show (((c.map V.int).length : Nat) : Int) ≤ 6 by omega)]
      have htab : GxR.TabG H Pt := hTb Pt hPt
      refine ⟨.ref a, rfl, a, c.map V.int, c.map fun (n : Int) => decide (0 ≤ n) && decide (n ≤ (c.length : Int)), rfl, SqT.of hT, by rw [List.length_map, List.length_map], fun i x b hx hb => ?_, htab, fun H2 ht => ?_⟩
      · obtain ⟨n, hn, rfl⟩ := map_get hx
        rw [List.getElem?_map, hn] at hb
        cases hb
        exact ⟨c, a, n, rfl, hT, by omega, rfl, rfl⟩
      · have le := Le.tabbed (R := []) (T := T) htab ht
        have e : (c.map fun (n : Int) => decide (0 ≤ n) && decide (n ≤ (c.length : Int))).all _root_.id = true := by
          rw [List.all_eq_true]
          intro b hb
          obtain ⟨n, hn, rfl⟩ := List.mem_map.mp hb
          obtain ⟨p1, p2⟩ := hB n hn
          rw [decide_eq_true p1, decide_eq_true p2] <;> rfl
        rw [e]
        exact ⟨true, rfl, .ref a, rfl, a, c, rfl, le.tup _ _ hT, hB, h6, q _ le⟩
end
end Cd

set_option Elab.async false
set_option linter.all false
set_option maxRecDepth 100000
set_option maxHeartbeats 2000000
/-! what is refused -/
namespace Cd
open PySem PySem.Spec PyProof.Rows L2 Cm
structure Cs (mg : Str → Option Value) : Prop where
  people : ∃ t, mg "MOST_PEOPLE" = some (.int 6 t)
  price : ∃ t, mg "MOST_PRICE" = some (.int 1000 t)
  priced : ∃ t, mg "MOST_PRICED" = some (.int 4 t)
  cheap : ∃ t, mg "MOST_CHEAP" = some (.int 200 t)
section
variable {P : Program} {w : World} {K : PySem.W.Frag} {mg : Str → Option Value} {base : Heap} {T : List Addr}
/-- a chart as the program takes it -/
structure Cha (H : Hp) (v : V) (c : List Int) : Prop where
  ti : TI H v c
  bd : Bd c
  lo : 1 ≤ c.length
  hi : c.length ≤ 6
  up : Cm.up c = true
theorem Cha.mono {H H' : Hp} {v : V} {c : List Int} (h : Cha H v c) (t : Tp H H') : Cha H' v c := ⟨h.ti.mono t, h.bd, h.lo, h.hi, h.up⟩
def spNeedChart (Pt : Addr) (T : List Addr) : Sp := fun vs H Q _ => ∃ (v : V) (c : List Int), vs = [v] ∧ Cha H v c ∧ Tb T H ∧ Pt ∈ T ∧ ∀ H', Le [] T H H' → Q .non H'
theorem scNeedChart : FnScope ["chart"] ["chart"] (defScope sNeedChart) := ⟨rfl, rfl, rfl, by decide +kernel, rfl, by decide +kernel, by decide +kernel⟩
theorem ok_needChart {Pt fc : Addr} {fdc : FuncData} {gC : mg "is_chart" = some (.ref fc)} {kC : PySem.W.keepIn K (.ref fc) = true} {bC : Binds K fdc ["value"] []} (GC : FnOk P w K mg base CX0 3 fc fdc ["value"] (spIsChart Pt T)) (D : Df K mg "need_chart" sNeedChart ["chart"]) :
    FnOk P w K mg base CX0 4 D.f D.fd ["chart"] (spNeedChart Pt T) := by
  refine D.F.ok scNeedChart (fun vs H Q E h => ?_) (fun cdv A outer s H vs Q E hr h => ?_)
  · obtain ⟨a, c, rfl, _⟩ := h
    rfl
  · obtain ⟨v, c, rfl, hc, hTb, hPt, q⟩ := h
    obtain ⟨a, rfl, ha⟩ := hc.ti
    refine ⟨_, pss_one (ps_if (pt_not (pt_val (pe_call GC (hr.mono (by decide)) (by rfl) gC kC bC .nil pass0 (pa_cons (pv 0) pa_nil)))) (pss_one ps_never) pss_nil), ?_⟩
    refine ⟨_, rfl, a, c, rfl, ha, hc.bd, hc.lo, hc.hi, hTb, hPt, fun H' hl => ⟨_, rfl, ?_⟩⟩
    rw [hc.up]
    exact q H' hl
def spNeedTwo (Pt : Addr) (T : List Addr) : Sp := fun vs H Q _ => ∃ (v u : V) (c d : List Int), vs = [v, u] ∧ Cha H v c ∧ Cha H u d ∧ d.length = c.length ∧ Tb T H ∧ Pt ∈ T ∧ ∀ H', Le [] T H H' → Q .non H'
theorem scNeedTwo : FnScope ["start", "goal"] ["start", "goal"] (defScope sNeedTwo) := ⟨rfl, rfl, rfl, by decide +kernel, rfl, by decide +kernel, by decide +kernel⟩
theorem ok_needTwo {Pt fc : Addr} {fdc : FuncData} (B : Bl mg) {gC : mg "is_chart" = some (.ref fc)} {kC : PySem.W.keepIn K (.ref fc) = true} {bC : Binds K fdc ["value"] []} (GC : FnOk P w K mg base CX0 3 fc fdc ["value"] (spIsChart Pt T))
    (DN : Df K mg "need_chart" sNeedChart ["chart"]) (D : Df K mg "need_two" sNeedTwo ["start", "goal"]) :
    FnOk P w K mg base CX0 5 D.f D.fd ["start", "goal"] (spNeedTwo Pt T) := by
  have GN : FnOk P w K mg base CX0 4 DN.f DN.fd ["chart"] (spNeedChart Pt T) := ok_needChart (gC := gC) (kC := kC) (bC := bC) GC DN
  refine D.F.ok scNeedTwo (fun vs H Q E h => ?_) (fun cdv A outer s H vs Q E hr h => ?_)
  · obtain ⟨a, b, c, d, rfl, _⟩ := h
    rfl
  · obtain ⟨v, u, c, d, rfl, hc, hd, hlen, hTb, hPt, q⟩ := h
    refine ⟨_, pss_cons (ps_expr (pe_call GN (hr.mono (by decide)) (by rfl) DN.g DN.F.kp DN.b .nil pass0 (pa_cons (pv 0) pa_nil)))
      (pss_one (ps_if (PW.pt (pw_or (pt_not (pt_val (pe_call GC (hr.mono (by decide)) (by rfl) gC kC bC .nil pass0 (pa_cons (pv 1) pa_nil))))
        (pw_or1 (pt_cmpR op_ne (pe_callB call_len_seq (by rfl) B.len PySem.boot_len (pa_cons (pv 1) pa_nil)) (pe_callB call_len_seq (by rfl) B.len PySem.boot_len (pa_cons (pv 0) pa_nil)) (nomark _))))) (pss_one ps_never) pss_nil)), ?_⟩
    refine ⟨_, rfl, v, c, rfl, hc, hTb, hPt, fun H1 hl1 => ?_⟩
    obtain ⟨a, rfl, ha⟩ := hc.ti.mono hl1.tup
    obtain ⟨b, rfl, hb⟩ := hd.ti.mono hl1.tup
    refine ⟨_, rfl, b, d, rfl, hb, hd.bd, hd.lo, hd.hi, hl1.tb hTb, hPt, fun H2 hl2 => ⟨_, rfl, ?_⟩⟩
    rw [hd.up]
    refine ⟨.ref b, rfl, b, d.map V.int, rfl, .inr (SqT.of (hl2.tup _ _ hb)), .ref a, rfl, a, c.map V.int, rfl, .inr (SqT.of (hl2.tup _ _ ha)), rfl, _, rfl, ?_⟩
    rw [dvi, decide_eq_true (by rw [List.length_map, List.length_map, hlen])]
    exact q H2 (hl1.trans hl2)
def spArePrices (Pt : Addr) (T : List Addr) : Sp := fun vs H Q _ => ∃ (n : Nat) (v : V) (pr : List (List Int)), vs = [.int n, v] ∧ n ≤ 6 ∧ TT H v pr ∧ PrOk n pr ∧ Tb T H ∧ Pt ∈ T ∧ ∀ H', Le [] T H H' → Q (.bl true) H'
def ecPr : L2.St → Hp → V → V → Prop := fun σ H x y => ∃ n : Int, x = .int n ∧ y = .bl (decide (0 ≤ n) && decide (n ≤ 1000))
theorem scArePrices : FnScope ["size", "value", "line"] ["size", "value"] (defScope sArePrices) := ⟨rfl, rfl, rfl, by decide +kernel, rfl, by decide +kernel, by decide +kernel⟩
open Cq in
theorem ok_arePrices {Pt : Addr} (B : Bl mg) (C : Cs mg) (DI : Df K mg "is_in" sIn ["value", "least", "most"]) (D : DfG K mg "are_prices" sArePrices ["size", "value"]) (TB : GxR.TabB base mg D.c Pt) :
    FnOk P w K mg base CX0 3 D.f D.fd ["size", "value"] (spArePrices Pt T) := by
  have GI : FnQ P w K mg 1 DI.f DI.fd _ sqIn := qf_in B DI
  obtain ⟨tM, hM⟩ := C.price
  refine D.F.ok scArePrices (fun vs H Q E h => ?_) (fun A outer s H vs Q E hr h => ?_)
  · obtain ⟨n, v, pr, rfl, _⟩ := h
    rfl
  · obtain ⟨n, v, pr, rfl, h6, hpr, hok, hTb, hPt, q⟩ := h
    refine ⟨_, pss_cons (ps_if (PW.pt (pw_or (pt_not (pt_val (pe_callB call_isi (by rfl) B.isi boot_isi (pa_cons (pv 1) (pa_cons (pe_bltn (v := .ty "tuple") (by rfl) B.tuple boot_tup rfl) pa_nil)))))
        (pw_or1 (pt_cmpR op_ne (pe_callB call_len_seq (by rfl) B.len PySem.boot_len (pa_cons (pv 1) pa_nil)) (pv 0) (nomark _))))) (pss_one (ps_ret pe_bl)) pss_nil)
      (pss_cons (ps_for PassesOwn.never rfl (pi_tup (pv 1)) (pg_name (i := 2) scArePrices.nd rfl (.inl rfl))
        (pss_one (ps_if (PW.pt (pw_or (pt_not (pt_val (pe_callB call_isi (by rfl) B.isi boot_isi (pa_cons (pv 2) (pa_cons (pe_bltn (v := .ty "tuple") (by rfl) B.tuple boot_tup rfl) pa_nil)))))
          (pw_or (pt_cmpR op_ne (pe_callB call_len_seq (by rfl) B.len PySem.boot_len (pa_cons (pv 2) pa_nil)) (pe_op op_add (pv 0) pe_int) (nomark _))
          (pw_or1 (pt_not (pt_val (pe_allT (P := Pt) (te := tVar 2) (EC := ecPr) hr (by rfl) B.all boot_all TB rfl ⟨rfl, rfl, by decide, by rfl, by rfl, ?_⟩ (pv 2) ?_ (fun _ => rfl)))))))) (pss_one (ps_ret pe_bl)) pss_nil)))
      (pss_one (ps_ret pe_bl))), ?_⟩
    · intro y hy e
      rcases List.mem_cons.mp hy with rfl | hy
      · cases e
      rcases List.mem_cons.mp hy with rfl | hy
      · cases e
      rcases List.mem_cons.mp hy with rfl | hy
      · cases e
      rcases List.mem_cons.mp hy with rfl | hy
      · cases e
      cases hy
    · intro pins σ H1 s1 xv yv u C code A' I ec r hP h0 h1 h2
      obtain ⟨k, rfl, rfl⟩ := ec
      have ok := gQc_ok (sc := ⟨.function, [(".0", .local), ("one", .local), ("is_in", .globalImplicit), ("MOST_PRICE", .globalImplicit)], true, false, []⟩) (cl := cloFrom (cxOf CX0 P w K mg base ["size", "value", "line"] "are_prices" (defScope sArePrices) D.f (.ref D.c) A outer s H E).nox.env.cells [(".0", .local), ("one", .local), ("is_in", .globalImplicit), ("MOST_PRICE", .globalImplicit)] []) (C := C) (code := code) (x := "one") (u := u) (A := A') I hP rfl
      exact qe_call ok GI (room_in hr h0 h1 h2) DI.F.kp (by rfl) DI.g (qa_cons ok (qe_one ok rfl r) (qa_cons ok qe_int (qa_cons ok (qe_glob (v := .int 1000) ok (by rfl) hM ⟨_, rfl⟩) qa_nil))) (fun h j => ⟨k, 0, 1000, rfl, rfl⟩)
    · obtain ⟨a, xs, rfl, ha, hxs⟩ := hpr
      have xl : xs.length = n := by rw [hxs.length, hok.len]
      refine ⟨.ref a, rfl, .ref a, .ty "tuple", .type "tuple", .type "tuple", true, rfl, .ty _, .base (.tup ha), kit_tt, true, rfl, ?_⟩
      refine ⟨.ref a, rfl, a, xs, rfl, .inr (SqT.of ha), _, rfl, rfl, _, rfl, ?_⟩
      rw [dvi, decide_eq_true (by rw [xl])]
      refine ⟨.ref a, rfl, a, rfl, ⟨xs, SqT.of ha⟩, ?_⟩
      refine for_tup (K := K) (a := a) (xs := xs) (fun i σ H' => Le [] T H H' ∧ ∃ y, σ = [some (.int n), some (.ref a), y]) ⟨Le.refl H, _, rfl⟩ (fun i σ H' _ hP => SqT.of (hP.1.tup _ _ ha)) (fun i x σ H' hx hP => ?_) (fun σ H' hP => ?_)
      · obtain ⟨hl, y, rfl⟩ := hP
        obtain ⟨l, hlm, hxl⟩ := paired_at hxs hx
        obtain ⟨b, rfl, hb⟩ := hxl.mono hl.tup
        obtain ⟨l1, l2⟩ := hok.row l (List.mem_of_getElem? hlm)
        have hTb' := hl.tb hTb
        have htab : GxR.TabG H' Pt := hTb' Pt hPt
        refine ⟨.ref b, rfl, .ref b, .ty "tuple", .type "tuple", .type "tuple", true, rfl, .ty _, .base (.tup hb), kit_tt, true, rfl, ?_⟩
        refine ⟨.ref b, rfl, b, l.map V.int, rfl, .inr (SqT.of hb), .int n, rfl, n, 1, rfl, rfl, rfl, _, rfl, ?_⟩
        rw [dvi, decide_eq_true (by rw [List.length_map, l1]; rfl)]
        refine ⟨.ref b, rfl, b, l.map V.int, l.map fun (n : Int) => decide (0 ≤ n) && decide (n ≤ 1000), rfl, SqT.of hb, by rw [List.length_map, List.length_map], fun i x b hx hb => ?_, htab, fun H2 ht => ?_⟩
        · obtain ⟨k, hn, rfl⟩ := map_get hx
          rw [List.getElem?_map, hn] at hb
          cases hb
          exact ⟨k, rfl, rfl⟩
        · have le := Le.tabbed (R := []) (T := T) htab ht
          have e : (l.map fun (n : Int) => decide (0 ≤ n) && decide (n ≤ 1000)).all _root_.id = true := by
            rw [List.all_eq_true]
            intro b hb
            obtain ⟨n, hn, rfl⟩ := List.mem_map.mp hb
            obtain ⟨p1, p2⟩ := l2 n hn
            rw [decide_eq_true p1, decide_eq_true p2] <;> rfl
          rw [e]
          exact ⟨true, rfl, hl.trans le, _, rfl⟩
      · obtain ⟨hl, y, rfl⟩ := hP
        exact q H' hl
def spNeedPrices (Pt : Addr) (T : List Addr) : Sp := fun vs H Q _ => ∃ (n : Nat) (v : V) (pr : List (List Int)), vs = [.int n, v] ∧ n ≤ 4 ∧ TT H v pr ∧ PrOk n pr ∧ Tb T H ∧ Pt ∈ T ∧ ∀ H', Le [] T H H' → Q .non H'
theorem scNeedShaped : FnScope ["size", "prices"] ["size", "prices"] (defScope sNeedShaped) := ⟨rfl, rfl, rfl, by decide +kernel, rfl, by decide +kernel, by decide +kernel⟩
theorem ok_needShaped {Pt fc : Addr} {fdc : FuncData} {gC : mg "are_prices" = some (.ref fc)} {kC : PySem.W.keepIn K (.ref fc) = true} {bC : Binds K fdc ["size", "value"] []} (GC : FnOk P w K mg base CX0 3 fc fdc ["size", "value"] (spArePrices Pt T)) (D : Df K mg "need_shaped" sNeedShaped ["size", "prices"]) :
    FnOk P w K mg base CX0 4 D.f D.fd ["size", "prices"] (spNeedPrices Pt T) := by
  refine D.F.ok scNeedShaped (fun vs H Q E h => ?_) (fun cdv A outer s H vs Q E hr h => ?_)
  · obtain ⟨n, v, pr, rfl, _⟩ := h
    rfl
  · obtain ⟨n, v, pr, rfl, h4, hpr, hok, hTb, hPt, q⟩ := h
    refine ⟨_, pss_one (ps_if (pt_not (pt_val (pe_call GC (hr.mono (by decide)) (by rfl) gC kC bC .nil pass0 (pa_cons (pv 0) (pa_cons (pv 1) pa_nil))))) (pss_one ps_never) pss_nil), ?_⟩
    exact ⟨_, rfl, _, rfl, n, v, pr, rfl, by omega, hpr, hok, hTb, hPt, fun H' hl => ⟨_, rfl, q H' hl⟩⟩
def spNeedFew : Sp := fun vs H Q _ => ∃ n : Nat, vs = [.int n] ∧ n ≤ 4 ∧ Q .non H
theorem scNeedFew : FnScope ["size"] ["size"] (defScope sNeedFew) := ⟨rfl, rfl, rfl, by decide +kernel, rfl, by decide +kernel, by decide +kernel⟩
theorem ok_needFew (C : Cs mg) (D : Df K mg "need_priced_few" sNeedFew ["size"]) : FnOk P w K mg base CX0 1 D.f D.fd ["size"] spNeedFew := by
  obtain ⟨tM, hM⟩ := C.priced
  refine D.F.ok scNeedFew (fun vs H Q E h => ?_) (fun cdv A outer s H vs Q E hr h => ?_)
  · obtain ⟨n, rfl, _⟩ := h
    rfl
  · obtain ⟨n, rfl, h4, q⟩ := h
    refine ⟨_, pss_one (ps_if (pt_cmpR op_gt (pv 0) (pe_glob (v := .int 4) (by rfl) hM ⟨_, rfl⟩) (nomark _)) (pss_one ps_never) pss_nil), ?_⟩
    refine ⟨_, rfl, _, _, rfl, rfl, _, rfl, ?_⟩
    rw [decide_eq_false (by omega)]
    exact q
theorem scNeedPrices : FnScope ["size", "prices"] ["size", "prices"] (defScope sNeedPrices) := ⟨rfl, rfl, rfl, by decide +kernel, rfl, by decide +kernel, by decide +kernel⟩
theorem ok_needPrices {Pt fc : Addr} {fdc : FuncData} (C : Cs mg) {gC : mg "are_prices" = some (.ref fc)} {kC : PySem.W.keepIn K (.ref fc) = true} {bC : Binds K fdc ["size", "value"] []} (GC : FnOk P w K mg base CX0 3 fc fdc ["size", "value"] (spArePrices Pt T))
    (DS : Df K mg "need_shaped" sNeedShaped ["size", "prices"]) (DF : Df K mg "need_priced_few" sNeedFew ["size"]) (D : Df K mg "need_prices" sNeedPrices ["size", "prices"]) :
    FnOk P w K mg base CX0 5 D.f D.fd ["size", "prices"] (spNeedPrices Pt T) := by
  have GS : FnOk P w K mg base CX0 4 DS.f DS.fd ["size", "prices"] (spNeedPrices Pt T) := ok_needShaped (gC := gC) (kC := kC) (bC := bC) GC DS
  have GF : FnOk P w K mg base CX0 1 DF.f DF.fd ["size"] spNeedFew := ok_needFew C DF
  refine D.F.ok scNeedPrices (fun vs H Q E h => ?_) (fun cdv A outer s H vs Q E hr h => ?_)
  · obtain ⟨n, v, pr, rfl, _⟩ := h
    rfl
  · obtain ⟨n, v, pr, rfl, h4, hpr, hok, hTb, hPt, q⟩ := h
    refine ⟨_, pss_cons (ps_expr (pe_call GS (hr.mono (by decide)) (by rfl) DS.g DS.F.kp DS.b .nil pass0 (pa_cons (pv 0) (pa_cons (pv 1) pa_nil))))
      (pss_one (ps_expr (pe_call GF (hr.mono (by decide)) (by rfl) DF.g DF.F.kp DF.b .nil pass0 (pa_cons (pv 0) pa_nil)))), ?_⟩
    exact ⟨_, rfl, _, rfl, n, v, pr, rfl, h4, hpr, hok, hTb, hPt, fun H' hl => ⟨_, rfl, n, rfl, h4, q H' hl⟩⟩
def spNeedPriced (P1 P2 : Addr) (T : List Addr) : Sp := fun vs H Q _ => ∃ (v u z : V) (c d : List Int) (pr : List (List Int)), vs = [v, u, z] ∧ Cha H v c ∧ Cha H u d ∧ d.length = c.length ∧ c.length ≤ 4 ∧ TT H z pr ∧ PrOk c.length pr ∧ Tb T H ∧ P1 ∈ T ∧ P2 ∈ T ∧ ∀ H', Le [] T H H' → Q .non H'
theorem scNeedPriced : FnScope ["start", "goal", "prices"] ["start", "goal", "prices"] (defScope sNeedPriced) := ⟨rfl, rfl, rfl, by decide +kernel, rfl, by decide +kernel, by decide +kernel⟩
theorem ok_needPriced {P1 P2 f1 f2 : Addr} {fd1 fd2 : FuncData} (B : Bl mg) (g1 : mg "need_two" = some (.ref f1)) (k1 : PySem.W.keepIn K (.ref f1) = true) (b1 : Binds K fd1 ["start", "goal"] []) (G1 : FnOk P w K mg base CX0 5 f1 fd1 ["start", "goal"] (spNeedTwo P1 T))
    (g2 : mg "need_prices" = some (.ref f2)) (k2 : PySem.W.keepIn K (.ref f2) = true) (b2 : Binds K fd2 ["size", "prices"] []) (G2 : FnOk P w K mg base CX0 5 f2 fd2 ["size", "prices"] (spNeedPrices P2 T)) (D : Df K mg "need_priced" sNeedPriced ["start", "goal", "prices"]) :
    FnOk P w K mg base CX0 6 D.f D.fd ["start", "goal", "prices"] (spNeedPriced P1 P2 T) := by
  refine D.F.ok scNeedPriced (fun vs H Q E h => ?_) (fun cdv A outer s H vs Q E hr h => ?_)
  · obtain ⟨v, u, z, c, d, pr, rfl, _⟩ := h
    rfl
  · obtain ⟨v, u, z, c, d, pr, rfl, hc, hd, hlen, h4, hpr, hok, hTb, hP1, hP2, q⟩ := h
    refine ⟨_, pss_cons (ps_expr (pe_call G1 hr (by rfl) g1 k1 b1 .nil pass0 (pa_cons (pv 0) (pa_cons (pv 1) pa_nil))))
      (pss_one (ps_expr (pe_call G2 hr (by rfl) g2 k2 b2 .nil pass0 (pa_cons (pe_callB call_len_seq (by rfl) B.len PySem.boot_len (pa_cons (pv 0) pa_nil)) (pa_cons (pv 2) pa_nil))))), ?_⟩
    refine ⟨_, rfl, _, rfl, v, u, c, d, rfl, hc, hd, hlen, hTb, hP1, fun H1 hl1 => ?_⟩
    obtain ⟨a, rfl, ha⟩ := hc.ti.mono hl1.tup
    refine ⟨_, rfl, a, c.map V.int, rfl, .inr (SqT.of ha), _, rfl, c.length, z, pr, by rw [List.length_map] <;> rfl, h4, hpr.mono hl1.tup, hok, hl1.tb hTb, hP2, fun H2 hl2 => q H2 (hl1.trans hl2)⟩
end
end Cd

set_option Elab.async false
set_option linter.all false
set_option maxRecDepth 100000
set_option maxHeartbeats 2000000
/-! dicts of charts -/
namespace Cd
open PySem PySem.Spec PyProof.Rows L2 Cm
def KR {α : Type} (VR : Hp → V → α → Prop) (H : Hp) (kvs : List (List Key × V)) (st : List (Ch × α)) : Prop := Paired (fun (kv : List Key × V) (p : Ch × α) => kv.1 = ik p.1 ∧ VR H kv.2 p.2) kvs st
theorem ik_inj {c d : Ch} : ik c = ik d ↔ c = d := by
  constructor
  · intro h
    exact List.map_inj_right (fun a b e => by cases e; rfl) |>.mp h
  · rintro rfl
    rfl
section
variable {α : Type} {VR : Hp → V → α → Prop} {H H' : Hp}
theorem KR.mono (m : ∀ v e, VR H v e → VR H' v e) : ∀ {kvs : List (List Key × V)} {st : List (Ch × α)}, KR VR H kvs st → KR VR H' kvs st
  | _, _, .nil => .nil
  | _, _, .cons a b => .cons ⟨a.1, m _ _ a.2⟩ (KR.mono m b)
theorem KR.val (c : Ch) : ∀ {kvs : List (List Key × V)} {st : List (Ch × α)}, KR VR H kvs st → (valV kvs (ik c) = none ∧ gv st c = none) ∨ ∃ v e, valV kvs (ik c) = some v ∧ gv st c = some e ∧ VR H v e
  | _, _, .nil => .inl ⟨rfl, rfl⟩
  | _, _, .cons (a := kv) (b := p) a b => by
    by_cases z : p.1 = c
    · refine .inr ⟨kv.2, p.2, valV_pos (by rw [a.1, z]), gv_pos z, a.2⟩
    · rw [valV_neg (by rw [a.1]; exact fun q => z (ik_inj.mp q)), gv_neg z]
      exact KR.val c b
theorem KR.anyk (c : Ch) : ∀ {kvs : List (List Key × V)} {st : List (Ch × α)}, KR VR H kvs st → (kvs.any fun kv => decide (kv.1 = ik c)) = (st.any fun kv => decide (kv.1 = c))
  | _, _, .nil => rfl
  | _, _, .cons (a := kv) (b := p) a b => by
    rw [List.any_cons, List.any_cons, KR.anyk c b, a.1]
    congr 1
    rw [Bool.eq_iff_iff, decide_eq_true_iff, decide_eq_true_iff]
    exact ik_inj
theorem KR.mapk (c : Ch) {v : V} {e : α} (hv : VR H v e) : ∀ {kvs : List (List Key × V)} {st : List (Ch × α)}, KR VR H kvs st → KR VR H (kvs.map fun kv => if kv.1 = ik c then (kv.1, v) else kv) (st.map fun kv => if kv.1 = c then (kv.1, e) else kv)
  | _, _, .nil => .nil
  | _, _, .cons (a := kv) (b := p) a b => by
    refine .cons ?_ (KR.mapk c hv b)
    show (if kv.1 = ik c then (kv.1, v) else kv).1 = ik (if p.1 = c then (p.1, e) else p).1 ∧ VR H (if kv.1 = ik c then (kv.1, v) else kv).2 (if p.1 = c then (p.1, e) else p).2
    by_cases z : p.1 = c
    · rw [if_pos (show kv.1 = ik c by rw [a.1, z]), if_pos z]
      exact ⟨a.1, hv⟩
    · rw [if_neg (show ¬ kv.1 = ik c by rw [a.1]; exact fun q => z (ik_inj.mp q)), if_neg z]
      exact a
theorem KR.put {c : Ch} {v : V} {e : α} {kvs : List (List Key × V)} {st : List (Ch × α)} (h : KR VR H kvs st) (hv : VR H v e) : KR VR H (putK kvs (ik c) v) (pv st c e) := by
  unfold putK Cm.pv
  rw [KR.anyk c h]
  by_cases z : (st.any fun kv => decide (kv.1 = c)) = true
  · rw [if_pos z, if_pos z]
    exact KR.mapk c hv h
  · rw [if_neg z, if_neg z]
    exact h.snoc ⟨rfl, hv⟩
theorem KR.keys : ∀ {kvs : List (List Key × V)} {st : List (Ch × α)}, KR VR H kvs st → kvs.map (·.1) = (st.map (·.1)).map ik
  | _, _, .nil => rfl
  | _, _, .cons a b => by
    rw [List.map_cons, List.map_cons, List.map_cons, KR.keys b, a.1]
end
theorem key_at {H : Hp} {b : Addr} {c : Ch} (h : H b = some (.tup (c.map V.int))) : H b = some (.tup ((ik c).map kV)) := by
  rw [ik_kV]
  exact h
section
variable {α : Type} {A : Alg α} {pr : List (List Int)} {st : List (Ch × α)} {b : Bool} {here : Ch} {s : Sq}
theorem relax_none (h : gv st (mv here s.1 s.2) = none) : relax A pr here (st, b) s = (st, b) := by
  have e : cand A pr st here s = none := by
    unfold cand
    rw [h]
    split <;> rfl
  unfold relax
  rw [show cand A pr (st, b).1 here s = none from e]
theorem relax_off (h : A.ok here = false) : relax A pr here (st, b) s = (st, b) := by
  have e : cand A pr st here s = none := by
    unfold cand
    rw [h]
    rfl
  unfold relax
  rw [show cand A pr (st, b).1 here s = none from e]
theorem relax_some {o : α} (h : A.ok here = true) (h2 : gv st (mv here s.1 s.2) = some o) : relax A pr here (st, b) s = if better A st here (A.lift o s (wt pr s)) = true then (Cm.pv st here (A.lift o s (wt pr s)), true) else (st, b) := by
  have e : cand A pr st here s = some (A.lift o s (wt pr s)) := by
    unfold cand
    rw [if_pos h, h2] <;> rfl
  unfold relax
  rw [show cand A pr (st, b).1 here s = some (A.lift o s (wt pr s)) from e]
end
theorem lexLt2 (a b c d : Int) : HT.lexLt [a, b] [c, d] = decide (a < c ∨ (a = c ∧ b < d)) := by
  rw [HT.lexLt_cons]
  by_cases h : a = c
  · rw [if_pos h, HT.lexLt_cons]
    by_cases k : b = d
    · rw [if_pos k, HT.lexLt_nil_nil]
      simp [h, k]
    · rw [if_neg k]
      simp [h]
  · rw [if_neg h]
    simp [h]
/-- a row of the price table -/
theorem price_at {n : Nat} {H : Hp} {xs : List V} {pr : List (List Int)} {s : Sq} (ok : PrOk n pr) (hs : s ∈ stp n) (hxs : Paired (TI H) xs pr) :
    ∃ (r : Addr) (l : List Int), atI xs (s.1 - 1) = some (.ref r) ∧ H r = some (.tup (l.map V.int)) ∧ atI (l.map V.int) s.2 = some (.int (wt pr s)) := by
  obtain ⟨l, h1, h2, _⟩ := wt_row ok hs
  obtain ⟨q1, q2, q3, q4, _⟩ := stp_facts.mp hs
  obtain ⟨x, hx, hxl⟩ := paired_get (F := TI H) hxs h1
  obtain ⟨r, rfl, hr⟩ := hxl
  refine ⟨r, l, ?_, hr, ?_⟩
  · have z := atI_nat (j := (s.1 - 1).toNat) hx
    rw [show (((s.1 - 1).toNat : Nat) : Int) = s.1 - 1 by omega] at z
    exact z
  · have h3 : (l.map V.int)[s.2.toNat]? = some (.int (wt pr s)) := by rw [List.getElem?_map, h2] <;> rfl
    have z := atI_nat (j := s.2.toNat) h3
    rw [show ((s.2.toNat : Nat) : Int) = s.2 by omega] at z
    exact z
end Cd

set_option Elab.async false
set_option linter.all false
set_option maxRecDepth 100000
set_option maxHeartbeats 4000000
/-! least_rows -/
namespace Cd
open PySem PySem.Spec PyProof.Rows L2 Cm
def SR (H : Hp) (v : V) : Option Sq → Prop
  | none => v = .non
  | some s => TI H v (l2 s)
def ER (H : Hp) (v : V) (e : Ent) : Prop := ∃ a sv, v = .ref a ∧ H a = some (.tup [.int e.1, .int e.2.1, sv]) ∧ SR H sv e.2.2
theorem ER.mono {H H' : Hp} (t : Tp H H') (v : V) (e : Ent) (h : ER H v e) : ER H' v e := by
  obtain ⟨a, sv, e1, h1, h2⟩ := h
  refine ⟨a, sv, e1, t _ _ h1, ?_⟩
  obtain ⟨p, k, o⟩ := e
  cases o with
  | none => exact h2
  | some s => exact TI.mono t h2
structure SI (T : List Addr) (H1 : Hp) (d : Addr) (n : Nat) (pr : List (List Int)) (g : Ch) (acc : List (Ch × Ent) × Bool) (H : Hp) : Prop where
  le : Le [] T H1 H
  dt : ∃ kvs, H d = some (.dT kvs) ∧ KR ER H kvs acc.1
  ip : IP n pr g acc.1
theorem SI.on {T : List Addr} {H1 H H' : Hp} {d : Addr} {n : Nat} {pr : List (List Int)} {g : Ch} {acc : List (Ch × Ent) × Bool} (h : SI T H1 d n pr g acc H) (l : Le [] T H H') : SI T H1 d n pr g acc H' := by
  obtain ⟨kvs, h1, h2⟩ := h.dt
  exact ⟨h.le.trans l, ⟨kvs, l.dt0 h1, h2.mono (ER.mono l.tup)⟩, h.ip⟩
theorem ip_len {n : Nat} (hn : Sz n) {pr : List (List Int)} {g : Ch} {st : List (Ch × Ent)} (I : IP n pr g st) : st.length ≤ 16 := by
  have h := nd_len _ _ I.nd (fun c hc => by
    cases z : gv st c with
    | none => exact absurd hc (gv_none.mp z)
    | some e => exact (I.ent c e z).1)
  rw [List.length_map] at h
  exact Nat.le_trans h (ch_facts hn).1
section
variable {P : Program} {w : World} {K : PySem.W.Frag} {mg : Str → Option Value} {base : Heap} {T : List Addr}
abbrev nLeast : List Str := ["goal", "prices", "size", "steps", "some", "found", "is_better", "here", "step", "there", "price", "part"]
theorem scLeast : FnScope nLeast ["goal", "prices"] (defScope sLeast) := ⟨rfl, rfl, rfl, by decide +kernel, rfl, by decide +kernel, by decide +kernel⟩
def spLeast (T : List Addr) : Sp := fun vs H Q _ => ∃ (vg vp : V) (n : Nat) (g : Ch) (pr : List (List Int)), vs = [vg, vp] ∧ Sz n ∧ TI H vg g ∧ g ∈ CH n ∧ TT H vp pr ∧ PrOk n pr ∧
  ∀ H' d kvs st, Le [] T H H' → H' d = some (.dT kvs) → KR ER H' kvs st → FinP n pr g st → Q (.ref d) H'
theorem foldl_snoc {α β : Type} {f : β → α → β} {b : β} {l : List α} {i : Nat} {x : α} (h : l[i]? = some x) : (l.take (i + 1)).foldl f b = f ((l.take i).foldl f b) x := by
  rw [take_snoc h, List.foldl_append]
  rfl
theorem ok_least (B : Bl mg) (DA : Df K mg "all_steps" sAllSteps ["size"]) (DU : Df K mg "comes_up" sComes ["chiefs"]) (DC : Df K mg "all_charts" sAllCharts ["size"]) (DS : Df K mg "stepped" sStepped ["chart", "step"]) (D : Df K mg "least_rows" sLeast ["goal", "prices"]) :
    FnOk P w K mg base CX0 3 D.f D.fd ["goal", "prices"] (spLeast T) := by
  have GA : FnOk P w K mg base CX0 1 DA.f DA.fd ["size"] (spSteps T) := ok_AllSteps B DA
  have GC : FnOk P w K mg base CX0 2 DC.f DC.fd ["size"] (spCharts T) := ok_AllCharts B DU DC
  have GS : FnOk P w K mg base CX0 1 DS.f DS.fd ["chart", "step"] (spStepped T) := ok_stepped B DS
  refine D.F.ok scLeast (fun vs H Q E h => ?_) (fun cdv A outer s0 H vs Q E hr h => ?_)
  · obtain ⟨vg, vp, n, g, pr, rfl, _⟩ := h
    rfl
  · obtain ⟨vg, vp, n, g, pr, rfl, hn, hg, hgm, hpr, hok, q⟩ := h
    have n3 : n ≤ 3 := by rcases hn with rfl | rfl | rfl <;> decide
    have hu := hu_of hr
    have nd := scLeast.nd
    refine ⟨_, pss_cons (ps_set (i := 2) nd rfl (.inl rfl) (pe_callB call_len_seq (by rfl) B.len PySem.boot_len (pa_cons (pv 0) pa_nil)))
      (pss_cons (ps_par (i := 3) (j := 4) rfl nd rfl rfl (by decide) rfl rfl (pa_cons (pe_call GA (hr.mono (by decide)) (by rfl) DA.g DA.F.kp DA.b .nil pass0 (pa_cons (pv 2) pa_nil)) (pa_cons (pe_call GC hr (by rfl) DC.g DC.F.kp DC.b .nil pass0 (pa_cons (pv 2) pa_nil)) pa_nil)) (by rfl))
      (pss_cons (ps_par (i := 5) (j := 6) rfl nd rfl rfl (by decide) rfl rfl (pa_cons (pe_disp1T hu (pv 0) (pe_tup (pa_cons pe_int (pa_cons pe_int (pa_cons pe_non pa_nil))))) (pa_cons pe_bl pa_nil)) (by rfl))
      (pss_cons (ps_while PassesOwn.never (pt_val (pv 6))
        (pss_cons (ps_set (i := 6) nd rfl (.inl rfl) pe_bl)
        (pss_one (ps_for PassesOwn.never rfl (pi_list (pv 4)) (pg_name (i := 7) nd rfl (.inl rfl))
          (pss_one (ps_for PassesOwn.never rfl (pi_list (pv 3)) (pg_name (i := 8) nd rfl (.inl rfl))
            (pss_cons (ps_set (i := 9) nd rfl (.inl rfl) (pe_call GS (hr.mono (by decide)) (by rfl) DS.g DS.F.kp DS.b .nil pass0 (pa_cons (pv 7) (pa_cons (pv 8) pa_nil))))
            (pss_one (ps_if (PW.pt (pw_and (pt_cmp (pc_din hu (pv 9) (pv 5))) (pw_and1 (pt_cmpR (op_neD hr.units) (pv 7) (pv 0) (nomark _)))))
              (pss_cons (ps_set (i := 10) nd rfl (.inl rfl) (pe_op op_add (pe_ix ix_tup (pe_dget hu (pv 5) (pv 9) (fun _ _ => rfl)) pe_int (fun _ _ => rfl)) (pe_ix ix_tup (pe_ix ix_tup (pv 1) (pe_op op_sub (pe_ix ix_tup (pv 8) pe_int (fun _ _ => rfl)) pe_int) (fun _ _ => rfl)) (pe_ix ix_tup (pv 8) pe_int (fun _ _ => rfl)) (fun _ _ => rfl))))
              (pss_cons (ps_set (i := 11) nd rfl (.inl rfl) (pe_tup (pa_cons (pv 10) (pa_cons (pe_op op_add (pe_ix ix_tup (pe_dget hu (pv 5) (pv 9) (fun _ _ => rfl)) pe_int (fun _ _ => rfl)) pe_int) (pa_cons (pv 8) pa_nil)))))
              (pss_one (ps_if (PW.pt (pw_or (pt_cmp (pc_dnotin hu (pv 7) (pv 5))) (pw_or1 (pt_cmpR (op_ltT hr.units0) (pe_slice sl_tup (pv 11) po_none (po_some pe_int)) (pe_slice sl_tup (pe_dget hu (pv 5) (pv 7) (fun _ _ => rfl)) po_none (po_some pe_int)) (nomark _)))))
                (pss_cons (ps_dput hu (pv 5) (pv 7) (pv 11) rfl) (pss_one (ps_set (i := 6) nd rfl (.inl rfl) pe_bl))) pss_nil)))) pss_nil)))))))))
      (pss_one (ps_ret (pv 5)))))), ?_⟩
    obtain ⟨ag, rfl, hag⟩ := hg
    obtain ⟨ap, xp, rfl, hap, hxp⟩ := hpr
    have gl : g.length = n := ((ch_facts hn).2.2.2.1 g hgm).1
    refine ⟨.ref ag, rfl, ag, g.map V.int, rfl, .inr (SqT.of hag), ?_⟩
    rw [show (((g.map V.int).length : Nat) : Int) = (n : Int) by rw [List.length_map, gl]]
    refine ⟨.int n, rfl, n, rfl, by omega, fun v1 H1 l1 hst => ⟨.int n, rfl, n, rfl, hn, fun v2 H2 l2' hso => ⟨_, _, rfl, ?_⟩⟩⟩
    have hst2 := hst.le0 l2'
    obtain ⟨sa, sxs, rfl, hsa, hsx⟩ := hst2
    obtain ⟨oa, oxs, rfl, hoa, hox⟩ := hso
    have le12 := l1.trans l2'
    refine fun d nd2 => ⟨_, rfl, by show 3 ≤ sizeLine; decide, fun t nt => ?_⟩
    have le3 : Le [] T H2 (upd H2 d (.dT [])) := Le.one nd2
    have le4 := le3.new (o := .tup [.int 0, .int 0, .non]) (le3.dom _ nt)
    have hdt : d ≠ t := ne_of_none upd_same nt
    have hd4 : (upd (upd H2 d (.dT [])) t (.tup [.int 0, .int 0, .non])) d = some (.dT []) := by
      rw [upd_ne hdt]
      exact upd_same
    have le5 := le4.new (o := .dT [(ik g, .ref t)]) nd2
    refine ⟨hd4, ag, ik g, rfl, key_at (le4.tup _ _ (le12.tup _ _ hag)), _, _, rfl, ?_⟩
    have si0 : SI T H2 d n pr g ([(g, (0, 0, none))], true) (upd (upd (upd H2 d (.dT [])) t (.tup [.int 0, .int 0, .non])) d (.dT [(ik g, .ref t)])) := by
      refine ⟨le5, ⟨_, upd_same, .cons ⟨rfl, t, .non, rfl, ?_, rfl⟩ .nil⟩, ip_start hgm⟩
      rw [upd_ne hdt.symm]
      exact upd_same
    obtain ⟨k0, hk0⟩ := ip_runs hok _ si0.ip
    refine ⟨fun m σ H => ∃ acc y7 y8 y9 y10 y11, σ = [some (.ref ag), some (.ref ap), some (.int n), some (.ref sa), some (.ref oa), some (.ref d), some (.bl acc.2), y7, y8, y9, y10, y11] ∧ SI T H2 d n pr g acc H ∧
      ((acc.2 = true ∧ ∃ k, Runs (AP g) n pr k acc.1 ∧ m = k + 1) ∨ (acc.2 = false ∧ m = 0 ∧ Still (AP g) n pr acc.1)), ⟨k0 + 1, _, _, _, _, _, _, rfl, si0, .inl ⟨rfl, k0, hk0, rfl⟩⟩, fun m σ H3 hW => ?_⟩
    obtain ⟨⟨st, b⟩, y7, y8, y9, y10, y11, rfl, si, hm⟩ := hW
    refine ⟨_, rfl, b, rfl, ?_⟩
    rcases hm with ⟨hb, k, hk, rfl⟩ | ⟨hb, rfl, hs⟩
    · replace hb : b = true := hb
      subst hb
      refine ⟨fun σ' H' => ∃ y7 y8 y9 y10 y11, σ' = [some (.ref ag), some (.ref ap), some (.int n), some (.ref sa), some (.ref oa), some (.ref d), some (.bl (pass (AP g) n pr st).2), y7, y8, y9, y10, y11] ∧ SI T H2 d n pr g (pass (AP g) n pr st) H', fun σ' H' hN => ?_, ?_⟩
      · obtain ⟨y7, y8, y9, y10, y11, rfl, si'⟩ := hN
        cases k with
        | zero =>
          have hk' : (pass (AP g) n pr st).2 = false := hk
          obtain ⟨p1, p2⟩ := pass_still (AP g) n pr hk'
          refine ⟨0, Nat.succ_pos _, pass (AP g) n pr st, _, _, _, _, _, rfl, si', .inr ⟨hk', rfl, ?_⟩⟩
          rw [p1]
          exact p2
        | succ k =>
          obtain ⟨k1, k2⟩ : (pass (AP g) n pr st).2 = true ∧ Runs (AP g) n pr k (pass (AP g) n pr st).1 := hk
          exact ⟨k + 1, Nat.lt_succ_self _, pass (AP g) n pr st, _, _, _, _, _, rfl, si', .inl ⟨k1, k, k2, rfl⟩⟩
      · have oal := hox.length
        refine ⟨_, rfl, oa, rfl, ⟨oxs, SqL.of (si.le.lst0 hoa)⟩, ?_⟩
        refine for_list (K := K) (a := oa) (xs := oxs) (fun i σ H => ∃ y7 y8 y9 y10 y11, σ = [some (.ref ag), some (.ref ap), some (.int n), some (.ref sa), some (.ref oa), some (.ref d), some (.bl (((CH n).take i).foldl (fun acc here => inner (AP g) n pr here acc) (st, false)).2), y7, y8, y9, y10, y11] ∧ SI T H2 d n pr g (((CH n).take i).foldl (fun acc here => inner (AP g) n pr here acc) (st, false)) H)
          ⟨_, _, _, _, _, rfl, si.le, si.dt, si.ip⟩ (fun i σ H _ hP => ?_) (fun i x σ H hx hP => ?_) (fun σ H hP => ?_)
        · obtain ⟨y7, y8, y9, y10, y11, rfl, si'⟩ := hP
          exact SqL.of (si'.le.lst0 hoa)
        · obtain ⟨y7, y8, y9, y10, y11, rfl, si1⟩ := hP
          obtain ⟨c, hc, hxc⟩ := paired_at hox hx
          have hcm := List.mem_of_getElem? hc
          obtain ⟨cl, cb⟩ := (ch_facts hn).2.2.2.1 c hcm
          have sal := hsx.length
          rw [List.length_map] at sal
          rw [foldl_snoc hc]
          generalize ((CH n).take i).foldl (fun acc here => inner (AP g) n pr here acc) (st, false) = acc1 at si1 ⊢
          refine ⟨_, rfl, sa, rfl, ⟨sxs, SqL.of (si1.le.lst0 hsa)⟩, ?_⟩
          refine for_list (K := K) (a := sa) (xs := sxs) (fun j σ H => ∃ y8 y9 y10 y11, σ = [some (.ref ag), some (.ref ap), some (.int n), some (.ref sa), some (.ref oa), some (.ref d), some (.bl (((stp n).take j).foldl (relax (AP g) pr c) acc1).2), some x, y8, y9, y10, y11] ∧ SI T H2 d n pr g (((stp n).take j).foldl (relax (AP g) pr c) acc1) H)
            ⟨_, _, _, _, rfl, si1.le, si1.dt, si1.ip⟩ (fun j σ H _ hP => ?_) (fun j z σ H hz hP => ?_) (fun σ H hP => ?_)
          · obtain ⟨y8, y9, y10, y11, rfl, si'⟩ := hP
            exact SqL.of (si'.le.lst0 hsa)
          · obtain ⟨y8, y9, y10, y11, rfl, si2⟩ := hP
            obtain ⟨w2, hw2, hzw⟩ := paired_at hsx hz
            obtain ⟨s, hs, rfl⟩ := map_at hw2
            have hsm := List.mem_of_getElem? hs
            obtain ⟨s1, s2, s3, s4, s5⟩ := stp_facts.mp hsm
            rw [foldl_snoc hs]
            generalize ((stp n).take j).foldl (relax (AP g) pr c) acc1 = acc2 at si2 ⊢
            obtain ⟨st2, b2⟩ := acc2
            refine ⟨_, rfl, _, rfl, x, z, c, s.1, s.2, rfl, hxc.mono si2.le.tup, hzw.mono si2.le.tup, s1, by omega, by omega, fun vt Ha la ht => ?_⟩
            have si3 := si2.on la
            obtain ⟨b9, rfl, hb9⟩ := ht
            obtain ⟨bh, rfl, hbh0⟩ := hxc
            obtain ⟨bs, rfl, hbs0⟩ := hzw
            have hbh := si3.le.tup _ _ hbh0
            have hbs := si3.le.tup _ _ hbs0
            obtain ⟨kvs, hd, hkr⟩ := si3.dt
            refine ⟨.ref b9, rfl, .ref d, rfl, d, _, rfl, DGet.t hd (key_at hb9), _, rfl, ?_⟩
            rcases hkr.val (mv c s.1 s.2) with ⟨e1, e2⟩ | ⟨v1, e, e1, e2, er⟩
            · rw [e1]
              rw [relax_none (A := AP g) e2]
              exact ⟨_, _, _, _, rfl, si3⟩
            · rw [e1]
              have hxg := TI.dp (K := K) (⟨bh, rfl, hbh⟩ : TI Ha (.ref bh) c)
              have hgg := TI.dp (K := K) (⟨ag, rfl, si3.le.tup _ _ (le12.tup _ _ hag)⟩ : TI Ha (.ref ag) g)
              refine ⟨.ref bh, rfl, .ref ag, rfl, _, _, hxg, hgg, shaped_ti c, shaped_ti g, _, rfl, ?_⟩
              rw [eqv_tups]
              by_cases zg : c = g
              · rw [decide_eq_true zg]
                rw [relax_off (A := AP g) (show decide (c ≠ g) = false from decide_eq_false (fun h => h zg))]
                exact ⟨_, _, _, _, rfl, si3⟩
              · rw [decide_eq_false zg]
                obtain ⟨a1, sv1, rfl, ha1, _⟩ := er
                obtain ⟨r, l, hat1, hr0, hat2⟩ := price_at hok hsm hxp
                have hap3 := si3.le.tup _ _ (le12.tup _ _ hap)
                have hr3 := si3.le.tup _ _ (le12.tup _ _ hr0)
                have dg : DGet Ha d (.ref b9) (some (.ref a1)) := by
                  rw [← e1]
                  exact DGet.t hd (key_at hb9)
                refine ⟨.ref d, rfl, .ref b9, rfl, d, .ref a1, rfl, dg, a1, _, 0, .int e.1, rfl, rfl, SqT.of ha1, atI_nat (j := 0) rfl, ?_⟩
                refine ⟨.ref ap, rfl, .ref bs, rfl, bs, _, 0, .int s.1, rfl, rfl, SqT.of hbs, atI_nat (j := 0) rfl, s.1, 1, rfl, rfl, ap, xp, s.1 - 1, .ref r, rfl, rfl, SqT.of hap3, hat1, ?_⟩
                refine ⟨.ref bs, rfl, bs, _, 1, .int s.2, rfl, rfl, SqT.of hbs, atI_nat (j := 1) rfl, r, _, s.2, _, rfl, rfl, SqT.of hr3, hat2, e.1, wt pr s, rfl, rfl, ?_⟩
                refine ⟨_, rfl, .ref d, rfl, .ref b9, rfl, d, .ref a1, rfl, dg, a1, _, 1, .int e.2.1, rfl, rfl, SqT.of ha1, atI_nat (j := 1) rfl, e.2.1, 1, rfl, rfl, _, rfl, by show 3 ≤ sizeLine; decide, fun t2 nt2 => ?_⟩
                have si4 := si3.on (Le.one (o := .tup [.int (e.1 + wt pr s), .int (e.2.1 + 1), .ref bs]) nt2)
                obtain ⟨kvs4, hd4, hkr4⟩ := si4.dt
                have tp4 : Tp Ha (upd Ha t2 (.tup [.int (e.1 + wt pr s), .int (e.2.1 + 1), .ref bs])) := Tp.new nt2
                have hbh4 := tp4 _ _ hbh
                have et : ER (upd Ha t2 (.tup [.int (e.1 + wt pr s), .int (e.2.1 + 1), .ref bs])) (.ref t2) ((AP g).lift e s (wt pr s)) := ⟨t2, .ref bs, rfl, upd_same, bs, rfl, tp4 _ _ hbs⟩
                have ipk := ip_keep hok c hcm s hsm st2 b2 si2.ip
                rw [relax_some (A := AP g) (show decide (c ≠ g) = true from decide_eq_true zg) e2] at ipk ⊢
                generalize hHb : upd Ha t2 (.tup [.int (e.1 + wt pr s), .int (e.2.1 + 1), .ref bs]) = Hb at si4 hd4 hkr4 tp4 hbh4 et ⊢
                have ht2 : Hb t2 = some (.tup [.int (e.1 + wt pr s), .int (e.2.1 + 1), .ref bs]) := by rw [← hHb]; exact upd_same
                have put : ∀ Hc, Le [] T Hb Hc → better (AP g) st2 c ((AP g).lift e s (wt pr s)) = true → Hc d = some (.dT kvs4) → KR ER Hc kvs4 st2 → ER Hc (.ref t2) ((AP g).lift e s (wt pr s)) →
                    SI T H2 d n pr g (if better (AP g) st2 c ((AP g).lift e s (wt pr s)) = true then (Cm.pv st2 c ((AP g).lift e s (wt pr s)), true) else (st2, b2)) (upd Hc d (.dT (putK kvs4 (ik c) (.ref t2)))) := fun Hc lc hb hdc hkc hec => by
                  rw [if_pos hb] at ipk ⊢
                  have tp : Tp Hc (upd Hc d (.dT (putK kvs4 (ik c) (.ref t2)))) := (Tp.refl Hc).upd (nt_dt hdc)
                  exact ⟨(si4.le.trans lc).new nd2, ⟨_, upd_same, (hkc.put hec).mono (ER.mono tp)⟩, ipk⟩
                have len4 : kvs4.length < sizeLine := by
                  have a : kvs4.length = st2.length := hkr4.length
                  have b : st2.length ≤ 16 := ip_len hn si2.ip
                  exact small1000 (by omega)
                refine ⟨.ref bh, rfl, .ref d, rfl, d, _, rfl, DGet.t hd4 (key_at hbh4), _, rfl, ?_⟩
                rcases hkr4.val c with ⟨f1, f2⟩ | ⟨v0, e0, f1, f2, er0⟩
                · rw [f1]
                  refine ⟨.ref t2, rfl, .ref d, rfl, .ref bh, rfl, d, _, rfl, DPut.t hd4 (key_at hbh4) len4, ?_⟩
                  have hb : better (AP g) st2 c ((AP g).lift e s (wt pr s)) = true := by
                    unfold better
                    rw [f2]
                  have := put Hb (Le.refl Hb) hb hd4 hkr4 et
                  rw [hb] at this ⊢
                  exact ⟨_, _, _, _, rfl, this⟩
                · rw [f1]
                  obtain ⟨a0, sv0, rfl, ha0, _⟩ := er0
                  refine ⟨.ref t2, rfl, 2, rfl, t2, _, rfl, SqT.of ht2, by show ¬ (HT.sIx 3 0 none = 0 ∧ HT.sIx 3 3 (some 2) = 3); decide, fun p1 np1 => ?_⟩
                  have tp5 : Tp Hb (upd Hb p1 (.tup (cutV [.int (e.1 + wt pr s), .int (e.2.1 + 1), .ref bs] none (some 2)))) := Tp.new np1
                  have lc5 : Le [] T Hb (upd Hb p1 (.tup (cutV [.int (e.1 + wt pr s), .int (e.2.1 + 1), .ref bs] none (some 2)))) := Le.one np1
                  have hp1 : upd Hb p1 (.tup (cutV [.int (e.1 + wt pr s), .int (e.2.1 + 1), .ref bs] none (some 2))) p1 = some (.tup ([e.1 + wt pr s, e.2.1 + 1].map V.int)) := upd_same
                  generalize upd Hb p1 (.tup (cutV [.int (e.1 + wt pr s), .int (e.2.1 + 1), .ref bs] none (some 2))) = Hc at tp5 lc5 hp1 ⊢
                  have dg0 : DGet Hc d (.ref bh) (some (.ref a0)) := by
                    rw [← f1]
                    exact DGet.t (lc5.dt0 hd4) (key_at (tp5 _ _ hbh4))
                  refine ⟨.ref d, rfl, .ref bh, rfl, d, .ref a0, rfl, dg0, 2, rfl, a0, _, rfl, SqT.of (tp5 _ _ ha0), by show ¬ (HT.sIx 3 0 none = 0 ∧ HT.sIx 3 3 (some 2) = 3); decide, fun p2 np2 => ?_⟩
                  have tp6 : Tp Hc (upd Hc p2 (.tup (cutV [.int e0.1, .int e0.2.1, sv0] none (some 2)))) := Tp.new np2
                  have lc6 : Le [] T Hc (upd Hc p2 (.tup (cutV [.int e0.1, .int e0.2.1, sv0] none (some 2)))) := Le.one np2
                  have hp2 : upd Hc p2 (.tup (cutV [.int e0.1, .int e0.2.1, sv0] none (some 2))) p2 = some (.tup ([e0.1, e0.2.1].map V.int)) := upd_same
                  generalize upd Hc p2 (.tup (cutV [.int e0.1, .int e0.2.1, sv0] none (some 2))) = Hd at tp6 lc6 hp2 ⊢
                  refine ⟨p1, p2, _, _, rfl, rfl, SqT.of (tp6 _ _ hp1), SqT.of hp2, _, rfl, ?_⟩
                  rw [lexLt2]
                  have hbe : better (AP g) st2 c ((AP g).lift e s (wt pr s)) = decide (e.1 + wt pr s < e0.1 ∨ (e.1 + wt pr s = e0.1 ∧ e.2.1 + 1 < e0.2.1)) := by
                    unfold better
                    rw [f2]
                    rfl
                  cases hb : decide (e.1 + wt pr s < e0.1 ∨ (e.1 + wt pr s = e0.1 ∧ e.2.1 + 1 < e0.2.1)) with
                  | true =>
                    rw [hb] at hbe
                    have hbh6 := tp6 _ _ (tp5 _ _ hbh4)
                    have hd6 := lc6.dt0 (lc5.dt0 hd4)
                    refine ⟨.ref t2, rfl, .ref d, rfl, .ref bh, rfl, d, _, rfl, DPut.t hd6 (key_at hbh6) len4, ?_⟩
                    have := put Hd (lc5.trans lc6) hbe hd6 (hkr4.mono (ER.mono (tp5.trans tp6))) (ER.mono (tp5.trans tp6) _ _ et)
                    rw [hbe] at this ⊢
                    exact ⟨_, _, _, _, rfl, this⟩
                  | false =>
                    rw [hb] at hbe
                    rw [hbe]
                    exact ⟨_, _, _, _, rfl, (si4.on lc5).on lc6⟩
          · obtain ⟨y8, y9, y10, y11, rfl, si'⟩ := hP
            rw [sal, List.take_length] at si'
            rw [sal, List.take_length]
            exact ⟨_, _, _, _, _, rfl, si'⟩
        · obtain ⟨y7, y8, y9, y10, y11, rfl, si'⟩ := hP
          rw [oal, List.take_length] at si'
          rw [oal, List.take_length]
          exact ⟨_, _, _, _, _, rfl, si'⟩
    · replace hb : b = false := hb
      subst hb
      obtain ⟨kvs, h1, h2⟩ := si.dt
      exact ⟨_, rfl, q _ _ _ _ (le12.trans si.le) h1 h2 (finP hn hgm hok si.ip hs)⟩
end
end Cd

set_option Elab.async false
set_option linter.all false
set_option maxRecDepth 100000
set_option maxHeartbeats 4000000
/-! is_in, are_steps, price_of -/
namespace Cd
open PySem PySem.Spec PyProof.Rows L2 Cm
theorem boot_sum : bootBuiltins "sum" = some (.builtin "sum") := by decide +kernel
theorem kit_lt {K : PySem.W.Frag} : PySem.W.kitOne K (.type "list") (.type "tuple") = some false := kit_ty (by decide +kernel)
theorem kit_nt {K : PySem.W.Frag} : PySem.W.kitOne K (.type "NoneType") (.type "tuple") = some false := kit_ty (by decide +kernel)
theorem kit_it {K : PySem.W.Frag} : PySem.W.kitOne K (.type "int") (.type "tuple") = some false := kit_ty (by decide +kernel)
def okStep (n : Nat) (s : Sq) : Bool := decide (1 ≤ s.1) && decide (s.1 ≤ n) && (decide (0 ≤ s.2) && decide (s.2 ≤ n) && !decide (s.1 = s.2))
theorem okStep_mem {n : Nat} {s : Sq} : okStep n s = true ↔ s ∈ stp n := by
  rw [stp_facts]
  unfold okStep
  simp only [Bool.and_eq_true, decide_eq_true_iff, Bool.not_eq_true', decide_eq_false_iff_not]
  constructor
  · rintro ⟨⟨a, b⟩, ⟨c, d⟩, e⟩
    exact ⟨a, b, c, d, e⟩
  · rintro ⟨a, b, c, d, e⟩
    exact ⟨⟨a, b⟩, ⟨c, d⟩, e⟩
section
variable {P : Program} {w : World} {K : PySem.W.Frag} {mg : Str → Option Value} {base : Heap} {T : List Addr}
theorem scIn : FnScope ["value", "least", "most"] ["value", "least", "most"] (defScope sIn) := ⟨rfl, rfl, rfl, by decide +kernel, rfl, by decide +kernel, by decide +kernel⟩
def spIn : Sp := fun vs H Q _ => ∃ n a b : Int, vs = [.int n, .int a, .int b] ∧ Q (.bl (decide (a ≤ n) && decide (n ≤ b))) H
theorem ok_in (B : Bl mg) (D : Df K mg "is_in" sIn ["value", "least", "most"]) : FnOk P w K mg base CX0 1 D.f D.fd ["value", "least", "most"] spIn := by
  refine D.F.ok scIn (fun vs H Q E h => ?_) (fun cdv A outer s H vs Q E hr h => ?_)
  · obtain ⟨n, a, b, rfl, _⟩ := h
    rfl
  · obtain ⟨n, a, b, rfl, q⟩ := h
    refine ⟨_, pss_one (ps_ret (pe_and (pe_callB call_isi (by rfl) B.isi boot_isi (pa_cons (pv 0) (pa_cons (pe_bltn (v := .ty "int") (by rfl) B.int boot_int rfl) pa_nil)))
      (pe_and (pe_not (pe_callB call_isi (by rfl) B.isi boot_isi (pa_cons (pv 0) (pa_cons (pe_bltn (v := .ty "bool") (by rfl) B.bool boot_bool rfl) pa_nil))))
      (pe_one (pe_chain op_le op_le (pv 1) (pv 0) (pv 2)))))), ?_⟩
    refine ⟨.int n, rfl, .int n, .ty "int", .type "int", .type "int", true, rfl, .ty _, .base (.int n), kit_ii, true, rfl, ?_⟩
    refine ⟨.int n, rfl, .int n, .ty "bool", .type "int", .type "bool", false, rfl, .ty _, .base (.int n), kit_ib, false, rfl, true, rfl, ?_⟩
    refine ⟨_, rfl, _, rfl, a, n, rfl, rfl, _, rfl, ?_⟩
    cases z : decide (a ≤ n) with
    | true =>
      rw [z] at q
      exact ⟨_, rfl, n, b, rfl, rfl, q⟩
    | false =>
      rw [z] at q
      exact q
abbrev nAreSteps : List Str := ["size", "value", "most"]
theorem scAreSteps : FnScope nAreSteps nAreSteps (defScope sAreSteps) := ⟨rfl, rfl, rfl, by decide +kernel, rfl, by decide +kernel, by decide +kernel⟩
def spAreSteps (Pt : Addr) (T : List Addr) : Sp := fun vs H Q _ => ∃ (n : Nat) (a : Addr) (m : Int), vs = [.int n, .ref a, .int m] ∧ Tb T H ∧ Pt ∈ T ∧
  ((∃ xs, H a = some (.lst xs) ∧ Q (.bl false) H) ∨ ∃ ws : List Sq, TT H (.ref a) (ws.map l2) ∧ ∀ H', Le [] T H H' → Q (.bl (decide ((ws.length : Int) ≤ m) && ws.all (okStep n))) H')
def ecStep : L2.St → Hp → V → V → Prop := fun σ H x y => ∃ (n : Nat) (y1 y2 : Option V) (s : Sq) (t : Addr), σ = [some (.int n), y1, y2] ∧ x = .ref t ∧ H t = some (.tup [.int s.1, .int s.2]) ∧ y = .bl (okStep n s)
open Cq in
theorem ok_areSteps {Pt : Addr} (B : Bl mg) (DI : Df K mg "is_in" sIn ["value", "least", "most"]) (DS : Df K mg "is_step" sIsStep ["size", "value"]) (D : DfG K mg "are_steps" sAreSteps nAreSteps) (TB : GxR.TabB base mg D.c Pt) :
    FnOk P w K mg base CX0 4 D.f D.fd nAreSteps (spAreSteps Pt T) := by
  have GS : FnQ P w K mg 2 DS.f DS.fd _ sqStep := qf_step B DI DS
  refine D.F.ok scAreSteps (fun vs H Q E h => ?_) (fun A outer s0 H vs Q E hr h => ?_)
  · obtain ⟨n, a, m, rfl, _⟩ := h
    rfl
  · obtain ⟨n, a, m, rfl, hTb, hPt, h⟩ := h
    refine ⟨_, pss_one (ps_ret (pe_and (pe_callB call_isi (by rfl) B.isi boot_isi (pa_cons (pv 1) (pa_cons (pe_bltn (v := .ty "tuple") (by rfl) B.tuple boot_tup rfl) pa_nil)))
      (pe_and (pe_cmpR op_le (pe_callB call_len_seq (by rfl) B.len PySem.boot_len (pa_cons (pv 1) pa_nil)) (pv 2) (nomark _))
      (pe_one (pe_allT (P := Pt) (te := tVar 1) (EC := ecStep) hr (by rfl) B.all boot_all TB rfl ⟨rfl, rfl, by decide, by rfl, by rfl, ?_⟩ (pv 1) ?_ (fun _ => rfl)))))), ?_⟩
    · intro y hy e
      rcases List.mem_cons.mp hy with rfl | hy
      · cases e
      rcases List.mem_cons.mp hy with rfl | hy
      · cases e
      rcases List.mem_cons.mp hy with rfl | hy
      · exact ⟨_, rfl⟩
      rcases List.mem_cons.mp hy with rfl | hy
      · cases e
      cases hy
    · intro pins σ H1 s1 xv yv u C code A' I ec r hP h0 h1 h2
      obtain ⟨n, y1, y2, s, t, rfl, rfl, ht, rfl⟩ := ec
      have ok := gQc_ok (sc := ⟨.function, [(".0", .local), ("step", .local), ("size", .free), ("is_step", .globalImplicit)], true, false, []⟩) (cl := cloFrom (cxOf CX0 P w K mg base nAreSteps "are_steps" (defScope sAreSteps) D.f (.ref D.c) A outer s0 H E).nox.env.cells [(".0", .local), ("step", .local), ("size", .free), ("is_step", .globalImplicit)] []) (C := C) (code := code) (x := "step") (u := u) (A := A') I hP rfl
      exact qe_call ok GS (room_in hr h0 h1 h2) DS.F.kp (by rfl) DS.g (qa_cons ok (qe_freeG I hP ok (i := 0) rfl rfl rfl rfl rfl) (qa_cons ok (qe_one ok rfl r) qa_nil)) (fun h j => by
        obtain ⟨its, rv, hi⟩ := qtupG I hP ht h j
        exact ⟨n, s.1, s.2, t, its, rfl, rv, hi, rfl⟩)
    · rcases h with ⟨xs, hx, q⟩ | ⟨ws, ⟨a', xs, ea, ha, hxs⟩, q⟩
      · exact ⟨.ref a, rfl, .ref a, .ty "tuple", .type "list", .type "tuple", false, rfl, .ty _, .base (.lst hx), kit_lt, false, rfl, q⟩
      · cases ea
        have xl := hxs.length
        rw [List.length_map] at xl
        have htab : GxR.TabG H Pt := hTb Pt hPt
        refine ⟨.ref a, rfl, .ref a, .ty "tuple", .type "tuple", .type "tuple", true, rfl, .ty _, .base (.tup ha), kit_tt, true, rfl, ?_⟩
        refine ⟨.ref a, rfl, a, xs, rfl, .inr (SqT.of ha), _, rfl, _, _, rfl, rfl, _, rfl, ?_⟩
        rw [xl]
        cases z : decide ((ws.length : Int) ≤ m) with
        | false =>
          rw [z] at q
          exact q _ (Le.refl H)
        | true =>
          rw [z] at q
          refine ⟨.ref a, rfl, a, xs, ws.map (okStep n), rfl, SqT.of ha, by rw [List.length_map, xl], fun i x b hx hb => ?_, htab, fun H2 ht => ?_⟩
          · obtain ⟨c2, hc2, hxc⟩ := paired_at hxs hx
            obtain ⟨s, hs, rfl⟩ := map_at hc2
            rw [List.getElem?_map, hs] at hb
            cases hb
            obtain ⟨t, rfl, ht⟩ := hxc
            exact ⟨n, _, _, s, t, rfl, rfl, ht, rfl⟩
          · have e : (ws.map (okStep n)).all _root_.id = ws.all (okStep n) := by
              rw [List.all_map]
              rfl
            rw [e]
            exact q _ (Le.tabbed htab ht)
theorem scPriceOf : FnScope ["prices", "row"] ["prices", "row"] (defScope sPriceOf) := ⟨rfl, rfl, rfl, by decide +kernel, rfl, by decide +kernel, by decide +kernel⟩
def spPriceOf (Pt : Addr) (T : List Addr) : Sp := fun vs H Q _ => ∃ (n : Nat) (vp vr : V) (pr : List (List Int)) (ws : List Sq), vs = [vp, vr] ∧ n ≤ 6 ∧ TT H vp pr ∧ PrOk n pr ∧ TT H vr (ws.map l2) ∧ (∀ s ∈ ws, s ∈ stp n) ∧ Tb T H ∧ Pt ∈ T ∧ ∀ H', Le [] T H H' → Q (.int (ws.map (wt pr)).sum) H'
def ecPrice : L2.St → Hp → V → V → V → Prop := fun σ H x y z => ∃ (n : Nat) (a : Addr) (y1 : Option V) (xs : List V) (pr : List (List Int)) (s : Sq), σ = [some (.ref a), y1] ∧ n ≤ 6 ∧ H a = some (.tup xs) ∧ Paired (TI H) xs pr ∧ PrOk n pr ∧ s ∈ stp n ∧ x = .int s.1 ∧ y = .int s.2 ∧ z = .int (wt pr s)
open Cq in
theorem qtupG2 {X : Cx} {pins : List (Addr × Obj)} {σ : L2.St} {H1 : Hp} {s1 : Shared} {Pt C : Addr} {sc : Scope} {code : Value} {xa xb : Str} {ua ub : Value} {A : Around} {cl : List (Str × Addr)} {a : Addr} {xs : List V} (I : Inv X pins σ H1 s1) (hP : GxR.TabG H1 Pt) (h : H1 a = some (.tup xs)) :
    QTup (gQc2 X Pt sc cl C code s1.heap xa xb ua ub A) a xs := fun h' j => by
  obtain ⟨its, r, ⟨o, e1, e2⟩, _⟩ := I.tuple (SqT.of h)
  refine ⟨its, r, o, j.1 a o (fun e => ?_) e1, e2⟩
  obtain ⟨ps, e3, _⟩ := hP
  rw [e, e3] at h
  cases h
open Cq in
theorem qe_freeG2 {X : Cx} {pins : List (Addr × Obj)} {σ : L2.St} {H1 : Hp} {s1 : Shared} {Pt C : Addr} {sc : Scope} {code : Value} {xa xb y : Str} {ua ub : Value} {A : Around} {i : Nat} {v : V} {pos : Pos} (I : Inv X pins σ H1 s1) (hP : GxR.TabG H1 Pt)
    (ok : (gQc2 X Pt sc (cloFrom X.env.cells sc.names []) C code s1.heap xa xb ua ub A).Ok) (hN : X.N[i]? = some y) (hσ : σ[i]? = some (some v)) (hy : X.env.kindOf y = some .cell) (hs : sc.names.lookup y = some .free) (hcl : (cloFrom X.env.cells sc.names []).lookup y = some ((X.env.cells.lookup y).getD 0))
    (hd : (y == ("__debug__" : Str)) = false := by decide) (hcd : (y == ("__classdict__" : Str)) = false := by decide) : QE (gQc2 X Pt sc (cloFrom X.env.cells sc.names []) C code s1.heap xa xb ua ub A) (.Name y pos) v := by
  refine qe_free ok hs (fun h j => ?_) hd hcd
  obtain ⟨m, hn, hl⟩ := I.loc
  obtain ⟨z, r, l⟩ := hl i y v hN hσ (.inr (.inl hy))
  rcases l with ⟨hk, hm⟩ | ⟨hk, c, hc, o, ho, hcell⟩
  · exfalso
    have hk2 : X.env.kindOf y = some .local := hk
    rw [hk2] at hy
    cases hy
  · refine ⟨c, z, ?_, ⟨o, j.1 c o (fun e => ?_) ho, hcell⟩, r⟩
    · show (cloFrom X.env.cells sc.names []).lookup y = some c
      rw [hcl, hc]
      rfl
    · obtain ⟨ps, e1, _⟩ := hP
      have := I.freeC y c hc
      rw [e, e1] at this
      cases this
open Cq in
theorem ok_priceOf {Pt : Addr} (B : Bl mg) (D : DfG K mg "price_of" sPriceOf ["prices", "row"]) (TB : GxR.TabB base mg D.c Pt) :
    FnOk P w K mg base CX0 3 D.f D.fd ["prices", "row"] (spPriceOf Pt T) := by
  refine D.F.ok scPriceOf (fun vs H Q E h => ?_) (fun A outer s0 H vs Q E hr h => ?_)
  · obtain ⟨n, vp, vr, pr, ws, rfl, _⟩ := h
    rfl
  · obtain ⟨n, vp, vr, pr, ws, rfl, h6, ⟨ap, xp, rfl, hap, hxp⟩, hok, ⟨ar, xr, rfl, har, hxr⟩, hws, hTb, hPt, q⟩ := h
    refine ⟨_, pss_one (ps_ret (pe_sumP (P := Pt) (te := tVar 1) (EC := ecPrice) hr (by rfl) B.sum boot_sum TB rfl ⟨rfl, rfl, by decide, by rfl, by rfl, by rfl, by decide, ?_⟩ (pv 1) ?_ (fun _ => rfl))), ?_⟩
    · intro y hy e
      rcases List.mem_cons.mp hy with rfl | hy
      · cases e
      rcases List.mem_cons.mp hy with rfl | hy
      · cases e
      rcases List.mem_cons.mp hy with rfl | hy
      · cases e
      rcases List.mem_cons.mp hy with rfl | hy
      · exact ⟨_, rfl⟩
      cases hy
    · intro pins σ H1 s1 av bv yv ua ub C code A' I ec ra rb hP h0 h1 h2
      obtain ⟨n, a, y1, xs, pr, s, rfl, h6, ha, hxs, hok, hs, rfl, rfl, rfl⟩ := ec
      obtain ⟨r, l, hat1, hr0, hat2⟩ := price_at hok hs hxs
      obtain ⟨q1, q2, q3, q4, _⟩ := stp_facts.mp hs
      have ok := gQc2_ok (sc := ⟨.function, [(".0", .local), ("person", .local), ("chief", .local), ("prices", .free)], true, false, []⟩) (cl := cloFrom (cxOf CX0 P w K mg base ["prices", "row"] "price_of" (defScope sPriceOf) D.f (.ref D.c) A outer s0 H E).nox.env.cells [(".0", .local), ("person", .local), ("chief", .local), ("prices", .free)] []) (C := C) (code := code) (xa := "person") (xb := "chief") (ua := ua) (ub := ub) (A := A') I hP rfl
      have xl : xs.length ≤ 1000 := by rw [hxs.length, hok.len]; omega
      have ll : (l.map V.int).length ≤ 1000 := by
        obtain ⟨l', e1, _⟩ := wt_row hok hs
        obtain ⟨x, hx, hxl⟩ := paired_get (F := TI H1) hxs e1
        have z1 := atI_nat (j := (s.1 - 1).toNat) hx
        rw [show (((s.1 - 1).toNat : Nat) : Int) = s.1 - 1 by omega, hat1] at z1
        cases z1
        have z2 := hxl.at
        rw [hr0] at z2
        have z3 : l.map V.int = l'.map V.int := HO.tup.inj (Option.some.inj z2)
        rw [z3, List.length_map, (hok.row l' (List.mem_of_getElem? e1)).1]
        omega
      exact qe_ix ok (qe_ix ok (qe_freeG2 I hP ok (i := 0) rfl rfl rfl rfl rfl) (qe_sub ok (qe_loc ok rfl (fun h j => let ⟨m, h1, h2, h3⟩ := j.2; ⟨m, ua, h1, h2, ra⟩)) qe_int) (qtupG2 I hP ha) hat1 xl (fun _ _ => rfl))
        (qe_loc ok rfl (fun h j => let ⟨m, h1, h2, h3⟩ := j.2; ⟨m, ub, h1, h3, rb⟩)) (qtupG2 I hP hr0) hat2 ll (fun _ _ => rfl)
    · have htab : GxR.TabG H Pt := hTb Pt hPt
      have prs : ∀ {xs : List V} {ws : List Sq}, Paired (TI H) xs (ws.map l2) → Paired (fun x p => ∃ t, x = V.ref t ∧ SqT K H t [p.1, p.2]) xs (ws.map fun (s : Sq) => (V.int s.1, V.int s.2)) := by
        intro xs ws
        induction ws generalizing xs with
        | nil =>
          intro h
          cases h
          exact .nil
        | cons s ws ih =>
          intro h
          cases h with
          | cons a b =>
            obtain ⟨t, e, ht⟩ := a
            exact .cons ⟨t, e, SqT.of ht⟩ (ih b)
      refine ⟨.ref ar, rfl, ar, xr, ws.map (fun (s : Sq) => (V.int s.1, V.int s.2)), ws.map (wt pr), rfl, SqT.of har, prs hxr, by rw [List.length_map, List.length_map], fun i p k hp hk => ?_, htab, fun H2 ht => q H2 (Le.tabbed htab ht)⟩
      obtain ⟨s, hs, rfl⟩ := map_at hp
      rw [List.getElem?_map, hs] at hk
      cases hk
      exact ⟨n, ap, _, xp, pr, s, rfl, h6, hap, hxp, hok, hws s (List.mem_of_getElem? hs), rfl, rfl, rfl⟩
end
end Cd

set_option Elab.async false
set_option linter.all false
set_option maxRecDepth 100000
set_option maxHeartbeats 4000000
/-! cheap_row, worths -/
namespace Cd
open PySem PySem.Spec PyProof.Rows L2 Cm
theorem cha_of {n : Nat} (hn : Sz n) {c : Ch} (hc : c ∈ CH n) {H : Hp} {v : V} (h : TI H v c) : Cha H v c := by
  obtain ⟨h1, h2⟩ := (ch_facts hn).2.2.2.1 c hc
  have n1 : 1 ≤ n ∧ n ≤ 3 := by rcases hn with rfl | rfl | rfl <;> decide
  exact ⟨h, fun x hx => by rw [h1]; exact h2 x hx, by omega, by omega, (List.mem_filter.mp hc).2⟩
/-- start, goal, prices as the priced defs take them -/
structure Pz (T : List Addr) (P1 P2 : Addr) (H : Hp) (vg vp : V) (n : Nat) (g : Ch) (pr : List (List Int)) : Prop where
  sz : Sz n
  ti : TI H vg g
  gm : g ∈ CH n
  tt : TT H vp pr
  pok : PrOk n pr
  tb : Tb T H
  p1 : P1 ∈ T
  p2 : P2 ∈ T
theorem Pz.on {T : List Addr} {P1 P2 : Addr} {H H' : Hp} {vg vp : V} {n : Nat} {g : Ch} {pr : List (List Int)} {R : List Addr} (z : Pz T P1 P2 H vg vp n g pr) (l : Le R T H H') : Pz T P1 P2 H' vg vp n g pr :=
  ⟨z.sz, z.ti.mono l.tup, z.gm, z.tt.mono l.tup, z.pok, l.tb z.tb, z.p1, z.p2⟩
theorem Pz.n3 {T : List Addr} {P1 P2 : Addr} {H : Hp} {vg vp : V} {n : Nat} {g : Ch} {pr : List (List Int)} (z : Pz T P1 P2 H vg vp n g pr) : 1 ≤ n ∧ n ≤ 3 := by rcases z.sz with rfl | rfl | rfl <;> decide
theorem ch_len {n : Nat} (hn : Sz n) {c : Ch} (hc : c ∈ CH n) : c.length = n := ((ch_facts hn).2.2.2.1 c hc).1
theorem mv_mem {n : Nat} (hn : Sz n) {c : Ch} (hc : c ∈ CH n) {s : Sq} (hs : s ∈ stp n) : mv c s.1 s.2 ∈ CH n := (ch_facts hn).2.2.2.2.2 c hc s hs
/-- a cheapest row -/
structure RowOk (n : Nat) (pr : List (List Int)) (g c : Ch) (x : Int) (ws : List Sq) : Prop where
  best : Best n pr g c x
  st : ∀ s ∈ ws, s ∈ stp n
  len : ws.length ≤ 15
  done : doneTo c ws = g
  sum : (ws.map (wt pr)).sum = x
section
variable {P : Program} {w : World} {K : PySem.W.Frag} {mg : Str → Option Value} {base : Heap} {T : List Addr}
def spCheap (P1 P2 : Addr) (T : List Addr) : Sp := fun vs H Q _ => ∃ (vs' vg vp : V) (n : Nat) (c g : Ch) (pr : List (List Int)), vs = [vs', vg, vp] ∧ Pz T P1 P2 H vg vp n g pr ∧ TI H vs' c ∧ c ∈ CH n ∧
  ∀ H' a b x ws, Le [] T H H' → H' a = some (.tup [.int x, .ref b]) → TT H' (.ref b) (ws.map l2) → RowOk n pr g c x ws → Q (.ref a) H'
abbrev nCheap : List Str := ["start", "goal", "prices", "found", "row", "here"]
theorem scCheap : FnScope nCheap ["start", "goal", "prices"] (defScope sCheap) := ⟨rfl, rfl, rfl, by decide +kernel, rfl, by decide +kernel, by decide +kernel⟩
theorem ok_cheap {P1 P2 fp : Addr} {fdp : FuncData} (B : Bl mg) (gp : mg "need_priced" = some (.ref fp)) (kp : PySem.W.keepIn K (.ref fp) = true) (bp : Binds K fdp ["start", "goal", "prices"] []) (GP : FnOk P w K mg base CX0 6 fp fdp ["start", "goal", "prices"] (spNeedPriced P1 P2 T))
    (DL : Df K mg "least_rows" sLeast ["goal", "prices"]) (GL : FnOk P w K mg base CX0 3 DL.f DL.fd ["goal", "prices"] (spLeast T)) (DS : Df K mg "stepped" sStepped ["chart", "step"]) (D : Df K mg "cheap_row" sCheap ["start", "goal", "prices"]) :
    FnOk P w K mg base CX0 7 D.f D.fd ["start", "goal", "prices"] (spCheap P1 P2 T) := by
  have GS : FnOk P w K mg base CX0 1 DS.f DS.fd ["chart", "step"] (spStepped T) := ok_stepped B DS
  refine D.F.ok scCheap (fun vs H Q E h => ?_) (fun cdv A outer s0 H vs Q E hr h => ?_)
  · obtain ⟨vs', vg, vp, n, c, g, pr, rfl, _⟩ := h
    rfl
  · obtain ⟨vs', vg, vp, n, c, g, pr, rfl, z, hc, hcm, q⟩ := h
    have n3 := z.n3
    have hu := hu_of hr
    have nd := scCheap.nd
    refine ⟨_, pss_cons (ps_expr (pe_call GP hr (by rfl) gp kp bp .nil pass0 (pa_cons (pv 0) (pa_cons (pv 1) (pa_cons (pv 2) pa_nil)))))
      (pss_cons (ps_par3 (i := 3) (j := 4) (k := 5) rfl nd rfl rfl rfl rfl rfl rfl (pa_cons (pe_call GL (hr.mono (by decide)) (by rfl) DL.g DL.F.kp DL.b .nil pass0 (pa_cons (pv 1) (pa_cons (pv 2) pa_nil))) (pa_cons (pe_lst pa_nil) (pa_cons (pv 0) pa_nil))) (by rfl))
      (pss_cons (ps_while PassesOwn.never (pt_cmpR (op_neD hr.units) (pv 5) (pv 1) (nomark _))
        (pss_cons (ps_expr (pe_bm PySem.F.plainAttrs_list PySem.F.slot_list_append PySem.F.type_list_append mt_append (pv 4) (pa_cons (pe_ix ix_tup (pe_dget hu (pv 3) (pv 5) (fun _ _ => rfl)) pe_int (fun _ _ => rfl)) pa_nil)))
        (pss_one (ps_set (i := 5) nd rfl (.inl rfl) (pe_call GS (hr.mono (by decide)) (by rfl) DS.g DS.F.kp DS.b .nil pass0 (pa_cons (pv 5) (pa_cons (pe_ix ix_tup (pe_dget hu (pv 3) (pv 5) (fun _ _ => rfl)) pe_int (fun _ _ => rfl)) pa_nil)))))))
      (pss_one (ps_ret (pe_tup (pa_cons (pe_ix ix_tup (pe_dget hu (pv 3) (pv 0) (fun _ _ => rfl)) pe_int (fun _ _ => rfl)) (pa_cons (pe_callTy call_tuple_of (by rfl) B.tuple boot_tup (pa_cons (pv 4) pa_nil)) pa_nil))))))), ?_⟩
    have cl := ch_len z.sz hcm
    refine ⟨_, rfl, _, rfl, _, rfl, vs', vg, vp, c, g, pr, rfl, cha_of z.sz hcm hc, cha_of z.sz z.gm z.ti, by rw [cl, ch_len z.sz z.gm], by omega, z.tt, by rw [cl]; exact z.pok, z.tb, z.p1, z.p2, fun H1 l1 => ?_⟩
    refine ⟨_, rfl, _, rfl, vg, vp, n, g, pr, rfl, z.sz, z.ti.mono l1.tup, z.gm, z.tt.mono l1.tup, z.pok, fun H2 d kvs st l2' hd hkr F => ?_⟩
    refine ⟨by show 0 ≤ sizeLine; decide, fun o no => ⟨_, rfl, _, _, _, rfl, ?_⟩⟩
    have le12 := l1.trans l2'
    have val : ∀ (H' : Hp) (cc : Ch) (e : Ent), Le [] T H2 H' → gv st cc = some e → ∀ b, H' b = some (.tup (cc.map V.int)) → ∃ a sv, DGet H' d (.ref b) (some (.ref a)) ∧ H' a = some (.tup [.int e.1, .int e.2.1, sv]) ∧ SR H' sv e.2.2 := fun H' cc e l he b hb => by
      rcases hkr.val cc with ⟨_, f2⟩ | ⟨v1, e1, f1, f2, er⟩
      · rw [he] at f2
        cases f2
      · rw [he] at f2
        cases f2
        obtain ⟨a, sv, rfl, ha, hs⟩ := ER.mono l.tup _ _ er
        refine ⟨a, sv, ?_, ha, hs⟩
        rw [← f1]
        exact DGet.t (l.dt0 hd) (key_at hb)
    have e0 : ∃ e, gv st c = some e := by
      cases y : gv st c with
      | some e => exact ⟨e, rfl⟩
      | none => exact absurd (F.keys.mem_iff.mpr hcm) (gv_none.mp y)
    obtain ⟨e0, he0⟩ := e0
    refine ⟨fun m σ H => ∃ (cc : Ch) (vc : V) (e : Ent) (ws : List Sq), σ = [some vs', some vg, some vp, some (.ref d), some (.ref o), some vc] ∧ Le [] T H2 H ∧ LI H (.ref o) (ws.map l2) ∧ TI H vc cc ∧ cc ∈ CH n ∧ gv st cc = some e ∧ (m : Int) = e.2.1 ∧
        (∀ s ∈ ws, s ∈ stp n) ∧ doneTo c ws = cc ∧ (ws.map (wt pr)).sum + e.1 = e0.1 ∧ (ws.length : Int) + e.2.1 = e0.2.1, ?_, fun m σ H3 hW => ?_⟩
    · have := (F.best c e0 he0).2.1
      exact ⟨e0.2.1.toNat, c, vs', e0, [], rfl, Le.one no, LI.nil, hc.mono (le12.trans (Le.one no)).tup, hcm, he0, by omega, fun s hs => (nomatch hs), rfl, by show (0 : Int) + e0.1 = e0.1; omega, by show ((0 : Nat) : Int) + e0.2.1 = e0.2.1; omega⟩
    · obtain ⟨cc, vc, e, ws, rfl, l3, hli, htc, hccm, hge, hm, hws, hdone, hsum, hlen⟩ := hW
      have hg3 : TI H3 vg g := z.ti.mono (le12.trans l3).tup
      refine ⟨vc, rfl, vg, rfl, _, _, TI.dp htc, TI.dp hg3, shaped_ti cc, shaped_ti g, _, rfl, ?_⟩
      rw [eqv_tups]
      by_cases zg : cc = g
      · rw [decide_eq_true zg]
        subst zg
        rw [F.goal] at hge
        cases hge
        obtain ⟨bs, rfl, hbs⟩ := hc.mono (le12.trans l3).tup
        obtain ⟨a, sv, dg, ha, _⟩ := val H3 c e0 l3 he0 bs hbs
        obtain ⟨o', xs, eo, ho, hxs⟩ := hli
        cases eo
        refine ⟨.ref d, rfl, .ref bs, rfl, d, .ref a, rfl, dg, a, _, 0, .int e0.1, rfl, rfl, SqT.of ha, atI_nat (j := 0) rfl, .ref o, rfl, o, xs, rfl, .inl ⟨SqL.of ho, fun t nt => ?_⟩⟩
        refine ⟨by show 2 ≤ sizeLine; decide, fun u nu => ?_⟩
        have t1 : Le [] T H3 (upd H3 t (.tup xs)) := Le.one nt
        have tt : TT (upd H3 t (.tup xs)) (.ref t) (ws.map l2) := ⟨t, xs, rfl, upd_same, tis_mono t1.tup hxs⟩
        have t2 : Le [] T (upd H3 t (.tup xs)) (upd (upd H3 t (.tup xs)) u (.tup [.int e0.1, .ref t])) := Le.one nu
        have cle := count_le z.sz F he0
        refine q _ u t e0.1 ws ((le12.trans l3).trans (t1.trans t2)) upd_same (tt.mono t2.tup) ⟨(F.best c e0 he0).2.2, hws, ?_, hdone, ?_⟩
        · replace hlen : (ws.length : Int) + 0 = e0.2.1 := hlen
          omega
        · replace hsum : (ws.map (wt pr)).sum + 0 = e0.1 := hsum
          omega
      · rw [decide_eq_false zg]
        obtain ⟨s, hs, e1, e', h1, h2, h3, h4, h5⟩ := F.ptr cc hccm zg
        rw [hge] at h1
        cases h1
        have hc' := mv_mem z.sz hccm hs
        have ccl := ch_len z.sz hccm
        obtain ⟨s1, s2, s3, s4, s5⟩ := stp_facts.mp hs
        have p' := (F.best _ e' h3).2.1
        obtain ⟨b, rfl, hb⟩ := htc
        obtain ⟨a, sv, dg, ha, hsv⟩ := val H3 cc e l3 hge b hb
        rw [h2] at hsv
        have hsv' : TI H3 sv (l2 s) := hsv
        have wl : ws.length ≤ 15 := by
          have cle := count_le z.sz F he0
          have := (F.best cc e hge).2.1
          omega
        obtain ⟨acc, ho, hsz, hli2⟩ := hli.push hsv' (by rw [List.length_map]; omega)
        refine ⟨fun σ' H' => ∃ vc2, σ' = [some vs', some vg, some vp, some (.ref d), some (.ref o), some vc2] ∧ Le [] T H2 H' ∧ LI H' (.ref o) ((ws ++ [s]).map l2) ∧ TI H' vc2 (mv cc s.1 s.2), fun σ' H' hN => ?_, ?_⟩
        · obtain ⟨vc2, rfl, k1, k2, k3⟩ := hN
          refine ⟨e'.2.1.toNat, by omega, mv cc s.1 s.2, vc2, e', ws ++ [s], rfl, k1, k2, k3, hc', h3, by omega, fun t ht => ?_, ?_, ?_, ?_⟩
          · rcases List.mem_append.mp ht with ht | ht
            · exact hws t ht
            · rcases List.mem_singleton.mp ht with rfl
              exact hs
          · show List.foldl _ _ _ = _
            rw [List.foldl_append]
            show mv (doneTo c ws) s.1 s.2 = _
            rw [hdone]
          · rw [List.map_append, List.sum_append]
            simp
            omega
          · rw [List.length_append]
            simp
            omega
        · have l4 : Le [] T H2 (upd H3 o (.lst (acc ++ [sv]))) := l3.new no
          have tp4 : Tp H3 (upd H3 o (.lst (acc ++ [sv]))) := (Tp.refl H3).upd (nt_lst ho)
          have hb4 := tp4 _ _ hb
          obtain ⟨a4, sv4, dg4, ha4, hsv4⟩ := val _ cc e l4 hge b hb4
          rw [h2] at hsv4
          refine ⟨.ref o, rfl, .inl ⟨rfl, _, SqL.of ho⟩, .ref d, rfl, .ref b, rfl, d, .ref a, rfl, dg, a, _, 2, sv, rfl, rfl, SqT.of ha, atI_nat (j := 2) rfl, o, _, sv, rfl, rfl, ho, hsz, ?_⟩
          refine ⟨.ref b, rfl, .ref d, rfl, .ref b, rfl, d, .ref a4, rfl, dg4, a4, _, 2, sv4, rfl, rfl, SqT.of ha4, atI_nat (j := 2) rfl, .ref b, sv4, cc, s.1, s.2, rfl, ⟨b, rfl, hb4⟩, hsv4, s1, by omega, by omega, fun v5 H5 l5 h5' => ?_⟩
          refine ⟨v5, rfl, l4.trans l5, ?_, h5'⟩
          rw [List.map_append]
          exact hli2.le0 l5
end
end Cd

set_option Elab.async false
set_option linter.all false
set_option maxRecDepth 100000
set_option maxHeartbeats 4000000
/-! worths, shows_cheap_row -/
namespace Cd
open PySem PySem.Spec PyProof.Rows L2 Cm
theorem boot_sorted : bootBuiltins "sorted" = some (.builtin "sorted") := by decide +kernel
theorem ch_codes {n : Nat} (hn : Sz n) : (CH n).Pairwise (fun a b => TS.code 8 a < TS.code 8 b) := by
  rcases hn with rfl | rfl | rfl <;> decide +kernel
theorem ch_sorted {n : Nat} (hn : Sz n) {L : List (Addr × List Int)} (h : (L.map (·.2)).Perm (CH n)) (hs : L.Pairwise (fun q r => TS.code 8 q.2 ≤ TS.code 8 r.2)) : L.map (·.2) = CH n := by
  have hc := ch_codes hn
  refine List.Perm.eq_of_pairwise (le := fun a b => TS.code 8 a ≤ TS.code 8 b) (fun a b ha hb h1 h2 => ?_) (List.pairwise_map.mpr hs) (hc.imp fun h => Int.le_of_lt h) h
  have ha' := h.mem_iff.mp ha
  have e : TS.code 8 a = TS.code 8 b := Int.le_antisymm h1 h2
  have key : ∀ (l : List Ch), l.Pairwise (fun a b => TS.code 8 a < TS.code 8 b) → a ∈ l → b ∈ l → a = b := by
    intro l
    induction l with
    | nil => exact fun _ h => nomatch h
    | cons x l ih =>
      intro hp h1 h2
      obtain ⟨p1, p2⟩ := List.pairwise_cons.mp hp
      rcases List.mem_cons.mp h1 with e1 | k1 <;> rcases List.mem_cons.mp h2 with e2 | k2
      · rw [e1, e2]
      · have := p1 _ k2
        rw [e1] at e
        omega
      · have := p1 _ k1
        rw [e2] at e
        omega
      · exact ih p2 k1 k2
  exact key _ hc ha' hb
section
variable {P : Program} {w : World} {K : PySem.W.Frag} {mg : Str → Option Value} {base : Heap} {T : List Addr}
abbrev nWorths : List Str := ["goal", "prices", "found", "one"]
theorem scWorths : FnScope nWorths ["goal", "prices"] (defScope sWorths) := ⟨rfl, rfl, rfl, by decide +kernel, rfl, by decide +kernel, by decide +kernel⟩
def spWorths (P1 P2 : Addr) (T : List Addr) : Sp := fun vs H Q _ => ∃ (vg vp : V) (n : Nat) (g : Ch) (pr : List (List Int)), vs = [vg, vp] ∧ Pz T P1 P2 H vg vp n g pr ∧
  ∀ H' v nums, Le [] T H H' → TI H' v nums → Paired (Best n pr g) (CH n) nums → Q v H'
theorem ok_worths {P1 P2 f1 f2 : Addr} {fd1 fd2 : FuncData} (B : Bl mg) (g1 : mg "need_chart" = some (.ref f1)) (k1 : PySem.W.keepIn K (.ref f1) = true) (b1 : Binds K fd1 ["chart"] []) (G1 : FnOk P w K mg base CX0 4 f1 fd1 ["chart"] (spNeedChart P1 T))
    (g2 : mg "need_prices" = some (.ref f2)) (k2 : PySem.W.keepIn K (.ref f2) = true) (b2 : Binds K fd2 ["size", "prices"] []) (G2 : FnOk P w K mg base CX0 5 f2 fd2 ["size", "prices"] (spNeedPrices P2 T))
    (DL : Df K mg "least_rows" sLeast ["goal", "prices"]) (GL : FnOk P w K mg base CX0 3 DL.f DL.fd ["goal", "prices"] (spLeast T)) (D : Df K mg "worths" sWorths ["goal", "prices"]) :
    FnOk P w K mg base CX0 6 D.f D.fd ["goal", "prices"] (spWorths P1 P2 T) := by
  refine D.F.ok scWorths (fun vs H Q E h => ?_) (fun cdv A outer s0 H vs Q E hr h => ?_)
  · obtain ⟨vg, vp, n, g, pr, rfl, _⟩ := h
    rfl
  · obtain ⟨vg, vp, n, g, pr, rfl, z, q⟩ := h
    have n3 := z.n3
    have hu := hu_of hr
    have nd := scWorths.nd
    refine ⟨_, pss_cons (ps_expr (pe_call G1 (hr.mono (by decide)) (by rfl) g1 k1 b1 .nil pass0 (pa_cons (pv 0) pa_nil)))
      (pss_cons (ps_expr (pe_call G2 hr (by rfl) g2 k2 b2 .nil pass0 (pa_cons (pe_callB call_len_seq (by rfl) B.len PySem.boot_len (pa_cons (pv 0) pa_nil)) (pa_cons (pv 1) pa_nil))))
      (pss_cons (ps_set (i := 2) nd rfl (.inr rfl) (pe_call GL (hr.mono (by decide)) (by rfl) DL.g DL.F.kp DL.b .nil pass0 (pa_cons (pv 0) (pa_cons (pv 1) pa_nil))))
      (pss_one (ps_ret (pe_callTy call_tuple_of (by rfl) B.tuple boot_tup (pa_cons
        (pe_lc (own := [("one", 3)]) (g := gName 3) rfl nd (pi_list (pe_callB (cr_sortedDT (d := n) (B := 8) rfl n3.1) (by rfl) B.sorted boot_sorted (pa_cons (pv 2) pa_nil))) (blkOk_by (own := [("one", 3)]) (N := nWorths) (sc := defScope sWorths) (by decide +kernel))
          (fun _ _ _ _ _ => pg_name (i := 3) nd rfl (.inl rfl)) (fun _ _ _ _ _ => pts_nil) (fun _ _ _ _ _ => pe_ix (show IxR _ (rIxT K) from ix_tup) (pe_dget hu (pv 2) (pv 3) (fun _ _ => rfl)) pe_int (fun _ _ => rfl))) pa_nil)))))), ?_⟩
    have gl := ch_len z.sz z.gm
    refine ⟨_, rfl, vg, g, rfl, cha_of z.sz z.gm z.ti, z.tb, z.p1, fun H1 l1 => ?_⟩
    obtain ⟨ag, rfl, hag⟩ := z.ti.mono l1.tup
    refine ⟨.ref ag, rfl, ag, g.map V.int, rfl, .inr (SqT.of hag), _, rfl, n, vp, pr, by rw [List.length_map, gl] <;> rfl, by omega, z.tt.mono l1.tup, z.pok, l1.tb z.tb, z.p2, fun H2 l2' => ?_⟩
    have l12 := l1.trans l2'
    refine ⟨_, rfl, _, rfl, .ref ag, vp, n, g, pr, rfl, z.sz, ⟨ag, rfl, l2'.tup _ _ hag⟩, z.gm, z.tt.mono l12.tup, z.pok, fun H3 d kvs st l3 hd hkr F => ?_⟩
    have l13 := l12.trans l3
    have stl : (st.map (·.1)).length ≤ 16 := by
      rw [F.keys.length_eq]
      exact (ch_facts z.sz).1
    refine ⟨.ref d, rfl, d, kvs, st.map (·.1), rfl, hd, hkr.keys, by omega, fun c hc => ?_, fun L p hper hL hsrt np => ?_⟩
    · obtain ⟨c1, c2⟩ := (ch_facts z.sz).2.2.2.1 c (F.keys.mem_iff.mp hc)
      refine ⟨c1, fun m hm => ?_⟩
      have := c2 m hm
      omega
    have eL := ch_sorted z.sz (hper.trans F.keys) hsrt
    have l4 : Le [] T H3 (upd H3 p (.lst (L.map fun q => V.ref q.1))) := Le.one np
    have Ll : L.length = (CH n).length := by rw [← eL, List.length_map]
    refine ⟨p, rfl, ⟨_, SqL.of upd_same⟩, fun o no => ?_⟩
    generalize hH4 : upd H3 p (.lst (L.map fun q => V.ref q.1)) = H4 at l4 no ⊢
    have hp4 : H4 p = some (.lst (L.map fun q => V.ref q.1)) := by rw [← hH4]; exact upd_same
    refine lc_list (K := K) (a := p) (xs := L.map fun q => V.ref q.1) (fun j H => Le [] T H4 H ∧ ∃ nums : List Int, H o = some (.lst (nums.map V.int)) ∧ Paired (Best n pr g) ((CH n).take j) nums) ⟨Le.one no, [], upd_same, .nil⟩ (fun j H _ hP => SqL.of (hP.1.lst0 hp4)) (fun j x H hx hP => ?_) (fun H hP => ?_)
    · obtain ⟨l5, nums, ho, hnums⟩ := hP
      obtain ⟨y, hy, rfl⟩ := map_at hx
      have hc : (CH n)[j]? = some y.2 := by rw [← eL, List.getElem?_map, hy] <;> rfl
      have hym := List.mem_of_getElem? hc
      have hb : H y.1 = some (.tup (y.2.map V.int)) := l5.tup _ _ (l4.tup _ _ (hL y (List.mem_of_getElem? hy)))
      have jl : j < (CH n).length := (List.getElem?_eq_some_iff.mp hc).1
      have nl := hnums.length
      rw [List.length_take] at nl
      have c16 := (ch_facts z.sz).1
      rcases hkr.val y.2 with ⟨_, f2⟩ | ⟨v1, e1, f1, f2, er⟩
      · exact absurd (F.keys.mem_iff.mpr hym) (gv_none.mp f2)
      · obtain ⟨a, sv, rfl, ha, _⟩ := ER.mono (l4.trans l5).tup _ _ er
        have dg : DGet H d (.ref y.1) (some (.ref a)) := by
          rw [← f1]
          exact DGet.t ((l4.trans l5).dt0 hd) (key_at hb)
        refine ⟨rfl, .ref d, rfl, .ref y.1, rfl, d, .ref a, rfl, dg, a, _, 0, .int e1.1, rfl, rfl, SqT.of ha, atI_nat (j := 0) rfl, _, ho, small1000 (by rw [List.length_map]; omega), l5.new no, nums ++ [e1.1], ?_, ?_⟩
        · rw [upd_same, List.map_append] <;> rfl
        · rw [take_snoc hc]
          exact hnums.snoc (F.best _ _ f2).2.2
    · obtain ⟨l5, nums, ho, hnums⟩ := hP
      rw [List.length_map, Ll, List.take_length] at hnums
      refine ⟨o, _, rfl, .inl ⟨SqL.of ho, fun t nt => ?_⟩⟩
      exact q _ _ nums ((l13.trans l4).trans (l5.trans (Le.one nt))) ⟨t, rfl, upd_same⟩ hnums
/-! ### shows_cheap_row -/
inductive PVal
  | junk
  | lst (x : Int)
  | row (x : Int) (ws : List Sq)
def PR (R : List Addr) (H : Hp) (v : V) : PVal → Prop
  | .junk => v = .non ∨ (∃ i, v = .int i) ∨ ∃ a xs, v = .ref a ∧ a ∉ R ∧ H a = some (.lst xs)
  | .lst x => ∃ a b xs, v = .ref a ∧ H a = some (.tup [.int x, .ref b]) ∧ b ∉ R ∧ H b = some (.lst xs)
  | .row x ws => ∃ a b, v = .ref a ∧ H a = some (.tup [.int x, .ref b]) ∧ TT H (.ref b) (ws.map l2)
theorem PR.on {R : List Addr} {H H' : Hp} {v : V} (l : Le R T H H') : ∀ {p : PVal}, PR R H v p → PR R H' v p
  | .junk, h => by
    rcases h with h | h | ⟨a, xs, e, hr, h⟩
    · exact .inl h
    · exact .inr (.inl h)
    · exact .inr (.inr ⟨a, xs, e, hr, l.lst hr h⟩)
  | .lst x, ⟨a, b, xs, e, h, hr, h2⟩ => ⟨a, b, xs, e, l.tup _ _ h, hr, l.lst hr h2⟩
  | .row x ws, ⟨a, b, e, h, h2⟩ => ⟨a, b, e, l.tup _ _ h, h2.mono l.tup⟩
theorem PR.free {R : List Addr} {H : Hp} {v : V} : ∀ {p : PVal}, PR R H v p → PR [] H v p
  | .junk, h => by
    rcases h with h | h | ⟨a, xs, e, hr, h⟩
    · exact .inl h
    · exact .inr (.inl h)
    · exact .inr (.inr ⟨a, xs, e, (nomatch ·), h⟩)
  | .lst x, ⟨a, b, xs, e, h, hr, h2⟩ => ⟨a, b, xs, e, h, (nomatch ·), h2⟩
  | .row x ws, h => h
def due (n : Nat) (pr : List (List Int)) (g c : Ch) (best : Int) : PVal → Bool
  | .row x ws => decide (x = best) && (decide ((ws.length : Int) ≤ 200) && ws.all (okStep n)) && (decide (doneTo c ws = g) && decide ((ws.map (wt pr)).sum = best))
  | _ => false
theorem due_row (n : Nat) (pr : List (List Int)) (g c : Ch) (best x : Int) (ws : List Sq) : due n pr g c best (.row x ws) = (decide (x = best) && (decide ((ws.length : Int) ≤ 200) && ws.all (okStep n)) && (decide (doneTo c ws = g) && decide ((ws.map (wt pr)).sum = best))) := rfl
abbrev nShowsRow : List Str := ["start", "goal", "prices", "value", "best"]
theorem scShowsRow : FnScope nShowsRow ["start", "goal", "prices", "value"] (defScope sShowsRow) := ⟨rfl, rfl, rfl, by decide +kernel, rfl, by decide +kernel, by decide +kernel⟩
def spShowsRow (P1 P2 P3 P4 : Addr) (T : List Addr) : Sp := fun vs H Q _ => ∃ (vs' vg vp vv : V) (n : Nat) (c g : Ch) (pr : List (List Int)) (p : PVal), vs = [vs', vg, vp, vv] ∧ Pz T P1 P2 H vg vp n g pr ∧ TI H vs' c ∧ c ∈ CH n ∧ PR [] H vv p ∧ P3 ∈ T ∧ P4 ∈ T ∧
  (∀ x ws, p = .row x ws → ws.length ≤ 900) ∧ ∀ H' best, Le [] T H H' → Best n pr g c best → Q (.bl (due n pr g c best p)) H'
theorem ok_showsRow {P1 P2 P3 P4 fp f3 f4 : Addr} {fdp fd3 fd4 : FuncData} (B : Bl mg) (C : Cs mg) (gp : mg "need_priced" = some (.ref fp)) (kp : PySem.W.keepIn K (.ref fp) = true) (bp : Binds K fdp ["start", "goal", "prices"] []) (GP : FnOk P w K mg base CX0 6 fp fdp ["start", "goal", "prices"] (spNeedPriced P1 P2 T))
    (DL : Df K mg "least_rows" sLeast ["goal", "prices"]) (GL : FnOk P w K mg base CX0 3 DL.f DL.fd ["goal", "prices"] (spLeast T)) (DI : Df K mg "is_in" sIn ["value", "least", "most"])
    (g3 : mg "are_steps" = some (.ref f3)) (k3 : PySem.W.keepIn K (.ref f3) = true) (b3 : Binds K fd3 nAreSteps []) (G3 : FnOk P w K mg base CX0 4 f3 fd3 nAreSteps (spAreSteps P3 T))
    (g4 : mg "price_of" = some (.ref f4)) (k4 : PySem.W.keepIn K (.ref f4) = true) (b4 : Binds K fd4 ["prices", "row"] []) (G4 : FnOk P w K mg base CX0 3 f4 fd4 ["prices", "row"] (spPriceOf P4 T))
    (DS : Df K mg "stepped" sStepped ["chart", "step"]) (DT : Df K mg "trace" sTrace ["chart", "row"]) (D : Df K mg "shows_cheap_row" sShowsRow ["start", "goal", "prices", "value"]) :
    FnOk P w K mg base CX0 7 D.f D.fd ["start", "goal", "prices", "value"] (spShowsRow P1 P2 P3 P4 T) := by
  have GI : FnOk P w K mg base CX0 1 DI.f DI.fd ["value", "least", "most"] spIn := ok_in B DI
  have GT : FnOk P w K mg base CX0 2 DT.f DT.fd ["chart", "row"] (spTrace T) := ok_trace B DS DT
  obtain ⟨tM, hM⟩ := C.cheap
  refine D.F.ok scShowsRow (fun vs H Q E h => ?_) (fun cdv A outer s0 H vs Q E hr h => ?_)
  · obtain ⟨vs', vg, vp, vv, n, c, g, pr, p, rfl, _⟩ := h
    rfl
  · obtain ⟨vs', vg, vp, vv, n, c, g, pr, p, rfl, z, hc, hcm, hv, hp3, hp4, h900, q⟩ := h
    have n3 := z.n3
    have hu := hu_of hr
    have nd := scShowsRow.nd
    refine ⟨_, pss_cons (ps_expr (pe_call GP hr (by rfl) gp kp bp .nil pass0 (pa_cons (pv 0) (pa_cons (pv 1) (pa_cons (pv 2) pa_nil)))))
      (pss_cons (ps_set (i := 4) nd rfl (.inl rfl) (pe_ix ix_tup (pe_dget hu (pe_call GL (hr.mono (by decide)) (by rfl) DL.g DL.F.kp DL.b .nil pass0 (pa_cons (pv 1) (pa_cons (pv 2) pa_nil))) (pv 0) (fun _ _ => rfl)) pe_int (fun _ _ => rfl)))
      (pss_cons (ps_if (PW.pt (pw_or (pt_not (pt_val (pe_callB call_isi (by rfl) B.isi boot_isi (pa_cons (pv 3) (pa_cons (pe_bltn (v := .ty "tuple") (by rfl) B.tuple boot_tup rfl) pa_nil)))))
          (pw_or (pt_cmpR op_ne (pe_callB call_len_seq (by rfl) B.len PySem.boot_len (pa_cons (pv 3) pa_nil)) pe_int (nomark _))
          (pw_or1 (pt_not (pt_val (pe_call GI (hr.mono (by decide)) (by rfl) DI.g DI.F.kp DI.b .nil pass0 (pa_cons (pe_ix ix_tup (pv 3) pe_int (fun _ _ => rfl)) (pa_cons (pv 4) (pa_cons (pv 4) pa_nil)))))))))) (pss_one (ps_ret pe_bl)) pss_nil)
      (pss_cons (ps_if (pt_not (pt_val (pe_call G3 (hr.mono (by decide)) (by rfl) g3 k3 b3 .nil pass0 (pa_cons (pe_callB call_len_seq (by rfl) B.len PySem.boot_len (pa_cons (pv 0) pa_nil)) (pa_cons (pe_ix ix_tup (pv 3) pe_int (fun _ _ => rfl)) (pa_cons (pe_glob (v := .int 200) (by rfl) hM ⟨_, rfl⟩) pa_nil)))))) (pss_one (ps_ret pe_bl)) pss_nil)
      (pss_one (ps_ret (pe_and (pe_cmpR (op_eqD hr.units) (pe_ix ix_list (pe_call GT (hr.mono (by decide)) (by rfl) DT.g DT.F.kp DT.b .nil pass0 (pa_cons (pv 0) (pa_cons (pe_ix ix_tup (pv 3) pe_int (fun _ _ => rfl)) pa_nil))) (pe_un un_neg pe_int) (fun _ _ => rfl)) (pv 1) (nomark _))
        (pe_one (pe_cmpR op_eq (pe_call G4 (hr.mono (by decide)) (by rfl) g4 k4 b4 .nil pass0 (pa_cons (pv 2) (pa_cons (pe_ix ix_tup (pv 3) pe_int (fun _ _ => rfl)) pa_nil))) (pv 4) (nomark _))))))))), ?_⟩
    have cl := ch_len z.sz hcm
    refine ⟨_, rfl, _, rfl, _, rfl, vs', vg, vp, c, g, pr, rfl, cha_of z.sz hcm hc, cha_of z.sz z.gm z.ti, by rw [cl, ch_len z.sz z.gm], by omega, z.tt, by rw [cl]; exact z.pok, z.tb, z.p1, z.p2, fun H1 l1 => ?_⟩
    have z1 := z.on l1
    refine ⟨_, rfl, _, rfl, vg, vp, n, g, pr, rfl, z.sz, z1.ti, z.gm, z1.tt, z.pok, fun H2 d kvs st l2' hd hkr F => ?_⟩
    have l12 := l1.trans l2'
    have z2 := z.on l12
    obtain ⟨as, rfl, has⟩ := hc.mono l12.tup
    rcases hkr.val c with ⟨_, f2⟩ | ⟨v1, e1, f1, f2, er⟩
    · exact absurd (F.keys.mem_iff.mpr hcm) (gv_none.mp f2)
    obtain ⟨a, sv, rfl, ha, _⟩ := er
    have dg : DGet H2 d (.ref as) (some (.ref a)) := by
      rw [← f1]
      exact DGet.t hd (key_at has)
    have bst := (F.best _ _ f2).2.2
    refine ⟨.ref as, rfl, d, .ref a, rfl, dg, a, _, 0, .int e1.1, rfl, rfl, SqT.of ha, atI_nat (j := 0) rfl, ?_⟩
    have hv2 := hv.on l12
    have q2 := fun H' (l : Le [] T H2 H') => q H' e1.1 (l12.trans l) bst
    cases p with
    | junk =>
      have fin : Q (.bl false) H2 := q2 H2 (Le.refl _)
      rcases hv2 with rfl | ⟨i, rfl⟩ | ⟨b, xs, rfl, _, hb⟩
      · exact ⟨.non, rfl, .non, .ty "tuple", .type "NoneType", .type "tuple", false, rfl, .ty _, .base .non, kit_nt, false, rfl, fin⟩
      · exact ⟨.int i, rfl, .int i, .ty "tuple", .type "int", .type "tuple", false, rfl, .ty _, .base (.int i), kit_it, false, rfl, fin⟩
      · exact ⟨.ref b, rfl, .ref b, .ty "tuple", .type "list", .type "tuple", false, rfl, .ty _, .base (.lst hb), kit_lt, false, rfl, fin⟩
    | lst x =>
      obtain ⟨b, b2, xs, rfl, hb, _, hb2⟩ := hv2
      have fin : Q (.bl false) H2 := q2 H2 (Le.refl _)
      refine ⟨.ref b, rfl, .ref b, .ty "tuple", .type "tuple", .type "tuple", true, rfl, .ty _, .base (.tup hb), kit_tt, true, rfl, ?_⟩
      refine ⟨.ref b, rfl, b, _, rfl, .inr (SqT.of hb), rfl, _, rfl, ?_⟩
      refine ⟨.ref b, rfl, b, _, 0, .int x, rfl, rfl, SqT.of hb, atI_nat (j := 0) rfl, _, rfl, _, rfl, x, e1.1, e1.1, rfl, _, rfl, ?_⟩
      cases y : (decide (e1.1 ≤ x) && decide (x ≤ e1.1)) with
      | false => exact fin
      | true => exact ⟨.ref as, rfl, as, c.map V.int, rfl, .inr (SqT.of has), .ref b, rfl, b, _, 1, .ref b2, rfl, rfl, SqT.of hb, atI_nat (j := 1) rfl, c.length, b2, 200, by rw [List.length_map] <;> rfl, z2.tb, hp3, .inl ⟨xs, hb2, _, rfl, fin⟩⟩
    | row x ws =>
      obtain ⟨b, b2, rfl, hb, hw⟩ := hv2
      refine ⟨.ref b, rfl, .ref b, .ty "tuple", .type "tuple", .type "tuple", true, rfl, .ty _, .base (.tup hb), kit_tt, true, rfl, ?_⟩
      refine ⟨.ref b, rfl, b, _, rfl, .inr (SqT.of hb), rfl, _, rfl, ?_⟩
      refine ⟨.ref b, rfl, b, _, 0, .int x, rfl, rfl, SqT.of hb, atI_nat (j := 0) rfl, _, rfl, _, rfl, x, e1.1, e1.1, rfl, _, rfl, ?_⟩
      have ex : (decide (e1.1 ≤ x) && decide (x ≤ e1.1)) = decide (x = e1.1) := by
        rw [Bool.eq_iff_iff, Bool.and_eq_true, decide_eq_true_iff, decide_eq_true_iff, decide_eq_true_iff]
        omega
      rw [ex]
      cases y : decide (x = e1.1) with
      | false =>
        have fin := q2 H2 (Le.refl _)
        rw [due_row] at fin
        rw [y] at fin
        exact fin
      | true =>
        refine ⟨.ref as, rfl, as, c.map V.int, rfl, .inr (SqT.of has), .ref b, rfl, b, _, 1, .ref b2, rfl, rfl, SqT.of hb, atI_nat (j := 1) rfl, n, b2, 200, by rw [List.length_map, cl] <;> rfl, z2.tb, hp3, .inr ⟨ws, hw, fun H3 l3 => ⟨_, rfl, ?_⟩⟩⟩
        cases y2 : (decide ((ws.length : Int) ≤ 200) && ws.all (okStep n)) with
        | false =>
          have fin := q2 H3 l3
          rw [due_row] at fin
          rw [y, y2] at fin
          exact fin
        | true =>
          have hst : ∀ s ∈ ws, s ∈ stp n := fun s hs => okStep_mem.mp (List.all_eq_true.mp (Bool.and_eq_true_iff.mp y2).2 s hs)
          have hb3 := l3.tup _ _ hb
          refine ⟨.ref as, rfl, .ref b, rfl, b, _, 1, .ref b2, rfl, rfl, SqT.of hb3, atI_nat (j := 1) rfl, .ref as, .ref b2, c, ws, rfl, ⟨as, rfl, l3.tup _ _ has⟩, hw.mono l3.tup, fun s hs => ?_, by omega, h900 x ws rfl, fun o H4 xs yv l4 ho hy => ?_⟩
          · have := stp_facts.mp (hst s hs)
            rw [cl]
            exact ⟨this.1, this.2.1⟩
          · have l34 := l3.trans l4
            refine ⟨1, rfl, o, _, -1, yv, rfl, rfl, SqL.of ho, atI_last xs yv, vg, rfl, _, _, TI.dp hy, TI.dp (z2.ti.mono l34.tup), shaped_ti _, shaped_ti g, ?_⟩
            rw [eqv_tups]
            refine ⟨_, rfl, ?_⟩
            cases y3 : decide (doneTo c ws = g) with
            | false =>
              have fin := q2 H4 l34
              rw [due_row] at fin
              rw [y, y2, y3] at fin
              exact fin
            | true =>
              refine ⟨_, rfl, .ref b, rfl, b, _, 1, .ref b2, rfl, rfl, SqT.of (l4.tup _ _ hb3), atI_nat (j := 1) rfl, n, vp, .ref b2, pr, ws, rfl, by omega, z2.tt.mono l34.tup, z.pok, hw.mono l34.tup, hst, (z2.on l34).tb, hp4, fun H5 l5 => ⟨_, rfl, rfl, ?_⟩⟩
              have fin := q2 H5 (l34.trans l5)
              rw [due_row] at fin
              rw [y, y2, y3] at fin
              rw [dvi]
              exact fin
end
end Cd

set_option Elab.async false
set_option linter.all false
set_option maxRecDepth 100000
set_option maxHeartbeats 4000000
/-! shows_price_paper -/
namespace Cd
open PySem PySem.Spec PyProof.Rows L2 Cm
theorem boot_zip : bootBuiltins "zip" = some (.type "zip") := by decide +kernel
theorem boot_dict : bootBuiltins "dict" = some (.type "dict") := by decide +kernel
inductive QVal
  | junk
  | nms (ns : List Int)
  | nones (k : Nat)
def QR (R : List Addr) (H : Hp) (v : V) : QVal → Prop
  | .junk => v = .non ∨ (∃ i, v = .int i) ∨ ∃ a xs, v = .ref a ∧ a ∉ R ∧ H a = some (.lst xs)
  | .nms ns => TI H v ns
  | .nones k => ∃ a, v = .ref a ∧ H a = some (.tup (List.replicate k .non))
theorem QR.on {R T : List Addr} {H H' : Hp} {v : V} (l : Le R T H H') : ∀ {p : QVal}, QR R H v p → QR R H' v p
  | .junk, h => by
    rcases h with h | h | ⟨a, xs, e, hr, h⟩
    · exact .inl h
    · exact .inr (.inl h)
    · exact .inr (.inr ⟨a, xs, e, hr, l.lst hr h⟩)
  | .nms ns, h => TI.mono l.tup h
  | .nones k, ⟨a, e, h⟩ => ⟨a, e, l.tup _ _ h⟩
theorem QR.free {R : List Addr} {H : Hp} {v : V} : ∀ {p : QVal}, QR R H v p → QR [] H v p
  | .junk, h => by
    rcases h with h | h | ⟨a, xs, e, hr, h⟩
    · exact .inl h
    · exact .inr (.inl h)
    · exact .inr (.inr ⟨a, xs, e, (nomatch ·), h⟩)
  | .nms ns, h => h
  | .nones k, h => h
def vl (n : Nat) (ns : List Int) (c : Ch) : Int := (gv ((CH n).zip ns) c).getD 0
def okk (n : Nat) (pr : List (List Int)) (ns : List Int) (h : Ch) (s : Sq) : Bool := decide (vl n ns h - vl n ns (mv h s.1 s.2) ≤ wt pr s)
def due2 (n : Nat) (pr : List (List Int)) (g c : Ch) (best : Int) : QVal → Bool
  | .nms ns => decide (ns.length = (CH n).length) && (decide (vl n ns g = 0) && decide (vl n ns c = best) && (CH n).all fun h => (stp n).all (okk n pr ns h))
  | _ => false
theorem due2_nms (n : Nat) (pr : List (List Int)) (g c : Ch) (best : Int) (ns : List Int) : due2 n pr g c best (.nms ns) = (decide (ns.length = (CH n).length) && (decide (vl n ns g = 0) && decide (vl n ns c = best) && (CH n).all fun h => (stp n).all (okk n pr ns h))) := rfl
theorem gv_zip {α : Type} : ∀ {cs : List Ch} {ns : List α} {c : Ch}, cs.length = ns.length → c ∈ cs → ∃ x, gv (cs.zip ns) c = some x
  | [], _, _, _, h => nomatch h
  | d :: cs, [], _, h, _ => nomatch h
  | d :: cs, x :: ns, c, h, hm => by
    rw [List.zip_cons_cons]
    by_cases z : d = c
    · exact ⟨x, gv_pos z⟩
    · rw [gv_neg z]
      rcases List.mem_cons.mp hm with rfl | hm
      · exact absurd rfl z
      · exact gv_zip (by simpa using h) hm
theorem vl_of {n : Nat} {ns : List Int} {c : Ch} (h : ns.length = (CH n).length) (hc : c ∈ CH n) : gv ((CH n).zip ns) c = some (vl n ns c) := by
  obtain ⟨x, hx⟩ := gv_zip (ns := ns) h.symm hc
  unfold vl
  rw [hx] <;> rfl
def VI (_ : Hp) (v : V) (x : Int) : Prop := v = .int x
theorem li_rows {H : Hp} : ∀ {xs : List V} {cs : List (List Int)}, Paired (TI H) xs cs → ∃ ks : List (Addr × List Int), xs = ks.map (fun q => V.ref q.1) ∧ ks.map (·.2) = cs ∧ ∀ q ∈ ks, H q.1 = some (.tup (q.2.map V.int))
  | _, _, .nil => ⟨[], rfl, rfl, fun q h => nomatch h⟩
  | _, _, .cons (b := c) a b => by
    obtain ⟨ks, h1, h2, h3⟩ := li_rows b
    obtain ⟨t, rfl, ht⟩ := a
    refine ⟨(t, c) :: ks, by rw [h1] <;> rfl, by rw [List.map_cons, h2], fun q hq => ?_⟩
    rcases List.mem_cons.mp hq with rfl | hq
    · exact ht
    · exact h3 q hq
theorem merge_nd : ∀ (more kvs : List (List Key × V)), ((kvs ++ more).map (·.1)).Nodup → mergeT kvs more = kvs ++ more
  | [], kvs, _ => by
    rw [List.append_nil] <;> rfl
  | kv :: more, kvs, h => by
    have hn : ¬ (kvs.any fun q => decide (q.1 = kv.1)) = true := fun z => by
      obtain ⟨q, hq, e⟩ := List.any_eq_true.mp z
      rw [List.map_append] at h
      exact (List.nodup_append.mp h).2.2 q.1 (List.mem_map_of_mem hq) kv.1 (by rw [List.map_cons]; exact List.mem_cons_self) (of_decide_eq_true e)
    have e : putK kvs kv.1 kv.2 = kvs ++ [kv] := by
      unfold putK
      rw [if_neg hn]
    show mergeT (putK kvs kv.1 kv.2) more = _
    rw [e, merge_nd more (kvs ++ [kv]) (by rw [List.append_assoc]; exact h), List.append_assoc]
    rfl
theorem zip_kr {H : Hp} : ∀ {ks : List (Addr × List Int)} {ns : List Int}, KR VI H (List.zipWith (fun (q : Addr × List Int) y => (ik q.2, y)) ks (ns.map V.int)) ((ks.map (·.2)).zip ns)
  | [], _ => by
    rw [List.zipWith_nil_left]
    exact .nil
  | q :: ks, [] => .nil
  | q :: ks, x :: ns => .cons ⟨rfl, rfl⟩ zip_kr
theorem zip_keys : ∀ (ks : List (Addr × List Int)) (ys : List V), ks.length = ys.length → (List.zipWith (fun (q : Addr × List Int) y => (ik q.2, y)) ks ys).map (·.1) = (ks.map (·.2)).map ik
  | [], [], _ => rfl
  | q :: ks, [], h => nomatch h
  | [], _ :: _, h => nomatch h
  | q :: ks, y :: ys, h => by
    rw [List.zipWith_cons_cons, List.map_cons, List.map_cons, List.map_cons, zip_keys ks ys (by simpa using h)]
theorem ik_nodup {cs : List Ch} (h : cs.Nodup) : (cs.map ik).Nodup := by
  rw [List.Nodup, List.pairwise_map]
  exact h.imp fun hne e => hne (ik_inj.mp e)
section
variable {P : Program} {w : World} {K : PySem.W.Frag} {mg : Str → Option Value} {base : Heap} {T : List Addr}
abbrev nShowsPaper : List Str := ["start", "goal", "prices", "value", "some", "numbers", "here", "person", "chief"]
theorem scShowsPaper : FnScope nShowsPaper ["start", "goal", "prices", "value"] (defScope sShowsPaper) := ⟨rfl, rfl, rfl, by decide +kernel, rfl, by decide +kernel, by decide +kernel⟩
def spShowsPaper (P1 P2 P3 : Addr) (T : List Addr) : Sp := fun vs H Q _ => ∃ (vs' vg vp vv : V) (n : Nat) (c g : Ch) (pr : List (List Int)) (p : QVal), vs = [vs', vg, vp, vv] ∧ Pz T P1 P2 H vg vp n g pr ∧ TI H vs' c ∧ c ∈ CH n ∧ QR [] H vv p ∧ P3 ∈ T ∧
  ∀ H' best, Le [] T H H' → Best n pr g c best → Q (.bl (due2 n pr g c best p)) H'
def ecAny : L2.St → Hp → V → V → Prop := fun σ H x y => (∃ n : Int, x = .int n ∧ y = .bl true) ∨ (x = .non ∧ y = .bl false)
open Cq in
theorem ok_showsPaper {P1 P2 P3 fp : Addr} {fdp : FuncData} (B : Bl mg) (gp : mg "need_priced" = some (.ref fp)) (kp : PySem.W.keepIn K (.ref fp) = true) (bp : Binds K fdp ["start", "goal", "prices"] []) (GP : FnOk P w K mg base CX0 6 fp fdp ["start", "goal", "prices"] (spNeedPriced P1 P2 T))
    (DL : Df K mg "least_rows" sLeast ["goal", "prices"]) (GL : FnOk P w K mg base CX0 3 DL.f DL.fd ["goal", "prices"] (spLeast T)) (DA : Df K mg "all_steps" sAllSteps ["size"]) (DU : Df K mg "comes_up" sComes ["chiefs"]) (DC : Df K mg "all_charts" sAllCharts ["size"])
    (DS : Df K mg "stepped" sStepped ["chart", "step"]) (D : DfG K mg "shows_price_paper" sShowsPaper ["start", "goal", "prices", "value"]) (TB : GxR.TabB base mg D.c P3) :
    FnOk P w K mg base CX0 7 D.f D.fd ["start", "goal", "prices", "value"] (spShowsPaper P1 P2 P3 T) := by
  have GA : FnOk P w K mg base CX0 1 DA.f DA.fd ["size"] (spSteps T) := ok_AllSteps B DA
  have GC : FnOk P w K mg base CX0 2 DC.f DC.fd ["size"] (spCharts T) := ok_AllCharts B DU DC
  have GS : FnOk P w K mg base CX0 1 DS.f DS.fd ["chart", "step"] (spStepped T) := ok_stepped B DS
  refine D.F.ok scShowsPaper (fun vs H Q E h => ?_) (fun A outer s0 H vs Q E hr h => ?_)
  · obtain ⟨vs', vg, vp, vv, n, c, g, pr, p, rfl, _⟩ := h
    rfl
  · obtain ⟨vs', vg, vp, vv, n, c, g, pr, p, rfl, z, hc, hcm, hv, hp3, q⟩ := h
    have n3 := z.n3
    have hu := hu_of hr
    have nd := scShowsPaper.nd
    refine ⟨_, pss_cons (ps_expr (pe_call GP hr (by rfl) gp kp bp .nil pass0 (pa_cons (pv 0) (pa_cons (pv 1) (pa_cons (pv 2) pa_nil)))))
      (pss_cons (ps_set (i := 4) nd rfl (.inl rfl) (pe_call GC (hr.mono (by decide)) (by rfl) DC.g DC.F.kp DC.b .nil pass0 (pa_cons (pe_callB call_len_seq (by rfl) B.len PySem.boot_len (pa_cons (pv 0) pa_nil)) pa_nil)))
      (pss_cons (ps_if (PW.pt (pw_or (pt_not (pt_val (pe_callB call_isi (by rfl) B.isi boot_isi (pa_cons (pv 3) (pa_cons (pe_bltn (v := .ty "tuple") (by rfl) B.tuple boot_tup rfl) pa_nil)))))
          (pw_or1 (pt_cmpR op_ne (pe_callB call_len_seq (by rfl) B.len PySem.boot_len (pa_cons (pv 3) pa_nil)) (pe_callB call_len_seq (by rfl) B.len PySem.boot_len (pa_cons (pv 4) pa_nil)) (nomark _))))) (pss_one (ps_ret pe_bl)) pss_nil)
      (pss_cons (ps_if (pt_not (pt_val (pe_allT (P := P3) (te := tVar 3) (EC := ecAny) hr (by rfl) B.all boot_all TB rfl ⟨rfl, rfl, by decide, by rfl, by rfl, ?_⟩ (pv 3) ?_ (fun _ => rfl)))) (pss_one (ps_ret pe_bl)) pss_nil)
      (pss_cons (ps_set (i := 5) nd rfl (.inl rfl) (pe_dictZ rfl hr.units (by rfl) B.dict boot_dict (by rfl) B.zip boot_zip (pa_cons (pv 4) (pa_cons (pv 3) pa_nil))))
      (pss_cons (ps_if (PW.pt (pw_or (pt_cmpR op_ne (pe_dget hu (pv 5) (pv 1) (fun _ _ => rfl)) pe_int (nomark _))
          (pw_or1 (pt_cmpR op_ne (pe_dget hu (pv 5) (pv 0) (fun _ _ => rfl)) (pe_ix ix_tup (pe_dget hu (pe_call GL (hr.mono (by decide)) (by rfl) DL.g DL.F.kp DL.b .nil pass0 (pa_cons (pv 1) (pa_cons (pv 2) pa_nil))) (pv 0) (fun _ _ => rfl)) pe_int (fun _ _ => rfl)) (nomark _))))) (pss_one (ps_ret pe_bl)) pss_nil)
      (pss_cons (ps_for PassesOwn.never rfl (pi_list (pv 4)) (pg_name (i := 6) nd rfl (.inl rfl))
        (pss_one (ps_for PassesOwn.never rfl (pi_list (pe_call GA (hr.mono (by decide)) (by rfl) DA.g DA.F.kp DA.b .nil pass0 (pa_cons (pe_callB call_len_seq (by rfl) B.len PySem.boot_len (pa_cons (pv 0) pa_nil)) pa_nil)))
          (pg_tup rfl (pgs_cons (pg_name (i := 7) nd rfl (.inl rfl)) (pgs_cons (pg_name (i := 8) nd rfl (.inl rfl)) pgs_nil)))
          (pss_one (ps_if (pt_cmpR op_gt (pe_op op_sub (pe_dget hu (pv 5) (pv 6) (fun _ _ => rfl)) (pe_dget hu (pv 5) (pe_call GS (hr.mono (by decide)) (by rfl) DS.g DS.F.kp DS.b .nil pass0 (pa_cons (pv 6) (pa_cons (pe_tup (pa_cons (pv 7) (pa_cons (pv 8) pa_nil))) pa_nil))) (fun _ _ => rfl)))
            (pe_ix ix_tup (pe_ix ix_tup (pv 2) (pe_op op_sub (pv 7) pe_int) (fun _ _ => rfl)) (pv 8) (fun _ _ => rfl)) (nomark _)) (pss_one (ps_ret pe_bl)) pss_nil)))))
      (pss_one (ps_ret pe_bl)))))))), ?_⟩
    · intro y hy e
      rcases List.mem_cons.mp hy with rfl | hy
      · cases e
      rcases List.mem_cons.mp hy with rfl | hy
      · cases e
      rcases List.mem_cons.mp hy with rfl | hy
      · cases e
      rcases List.mem_cons.mp hy with rfl | hy
      · cases e
      rcases List.mem_cons.mp hy with rfl | hy
      · cases e
      cases hy
    · intro pins σ H1 s1 xv yv u C code A' I ec r hP h0 h1 h2
      have ok := gQc_ok (sc := ⟨.function, [(".0", .local), ("one", .local), ("isinstance", .globalImplicit), ("int", .globalImplicit), ("bool", .globalImplicit)], true, false, []⟩) (cl := cloFrom (cxOf CX0 P w K mg base nShowsPaper "shows_price_paper" (defScope sShowsPaper) D.f (.ref D.c) A outer s0 H E).nox.env.cells [(".0", .local), ("one", .local), ("isinstance", .globalImplicit), ("int", .globalImplicit), ("bool", .globalImplicit)] []) (C := C) (code := code) (x := "one") (u := u) (A := A') I hP rfl
      rcases ec with ⟨k, rfl, rfl⟩ | ⟨rfl, rfl⟩
      · exact qe_and ok (qe_callB ok (qb_isi ok qty_int kit_ii) (by rfl) B.isi boot_isi (qa_cons ok (qe_one ok rfl r) (qa_cons ok (qe_blt ok (by rfl) B.int boot_int rfl) qa_nil))) fun _ =>
          qe_and1 (qe_not (qe_callB ok (qb_isi ok qty_int kit_ib) (by rfl) B.isi boot_isi (qa_cons ok (qe_one ok rfl r) (qa_cons ok (qe_blt ok (by rfl) B.bool boot_bool rfl) qa_nil))))
      · exact qe_and (d := false) ok (qe_callB ok (qb_isi ok qty_non kit_ni) (by rfl) B.isi boot_isi (qa_cons ok (qe_one ok rfl r) (qa_cons ok (qe_blt ok (by rfl) B.int boot_int rfl) qa_nil))) fun e => nomatch e
    · have cl := ch_len z.sz hcm
      refine ⟨_, rfl, _, rfl, _, rfl, vs', vg, vp, c, g, pr, rfl, cha_of z.sz hcm hc, cha_of z.sz z.gm z.ti, by rw [cl, ch_len z.sz z.gm], by omega, z.tt, by rw [cl]; exact z.pok, z.tb, z.p1, z.p2, fun H1 l1 => ?_⟩
      obtain ⟨as, rfl, has⟩ := hc.mono l1.tup
      refine ⟨.ref as, rfl, as, c.map V.int, rfl, .inr (SqT.of has), n, by rw [List.length_map, cl] <;> rfl, z.sz, fun v2 H2 l2' hso => ?_⟩
      have l12 := l1.trans l2'
      have z2 := z.on l12
      have has2 := l2'.tup _ _ has
      have bst : ∃ x, Best n pr g c x := by
        obtain ⟨m, hm⟩ := ip_runs z.pok _ (ip_start z.gm)
        have key : ∀ m st, IP n pr g st → Runs (AP g) n pr m st → ∃ st', FinP n pr g st' := by
          intro m
          induction m with
          | zero =>
            intro st I h
            have p := pass_still (AP g) n pr h
            exact ⟨st, finP z.sz z.gm z.pok I p.2⟩
          | succ m ih =>
            intro st I h
            refine ih _ ?_ h.2
            exact pass_keep (AP g) n pr (IP n pr g) (CH n) (fun here hh s hs st b => ip_keep z.pok here hh s hs st b) (st, false) I
        obtain ⟨st, F⟩ := key m _ (ip_start z.gm) hm
        cases y : gv st c with
        | none => exact absurd (F.keys.mem_iff.mpr hcm) (gv_none.mp y)
        | some e => exact ⟨e.1, (F.best c e y).2.2⟩
      obtain ⟨best, hbest⟩ := bst
      have hv2 := hv.on l12
      have q2 := fun H' (l : Le [] T H2 H') => q H' best (l12.trans l) hbest
      obtain ⟨oa, oxs, rfl, hoa, hox⟩ := hso
      have oal := hox.length
      have c16 := (ch_facts z.sz).1
      cases p with
      | junk =>
        have fin : Q (.bl false) H2 := q2 H2 (Le.refl _)
        rcases hv2 with rfl | ⟨i, rfl⟩ | ⟨b, xs, rfl, _, hb⟩
        · exact ⟨.non, rfl, .non, .ty "tuple", .type "NoneType", .type "tuple", false, rfl, .ty _, .base .non, kit_nt, false, rfl, fin⟩
        · exact ⟨.int i, rfl, .int i, .ty "tuple", .type "int", .type "tuple", false, rfl, .ty _, .base (.int i), kit_it, false, rfl, fin⟩
        · exact ⟨.ref b, rfl, .ref b, .ty "tuple", .type "list", .type "tuple", false, rfl, .ty _, .base (.lst hb), kit_lt, false, rfl, fin⟩
      | nones k =>
        have fin : ∀ H', Le [] T H2 H' → Q (.bl false) H' := q2
        obtain ⟨b, rfl, hb⟩ := hv2
        refine ⟨.ref b, rfl, .ref b, .ty "tuple", .type "tuple", .type "tuple", true, rfl, .ty _, .base (.tup hb), kit_tt, true, rfl, ?_⟩
        refine ⟨.ref b, rfl, b, _, rfl, .inr (SqT.of hb), .ref oa, rfl, oa, oxs, rfl, .inl (SqL.of hoa), rfl, _, rfl, ?_⟩
        rw [dvi, List.length_replicate, oal]
        by_cases hk : ((k : Int) = ((CH n).length : Nat))
        · rw [decide_eq_true hk]
          have htab : GxR.TabG H2 P3 := z2.tb P3 hp3
          refine ⟨.ref b, rfl, b, _, List.replicate k false, rfl, SqT.of hb, by rw [List.length_replicate, List.length_replicate], fun i x b hx hb => ?_, htab, fun H3 ht => ?_⟩
          · obtain ⟨_, e1⟩ := List.getElem?_eq_some_iff.mp hx
            obtain ⟨_, e2⟩ := List.getElem?_eq_some_iff.mp hb
            rw [List.getElem_replicate] at e1 e2
            exact .inr ⟨e1.symm, by rw [← e2]⟩
          · have hk0 : 0 < k := by
              have := List.length_pos_of_mem hcm
              omega
            obtain ⟨k', rfl⟩ : ∃ k', k = k' + 1 := ⟨k - 1, by omega⟩
            exact ⟨_, rfl, fin H3 (Le.tabbed htab ht)⟩
        · rw [decide_eq_false hk]
          exact fin H2 (Le.refl _)
      | nms ns =>
        obtain ⟨b, rfl, hb⟩ := hv2
        refine ⟨.ref b, rfl, .ref b, .ty "tuple", .type "tuple", .type "tuple", true, rfl, .ty _, .base (.tup hb), kit_tt, true, rfl, ?_⟩
        refine ⟨.ref b, rfl, b, _, rfl, .inr (SqT.of hb), .ref oa, rfl, oa, oxs, rfl, .inl (SqL.of hoa), rfl, _, rfl, ?_⟩
        rw [dvi, List.length_map, oal]
        by_cases hk : ns.length = (CH n).length
        · rw [decide_eq_true (show ((ns.length : Nat) : Int) = ((CH n).length : Nat) by omega)]
          have htab : GxR.TabG H2 P3 := z2.tb P3 hp3
          refine ⟨.ref b, rfl, b, _, List.replicate ns.length true, rfl, SqT.of hb, by rw [List.length_map, List.length_replicate], fun i x b hx hb => ?_, htab, fun H3 ht => ?_⟩
          · obtain ⟨k, _, rfl⟩ := map_get hx
            obtain ⟨_, e2⟩ := List.getElem?_eq_some_iff.mp hb
            rw [List.getElem_replicate] at e2
            exact .inl ⟨k, rfl, by rw [← e2]⟩
          · have l3 : Le [] T H2 H3 := Le.tabbed htab ht
            have eall : (List.replicate ns.length true).all _root_.id = true := by
              rw [List.all_eq_true]
              intro x hx
              rw [List.eq_of_mem_replicate hx]
              rfl
            rw [eall]
            refine ⟨true, rfl, ?_⟩
            have hox3 := tis_mono l3.tup hox
            have hoa3 := l3.lst0 hoa
            obtain ⟨ks, e1, e2, e3⟩ := li_rows hox3
            have kl : ks.length = (CH n).length := by rw [← e2, List.length_map]
            refine ⟨_, rfl, _, rfl, oa, b, ks, ns.map V.int, rfl, by rw [← e1]; exact hoa3, l3.tup _ _ hb, by rw [kl, List.length_map, hk], e3, by omega, fun d ndd => ?_⟩
            have em : mergeT [] (List.zipWith (fun (q : Addr × List Int) y => (ik q.2, y)) ks (ns.map V.int)) = List.zipWith (fun (q : Addr × List Int) y => (ik q.2, y)) ks (ns.map V.int) := by
              rw [merge_nd _ _ (by rw [List.nil_append, zip_keys _ _ (by rw [kl, List.length_map, hk]), e2]; exact ik_nodup (ch_facts z.sz).2.2.1), List.nil_append]
            rw [em]
            have hkr0 : KR VI H3 (List.zipWith (fun (q : Addr × List Int) y => (ik q.2, y)) ks (ns.map V.int)) ((CH n).zip ns) := by
              have := zip_kr (H := H3) (ks := ks) (ns := ns)
              rw [e2] at this
              exact this
            generalize List.zipWith (fun (q : Addr × List Int) y => (ik q.2, y)) ks (ns.map V.int) = kvs at hkr0 ⊢
            have l4 : Le [] T H3 (upd H3 d (.dT kvs)) := Le.one ndd
            have hd4 : upd H3 d (.dT kvs) d = some (.dT kvs) := upd_same
            generalize upd H3 d (.dT kvs) = H4 at l4 hd4 ⊢
            have l24 := l3.trans l4
            have z4 := z2.on l24
            have val : ∀ (H' : Hp) (cc : Ch), Le [] T H4 H' → cc ∈ CH n → ∀ b, H' b = some (.tup (cc.map V.int)) → DGet H' d (.ref b) (some (.int (vl n ns cc))) := fun H' cc l hcc b hb => by
              rcases hkr0.val cc with ⟨_, f2⟩ | ⟨v1, e1, f1, f2, er⟩
              · rw [vl_of hk hcc] at f2
                cases f2
              · rw [vl_of hk hcc] at f2
                cases f2
                cases er
                rw [← f1]
                exact DGet.t (l.dt0 hd4) (key_at hb)
            have has4 := l24.tup _ _ has2
            obtain ⟨ag, rfl, hag⟩ := z4.ti
            refine ⟨.ref d, rfl, .ref ag, rfl, d, _, rfl, val H4 g (Le.refl _) z.gm ag hag, rfl, _, rfl, ?_⟩
            rw [dvi]
            cases y1 : decide (vl n ns g = 0) with
            | false =>
              have fin := q2 H4 l24
              rw [due2_nms, y1, decide_eq_true hk] at fin
              exact fin
            | true =>
              refine ⟨.ref d, rfl, .ref as, rfl, d, _, rfl, val H4 c (Le.refl _) hcm as has4, _, rfl, _, rfl, .ref ag, vp, n, g, pr, rfl, z.sz, ⟨ag, rfl, hag⟩, z.gm, z4.tt, z.pok, fun H5 d5 kvs5 st l5 hd5 hkr5 F => ?_⟩
              have has5 := l5.tup _ _ has4
              rcases hkr5.val c with ⟨_, f2⟩ | ⟨v1, e1', f1, f2, er⟩
              · exact absurd (F.keys.mem_iff.mpr hcm) (gv_none.mp f2)
              obtain ⟨a, sv, rfl, ha, _⟩ := er
              have dg : DGet H5 d5 (.ref as) (some (.ref a)) := by
                rw [← f1]
                exact DGet.t hd5 (key_at has5)
              have ebest : e1'.1 = best := (F.best _ _ f2).2.2.eq hbest
              refine ⟨.ref as, rfl, d5, .ref a, rfl, dg, a, _, 0, .int e1'.1, rfl, rfl, SqT.of ha, atI_nat (j := 0) rfl, rfl, _, rfl, ?_⟩
              rw [dvi, ebest]
              have l25 := l24.trans l5
              cases y2 : decide (vl n ns c = best) with
              | false =>
                have fin := q2 H5 l25
                rw [due2_nms, y1, y2, decide_eq_true hk] at fin
                exact fin
              | true =>
                have oal' := oal
                refine ⟨_, rfl, oa, rfl, ⟨oxs, SqL.of (l25.lst0 hoa)⟩, ?_⟩
                refine for_list (K := K) (a := oa) (xs := oxs) (fun i σ H => Le [] T H5 H ∧ (∃ y6 y7 y8, σ = [some (.ref as), some (.ref ag), some vp, some (.ref b), some (.ref oa), some (.ref d), y6, y7, y8]) ∧ ((CH n).take i).all (fun h => (stp n).all (okk n pr ns h)) = true)
                  ⟨Le.refl _, ⟨_, _, _, rfl⟩, rfl⟩ (fun i σ H _ hP => SqL.of ((l25.trans hP.1).lst0 hoa)) (fun i x σ H6 hx hP => ?_) (fun σ H6 hP => ?_)
                · obtain ⟨l6, ⟨y6, y7, y8, rfl⟩, hall⟩ := hP
                  obtain ⟨cc, hcc, hxc⟩ := paired_at hox hx
                  have hccm := List.mem_of_getElem? hcc
                  have ccl := ch_len z.sz hccm
                  have l26 := l25.trans l6
                  obtain ⟨bx, rfl, hbx⟩ := hxc.mono l26.tup
                  refine ⟨.ref as, rfl, as, c.map V.int, rfl, .inr (SqT.of (l26.tup _ _ has2)), n, by rw [List.length_map, cl] <;> rfl, by omega, fun v7 H7 l7 hst => ?_⟩
                  obtain ⟨sa, sxs, rfl, hsa, hsx⟩ := hst
                  have sal := hsx.length
                  rw [List.length_map] at sal
                  have l27 := l26.trans l7
                  refine ⟨sa, rfl, ⟨sxs, SqL.of hsa⟩, ?_⟩
                  refine for_list (K := K) (a := sa) (xs := sxs) (fun j σ H => Le [] T H7 H ∧ (∃ y7 y8, σ = [some (.ref as), some (.ref ag), some vp, some (.ref b), some (.ref oa), some (.ref d), some (.ref bx), y7, y8]) ∧ ((stp n).take j).all (okk n pr ns cc) = true)
                    ⟨Le.refl _, ⟨_, _, rfl⟩, rfl⟩ (fun j σ H _ hP => SqL.of (hP.1.lst0 hsa)) (fun j zz σ H8 hz hP => ?_) (fun σ H8 hP => ?_)
                  · obtain ⟨l8, ⟨y7, y8, rfl⟩, hall2⟩ := hP
                    obtain ⟨w2, hw2, hzw⟩ := paired_at hsx hz
                    obtain ⟨s, hs, rfl⟩ := map_at hw2
                    have hsm := List.mem_of_getElem? hs
                    obtain ⟨s1, s2, s3, s4, s5⟩ := stp_facts.mp hsm
                    obtain ⟨bs, rfl, hbs⟩ := hzw.mono l8.tup
                    have l28 := l27.trans l8
                    have l48 := ((l5.trans l6).trans l7).trans l8
                    have hbx8 := (l7.trans l8).tup _ _ hbx
                    refine ⟨bs, [.int s.1, .int s.2], rfl, SqT.of hbs, rfl, .int s.1, [.int s.2], rfl, .int s.2, [], rfl, rfl, ?_⟩
                    refine ⟨.ref d, rfl, .ref bx, rfl, d, _, rfl, val H8 cc l48 hccm bx hbx8, .ref d, rfl, .ref bx, rfl, .int s.1, rfl, .int s.2, rfl, by show 2 ≤ sizeLine; decide, fun t nt => ?_⟩
                    have l9 : Le [] T H8 (upd H8 t (.tup [.int s.1, .int s.2])) := Le.one nt
                    refine ⟨.ref bx, .ref t, cc, s.1, s.2, rfl, ⟨bx, rfl, l9.tup _ _ hbx8⟩, ⟨t, rfl, upd_same⟩, s1, by omega, by omega, fun vt H9 l10 ht => ?_⟩
                    obtain ⟨bt, rfl, hbt⟩ := ht
                    have l89 := l9.trans l10
                    have hmm := mv_mem z.sz hccm hsm
                    refine ⟨d, _, rfl, val H9 _ (l48.trans l89) hmm bt hbt, _, _, rfl, rfl, ?_⟩
                    obtain ⟨ap, xp, rfl, hap, hxp⟩ := (z2.on (l28.trans l89)).tt
                    obtain ⟨r, l, hat1, hr0, hat2⟩ := price_at z.pok hsm hxp
                    refine ⟨.ref ap, rfl, .int s.1, rfl, s.1, 1, rfl, rfl, ap, xp, s.1 - 1, .ref r, rfl, rfl, SqT.of hap, hat1, .int s.2, rfl, r, _, s.2, _, rfl, rfl, SqT.of hr0, hat2, _, _, rfl, rfl, _, rfl, ?_⟩
                    have eok : okk n pr ns cc s = !decide (vl n ns cc - vl n ns (mv cc s.1 s.2) > wt pr s) := by
                      unfold okk
                      rw [Bool.eq_iff_iff, Bool.not_eq_true', decide_eq_true_iff, decide_eq_false_iff_not]
                      omega
                    cases y3 : decide (vl n ns cc - vl n ns (mv cc s.1 s.2) > wt pr s) with
                    | true =>
                      have fin := q2 H9 (l28.trans l89)
                      have ef : ((CH n).all fun h => (stp n).all (okk n pr ns h)) = false := by
                        rw [List.all_eq_false]
                        refine ⟨cc, hccm, ?_⟩
                        rw [Bool.not_eq_true, List.all_eq_false]
                        exact ⟨s, hsm, by rw [eok, y3]; decide⟩
                      rw [due2_nms, ef, y1, y2, decide_eq_true hk] at fin
                      exact fin
                    | false =>
                      refine ⟨l8.trans l89, ⟨_, _, rfl⟩, ?_⟩
                      rw [take_snoc hs, List.all_append, hall2]
                      show (okk n pr ns cc s && true) = true
                      rw [eok, y3]
                      rfl
                  · obtain ⟨l8, ⟨y7, y8, rfl⟩, hall2⟩ := hP
                    rw [sal, List.take_length] at hall2
                    refine ⟨(l6.trans l7).trans l8, ⟨_, _, _, rfl⟩, ?_⟩
                    rw [take_snoc hcc, List.all_append, hall]
                    show ((stp n).all (okk n pr ns cc) && true) = true
                    rw [hall2]
                    rfl
                · obtain ⟨l6, _, hall⟩ := hP
                  rw [oal, List.take_length] at hall
                  have fin := q2 H6 (l25.trans l6)
                  rw [due2_nms, y1, y2, decide_eq_true hk, hall] at fin
                  exact fin
        · rw [decide_eq_false (show ¬ ((ns.length : Nat) : Int) = ((CH n).length : Nat) by omega)]
          have fin := q2 H2 (Le.refl _)
          rw [due2_nms, decide_eq_false hk] at fin
          exact fin
end
end Cd

set_option Elab.async false
set_option linter.all false
set_option maxRecDepth 100000
set_option maxHeartbeats 4000000
/-! the law's draws -/
namespace Cd
open PySem PySem.Spec PyProof.Rows L2 Cm
/-- the script as it is read -/
def Scr (K : PySem.W.Frag) (H : Hp) (r sc : Addr) (xs : List V) : Prop := (∀ H', SqL K H' sc xs) ∨ (sc ≠ r ∧ SqL K H sc xs)
section
variable {K : PySem.W.Frag} {T : List Addr} {H H' : Hp} {r sc : Addr} {xs : List V}
theorem Scr.at (h : Scr K H r sc xs) : SqL K H sc xs := h.elim (fun h => h H) fun h => h.2
theorem Scr.on (h : Scr K H r sc xs) (l : Le [r] T H H') : Scr K H' r sc xs := by
  rcases h with h | ⟨hr, h⟩
  · exact .inl h
  · have hn : sc ∉ [r] := fun z => hr (List.mem_singleton.mp z)
    rcases h with (h | ⟨o, h⟩) | h
    · exact .inr ⟨hr, .inl (.inl (l.keep _ _ hn (fun _ => nofun) h))⟩
    · exact .inr ⟨hr, .inl (.inr ⟨o, l.keep _ _ hn (fun _ => nofun) h⟩)⟩
    · exact .inl fun H' => .inr h
theorem Scr.make (h : SqL K H sc xs) (nr : H r = none) : Scr K H r sc xs := by
  rcases h with (h | ⟨o, h⟩) | h
  · exact .inr ⟨ne_of_none h nr, .inl (.inl h)⟩
  · exact .inr ⟨ne_of_none h nr, .inl (.inr ⟨o, h⟩)⟩
  · exact .inl fun H' => .inr h
/-- the list of the draws -/
def RowV (H : Hp) (r sc : Addr) : Prop := ∃ (i s d : Int), H r = some (.lst [.ref sc, .int i, .int s, .int d]) ∧ 0 ≤ i ∧ 0 ≤ s ∧ s < 2147483647
theorem RowV.on0 (h : RowV H r sc) (l : Le [] T H H') : RowV H' r sc := by
  obtain ⟨i, s, d, h1, h3⟩ := h
  exact ⟨i, s, d, l.lst0 h1, h3⟩
theorem RowV.upd {p : Addr} {o : HO} (h : RowV H r sc) (n : r ≠ p) : RowV (L2.upd H p o) r sc := by
  obtain ⟨i, s, d, h1, h3⟩ := h
  exact ⟨i, s, d, by rw [upd_ne n]; exact h1, h3⟩
end
section
variable {P : Program} {w : World} {K : PySem.W.Frag} {mg : Str → Option Value} {base : Heap} {T : List Addr}
theorem scTaken : FnScope ["_law_row_here", "_law_many", "_law_found", "_law_cell"] ["_law_row_here", "_law_many"] (defScope sTaken) := ⟨rfl, rfl, rfl, by decide +kernel, rfl, by decide +kernel, by decide +kernel⟩
def spTaken (K : PySem.W.Frag) (T : List Addr) : Sp := fun vs H Q _ => ∃ (r sc : Addr) (ns : List Int) (m : Int), vs = [.ref r, .int m] ∧ RowV H r sc ∧ Scr K H r sc (ns.map V.int) ∧ ns.length ≤ 1000 ∧ 1 ≤ m ∧ m < 1073741824 ∧ ∀ H' k, Le [r] T H H' → RowV H' r sc → 0 ≤ k → k < m → Q (.int k) H'
theorem ok_taken (B : Bl mg) (D : Df K mg "_law_taken" sTaken ["_law_row_here", "_law_many"]) : FnOk P w K mg base CX0 1 D.f D.fd ["_law_row_here", "_law_many"] (spTaken K T) := by
  refine D.F.ok scTaken (fun vs H Q E h => ?_) (fun cdv A outer s0 H vs Q E hr h => ?_)
  · obtain ⟨r, sc, ns, m, rfl, _⟩ := h
    rfl
  · obtain ⟨r, sc, ns, m, rfl, ⟨i, s, d, hrow, hi0, hs0, hs1⟩, hsc, hns, m1, m2, q⟩ := h
    have nd := scTaken.nd
    refine ⟨_, pss_cons (ps_if (pt_cmpR op_gt (pe_ix ix_list (pv 0) pe_int (fun _ _ => rfl)) pe_int (nomark _))
        (pss_cons (ps_set (i := 2) nd rfl (.inl rfl) (pe_op op_modN (pe_callTy call_int1 (by rfl) B.int boot_int (pa_cons (pe_ix ix_list (pv 0) pe_int (fun _ _ => rfl)) pa_nil)) (pv 1)))
        (pss_cons (ps_asg (pe_op op_fdivN (pe_ix ix_list (pv 0) pe_int (fun _ _ => rfl)) (pv 1)) (pg_sub (pv 0) pe_int set_list))
        (pss_one (ps_ret (pv 2))))) pss_nil)
      (pss_cons (ps_asg (pe_op op_add (pe_ix ix_list (pv 0) pe_int (fun _ _ => rfl)) pe_int) (pg_sub (pv 0) pe_int set_list))
      (pss_cons (ps_if (pt_cmpR op_gt (pe_ix ix_list (pv 0) pe_int (fun _ _ => rfl)) (pe_callB call_len_seq (by rfl) B.len PySem.boot_len (pa_cons (pe_ix ix_list (pv 0) pe_int (fun _ _ => rfl)) pa_nil)) (nomark _))
        (pss_cons (ps_asg (pe_op op_modN (pe_callTy call_int1 (by rfl) B.int boot_int (pa_cons (pe_op op_add (pe_op op_mul (pe_ix ix_list (pv 0) pe_int (fun _ _ => rfl)) pe_int) pe_int) pa_nil)) pe_int) (pg_sub (pv 0) pe_int set_list))
        (pss_one (ps_ret (pe_op op_modN (pe_callTy call_int1 (by rfl) B.int boot_int (pa_cons (pe_op op_fdivN (pe_ix ix_list (pv 0) pe_int (fun _ _ => rfl)) pe_int) pa_nil)) (pv 1))))) pss_nil)
      (pss_cons (ps_set (i := 3) nd rfl (.inl rfl) (pe_ix ix_list (pe_ix ix_list (pv 0) pe_int (fun _ _ => rfl)) (pe_op op_sub (pe_ix ix_list (pv 0) pe_int (fun _ _ => rfl)) pe_int) (fun _ _ => rfl)))
      (pss_cons (ps_asg (pe_op op_modN (pe_callTy call_int1 (by rfl) B.int boot_int (pa_cons (pe_op op_add (pe_op op_add (pe_op op_mul (pe_ix ix_list (pv 0) pe_int (fun _ _ => rfl)) pe_int) (pv 3)) pe_int) pa_nil)) pe_int) (pg_sub (pv 0) pe_int set_list))
      (pss_cons (ps_if (pt_cmpR op_ge (pv 3) (pe_op op_pow pe_int pe_int) (nomark _))
        (pss_one (ps_asg (pe_op op_fdivN (pv 3) (pv 1)) (pg_sub (pv 0) pe_int set_list))) pss_nil)
      (pss_one (ps_ret (pe_op op_modN (pe_callTy call_int1 (by rfl) B.int boot_int (pa_cons (pv 3) pa_nil)) (pv 1))))))))), ?_⟩
    have mN : ∀ x : Int, 0 ≤ x.fmod m ∧ x.fmod m < m := fun x => ⟨Int.fmod_nonneg_of_pos x (by omega), Int.fmod_lt_of_pos x (by omega)⟩
    have nN : ∀ x : Int, 0 ≤ x.fmod 2147483647 ∧ x.fmod 2147483647 < 2147483647 := fun x => ⟨Int.fmod_nonneg_of_pos x (by decide), Int.fmod_lt_of_pos x (by decide)⟩
    have rr : r ∈ [r] := List.mem_singleton.mpr rfl
    have mcond : m ≠ 0 ∧ m.natAbs < 1073741824 := ⟨by omega, by omega⟩
    -- the row with other numbers
    have put : ∀ {H1 : Hp} {xs : List V} (i' s' d' : Int), Le [r] T H H1 → H1 r = some (.lst xs) → 0 ≤ i' → 0 ≤ s' → s' < 2147483647 →
        Le [r] T H (upd H1 r (.lst [.ref sc, .int i', .int s', .int d'])) ∧ RowV (upd H1 r (.lst [.ref sc, .int i', .int s', .int d'])) r sc := fun i' s' d' l e a b c => by
      have l' := l.row (ys := [.ref sc, .int i', .int s', .int d']) rr e
      exact ⟨l', i', s', d', upd_same, a, b, c⟩
    refine ⟨.ref r, rfl, r, _, 3, .int d, rfl, rfl, SqL.of hrow, atI_nat (j := 3) rfl, d, 0, rfl, rfl, _, rfl, ?_⟩
    cases hd : decide (d > 0) with
    | true =>
      refine ⟨.ref r, rfl, r, _, 3, .int d, rfl, rfl, SqL.of hrow, atI_nat (j := 3) rfl, .inl ⟨d, rfl, .int m, rfl, d, m, rfl, rfl, mcond.1, ?_⟩⟩
      refine ⟨.ref r, rfl, r, _, 3, .int d, rfl, rfl, SqL.of hrow, atI_nat (j := 3) rfl, .int m, rfl, d, m, rfl, rfl, mcond, .ref r, rfl, r, _, 3, 3, rfl, rfl, hrow, rfl, ?_⟩
      obtain ⟨p1, p2⟩ := put i s (d.fdiv m) (Le.refl H) hrow hi0 hs0 hs1
      exact ⟨_, rfl, q _ _ p1 p2 (mN d).1 (mN d).2⟩
    | false =>
      refine ⟨.ref r, rfl, r, _, 1, .int i, rfl, rfl, SqL.of hrow, atI_nat (j := 1) rfl, i, 1, rfl, rfl, .ref r, rfl, r, _, 1, 1, rfl, rfl, hrow, rfl, ?_⟩
      obtain ⟨p1, p2⟩ := put (i + 1) s d (Le.refl H) hrow (by omega) hs0 hs1
      have hrow1 : upd H r (.lst [.ref sc, .int (i + 1), .int s, .int d]) r = some (.lst [.ref sc, .int (i + 1), .int s, .int d]) := upd_same
      refine ⟨.ref r, rfl, r, _, 1, .int (i + 1), rfl, rfl, SqL.of hrow1, atI_nat (j := 1) rfl, .ref r, rfl, r, _, 0, .ref sc, rfl, rfl, SqL.of hrow1, atI_nat (j := 0) rfl, sc, ns.map V.int, rfl, .inl (hsc.on p1).at, _, _, rfl, rfl, _, rfl, ?_⟩
      cases hb : decide (i + 1 > ((ns.map V.int).length : Int)) with
      | true =>
        refine ⟨.ref r, rfl, r, _, 2, .int s, rfl, rfl, SqL.of hrow1, atI_nat (j := 2) rfl, s, 48271, rfl, rfl, .inl ⟨by omega, by omega⟩, _, 11, rfl, rfl, .inl ⟨_, rfl, _, 2147483647, rfl, rfl, (by show (2147483647 : Int) ≠ 0; decide), ?_⟩⟩
        have nn := nN (s * 48271 + 11)
        refine ⟨.ref r, rfl, r, _, 2, 2, rfl, rfl, hrow1, rfl, ?_⟩
        obtain ⟨p3, p4⟩ := put (i + 1) ((s * 48271 + 11).fmod 2147483647) d p1 hrow1 (by omega) nn.1 nn.2
        have hrow2 : upd (upd H r (.lst [.ref sc, .int (i + 1), .int s, .int d])) r (.lst [.ref sc, .int (i + 1), .int ((s * 48271 + 11).fmod 2147483647), .int d]) r = some (.lst [.ref sc, .int (i + 1), .int ((s * 48271 + 11).fmod 2147483647), .int d]) := upd_same
        refine ⟨.ref r, rfl, r, _, 2, _, rfl, rfl, SqL.of hrow2, atI_nat (j := 2) rfl, _, 7, rfl, rfl, ⟨by decide, by decide⟩, .inl ⟨_, rfl, .int m, rfl, _, m, rfl, rfl, mcond.1, ?_⟩⟩
        exact q _ _ p3 p4 (mN _).1 (mN _).2
      | false =>
        have hle : i + 1 ≤ ((ns.map V.int).length : Int) := by
          have := of_decide_eq_false hb
          omega
        rw [List.length_map] at hle
        obtain ⟨c, hc⟩ : ∃ c, ns[i.toNat]? = some c := ⟨_, List.getElem?_eq_getElem (by omega : i.toNat < ns.length)⟩
        have atc : atI (ns.map V.int) (i + 1 - 1) = some (.int c) := by
          have z := atI_nat (j := i.toNat) (show (ns.map V.int)[i.toNat]? = some (.int c) by rw [List.getElem?_map, hc] <;> rfl)
          rw [show ((i.toNat : Nat) : Int) = i + 1 - 1 by omega] at z
          exact z
        refine ⟨.ref r, rfl, r, _, 0, .ref sc, rfl, rfl, SqL.of hrow1, atI_nat (j := 0) rfl, .ref r, rfl, r, _, 1, .int (i + 1), rfl, rfl, SqL.of hrow1, atI_nat (j := 1) rfl, i + 1, 1, rfl, rfl, sc, ns.map V.int, _, .int c, rfl, rfl, (hsc.on p1).at, atc, ?_⟩
        refine ⟨.ref r, rfl, r, _, 2, .int s, rfl, rfl, SqL.of hrow1, atI_nat (j := 2) rfl, s, 48271, rfl, rfl, .inl ⟨by omega, by omega⟩, .int c, rfl, _, c, rfl, rfl, _, 11, rfl, rfl, .inl ⟨_, rfl, _, 2147483647, rfl, rfl, (by show (2147483647 : Int) ≠ 0; decide), ?_⟩⟩
        have nn := nN (s * 48271 + c + 11)
        refine ⟨.ref r, rfl, r, _, 2, 2, rfl, rfl, hrow1, rfl, ?_⟩
        obtain ⟨p3, p4⟩ := put (i + 1) ((s * 48271 + c + 11).fmod 2147483647) d p1 hrow1 (by omega) nn.1 nn.2
        have hrow2 : upd (upd H r (.lst [.ref sc, .int (i + 1), .int s, .int d])) r (.lst [.ref sc, .int (i + 1), .int ((s * 48271 + c + 11).fmod 2147483647), .int d]) r = some (.lst [.ref sc, .int (i + 1), .int ((s * 48271 + c + 11).fmod 2147483647), .int d]) := upd_same
        refine ⟨.int c, rfl, 10, 18, rfl, rfl, ⟨by decide, by decide, by decide⟩, c, _, rfl, rfl, _, rfl, ?_⟩
        cases hg : decide (c ≥ 10 ^ (18 : Int).toNat) with
        | true =>
          refine ⟨.int c, rfl, .int m, rfl, c, m, rfl, rfl, mcond, .ref r, rfl, r, _, 3, 3, rfl, rfl, hrow2, rfl, ?_⟩
          obtain ⟨p5, p6⟩ := put (i + 1) ((s * 48271 + c + 11).fmod 2147483647) (c.fdiv m) p3 hrow2 (by omega) nn.1 nn.2
          refine ⟨.int c, rfl, .inl ⟨c, rfl, .int m, rfl, c, m, rfl, rfl, mcond.1, ?_⟩⟩
          exact q _ _ p5 p6 (mN _).1 (mN _).2
        | false =>
          refine ⟨.int c, rfl, .inl ⟨c, rfl, .int m, rfl, c, m, rfl, rfl, mcond.1, ?_⟩⟩
          exact q _ _ p3 p4 (mN _).1 (mN _).2
theorem scPick : FnScope ["_law_row_here", "_law_things"] ["_law_row_here", "_law_things"] (defScope sPick) := ⟨rfl, rfl, rfl, by decide +kernel, rfl, by decide +kernel, by decide +kernel⟩
def spPick (K : PySem.W.Frag) (T : List Addr) : Sp := fun vs H Q _ => ∃ (r t sc : Addr) (ns : List Int) (xs : List V), vs = [.ref r, .ref t] ∧ RowV H r sc ∧ Scr K H r sc (ns.map V.int) ∧ ns.length ≤ 1000 ∧ t ≠ r ∧ H t = some (.lst xs) ∧ 1 ≤ xs.length ∧ xs.length ≤ 1000 ∧ ∀ H' (k : Nat) v, Le [r] T H H' → RowV H' r sc → xs[k]? = some v → Q v H'
theorem ok_pick (B : Bl mg) (DT : Df K mg "_law_taken" sTaken ["_law_row_here", "_law_many"]) (D : Df K mg "_law_pick" sPick ["_law_row_here", "_law_things"]) : FnOk P w K mg base CX0 2 D.f D.fd ["_law_row_here", "_law_things"] (spPick K T) := by
  have GT : FnOk P w K mg base CX0 1 DT.f DT.fd ["_law_row_here", "_law_many"] (spTaken K T) := ok_taken B DT
  refine D.F.ok scPick (fun vs H Q E h => ?_) (fun cdv A outer s0 H vs Q E hr h => ?_)
  · obtain ⟨r, t, sc, ns, xs, rfl, _⟩ := h
    rfl
  · obtain ⟨r, t, sc, ns, xs, rfl, hrow, hsc, hns, htr, ht, h1, h2, q⟩ := h
    refine ⟨_, pss_one (ps_ret (pe_ix ix_list (pv 1) (pe_call GT hr (by rfl) DT.g DT.F.kp DT.b .nil pass0 (pa_cons (pv 0) (pa_cons (pe_callB call_len_seq (by rfl) B.len PySem.boot_len (pa_cons (pv 1) pa_nil)) pa_nil))) (fun _ _ => rfl))), ?_⟩
    refine ⟨.ref t, rfl, .ref r, rfl, .ref t, rfl, t, xs, rfl, .inl (SqL.of ht), r, sc, ns, xs.length, rfl, hrow, hsc, hns, by omega, by omega, fun H' k hl hrw k0 k1 => ?_⟩
    have hk : k.toNat < xs.length := by omega
    have e := List.getElem?_eq_getElem hk
    have z := atI_nat (j := k.toNat) e
    rw [show ((k.toNat : Nat) : Int) = k by omega] at z
    exact ⟨t, xs, k, _, rfl, rfl, SqL.of (hl.lst (fun y => htr (List.mem_singleton.mp y)) ht), z, q H' k.toNat _ hl hrw e⟩
end
end Cd

set_option Elab.async false
set_option linter.all false
set_option maxRecDepth 100000
set_option maxHeartbeats 4000000
/-! the law's charts, tables, rows by draws -/
namespace Cm
abbrev Cst := List Int × List Int × List Int
def cstep (st : Cst) : List Cst := st.2.2.flatMap fun p => st.2.1.map fun q => (st.1.set (p - 1).toNat q, st.2.1 ++ [p], st.2.2.filter fun o => decide (o ≠ p))
def sts (n : Nat) : Nat → List Cst
  | 0 => [(List.replicate n 0, [0], (List.range n).map fun (k : Nat) => (k : Int) + 1)]
  | i + 1 => (sts n i).flatMap cstep
theorem sts_facts {n : Nat} (h : Sz n) : (∀ i, i < n → ∀ s ∈ sts n i, 1 ≤ s.2.2.length ∧ 1 ≤ s.2.1.length ∧ (∀ p ∈ s.2.2, 1 ≤ p ∧ p ≤ n) ∧ s.1.length = n ∧ s.2.1.length ≤ 4 ∧ s.2.2.length ≤ 4) ∧ ∀ s ∈ sts n n, s.1 ∈ CH n := by
  rcases h with rfl | rfl | rfl <;> decide +kernel
theorem sts_next {n i : Nat} {s : Cst} {p q : Int} (hs : s ∈ sts n i) (hp : p ∈ s.2.2) (hq : q ∈ s.2.1) : (s.1.set (p - 1).toNat q, s.2.1 ++ [p], s.2.2.filter fun o => decide (o ≠ p)) ∈ sts n (i + 1) :=
  List.mem_flatMap.mpr ⟨s, hs, List.mem_flatMap.mpr ⟨p, hp, List.mem_map.mpr ⟨q, hq, rfl⟩⟩⟩
end Cm
namespace Cd
open PySem PySem.Spec PyProof.Rows L2 Cm
theorem rep_flat : ∀ n : Nat, (List.replicate n [V.int 0]).flatten = (List.replicate n (0 : Int)).map V.int
  | 0 => rfl
  | n + 1 => by
    rw [List.replicate_succ, List.flatten_cons, rep_flat n, List.replicate_succ]
    rfl
def rTupOf (K : PySem.W.Frag) : List V → Hp → VK → Prop := fun xs H Q => ∃ p ys, xs = [.ref p] ∧ ((SqL K H p ys ∧ ∀ l, H l = none → Q (.ref l) (upd H l (.tup ys))) ∨ (SqT K H p ys ∧ Q (.ref p) H))
section
variable {P : Program} {w : World} {K : PySem.W.Frag} {mg : Str → Option Value} {base : Heap} {T : List Addr}
abbrev nLChart : List Str := ["_law_row_here", "_law_size", "_law_left", "_law_found", "_law_placed", "_law_turn", "_law_person", "_law_k", "_law_one"]
theorem scLChart : FnScope nLChart ["_law_row_here", "_law_size"] (defScope sLChart) := ⟨rfl, rfl, rfl, by decide +kernel, rfl, by decide +kernel, by decide +kernel⟩
/-- what the drawing defs ask of the row -/
structure Dr (K : PySem.W.Frag) (H : Hp) (r sc : Addr) (ns : List Int) : Prop where
  v : RowV H r sc
  s : Scr K H r sc (ns.map V.int)
  l : ns.length ≤ 1000
theorem Dr.on {H H' : Hp} {r sc : Addr} {ns : List Int} (d : Dr K H r sc ns) (l : Le [r] T H H') (v : RowV H' r sc) : Dr K H' r sc ns := ⟨v, d.s.on l, d.l⟩
theorem Dr.on0 {H H' : Hp} {r sc : Addr} {ns : List Int} (d : Dr K H r sc ns) (l : Le [] T H H') : Dr K H' r sc ns := ⟨d.v.on0 l, d.s.on l.weak, d.l⟩
def spLChart (K : PySem.W.Frag) (T : List Addr) : Sp := fun vs H Q _ => ∃ (r sc : Addr) (ns : List Int) (n : Nat), vs = [.ref r, .int n] ∧ Dr K H r sc ns ∧ Sz n ∧ ∀ H' v c, Le [r] T H H' → RowV H' r sc → TI H' v c → c ∈ CH n → Q v H'
theorem ok_LChart (B : Bl mg) (DT : Df K mg "_law_taken" sTaken ["_law_row_here", "_law_many"]) (DP : Df K mg "_law_pick" sPick ["_law_row_here", "_law_things"]) (D : Df K mg "_law_chart" sLChart ["_law_row_here", "_law_size"]) :
    FnOk P w K mg base CX0 3 D.f D.fd ["_law_row_here", "_law_size"] (spLChart K T) := by
  have GP : FnOk P w K mg base CX0 2 DP.f DP.fd ["_law_row_here", "_law_things"] (spPick K T) := ok_pick B DT DP
  refine D.F.ok scLChart (fun vs H Q E h => ?_) (fun cdv A outer s0 H vs Q E hr h => ?_)
  · obtain ⟨r, sc, ns, n, rfl, _⟩ := h
    rfl
  · obtain ⟨r, sc, ns, n, rfl, dr, hn, q⟩ := h
    have n3 : n ≤ 3 := by rcases hn with rfl | rfl | rfl <;> decide
    have nd := scLChart.nd
    refine ⟨_, pss_cons (ps_par3 (i := 2) (j := 3) (k := 4) rfl nd rfl rfl rfl rfl rfl rfl
        (pa_cons (pe_lc (own := [("_law_k", 7)]) (g := gName 7) rfl nd (pi_range1 (by rfl) B.range (pa_cons (pv 1) pa_nil)) (blkOk_by (own := [("_law_k", 7)]) (N := nLChart) (sc := defScope sLChart) (by decide +kernel))
            (fun _ _ _ _ _ => pg_name (i := 7) nd rfl (.inl rfl)) (fun _ _ _ _ _ => pts_nil) (fun _ _ _ _ _ => pe_op op_add (pv 7) pe_int))
          (pa_cons (pe_op op_rep (pe_lst (pa_cons pe_int pa_nil)) (pv 1)) (pa_cons (pe_lst (pa_cons pe_int pa_nil)) pa_nil))) (by rfl))
      (pss_cons (ps_for PassesOwn.never rfl (pi_range1 (by rfl) B.range (pa_cons (pv 1) pa_nil)) (pg_name (i := 5) nd rfl (.inl rfl))
        (pss_cons (ps_set (i := 6) nd rfl (.inr rfl) (pe_call GP hr (by rfl) DP.g DP.F.kp DP.b .nil pass0 (pa_cons (pv 0) (pa_cons (pv 2) pa_nil))))
        (pss_cons (ps_asg (pe_call GP hr (by rfl) DP.g DP.F.kp DP.b .nil pass0 (pa_cons (pv 0) (pa_cons (pv 4) pa_nil))) (pg_sub (pv 3) (pe_op op_sub (pv 6) pe_int) set_list))
        (pss_cons (ps_expr (pe_bm PySem.F.plainAttrs_list PySem.F.slot_list_append PySem.F.type_list_append mt_append (pv 4) (pa_cons (pv 6) pa_nil)))
        (pss_one (ps_setLc (i := 2) (own := [("_law_one", 8)]) (g := gName 8) rfl nd rfl rfl (sw_true rfl rfl rfl (by decide +kernel)) (pi_list (pv 2)) (blkOk_by (own := [("_law_one", 8)]) (N := nLChart) (sc := defScope sLChart) (by decide +kernel))
            (fun _ _ _ _ _ => pg_name (i := 8) nd rfl (.inl rfl)) (fun _ _ _ _ _ => pts_one (pt_cmpR op_ne (pv 8) (pv 6) (nomark _))) (fun _ _ _ _ _ => pv 8)))))))
      (pss_one (ps_ret (pe_callTy call_tuple_of (by rfl) B.tuple boot_tup (pa_cons (pv 3) pa_nil))))), ?_⟩
    have fr : ∀ {p : Addr}, H p = none → p ≠ r := fun {p} e z => by
      obtain ⟨i, s, d, h1, _⟩ := dr.v
      rw [z, h1] at e
      cases e
    refine ⟨_, rfl, n, rfl, by omega, by omega, fun al nal => ?_⟩
    refine lc_range (lo := 0) (n := (n : Int).toNat) (fun i H1 => Le [] T H H1 ∧ H1 al = some (.lst (((List.range i).map fun (k : Nat) => (k : Int) + 1).map V.int))) ⟨Le.one nal, upd_same⟩ (fun i H1 hi hP => ?_) (fun H1 hP => ?_)
    · obtain ⟨l1, h1⟩ := hP
      refine ⟨rfl, _, rfl, _, 1, rfl, rfl, _, h1, small1000 (by rw [List.length_map, List.length_map, List.length_range]; omega), l1.new nal, ?_⟩
      rw [upd_same, List.range_succ, List.map_append, List.map_append, Int.zero_add]
      rfl
    · obtain ⟨l1, h1⟩ := hP
      rw [show (n : Int).toNat = n by omega] at h1
      refine ⟨by show 1 ≤ sizeLine; decide, fun b nb => ?_⟩
      refine ⟨_, rfl, b, n, _, rfl, rfl, upd_same, by omega, by omega, by show 1 * (n : Int).toNat ≤ sizeLine; exact Nat.le_of_lt (small1000 (by omega)), fun af naf => ?_⟩
      refine ⟨by show 1 ≤ sizeLine; decide, fun ap nap => ⟨_, _, _, rfl, ?_⟩⟩
      have erep : (List.replicate (n : Int).toNat [V.int 0]).flatten = (List.replicate n (0 : Int)).map V.int := by
        rw [show (n : Int).toNat = n by omega]
        exact rep_flat n
      have l2' := l1.trans (Le.one (o := .lst [.int 0]) nb)
      have na : H af = none := l2'.dom _ naf
      have l3 := l2'.new (o := .lst (List.replicate (n : Int).toNat [V.int 0]).flatten) na
      have np : H ap = none := l3.dom _ nap
      have l4 := l3.new (o := .lst [.int 0]) np
      have e1 : al ≠ b := ne_of_none h1 nb
      have h1b : (upd H1 b (.lst [.int 0])) al = some (.lst (((List.range n).map fun (k : Nat) => (k : Int) + 1).map V.int)) := by rw [upd_ne e1]; exact h1
      have e2 : al ≠ af := ne_of_none h1b naf
      have h1c : (upd (upd H1 b (.lst [.int 0])) af (.lst (List.replicate (n : Int).toNat [V.int 0]).flatten)) al = some (.lst (((List.range n).map fun (k : Nat) => (k : Int) + 1).map V.int)) := by rw [upd_ne e2]; exact h1b
      have e3 : al ≠ ap := ne_of_none h1c nap
      have e4 : af ≠ ap := ne_of_none upd_same nap
      refine ⟨_, rfl, n, rfl, by omega, by omega, ?_⟩
      refine for_range (lo := 0) (n := (n : Int).toNat) (fun i σ Hx => ∃ (st : Cst) (al : Addr) (y5 y6 y7 y8 : Option V), st ∈ sts n i ∧ σ = [some (.ref r), some (.int n), some (.ref al), some (.ref af), some (.ref ap), y5, y6, y7, y8] ∧ Le [r] T H Hx ∧ RowV Hx r sc ∧
          Hx al = some (.lst (st.2.2.map V.int)) ∧ Hx af = some (.lst (st.1.map V.int)) ∧ Hx ap = some (.lst (st.2.1.map V.int)) ∧ al ≠ r ∧ al ≠ af ∧ al ≠ ap)
        ⟨_, al, _, _, _, _, List.mem_singleton.mpr rfl, rfl, l4.weak, dr.v.on0 l4, by rw [upd_ne e3]; exact h1c, by rw [upd_ne e4, upd_same, erep], upd_same, fr nal, e2, e3⟩ (fun i σ H2 hi hP => ?_) (fun σ H2 hP => ?_)
      · obtain ⟨st, al, y5, y6, y7, y8, hst, rfl, lr, hv, ha, hf, hp, z1, z2, z3⟩ := hP
        obtain ⟨f1, f2, f3, f4, f5, f6⟩ := (sts_facts hn).1 i (by omega) st hst
        refine ⟨_, rfl, _, rfl, r, al, sc, ns, _, rfl, hv, dr.s.on lr, dr.l, z1, ha, by rw [List.length_map]; exact f1, by rw [List.length_map]; omega, fun H3 k v lp hv3 hk => ?_⟩
        obtain ⟨p, hp1, rfl⟩ := map_get hk
        have pm := List.mem_of_getElem? hp1
        obtain ⟨pl, ph⟩ := f3 p pm
        have ha3 := lp.lst (fun y => z1 (List.mem_singleton.mp y)) ha
        have hf3 := lp.lst (fun y => fr na (List.mem_singleton.mp y)) hf
        have hp3 := lp.lst (fun y => fr np (List.mem_singleton.mp y)) hp
        have lr3 := lr.trans lp
        refine ⟨_, rfl, _, rfl, r, ap, sc, ns, _, rfl, hv3, dr.s.on lr3, dr.l, fr np, hp3, by rw [List.length_map]; exact f2, by rw [List.length_map]; omega, fun H4 k2 v2 lq hv4 hk2 => ?_⟩
        obtain ⟨c, hc1, rfl⟩ := map_get hk2
        have cm := List.mem_of_getElem? hc1
        have ha4 := lq.lst (fun y => z1 (List.mem_singleton.mp y)) ha3
        have hf4 := lq.lst (fun y => fr na (List.mem_singleton.mp y)) hf3
        have hp4 := lq.lst (fun y => fr np (List.mem_singleton.mp y)) hp3
        have lr4 := lr3.trans lq
        refine ⟨.ref af, rfl, .int p, rfl, p, 1, rfl, rfl, af, _, p - 1, (p - 1).toNat, rfl, rfl, hf4, ixN_of pl (by rw [List.length_map, f4]; exact ph), ?_⟩
        have lr5 := lr4.new (o := .lst ((st.1.map V.int).set (p - 1).toNat (.int c))) na
        have hv5 := hv4.upd (p := af) (o := .lst ((st.1.map V.int).set (p - 1).toNat (.int c))) (fun z => fr na z.symm)
        have ha5 : upd H4 af (.lst ((st.1.map V.int).set (p - 1).toNat (.int c))) al = some (.lst (st.2.2.map V.int)) := by rw [upd_ne z2]; exact ha4
        have hp5 : upd H4 af (.lst ((st.1.map V.int).set (p - 1).toNat (.int c))) ap = some (.lst (st.2.1.map V.int)) := by rw [upd_ne (Ne.symm e4)]; exact hp4
        have hf5 : upd H4 af (.lst ((st.1.map V.int).set (p - 1).toNat (.int c))) af = some (.lst ((st.1.set (p - 1).toNat c).map V.int)) := by rw [upd_same, List.map_set]
        generalize upd H4 af (.lst ((st.1.map V.int).set (p - 1).toNat (.int c))) = H5 at lr5 hv5 ha5 hp5 hf5 ⊢
        refine ⟨.ref ap, rfl, .inl ⟨rfl, _, SqL.of hp5⟩, .int p, rfl, ap, _, _, rfl, rfl, hp5, small1000 (by rw [List.length_map]; omega), ?_⟩
        have lr6 := lr5.new (o := .lst (st.2.1.map V.int ++ [.int p])) np
        have hv6 := hv5.upd (p := ap) (o := .lst (st.2.1.map V.int ++ [.int p])) (fun z => fr np z.symm)
        have ha6 : upd H5 ap (.lst (st.2.1.map V.int ++ [.int p])) al = some (.lst (st.2.2.map V.int)) := by rw [upd_ne z3]; exact ha5
        have hf6 : upd H5 ap (.lst (st.2.1.map V.int ++ [.int p])) af = some (.lst ((st.1.set (p - 1).toNat c).map V.int)) := by rw [upd_ne e4]; exact hf5
        have hp6 : upd H5 ap (.lst (st.2.1.map V.int ++ [.int p])) ap = some (.lst ((st.2.1 ++ [p]).map V.int)) := by rw [upd_same, List.map_append] <;> rfl
        generalize upd H5 ap (.lst (st.2.1.map V.int ++ [.int p])) = H6 at lr6 hv6 ha6 hp6 hf6 ⊢
        refine ⟨_, rfl, al, rfl, ⟨_, SqL.of ha6⟩, fun d nd6 => ?_⟩
        refine lc_list (K := K) (a := al) (xs := st.2.2.map V.int) (fun j H7 => Le [] T H6 H7 ∧ H7 d = some (.lst (((st.2.2.take j).filter fun o => decide (o ≠ p)).map V.int))) ⟨Le.one nd6, upd_same⟩ (fun j H7 _ hP => SqL.of (hP.1.lst0 ha6)) (fun j x H7 hx hP => ?_) (fun H7 hP => ?_)
        · obtain ⟨l7, h7⟩ := hP
          obtain ⟨o, ho, rfl⟩ := map_get hx
          refine ⟨rfl, _, rfl, _, rfl, rfl, _, rfl, ?_⟩
          rw [dvi]
          by_cases zz : o = p
          · rw [decide_eq_true zz]
            refine ⟨l7, ?_⟩
            rw [filter_take ho, if_neg (by simp [zz])]
            exact h7
          · rw [decide_eq_false zz]
            refine ⟨_, rfl, _, h7, small1000 ?_, l7.new nd6, ?_⟩
            · rw [List.length_map]
              have := List.length_filter_le (fun o => decide (o ≠ p)) (st.2.2.take j)
              rw [List.length_take] at this
              omega
            · rw [filter_take ho, if_pos (by simp [zz]), upd_same, List.map_append]
              rfl
        · obtain ⟨l7, h7⟩ := hP
          rw [List.length_map, List.take_length] at h7
          have nx := sts_next hst pm cm
          have dne : ∀ {x : Addr} {u : HO}, H6 x = some u → d ≠ x := fun {x u} e z => by rw [z, e] at nd6; cases nd6
          obtain ⟨i', s', d', hrw, _⟩ := id hv6
          exact ⟨_, d, _, _, _, _, nx, rfl, lr6.trans l7.weak, hv6.on0 l7, h7, l7.lst0 hf6, l7.lst0 hp6, dne hrw, dne hf6, dne hp6⟩
      · obtain ⟨st, al, y5, y6, y7, y8, hst, rfl, lr, hv, ha, hf, hp, z1, z2, z3⟩ := hP
        rw [show (n : Int).toNat = n by omega] at hst
        refine ⟨.ref af, rfl, af, _, rfl, .inl ⟨SqL.of hf, fun t nt => ?_⟩⟩
        have lt : Le [] T H2 (upd H2 t (.tup (st.1.map V.int))) := Le.one nt
        exact q _ _ st.1 (lr.trans lt.weak) (hv.on0 lt) ⟨t, rfl, upd_same⟩ ((sts_facts hn).2 st hst)
end
end Cd

set_option Elab.async false
set_option linter.all false
set_option maxRecDepth 100000
set_option maxHeartbeats 4000000
/-! the law's tables and rows by draws -/
namespace Cd
open PySem PySem.Spec PyProof.Rows L2 Cm
section
variable {P : Program} {w : World} {K : PySem.W.Frag} {mg : Str → Option Value} {base : Heap} {T : List Addr}
abbrev nLTable : List Str := ["_law_row_here", "_law_size", "_law_low", "_law_many", "_law_person", "_law_chief"]
theorem scLTable : FnScope nLTable ["_law_row_here", "_law_size", "_law_low", "_law_many"] (defScope sLTable) := ⟨rfl, rfl, rfl, by decide +kernel, rfl, by decide +kernel, by decide +kernel⟩
def spLTable (K : PySem.W.Frag) (T : List Addr) : Sp := fun vs H Q _ => ∃ (r sc : Addr) (ns : List Int) (n : Nat), vs = [.ref r, .int n, .int 0, .int 8] ∧ Dr K H r sc ns ∧ Sz n ∧ ∀ H' v pr, Le [r] T H H' → RowV H' r sc → TT H' v pr → PrOk n pr → Q v H'
theorem ok_LTable (B : Bl mg) (DT : Df K mg "_law_taken" sTaken ["_law_row_here", "_law_many"]) (D : Df K mg "_law_table" sLTable ["_law_row_here", "_law_size", "_law_low", "_law_many"]) :
    FnOk P w K mg base CX0 2 D.f D.fd ["_law_row_here", "_law_size", "_law_low", "_law_many"] (spLTable K T) := by
  have GT : FnOk P w K mg base CX0 1 DT.f DT.fd ["_law_row_here", "_law_many"] (spTaken K T) := ok_taken B DT
  refine D.F.ok scLTable (fun vs H Q E h => ?_) (fun cdv A outer s0 H vs Q E hr h => ?_)
  · obtain ⟨r, sc, ns, n, rfl, _⟩ := h
    rfl
  · obtain ⟨r, sc, ns, n, rfl, dr, hn, q⟩ := h
    have n3 : n ≤ 3 := by rcases hn with rfl | rfl | rfl <;> decide
    have nd := scLTable.nd
    refine ⟨_, pss_one (ps_ret (pe_callTy call_tuple_of (by rfl) B.tuple boot_tup (pa_cons
      (pe_lc (own := [("_law_person", 4)]) (g := gName 4) rfl nd (pi_range1 (by rfl) B.range (pa_cons (pv 1) pa_nil)) (blkOk_by (own := [("_law_person", 4)]) (N := nLTable) (sc := defScope sLTable) (by decide +kernel))
        (fun _ _ _ _ _ => pg_name (i := 4) nd rfl (.inl rfl)) (fun _ _ _ _ _ => pts_nil)
        (fun _ _ _ _ _ => pe_callTy (show CallR _ (.type "tuple") (rTupOf K) from call_tuple_of) (by rfl) B.tuple boot_tup (pa_cons
          (pe_lc (own := [("_law_chief", 5)]) (g := gName 5) rfl nd (pi_range1 (by rfl) B.range (pa_cons (pe_op op_add (pv 1) pe_int) pa_nil)) (by
            refine blkOk_by ?_
            exact (by decide +kernel : blkC nLTable ⟨.function, [(".0", .local), ("_law_person", .local), ("tuple", .globalImplicit), ("range", .globalImplicit), ("_law_low", .free), ("_law_many", .free), ("_law_row_here", .free), ("_law_size", .free)], false, false, []⟩ ⟨.function, [(".0", .local), ("_law_chief", .local), ("_law_taken", .globalImplicit), ("_law_low", .free), ("_law_many", .free), ("_law_row_here", .free)], false, false, []⟩ [("_law_chief", 5)] = true))
            (fun _ _ _ _ _ => pg_name (i := 5) nd rfl (.inl rfl)) (fun _ _ _ _ _ => pts_nil)
            (fun _ _ _ _ _ => pe_op op_add (pv 2) (pe_call GT hr (by rfl) DT.g DT.F.kp DT.b .nil pass0 (pa_cons (pv 0) (pa_cons (pv 3) pa_nil))))) pa_nil))) pa_nil))), ?_⟩
    refine ⟨_, rfl, n, rfl, by omega, by omega, fun o no => ?_⟩
    have fr : ∀ {p : Addr}, H p = none → p ≠ r := fun {p} e z => by
      obtain ⟨i, s, d, h1, _⟩ := dr.v
      rw [z, h1] at e
      cases e
    refine lc_range (lo := 0) (n := (n : Int).toNat) (fun i H1 => Le [r] T H H1 ∧ RowV H1 r sc ∧ ∃ pr : List (List Int), LI H1 (.ref o) pr ∧ pr.length = i ∧ ∀ l ∈ pr, l.length = n + 1 ∧ ∀ x ∈ l, 0 ≤ x ∧ x ≤ 1000) ⟨Le.one no, dr.v.upd (fun z => fr no z.symm), [], LI.nil, rfl, fun l h => nomatch h⟩ (fun i H1 hi hP => ?_) (fun H1 hP => ?_)
    · obtain ⟨l1, hv1, pr, hli, hlen, hpr⟩ := hP
      refine ⟨rfl, _, rfl, n, 1, rfl, rfl, _, rfl, by omega, by omega, fun d nd1 => ?_⟩
      have fr1 : ∀ {p : Addr}, H1 p = none → p ≠ r := fun {p} e z => by
        obtain ⟨i, s, d, h1, _⟩ := hv1
        rw [z, h1] at e
        cases e
      refine lc_range (lo := 0) (n := ((n : Int) + 1).toNat) (fun j H2 => Le [r] T H1 H2 ∧ RowV H2 r sc ∧ ∃ l : List Int, H2 d = some (.lst (l.map V.int)) ∧ l.length = j ∧ ∀ x ∈ l, 0 ≤ x ∧ x ≤ 1000) ⟨Le.one nd1, hv1.upd (fun z => fr1 nd1 z.symm), [], upd_same, rfl, fun x h => nomatch h⟩ (fun j H2 hj hP => ?_) (fun H2 hP => ?_)
      · obtain ⟨l2, hv2, l, hd, hll, hlx⟩ := hP
        refine ⟨rfl, _, rfl, _, rfl, _, rfl, r, sc, ns, 8, rfl, hv2, dr.s.on (l1.trans l2), dr.l, by decide, by decide, fun H3 k l3 hv3 k0 k1 => ?_⟩
        have hd3 := l3.lst (fun y => fr1 nd1 (List.mem_singleton.mp y)) hd
        refine ⟨0, k, rfl, rfl, _, hd3, small1000 (by rw [List.length_map]; omega), (l2.trans l3).new nd1, hv3.upd (fun z => fr1 nd1 z.symm), l ++ [k], ?_, by rw [List.length_append, hll] <;> rfl, fun x hx => ?_⟩
        · rw [upd_same, List.map_append]
          show some (HO.lst (l.map V.int ++ [V.int (0 + k)])) = some (HO.lst (l.map V.int ++ [V.int k]))
          rw [Int.zero_add]
        · rcases List.mem_append.mp hx with hx | hx
          · exact hlx x hx
          · rcases List.mem_singleton.mp hx with rfl
            omega
      · obtain ⟨l2, hv2, l, hd, hll, hlx⟩ := hP
        refine ⟨d, _, rfl, .inl ⟨SqL.of hd, fun t nt => ?_⟩⟩
        have lt : Le [r] T H2 (upd H2 t (.tup (l.map V.int))) := Le.one nt
        have hli2 : LI (upd H2 t (.tup (l.map V.int))) (.ref o) pr := by
          obtain ⟨o', xs, e, ho, hxs⟩ := hli
          cases e
          exact ⟨o, xs, rfl, (l2.trans lt).lst (fun y => fr no (List.mem_singleton.mp y)) ho, tis_mono (l2.trans lt).tup hxs⟩
        obtain ⟨acc, e1, e2, e3⟩ := hli2.push (y := .ref t) (c := l) ⟨t, rfl, upd_same⟩ (by omega)
        have lx := ((l1.trans l2).trans lt).new (o := .lst (acc ++ [.ref t])) no
        have tr : r ≠ t := fun z => by
          obtain ⟨i, s, d, h1, _⟩ := hv2
          rw [← z, h1] at nt
          cases nt
        refine ⟨acc, e1, e2, lx, (hv2.upd tr).upd (fun z => fr no z.symm), pr ++ [l], e3, by rw [List.length_append, hlen] <;> rfl, fun m hm => ?_⟩
        rcases List.mem_append.mp hm with hm | hm
        · exact hpr m hm
        · rcases List.mem_singleton.mp hm with rfl
          exact ⟨by omega, hlx⟩
    · obtain ⟨l1, hv1, pr, ⟨o', xs, e, ho, hxs⟩, hlen, hpr⟩ := hP
      cases e
      refine ⟨o, _, rfl, .inl ⟨SqL.of ho, fun t nt => ?_⟩⟩
      have lt : Le [] T H1 (upd H1 t (.tup xs)) := Le.one nt
      exact q _ _ pr (l1.trans lt.weak) (hv1.on0 lt) ⟨t, xs, rfl, upd_same, tis_mono lt.tup hxs⟩ ⟨by omega, hpr⟩
abbrev nLRow : List Str := ["_law_row_here", "_law_size", "_law_most", "_law_steps_here", "_law_k"]
theorem scLRow : FnScope nLRow ["_law_row_here", "_law_size", "_law_most"] (defScope sLRow) := ⟨rfl, rfl, rfl, by decide +kernel, rfl, by decide +kernel, by decide +kernel⟩
def spLRow (K : PySem.W.Frag) (T : List Addr) : Sp := fun vs H Q _ => ∃ (r sc : Addr) (ns : List Int) (n : Nat), vs = [.ref r, .int n, .int 3] ∧ Dr K H r sc ns ∧ Sz n ∧ ∀ H' v (ws : List Sq), Le [r] T H H' → RowV H' r sc → TT H' v (ws.map l2) → (∀ s ∈ ws, s ∈ stp n) → ws.length ≤ 3 → Q v H'
theorem stp_pos {n : Nat} (h : Sz n) : 1 ≤ (stp n).length ∧ (n = 1 → stp n = [(1, 0)]) := by
  rcases h with rfl | rfl | rfl <;> decide +kernel
theorem ok_LRow (B : Bl mg) (DT : Df K mg "_law_taken" sTaken ["_law_row_here", "_law_many"]) (DP : Df K mg "_law_pick" sPick ["_law_row_here", "_law_things"]) (DS : Df K mg "_law_steps" sLSteps ["_law_size"]) (D : Df K mg "_law_row" sLRow ["_law_row_here", "_law_size", "_law_most"]) :
    FnOk P w K mg base CX0 3 D.f D.fd ["_law_row_here", "_law_size", "_law_most"] (spLRow K T) := by
  have GT : FnOk P w K mg base CX0 1 DT.f DT.fd ["_law_row_here", "_law_many"] (spTaken K T) := ok_taken B DT
  have GP : FnOk P w K mg base CX0 2 DP.f DP.fd ["_law_row_here", "_law_things"] (spPick K T) := ok_pick B DT DP
  have GS : FnOk P w K mg base CX0 1 DS.f DS.fd ["_law_size"] (spSteps T) := ok_LSteps B DS
  refine D.F.ok scLRow (fun vs H Q E h => ?_) (fun cdv A outer s0 H vs Q E hr h => ?_)
  · obtain ⟨r, sc, ns, n, rfl, _⟩ := h
    rfl
  · obtain ⟨r, sc, ns, n, rfl, dr, hn, q⟩ := h
    have n3 : n ≤ 3 := by rcases hn with rfl | rfl | rfl <;> decide
    have nd := scLRow.nd
    refine ⟨_, pss_cons (ps_if (pt_cmpR op_eq (pv 1) pe_int (nomark _)) (pss_one (ps_ret (pe_op op_repAny (pe_tup (pa_cons (pe_tup (pa_cons pe_int (pa_cons pe_int pa_nil))) pa_nil)) (pe_call GT (hr.mono (by decide)) (by rfl) DT.g DT.F.kp DT.b .nil pass0 (pa_cons (pv 0) (pa_cons (pe_op op_add (pv 2) pe_int) pa_nil)))))) pss_nil)
      (pss_cons (ps_set (i := 3) nd rfl (.inr rfl) (pe_call GS (hr.mono (by decide)) (by rfl) DS.g DS.F.kp DS.b .nil pass0 (pa_cons (pv 1) pa_nil)))
      (pss_one (ps_ret (pe_callTy call_tuple_of (by rfl) B.tuple boot_tup (pa_cons
        (pe_lc (own := [("_law_k", 4)]) (g := gName 4) rfl nd (pi_range1 (by rfl) B.range (pa_cons (pe_call GT (hr.mono (by decide)) (by rfl) DT.g DT.F.kp DT.b .nil pass0 (pa_cons (pv 0) (pa_cons (pe_op op_add (pv 2) pe_int) pa_nil))) pa_nil)) (blkOk_by (own := [("_law_k", 4)]) (N := nLRow) (sc := defScope sLRow) (by decide +kernel))
          (fun _ _ _ _ _ => pg_name (i := 4) nd rfl (.inl rfl)) (fun _ _ _ _ _ => pts_nil) (fun _ _ _ _ _ => pe_call GP hr (by rfl) DP.g DP.F.kp DP.b .nil pass0 (pa_cons (pv 0) (pa_cons (pv 3) pa_nil)))) pa_nil))))), ?_⟩
    refine ⟨_, rfl, rfl, _, rfl, ?_⟩
    rw [dvi]
    by_cases h1 : (n : Int) = 1
    · rw [decide_eq_true h1]
      refine ⟨by show 2 ≤ sizeLine; decide, fun t nt => ⟨by show 1 ≤ sizeLine; decide, fun u nu => ?_⟩⟩
      have l2' : Le [] T H (upd (upd H t (.tup [.int 1, .int 0])) u (.tup [.ref t])) := (Le.one nt).trans (Le.one nu)
      have htu : TI (upd (upd H t (.tup [.int 1, .int 0])) u (.tup [.ref t])) (.ref t) (l2 (1, 0)) := TI.mono (Tp.new nu) ⟨t, rfl, upd_same⟩
      have hu : upd (upd H t (.tup [.int 1, .int 0])) u (.tup [.ref t]) u = some (.tup [.ref t]) := upd_same
      generalize upd (upd H t (.tup [.int 1, .int 0])) u (.tup [.ref t]) = H1 at l2' htu hu ⊢
      have dr1 := dr.on0 l2'
      refine ⟨.ref r, rfl, .int 3, rfl, 3, 1, rfl, rfl, r, sc, ns, 4, rfl, dr1.v, dr1.s, dr1.l, by decide, by decide, fun H3 k l3 hv3 k0 k1 => ?_⟩
      have hu3 := l3.tup _ _ hu
      have htu3 := htu.mono l3.tup
      have e1 : n = 1 := by omega
      have st1 : ∀ s ∈ List.replicate k.toNat ((1, 0) : Sq), s ∈ stp n := fun s hs => by
        rw [List.eq_of_mem_replicate hs, (stp_pos hn).2 e1]
        exact List.mem_singleton.mpr rfl
      have lk : (List.replicate k.toNat ((1, 0) : Sq)).length ≤ 3 := by
        rw [List.length_replicate]
        omega
      refine ⟨u, k, [.ref t], rfl, rfl, SqT.of hu3, List.cons_ne_nil _ _, k0, by omega, by show 1 ≤ 1000; decide, fun ek => ?_, fun p np => ?_⟩
      · subst ek
        refine q _ _ [(1, 0)] (l2'.weak.trans l3) hv3 ⟨u, _, rfl, hu3, .cons htu3 .nil⟩ (fun s hs => st1 s (by simpa using hs)) (by decide)
      · have lp : Le [] T H3 (upd H3 p (.tup (List.replicate k.toNat [V.ref t]).flatten)) := Le.one np
        refine q _ _ (List.replicate k.toNat (1, 0)) ((l2'.weak.trans l3).trans lp.weak) (hv3.on0 lp) ⟨p, _, rfl, upd_same, ?_⟩ st1 lk
        have htp := htu3.mono lp.tup
        have gen : ∀ m : Nat, Paired (TI (upd H3 p (.tup (List.replicate k.toNat [V.ref t]).flatten))) (List.replicate m [V.ref t]).flatten ((List.replicate m ((1, 0) : Sq)).map l2) := by
          intro m
          induction m with
          | zero => exact .nil
          | succ m ih =>
            rw [List.replicate_succ, List.flatten_cons, List.replicate_succ]
            exact .cons htp ih
        exact gen _
    · rw [decide_eq_false h1]
      refine ⟨.int n, rfl, n, rfl, by omega, fun v H1 l1 hst => ?_⟩
      obtain ⟨sa, sxs, rfl, hsa, hsx⟩ := hst
      have sal := hsx.length
      rw [List.length_map] at sal
      have dr1 := dr.on0 l1
      have fr : ∀ {H2 : Hp} {p : Addr}, RowV H2 r sc → H2 p = none → p ≠ r := fun {H2 p} hv e z => by
        obtain ⟨i, s, d, h1, _⟩ := hv
        rw [z, h1] at e
        cases e
      have sar : sa ≠ r := fun z => by
        obtain ⟨i, s, d, h1, _⟩ := dr1.v
        rw [z, h1] at hsa
        injection hsa with e1
        injection e1 with e2
        obtain ⟨c2, _, t2, e3, _⟩ := paired_at hsx (i := 1) (x := .int i) (by rw [← e2] <;> rfl)
        cases e3
      refine ⟨.ref r, rfl, .int 3, rfl, 3, 1, rfl, rfl, r, sc, ns, 4, rfl, dr1.v, dr1.s, dr1.l, by decide, by decide, fun H2 k l2' hv2 k0 k1 => ⟨k, rfl, by omega, by omega, fun o no => ?_⟩⟩
      have dr2 := dr1.on l2' hv2
      have hsa2 := l2'.lst (fun y => sar (List.mem_singleton.mp y)) hsa
      have hsx2 := tis_mono l2'.tup hsx
      refine lc_range (lo := 0) (n := k.toNat) (fun i H3 => Le [r] T H2 H3 ∧ RowV H3 r sc ∧ ∃ ws : List Sq, LI H3 (.ref o) (ws.map l2) ∧ ws.length = i ∧ ∀ s ∈ ws, s ∈ stp n) ⟨Le.one no, hv2.upd (fun z => fr hv2 no z.symm), [], LI.nil, rfl, fun l h => nomatch h⟩ (fun i H3 hi hP => ?_) (fun H3 hP => ?_)
      · obtain ⟨l3, hv3, ws, hli, hlen, hws⟩ := hP
        have sl9 := (ch_facts hn).2.1
        refine ⟨rfl, _, rfl, _, rfl, r, sa, sc, ns, sxs, rfl, hv3, dr2.s.on l3, dr2.l, sar, l3.lst (fun y => sar (List.mem_singleton.mp y)) hsa2, by rw [sal]; exact (stp_pos hn).1, by omega, fun H4 kk v l4 hv4 hk => ?_⟩
        obtain ⟨c2, hc2, hxc⟩ := paired_at hsx2 hk
        obtain ⟨s, hs, rfl⟩ := map_at hc2
        have hli4 : LI H4 (.ref o) (ws.map l2) := by
          obtain ⟨o', xs, e, ho, hxs⟩ := hli
          cases e
          exact ⟨o, xs, rfl, l4.lst (fun y => fr hv2 no (List.mem_singleton.mp y)) ho, tis_mono l4.tup hxs⟩
        obtain ⟨acc, e1, e2, e3⟩ := hli4.push (hxc.mono (l3.trans l4).tup) (by rw [List.length_map]; omega)
        refine ⟨acc, e1, e2, (l3.trans l4).new no, hv4.upd (fun z => fr hv2 no z.symm), ws ++ [s], ?_, by rw [List.length_append, hlen] <;> rfl, fun m hm => ?_⟩
        · rw [List.map_append]
          exact e3
        · rcases List.mem_append.mp hm with hm | hm
          · exact hws m hm
          · rcases List.mem_singleton.mp hm with rfl
            exact List.mem_of_getElem? hs
      · obtain ⟨l3, hv3, ws, ⟨o', xs, e, ho, hxs⟩, hlen, hws⟩ := hP
        cases e
        refine ⟨o, _, rfl, .inl ⟨SqL.of ho, fun t nt => ?_⟩⟩
        have lt : Le [] T H3 (upd H3 t (.tup xs)) := Le.one nt
        exact q _ _ ws (((l1.weak.trans l2').trans l3).trans lt.weak) (hv3.on0 lt) ⟨t, xs, rfl, upd_same, tis_mono lt.tup hxs⟩ hws (by omega)
end
end Cd

set_option Elab.async false
set_option linter.all false
set_option maxRecDepth 100000
set_option maxHeartbeats 4000000
/-! alike -/
namespace Cd
open PySem PySem.Spec PyProof.Rows L2 Cm
theorem boot_list' : bootBuiltins "list" = some (.type "list") := by decide +kernel
theorem boot_str' : bootBuiltins "str" = some (.type "str") := by decide +kernel
section
variable {P : Program} {w : World} {K : PySem.W.Frag} {mg : Str → Option Value} {base : Heap} {T : List Addr}
theorem kit2 {a : String} {r : Bool} (h1 : kitB a "tuple" = some r) (h2 : r = false → kitB a "list" = some false) : PySem.W.kitAny K (.type a) [.type "tuple", .type "list"] = some r :=
  kitAny_cons (kit_ty h1) (fun e => by rw [e]; exact kitAny_cons (kit_ty (h2 e)) (fun _ => kitAny_nil) (fun z => nomatch z)) (fun e => e)
abbrev nAlike : List Str := ["_law_found", "_law_due", "_law_k"]
theorem scAlike : FnScope nAlike ["_law_found", "_law_due"] (defScope sAlike) := ⟨rfl, rfl, rfl, by decide +kernel, rfl, by decide +kernel, by decide +kernel⟩
def spAlike0 (T : List Addr) : Sp := fun vs H Q _ => ∃ x : V, vs = [x, x] ∧ ((∃ i, x = .int i) ∨ ∃ b, x = .bl b) ∧ ∀ H', Le [] T H H' → Q (.bl true) H'
theorem ok_alike0 (B : Bl mg) (D : Df K mg "_law_alike" sAlike ["_law_found", "_law_due"]) : FnOk P w K mg base CX0 1 D.f D.fd ["_law_found", "_law_due"] (spAlike0 T) := by
  refine D.F.ok scAlike (fun vs H Q E h => ?_) (fun cdv A outer s0 H vs Q E hr h => ?_)
  · obtain ⟨x, rfl, _⟩ := h
    rfl
  · obtain ⟨x, rfl, hx, q⟩ := h
    refine ⟨_, pss_cons (ps_if (pt_val (pe_callB call_isiT (by rfl) B.isi boot_isi (pa_cons (pv 1) (pa_cons (pe_tup (pa_cons (pe_bltn (v := .ty "tuple") (by rfl) B.tuple boot_tup rfl) (pa_cons (pe_bltn (v := .ty "list") (by rfl) B.list boot_list' rfl) pa_nil))) pa_nil)))) pss_never pss_nil)
      (pss_cons (ps_if (PW.pt (pw_or (pt_cmp (pc_isN (pv 1))) (pw_or1 (pt_val (pe_callB call_isi (by rfl) B.isi boot_isi (pa_cons (pv 1) (pa_cons (pe_bltn (v := .ty "str") (by rfl) B.str boot_str' rfl) pa_nil))))))) pss_never pss_nil)
      (pss_one (ps_ret (pe_and (pe_callB call_isi (by rfl) B.isi boot_isi (pa_cons (pv 0) (pa_cons (pe_bltn (v := .ty "int") (by rfl) B.int boot_int rfl) pa_nil)))
        (pe_and (pe_cmpR op_eq (pe_callB call_isi (by rfl) B.isi boot_isi (pa_cons (pv 0) (pa_cons (pe_bltn (v := .ty "bool") (by rfl) B.bool boot_bool rfl) pa_nil))) (pe_callB call_isi (by rfl) B.isi boot_isi (pa_cons (pv 1) (pa_cons (pe_bltn (v := .ty "bool") (by rfl) B.bool boot_bool rfl) pa_nil))) (nomark _))
        (pe_one (pe_cmpR op_eq (pv 0) (pv 1) (nomark _)))))))), ?_⟩
    refine ⟨x, rfl, by show 2 ≤ sizeLine; decide, fun t nt => ?_⟩
    have lt : Le [] T H (upd H t (.tup [.ty "tuple", .ty "list"])) := Le.one nt
    have fin := q _ lt
    rcases hx with ⟨i, rfl⟩ | ⟨b, rfl⟩
    · refine ⟨.int i, t, _, .type "int", [.type "tuple", .type "list"], false, rfl, upd_same, .cons (.ty _) (.cons (.ty _) .nil), .base (.int i), kit2 (by decide +kernel) (fun _ => by decide +kernel), false, rfl, ?_⟩
      refine ⟨.int i, rfl, _, rfl, ?_⟩
      refine ⟨.int i, rfl, .int i, .ty "str", .type "int", .type "str", false, rfl, .ty _, .base (.int i), kit_ty (by decide +kernel), false, rfl, ?_⟩
      refine ⟨.int i, rfl, .int i, .ty "int", .type "int", .type "int", true, rfl, .ty _, .base (.int i), kit_ii, true, rfl, ?_⟩
      refine ⟨.int i, rfl, .int i, .ty "bool", .type "int", .type "bool", false, rfl, .ty _, .base (.int i), kit_ib, .int i, rfl, .int i, .ty "bool", .type "int", .type "bool", false, rfl, .ty _, .base (.int i), kit_ib, rfl, true, rfl, ?_⟩
      refine ⟨_, rfl, _, rfl, rfl, ?_⟩
      rw [decide_eq_true (rfl : V.int i = V.int i)]
      exact fin
    · refine ⟨.bl b, t, _, .type "bool", [.type "tuple", .type "list"], false, rfl, upd_same, .cons (.ty _) (.cons (.ty _) .nil), .base (.bl b), kit2 (by decide +kernel) (fun _ => by decide +kernel), false, rfl, ?_⟩
      refine ⟨.bl b, rfl, _, rfl, ?_⟩
      refine ⟨.bl b, rfl, .bl b, .ty "str", .type "bool", .type "str", false, rfl, .ty _, .base (.bl b), kit_ty (by decide +kernel), false, rfl, ?_⟩
      refine ⟨.bl b, rfl, .bl b, .ty "int", .type "bool", .type "int", true, rfl, .ty _, .base (.bl b), kit_ty (by decide +kernel), true, rfl, ?_⟩
      refine ⟨.bl b, rfl, .bl b, .ty "bool", .type "bool", .type "bool", true, rfl, .ty _, .base (.bl b), kit_ty (by decide +kernel), .bl b, rfl, .bl b, .ty "bool", .type "bool", .type "bool", true, rfl, .ty _, .base (.bl b), kit_ty (by decide +kernel), rfl, true, rfl, ?_⟩
      refine ⟨_, rfl, _, rfl, rfl, ?_⟩
      rw [decide_eq_true (rfl : V.bl b = V.bl b)]
      exact fin
def spAlike1 (T : List Addr) : Sp := fun vs H Q _ => ∃ (v u : V) (ns : List Int), vs = [v, u] ∧ TI H v ns ∧ TI H u ns ∧ ns.length ≤ 1000 ∧ ∀ H', Le [] T H H' → Q (.bl true) H'
theorem ok_alike1 (B : Bl mg) (D : Df K mg "_law_alike" sAlike ["_law_found", "_law_due"]) : FnOk P w K mg base CX0 2 D.f D.fd ["_law_found", "_law_due"] (spAlike1 T) := by
  have GA : FnOk P w K mg base CX0 1 D.f D.fd ["_law_found", "_law_due"] (spAlike0 T) := ok_alike0 B D
  refine D.F.ok scAlike (fun vs H Q E h => ?_) (fun cdv A outer s0 H vs Q E hr h => ?_)
  · obtain ⟨v, u, ns, rfl, _⟩ := h
    rfl
  · obtain ⟨v, u, ns, rfl, ⟨a, rfl, ha⟩, ⟨b, rfl, hb⟩, hl, q⟩ := h
    have nd := scAlike.nd
    refine ⟨_, pss_cons (ps_if (pt_val (pe_callB call_isiT (by rfl) B.isi boot_isi (pa_cons (pv 1) (pa_cons (pe_tup (pa_cons (pe_bltn (v := .ty "tuple") (by rfl) B.tuple boot_tup rfl) (pa_cons (pe_bltn (v := .ty "list") (by rfl) B.list boot_list' rfl) pa_nil))) pa_nil))))
        (pss_cons (ps_if (PW.pt (pw_or (pt_not (pt_val (pe_callB call_isiT (by rfl) B.isi boot_isi (pa_cons (pv 0) (pa_cons (pe_tup (pa_cons (pe_bltn (v := .ty "tuple") (by rfl) B.tuple boot_tup rfl) (pa_cons (pe_bltn (v := .ty "list") (by rfl) B.list boot_list' rfl) pa_nil))) pa_nil)))))
          (pw_or1 (pt_cmpR op_ne (pe_callB call_isi (by rfl) B.isi boot_isi (pa_cons (pv 0) (pa_cons (pe_bltn (v := .ty "list") (by rfl) B.list boot_list' rfl) pa_nil))) (pe_callB call_isi (by rfl) B.isi boot_isi (pa_cons (pv 1) (pa_cons (pe_bltn (v := .ty "list") (by rfl) B.list boot_list' rfl) pa_nil))) (nomark _))))) (pss_one ps_never) pss_nil)
        (pss_cons (ps_if (pt_cmpR op_ne (pe_callB call_len_seq (by rfl) B.len PySem.boot_len (pa_cons (pv 0) pa_nil)) (pe_callB call_len_seq (by rfl) B.len PySem.boot_len (pa_cons (pv 1) pa_nil)) (nomark _)) (pss_one ps_never) pss_nil)
        (pss_one (ps_ret (pe_cmpR (op_eqD hr.units)
          (pe_lc (own := [("_law_k", 2)]) (g := gName 2) rfl nd (pi_range1 (by rfl) B.range (pa_cons (pe_callB call_len_seq (by rfl) B.len PySem.boot_len (pa_cons (pv 1) pa_nil)) pa_nil)) (blkOk_by (own := [("_law_k", 2)]) (N := nAlike) (sc := defScope sAlike) (by decide +kernel))
            (fun _ _ _ _ _ => pg_name (i := 2) nd rfl (.inl rfl))
            (fun _ _ _ _ _ => pts_one (pt_not (pt_val (pe_call GA hr (by rfl) D.g D.F.kp D.b .nil pass0 (pa_cons (pe_ix (show IxR _ (rIxT K) from ix_tup) (pv 0) (pv 2) (fun _ _ => rfl)) (pa_cons (pe_ix (show IxR _ (rIxT K) from ix_tup) (pv 1) (pv 2) (fun _ _ => rfl)) pa_nil))))))
            (fun _ _ _ _ _ => pv 2))
          (pe_lst pa_nil) (nomark _)))))) pss_nil)
      pss_never, ?_⟩
    have one : ∀ {H' : Hp} {x : Addr}, H' x = some (.tup (ns.map V.int)) → TyX K H' (.ref x) (.type "tuple") := fun h => .base (.tup h)
    refine ⟨.ref b, rfl, by show 2 ≤ sizeLine; decide, fun t nt => ?_⟩
    have l1 : Le [] T H (upd H t (.tup [.ty "tuple", .ty "list"])) := Le.one nt
    have ht : upd H t (.tup [.ty "tuple", .ty "list"]) t = some (.tup [.ty "tuple", .ty "list"]) := upd_same
    generalize upd H t (.tup [.ty "tuple", .ty "list"]) = H1 at l1 ht ⊢
    refine ⟨.ref b, t, _, .type "tuple", [.type "tuple", .type "list"], true, rfl, ht, .cons (.ty _) (.cons (.ty _) .nil), one (l1.tup _ _ hb), kit2 (by decide +kernel) (fun e => nomatch e), true, rfl, ?_⟩
    refine ⟨.ref a, rfl, by show 2 ≤ sizeLine; decide, fun t2 nt2 => ?_⟩
    have l2' : Le [] T H (upd H1 t2 (.tup [.ty "tuple", .ty "list"])) := l1.trans (Le.one nt2)
    have ht2 : upd H1 t2 (.tup [.ty "tuple", .ty "list"]) t2 = some (.tup [.ty "tuple", .ty "list"]) := upd_same
    generalize upd H1 t2 (.tup [.ty "tuple", .ty "list"]) = H2 at l2' ht2 ⊢
    have ha2 := l2'.tup _ _ ha
    have hb2 := l2'.tup _ _ hb
    refine ⟨.ref a, t2, _, .type "tuple", [.type "tuple", .type "list"], true, rfl, ht2, .cons (.ty _) (.cons (.ty _) .nil), one ha2, kit2 (by decide +kernel) (fun e => nomatch e), true, rfl, ?_⟩
    refine ⟨.ref a, rfl, .ref a, .ty "list", .type "tuple", .type "list", false, rfl, .ty _, one ha2, kit_ty (by decide +kernel), .ref b, rfl, .ref b, .ty "list", .type "tuple", .type "list", false, rfl, .ty _, one hb2, kit_ty (by decide +kernel), rfl, false, rfl, ?_⟩
    refine ⟨.ref a, rfl, a, _, rfl, .inr (SqT.of ha2), .ref b, rfl, b, _, rfl, .inr (SqT.of hb2), rfl, _, rfl, ?_⟩
    rw [decide_eq_true rfl]
    refine ⟨.ref b, rfl, b, _, rfl, .inr (SqT.of hb2), _, rfl, by rw [List.length_map]; omega, by rw [List.length_map]; omega, fun d nd2 => ?_⟩
    refine lc_range (lo := 0) (n := (((ns.map V.int).length : Nat) : Int).toNat) (fun i H3 => Le [] T H2 H3 ∧ H3 d = some (.lst [])) ⟨Le.one nd2, upd_same⟩ (fun i H3 hi hP => ?_) (fun H3 hP => ?_)
    · obtain ⟨l3, hd⟩ := hP
      rw [List.length_map] at hi
      have e := List.getElem?_eq_getElem (show i < ns.length by omega)
      have ati : atI (ns.map V.int) (0 + (i : Int)) = some (.int ns[i]) := by
        have z := atI_nat (j := i) (show (ns.map V.int)[i]? = some (.int ns[i]) by rw [List.getElem?_map, e] <;> rfl)
        rw [Int.zero_add]
        exact z
      refine ⟨rfl, .ref a, rfl, _, rfl, a, _, 0 + (i : Int), .int ns[i], rfl, rfl, SqT.of (l3.tup _ _ ha2), ati, .ref b, rfl, _, rfl, b, _, 0 + (i : Int), .int ns[i], rfl, rfl, SqT.of (l3.tup _ _ hb2), ati, .int ns[i], rfl, .inl ⟨_, rfl⟩, fun H4 l4 => ⟨true, rfl, l3.trans l4, l4.lst0 hd⟩⟩
    · obtain ⟨l3, hd⟩ := hP
      refine ⟨by show 0 ≤ sizeLine; decide, fun o no => ?_⟩
      have lo : Le [] T H3 (upd H3 o (.lst [])) := Le.one no
      have hd4 := lo.lst0 hd
      exact ⟨.list [], .list [], .lst (SqL.of hd4) .nil, .lst (SqL.of upd_same) .nil, by decide +kernel, by decide +kernel, q _ ((l2'.trans l3).trans lo)⟩
end
end Cd

set_option Elab.async false
set_option linter.all false
set_option maxRecDepth 100000
set_option maxHeartbeats 4000000
/-! tuples cut and put together; lists of ones -/
namespace Cd
open PySem PySem.Spec PyProof.Rows L2 Cm
section
variable {K : PySem.W.Frag} {R T : List Addr} {H H' : Hp}
theorem cut_ints (ns : List Int) (lo hi : Option Int) : ∃ ms : List Int, cutV (ns.map V.int) lo hi = ms.map V.int ∧ ms.length ≤ ns.length := by
  unfold cutV
  rw [← List.map_drop, ← List.map_take]
  refine ⟨_, rfl, ?_⟩
  rw [List.length_take, List.length_drop]
  omega
/-- a tuple of ints, cut -/
theorem slA_ti {v : V} {ns : List Int} {lo hi : Option Int} {Q : VK} (h : TI H v ns) (q : ∀ v H' ms, Le [] T H H' → TI H' v ms → ms.length ≤ ns.length → Q v H') : rSlA K v lo hi H Q := by
  obtain ⟨a, rfl, ha⟩ := h
  obtain ⟨ms, e, hl⟩ := cut_ints ns lo hi
  refine ⟨a, _, rfl, SqT.of ha, fun _ => q _ _ ns (Le.refl H) ⟨a, rfl, ha⟩ (Nat.le_refl _), fun _ p np => ?_⟩
  rw [e]
  exact q _ _ ms (Le.one np) ⟨p, rfl, upd_same⟩ hl
theorem catA_ti {v u : V} {ns ms : List Int} {Q : VK} (h : TI H v ns) (h2 : TI H u ms) (hl : ns.length + ms.length ≤ 1000) (q : ∀ v H', Le [] T H H' → TI H' v (ns ++ ms) → Q v H') : rCatA K v u H Q := by
  obtain ⟨a, rfl, ha⟩ := h
  obtain ⟨b, rfl, hb⟩ := h2
  refine ⟨a, b, _, _, rfl, rfl, SqT.of ha, SqT.of hb, Nat.le_of_lt (small1000 (by rw [List.length_map, List.length_map]; exact hl)), fun e => ?_, fun _ e => ?_, fun _ _ p np => ?_⟩
  · have e1 := List.map_eq_nil_iff.mp e
    subst e1
    exact q _ _ (Le.refl H) ⟨b, rfl, hb⟩
  · have e1 := List.map_eq_nil_iff.mp e
    subst e1
    refine q _ _ (Le.refl H) ⟨a, rfl, ?_⟩
    rw [List.append_nil]
    exact ha
  · refine q _ _ (Le.one np) ⟨p, rfl, ?_⟩
    rw [List.map_append]
    exact upd_same
/-- the same of tuples of steps -/
theorem tt_of {a : Addr} {xs : List V} {ws : List Sq} (h : H a = some (.tup xs)) (p : Paired (TI H) xs (ws.map l2)) : TT H (.ref a) (ws.map l2) := ⟨a, xs, rfl, h, p⟩
theorem paired_drop {α β : Type} {F : α → β → Prop} : ∀ {xs : List α} {ys : List β} (k : Nat), Paired F xs ys → Paired F (xs.drop k) (ys.drop k)
  | _, _, 0, h => h
  | _, _, k + 1, .nil => .nil
  | _, _, k + 1, .cons a b => paired_drop k b
theorem paired_take {α β : Type} {F : α → β → Prop} : ∀ {xs : List α} {ys : List β} (k : Nat), Paired F xs ys → Paired F (xs.take k) (ys.take k)
  | _, _, 0, h => .nil
  | _, _, k + 1, .nil => .nil
  | _, _, k + 1, .cons a b => .cons a (paired_take k b)
theorem slA_tt {v : V} {ws : List Sq} {lo hi : Option Int} {Q : VK} (h : TT H v (ws.map l2)) (q : ∀ v H' (us : List Sq), Le [] T H H' → TT H' v (us.map l2) → (∀ s ∈ us, s ∈ ws) → us.length ≤ ws.length → Q v H') : rSlA K v lo hi H Q := by
  obtain ⟨a, xs, rfl, ha, hx⟩ := h
  refine ⟨a, _, rfl, SqT.of ha, fun _ => q _ _ ws (Le.refl H) ⟨a, xs, rfl, ha, hx⟩ (fun s hs => hs) (Nat.le_refl _), fun _ p np => ?_⟩
  have l : Le [] T H (upd H p (.tup (cutV xs lo hi))) := Le.one np
  refine q _ _ ((ws.drop (HT.sIx xs.length 0 lo)).take (HT.sIx xs.length xs.length hi - HT.sIx xs.length 0 lo)) l ⟨p, _, rfl, upd_same, ?_⟩ (fun s hs => List.mem_of_mem_drop (List.mem_of_mem_take hs)) ?_
  · rw [List.map_take, List.map_drop]
    exact tis_mono l.tup (paired_take _ (paired_drop _ hx))
  · rw [List.length_take, List.length_drop]
    omega
theorem catA_tt {v u : V} {ws us : List Sq} {Q : VK} (h : TT H v (ws.map l2)) (h2 : TT H u (us.map l2)) (hl : ws.length + us.length ≤ 1000) (q : ∀ v H', Le [] T H H' → TT H' v ((ws ++ us).map l2) → Q v H') : rCatA K v u H Q := by
  obtain ⟨a, xs, rfl, ha, hx⟩ := h
  obtain ⟨b, ys, rfl, hb, hy⟩ := h2
  have xl := hx.length
  have yl := hy.length
  rw [List.length_map] at xl yl
  refine ⟨a, b, _, _, rfl, rfl, SqT.of ha, SqT.of hb, Nat.le_of_lt (small1000 (by omega)), fun e => ?_, fun _ e => ?_, fun _ _ p np => ?_⟩
  · subst e
    have e1 : ws = [] := List.eq_nil_of_length_eq_zero (by rw [← xl]; rfl)
    subst e1
    exact q _ _ (Le.refl H) ⟨b, ys, rfl, hb, hy⟩
  · subst e
    have e1 : us = [] := List.eq_nil_of_length_eq_zero (by rw [← yl]; rfl)
    subst e1
    refine q _ _ (Le.refl H) ?_
    rw [List.append_nil]
    exact ⟨a, xs, rfl, ha, hx⟩
  · have l : Le [] T H (upd H p (.tup (xs ++ ys))) := Le.one np
    refine q _ _ l ⟨p, _, rfl, upd_same, ?_⟩
    rw [List.map_append]
    exact tis_mono l.tup (paired_app hx hy)
theorem paired_rev {α β : Type} {F : α → β → Prop} : ∀ {xs : List α} {ys : List β}, Paired F xs ys → Paired F xs.reverse ys.reverse
  | _, _, .nil => .nil
  | _, _, .cons a b => by
    rw [List.reverse_cons, List.reverse_cons]
    exact (paired_rev b).snoc a
/-- lists of ints, compared with [] -/
theorem lin_dp {a : Addr} {ks : List Int} (h : H a = some (.lst (ks.map V.int))) : Dp K H (.ref a) (.list (ks.map PyData.int)) := by
  refine .lst (SqL.of h) ?_
  clear h
  induction ks with
  | nil => exact .nil
  | cons x r ih => exact .cons (.int x) ih
theorem shaped_li (c : List Int) : SeqAt.shaped (.list (c.map PyData.int)) = true := by
  have h1 := deep_ints c
  have h2 : PyData.depth (.list (c.map PyData.int)) ≤ 64 := by simp only [PyData.depth]; omega
  show (PyData.canLay0 (.list (c.map PyData.int)) && decide (PyData.depth (.list (c.map PyData.int)) ≤ 64)) = true
  rw [Bool.and_eq_true]
  exact ⟨by simp only [PyData.canLay0]; exact lay_ints c, decide_eq_true h2⟩
theorem eqv_lis (c d : List Int) : PyData.eqv (.list (c.map PyData.int)) (.list (d.map PyData.int)) = decide (c = d) := by
  rw [← eqv_ints]
  simp [PyData.eqv]
theorem nons_dp {a : Addr} {k : Nat} (h : H a = some (.lst (List.replicate k V.non))) : Dp K H (.ref a) (.list (List.replicate k PyData.none)) := by
  refine .lst (SqL.of h) ?_
  clear h
  induction k with
  | zero => exact .nil
  | succ k ih => exact .cons .non ih
theorem lay_nons : ∀ k : Nat, PyData.canLayAll0 (List.replicate k PyData.none) = true
  | 0 => by simp [PyData.canLayAll0]
  | k + 1 => by simp [List.replicate_succ, PyData.canLayAll0, PyData.canLay0, lay_nons k]
theorem deep_nons : ∀ k : Nat, PyData.depthAll (List.replicate k PyData.none) ≤ 1
  | 0 => by simp [PyData.depthAll]
  | k + 1 => by
    have := deep_nons k
    simp only [List.replicate_succ, PyData.depthAll, PyData.depth]
    omega
theorem shaped_nons (k : Nat) : SeqAt.shaped (.list (List.replicate k PyData.none)) = true := by
  have h1 := deep_nons k
  have h2 : PyData.depth (.list (List.replicate k PyData.none)) ≤ 64 := by simp only [PyData.depth]; omega
  show (PyData.canLay0 (.list (List.replicate k PyData.none)) && decide (PyData.depth (.list (List.replicate k PyData.none)) ≤ 64)) = true
  rw [Bool.and_eq_true]
  exact ⟨by simp only [PyData.canLay0]; exact lay_nons k, decide_eq_true h2⟩
theorem eqv_nons (k : Nat) : PyData.eqv (.list (List.replicate k PyData.none)) (.list []) = decide (k = 0) := by
  cases k with
  | zero => simp [PyData.eqv, PyData.eqvAll]
  | succ k => simp [List.replicate_succ, PyData.eqv, PyData.eqvAll]
theorem qrs_on {xs : List V} {qs : List QVal} (l : Le R T H H') (h : Paired (QR R H) xs qs) : Paired (QR R H') xs qs := h.mono fun _ _ => QR.on l
theorem prs_on {xs : List V} {qs : List PVal} (l : Le R T H H') (h : Paired (PR R H) xs qs) : Paired (PR R H') xs qs := h.mono fun _ _ => PR.on l
end
end Cd

set_option Elab.async false
set_option linter.all false
set_option maxRecDepth 100000
set_option maxHeartbeats 8000000
/-! the law's papers -/
namespace Cd
open PySem PySem.Spec PyProof.Rows L2 Cm
theorem tnp_slA {K : PySem.W.Frag} {σ : L2.St} {H : Hp} {v : V} {lo : Option Int} {Q : VK} (h : rSlA K v lo none H Q) : tNoPart σ H (fun u H3 => rSlA K v lo u H3 Q) := h
theorem tseq3_by {t u v : TS} {D : Ends} {σ : L2.St} {H : Hp} (Iv : L2.St → Hp → Prop) (h2 : ∀ σ' H', Iv σ' H' → v D σ' H') (h1 : (∀ σ' H', Iv σ' H' → v D σ' H') → tSeq t (tSeq u v) D σ H) : tSeq t (tSeq u v) D σ H := h1 h2
theorem ite_seq3 {t u v w' : TS} {D : Ends} {σ : L2.St} {H : Hp} (Iv : L2.St → Hp → Prop) (h2 : ∀ σ' H', Iv σ' H' → v D σ' H') (h1 : (∀ σ' H', Iv σ' H' → v D σ' H') → tSeq t (tSeq u v) D σ H) : if true = true then tSeq t (tSeq u v) D σ H else w' D σ H := h1 h2
/-- the steps that break the paper, as ones -/
def ones (n : Nat) (pr : List (List Int)) (ns : List Int) (cc : Ch) (ss : List Sq) : List Int := (ss.filter fun s => !okk n pr ns cc s).map fun _ => (1 : Int)
theorem ones_nil (n : Nat) (pr : List (List Int)) (ns : List Int) (cc : Ch) (ss : List Sq) : decide (ones n pr ns cc ss = []) = ss.all (okk n pr ns cc) := by
  rw [Bool.eq_iff_iff, decide_eq_true_iff, List.all_eq_true]
  unfold ones
  rw [List.map_eq_nil_iff, List.filter_eq_nil_iff]
  constructor
  · intro h s hs
    have := h s hs
    cases z : okk n pr ns cc s with
    | true => rfl
    | false =>
      rw [z] at this
      exact absurd rfl this
  · intro h s hs
    rw [h s hs]
    decide
theorem ones_succ {n : Nat} {pr : List (List Int)} {ns : List Int} {cc : Ch} {ss : List Sq} {j : Nat} {s : Sq} (h : ss[j]? = some s) : ones n pr ns cc (ss.take (j + 1)) = if okk n pr ns cc s = true then ones n pr ns cc (ss.take j) else ones n pr ns cc (ss.take j) ++ [1] := by
  unfold ones
  rw [filter_take h]
  cases z : okk n pr ns cc s with
  | true => rfl
  | false =>
    show (List.filter _ _ ++ [s]).map _ = _
    rw [List.map_append]
    rfl
theorem ones_len (n : Nat) (pr : List (List Int)) (ns : List Int) (cc : Ch) (ss : List Sq) : (ones n pr ns cc ss).length ≤ ss.length := by
  unfold ones
  rw [List.length_map]
  exact List.length_filter_le _ _
def allTo (n : Nat) (pr : List (List Int)) (ns : List Int) (j : Nat) : Bool := ((CH n).take j).all fun h => (stp n).all (okk n pr ns h)
theorem allTo_succ {n : Nat} {pr : List (List Int)} {ns : List Int} {j : Nat} {cc : Ch} (h : (CH n)[j]? = some cc) : allTo n pr ns (j + 1) = (allTo n pr ns j && (stp n).all (okk n pr ns cc)) := by
  unfold allTo
  rw [take_snoc h, List.all_append, List.all_cons, List.all_nil, Bool.and_true]
theorem QR.updl {H : Hp} {a : Addr} {xs ys : List V} (h : H a = some (.lst xs)) {v : V} : ∀ {q : QVal}, QR [] H v q → QR [] (L2.upd H a (.lst ys)) v q
  | .junk, h0 => by
    rcases h0 with h0 | h0 | ⟨b, zs, e, hr, h0⟩
    · exact .inl h0
    · exact .inr (.inl h0)
    · by_cases z : b = a
      · exact .inr (.inr ⟨b, ys, e, hr, by rw [z, upd_same]⟩)
      · exact .inr (.inr ⟨b, zs, e, hr, by rw [upd_ne z]; exact h0⟩)
  | .nms ns, h0 => TI.mono ((Tp.refl H).upd (nt_lst h)) h0
  | .nones k, ⟨b, e, h0⟩ => ⟨b, e, (Tp.refl H).upd (nt_lst h) _ _ h0⟩
/-- a list of papers -/
def LQ (H : Hp) (a : Addr) (m : Nat) : Prop := ∃ xs qs, H a = some (.lst xs) ∧ Paired (QR [] H) xs qs ∧ xs.length ≤ m
theorem LQ.on {T : List Addr} {H H' : Hp} {a : Addr} {m : Nat} (h : LQ H a m) (l : Le [] T H H') : LQ H' a m := by
  obtain ⟨xs, qs, h1, h2, h3⟩ := h
  exact ⟨xs, qs, l.lst0 h1, qrs_on l h2, h3⟩
theorem LQ.push {H : Hp} {a : Addr} {m : Nat} {y : V} {q : QVal} (h : LQ H a m) (hy : QR [] H y q) (hm : m < 900) : ∃ acc, H a = some (.lst acc) ∧ acc.length < sizeLine ∧ LQ (upd H a (.lst (acc ++ [y]))) a (m + 1) := by
  obtain ⟨xs, qs, h1, h2, h3⟩ := h
  refine ⟨xs, h1, small1000 (by omega), xs ++ [y], qs ++ [q], upd_same, (h2.mono fun _ _ => QR.updl h1).snoc (QR.updl h1 hy), ?_⟩
  rw [List.length_append]
  exact Nat.add_le_add_right h3 1
theorem rep_non {K : PySem.W.Frag} {T : List Addr} {H : Hp} {u : Addr} {k : Nat} {Q : VK} (h : H u = some (.tup [.non])) (hk : k ≤ 1000) (q : ∀ v H', Le [] T H H' → (∃ a, v = .ref a ∧ H' a = some (.tup (List.replicate k .non))) → Q v H') : rRepAny K (.ref u) (.int k) H Q := by
  refine ⟨u, k, [.non], rfl, rfl, SqT.of h, List.cons_ne_nil _ _, by omega, by omega, by show 1 ≤ 1000; decide, fun e => ?_, fun p np => ?_⟩
  · have e1 : k = 1 := by omega
    subst e1
    exact q _ _ (Le.refl H) ⟨u, rfl, h⟩
  · refine q _ _ (Le.one np) ⟨p, rfl, ?_⟩
    rw [upd_same, Int.toNat_natCast]
    congr 2
    clear q h
    induction k with
    | zero => rfl
    | succ k ih =>
      rw [List.replicate_succ, List.flatten_cons, ih (by omega), List.replicate_succ]
      rfl
section
variable {P : Program} {w : World} {K : PySem.W.Frag} {mg : Str → Option Value} {base : Heap} {T : List Addr}
abbrev nPapers : List Str := ["_law_start", "_law_goal", "_law_prices", "_law_numbers", "_law_best", "_law_some", "_law_steps_here", "_law_papers_here", "_law_k", "_law_step_here", "_law_value", "_law_due", "_law_told", "_law_here", "_law_one", "_law_p", "_law_c"]
abbrev pPapers : List Str := ["_law_start", "_law_goal", "_law_prices", "_law_numbers", "_law_best"]
theorem scPapers : FnScope nPapers pPapers (defScope sLPapers) := ⟨rfl, rfl, rfl, by decide +kernel, rfl, by decide +kernel, by decide +kernel⟩
def spPapers (P1 P2 P3 : Addr) (T : List Addr) : Sp := fun vs H Q _ => ∃ (vs' vg vp vn : V) (best : Int) (n : Nat) (c g : Ch) (pr : List (List Int)) (nums : List Int), vs = [vs', vg, vp, vn, .int best] ∧ Pz T P1 P2 H vg vp n g pr ∧ P3 ∈ T ∧ TI H vs' c ∧ c ∈ CH n ∧ TI H vn nums ∧ nums.length = (CH n).length ∧ Best n pr g c best ∧
  ∀ H', Le [] T H H' → Q (.bl true) H'
theorem ok_papers {P1 P2 P3 f3 : Addr} {fd3 : FuncData} (B : Bl mg) (DI : Df K mg "_law_is_chart" sLIsChart ["_law_value"]) (DC : Df K mg "_law_charts" sLCharts ["_law_size"]) (DA : Df K mg "_law_steps" sLSteps ["_law_size"]) (DS : Df K mg "_law_step" sLStep ["_law_chart_here", "_law_step_here"])
    (DL : Df K mg "_law_alike" sAlike ["_law_found", "_law_due"]) (g3 : mg "shows_price_paper" = some (.ref f3)) (k3 : PySem.W.keepIn K (.ref f3) = true) (b3 : Binds K fd3 ["start", "goal", "prices", "value"] []) (G3 : FnOk P w K mg base CX0 7 f3 fd3 ["start", "goal", "prices", "value"] (spShowsPaper P1 P2 P3 T))
    (D : Df K mg "_law_papers" sLPapers pPapers) : FnOk P w K mg base CX0 8 D.f D.fd pPapers (spPapers P1 P2 P3 T) := by
  have GC : FnOk P w K mg base CX0 2 DC.f DC.fd ["_law_size"] (spCharts T) := ok_LCharts B DI DC
  have GA : FnOk P w K mg base CX0 1 DA.f DA.fd ["_law_size"] (spSteps T) := ok_LSteps B DA
  have GS : FnOk P w K mg base CX0 1 DS.f DS.fd ["_law_chart_here", "_law_step_here"] (spStepped T) := ok_LStep B DS
  have GL : FnOk P w K mg base CX0 1 DL.f DL.fd ["_law_found", "_law_due"] (spAlike0 T) := ok_alike0 B DL
  refine D.F.ok scPapers (fun vs H Q E h => ?_) (fun cdv A outer s0 H vs Q E hr h => ?_)
  · obtain ⟨vs', vg, vp, vn, best, n, c, g, pr, nums, rfl, _⟩ := h
    rfl
  · obtain ⟨vs', vg, vp, vn, best, n, c, g, pr, nums, rfl, z, hp3, hc, hcm, hn, hnl, hbest, q⟩ := h
    have n3 := z.n3
    have hu := hu_of hr
    have nd := scPapers.nd
    refine ⟨_, pss_cons (ps_asg (pe_tup (pa_cons (pe_call GC (hr.mono (by decide)) (by rfl) DC.g DC.F.kp DC.b .nil pass0 (pa_cons (pe_callB call_len_seq (by rfl) B.len PySem.boot_len (pa_cons (pv 0) pa_nil)) pa_nil)) (pa_cons (pe_call GA (hr.mono (by decide)) (by rfl) DA.g DA.F.kp DA.b .nil pass0 (pa_cons (pe_callB call_len_seq (by rfl) B.len PySem.boot_len (pa_cons (pv 0) pa_nil)) pa_nil)) pa_nil)))
        (pg_tup rfl (pgs_cons (pg_name (i := 5) nd rfl (.inr rfl)) (pgs_cons (pg_name (i := 6) nd rfl (.inl rfl)) pgs_nil))))
      (pss_cons (ps_set (i := 7) nd rfl (.inl rfl) (pe_lst (pa_cons (pv 3) (pa_cons (pe_callTy call_list_of (by rfl) B.list boot_list' (pa_cons (pv 3) pa_nil)) (pa_cons (pe_slice sl_tupA (pv 3) (po_some pe_int) po_none) (pa_cons (pe_revT (pv 3)) (pa_cons (pe_op op_catA (pv 3) (pe_tup (pa_cons pe_int pa_nil)))
        (pa_cons pe_non (pa_cons pe_int (pa_cons (pe_callTy call_tuple_of (by rfl) B.tuple boot_tup (pa_cons (pe_lc (own := [("_law_one", 14)]) (g := gName 14) rfl nd (pi_tup (pv 3)) (blkOk_by (own := [("_law_one", 14)]) (N := nPapers) (sc := defScope sLPapers) (by decide +kernel))
            (fun _ _ _ _ _ => pg_name (i := 14) nd rfl (.inl rfl)) (fun _ _ _ _ _ => pts_nil) (fun _ _ _ _ _ => pe_op op_add (pv 14) pe_int)) pa_nil))
          (pa_cons (pe_op op_repAny (pe_tup (pa_cons pe_non pa_nil)) (pe_callB call_len_seq (by rfl) B.len PySem.boot_len (pa_cons (pv 5) pa_nil))) pa_nil)))))))))))
      (pss_cons (ps_for PassesOwn.never rfl (pi_range1 (by rfl) B.range (pa_cons (pe_callB call_len_seq (by rfl) B.len PySem.boot_len (pa_cons (pv 5) pa_nil)) pa_nil)) (pg_name (i := 8) nd rfl (.inl rfl))
        (pss_one (ps_for PassesOwn.never rfl (pi_list (pe_lst (pa_cons pe_int (pa_cons (pe_un un_neg pe_int) pa_nil)))) (pg_name (i := 9) nd rfl (.inl rfl))
          (pss_one (ps_expr (pe_bm PySem.F.plainAttrs_list PySem.F.slot_list_append PySem.F.type_list_append mt_append (pv 7) (pa_cons
            (pe_op op_catA (pe_op op_catA (pe_slice sl_tupA (pv 3) po_none (po_some (pv 8))) (pe_tup (pa_cons (pe_op op_add (pe_ix ix_tup (pv 3) (pv 8) (fun _ _ => rfl)) (pv 9)) pa_nil))) (pe_slice sl_tupA (pv 3) (po_some (pe_op op_add (pv 8) pe_int)) po_none)) pa_nil)))))))
      (pss_cons (ps_for PassesOwn.never rfl (pi_list (pv 7)) (pg_name (i := 10) nd rfl (.inr rfl))
        (pss_cons (ps_set (i := 11) nd rfl (.inl rfl) (pe_and (pe_callB call_isi (by rfl) B.isi boot_isi (pa_cons (pv 10) (pa_cons (pe_bltn (v := .ty "tuple") (by rfl) B.tuple boot_tup rfl) pa_nil)))
          (pe_and (pe_cmpR op_eq (pe_callB call_len_seq (by rfl) B.len PySem.boot_len (pa_cons (pv 10) pa_nil)) (pe_callB call_len_seq (by rfl) B.len PySem.boot_len (pa_cons (pv 5) pa_nil)) (nomark _))
          (pe_one (pe_cmpR (op_eqD hr.units) (pe_lc (own := [("_law_one", 14)]) (g := gName 14) rfl nd (pi_tup (pv 10)) (blkOk_by (own := [("_law_one", 14)]) (N := nPapers) (sc := defScope sLPapers) (by decide +kernel))
            (fun _ _ _ _ _ => pg_name (i := 14) nd rfl (.inl rfl)) (fun _ _ _ _ _ => pts_one (pt_not (pt_val (pe_callB (show CallR _ (.builtin "isinstance") (rIsi K) from call_isi) (by rfl) B.isi boot_isi (pa_cons (pv 14) (pa_cons (pe_bltn (v := .ty "int") (by rfl) B.int boot_int rfl) pa_nil)))))) (fun _ _ _ _ _ => pv 14)) (pe_lst pa_nil) (nomark _))))))
        (pss_cons (ps_if (pt_val (pv 11))
          (pss_cons (ps_set (i := 12) nd rfl (.inr rfl) (pe_callTy (cr_dictPL rfl hr.units) (by rfl) B.dict boot_dict (pa_cons
            (pe_lc (own := [("_law_k", 8)]) (g := gName 8) rfl nd (pi_range1 (by rfl) B.range (pa_cons (pe_callB call_len_seq (by rfl) B.len PySem.boot_len (pa_cons (pv 5) pa_nil)) pa_nil)) (blkOk_by (own := [("_law_k", 8)]) (N := nPapers) (sc := defScope sLPapers) (by decide +kernel))
              (fun _ _ _ _ _ => pg_name (i := 8) nd rfl (.inl rfl)) (fun _ _ _ _ _ => pts_nil) (fun _ _ _ _ _ => pe_tup (pa_cons (pe_ix (show IxR _ (rIxL K) from ix_list) (pv 5) (pv 8) (fun _ _ => rfl)) (pa_cons (pe_ix (show IxR _ (rIxT K) from ix_tup) (pv 10) (pv 8) (fun _ _ => rfl)) pa_nil)))) pa_nil)))
          (pss_cons (ps_set (i := 11) nd rfl (.inl rfl) (pe_and (pe_cmpR op_eq (pe_dget hu (pv 12) (pv 1) (fun _ _ => rfl)) pe_int (nomark _)) (pe_one (pe_cmpR op_eq (pe_dget hu (pv 12) (pv 0) (fun _ _ => rfl)) (pv 4) (nomark _)))))
          (pss_one (ps_for PassesOwn.never rfl (pi_list (pv 5)) (pg_name (i := 13) nd rfl (.inr rfl))
            (pss_one (ps_set (i := 11) nd rfl (.inl rfl) (pe_and (pv 11) (pe_one (pe_cmpR (op_eqD hr.units)
              (pe_lc (own := [("_law_p", 15), ("_law_c", 16)]) (g := gTup K 2 (gCons (gName 15) (gCons (gName 16) gNil))) rfl nd (pi_list (pv 6)) (blkOk_by (own := [("_law_p", 15), ("_law_c", 16)]) (N := nPapers) (sc := defScope sLPapers) (by decide +kernel))
                (fun _ _ _ _ _ => pg_tup rfl (pgs_cons (pg_name (i := 15) nd rfl (.inl rfl)) (pgs_cons (pg_name (i := 16) nd rfl (.inl rfl)) pgs_nil)))
                (fun _ _ _ _ _ => pts_one (pt_cmpR op_gt (pe_op op_sub (pe_dget hu (pv 12) (pv 13) (fun _ _ => rfl)) (pe_dget hu (pv 12) (pe_call GS (hr.mono (by decide)) (by rfl) DS.g DS.F.kp DS.b .nil pass0 (pa_cons (pv 13) (pa_cons (pe_tup (pa_cons (pv 15) (pa_cons (pv 16) pa_nil))) pa_nil))) (fun _ _ => rfl)))
                  (pe_ix (show IxR _ (rIxT K) from ix_tup) (pe_ix (show IxR _ (rIxT K) from ix_tup) (pv 2) (pe_op op_sub (pv 15) pe_int) (fun _ _ => rfl)) (pv 16) (fun _ _ => rfl)) (nomark _)))
                (fun _ _ _ _ _ => pe_int)) (pe_lst pa_nil) (nomark _)))))))))) pss_nil)
        (pss_one (ps_if (pt_not (pt_val (pe_call GL (hr.mono (by decide)) (by rfl) DL.g DL.F.kp DL.b .nil pass0 (pa_cons (pe_call G3 hr (by rfl) g3 k3 b3 .nil pass0 (pa_cons (pv 0) (pa_cons (pv 1) (pa_cons (pv 2) (pa_cons (pv 10) pa_nil))))) (pa_cons (pv 11) pa_nil))))) (pss_one ps_never) pss_nil)))))
      (pss_one (ps_ret pe_bl))))), ?_⟩
    have cl := ch_len z.sz hcm
    have c16 := (ch_facts z.sz).1
    obtain ⟨as, rfl, has⟩ := hc
    obtain ⟨an, rfl, han⟩ := hn
    refine ⟨.ref as, rfl, as, c.map V.int, rfl, .inr (SqT.of has), n, by rw [List.length_map, cl] <;> rfl, z.sz, fun v1 H1 l1 hso => ?_⟩
    refine ⟨.ref as, rfl, as, c.map V.int, rfl, .inr (SqT.of (l1.tup _ _ has)), n, by rw [List.length_map, cl] <;> rfl, by omega, fun v2 H2 l2' hst => ?_⟩
    refine ⟨by show 2 ≤ sizeLine; decide, fun t nt => ⟨t, [v1, v2], rfl, SqT.of upd_same, rfl, v1, [v2], rfl, v2, [], rfl, rfl, ?_⟩⟩
    have lt : Le [] T H2 (upd H2 t (.tup [v1, v2])) := Le.one nt
    have l3 := (l1.trans l2').trans lt
    obtain ⟨oa, oxs, rfl, hoa, hox⟩ := (hso.le0 l2').le0 lt
    obtain ⟨sa, sxs, rfl, hsa, hsx⟩ := hst.le0 lt
    generalize upd H2 t (.tup [.ref oa, .ref sa]) = H3 at l3 hoa hox hsa hsx ⊢
    have oal := hox.length
    have sal := hsx.length
    rw [List.length_map] at sal
    have han3 := l3.tup _ _ han
    have hn3 : ∀ {H' : Hp}, Le [] T H3 H' → TI H' (.ref an) nums := fun l => ⟨an, rfl, l.tup _ _ han3⟩
    -- the papers
    refine ⟨.ref an, rfl, .ref an, rfl, an, _, rfl, .inr (SqT.of han3), fun b4 n4 => ?_⟩
    have l4 : Le [] T H3 (upd H3 b4 (.lst (nums.map V.int))) := Le.one n4
    have p4 : Paired (QR [] (upd H3 b4 (.lst (nums.map V.int)))) [.ref an, .ref b4] [.nms nums, .junk] := .cons (hn3 l4) (.cons (.inr (.inr ⟨b4, _, rfl, (nomatch ·), upd_same⟩)) .nil)
    generalize upd H3 b4 (.lst (nums.map V.int)) = H4 at l4 p4 ⊢
    refine ⟨.ref an, rfl, 1, rfl, ?_⟩
    refine tnp_slA ?_
    refine slA_ti (T := T) (hn3 l4) fun v5 H5 m5 k5 t5 s5 => ?_
    have l5 := l4.trans k5
    have p5 := (qrs_on k5 p4).snoc (show QR [] H5 v5 (.nms m5) from t5)
    refine ⟨.ref an, rfl, an, _, rfl, SqT.of (l5.tup _ _ han3), fun b6 n6 => ?_⟩
    have k6 : Le [] T H5 (upd H5 b6 (.tup (nums.map V.int).reverse)) := Le.one n6
    have l6 := l5.trans k6
    have p6 := (qrs_on k6 p5).snoc (show QR [] _ (.ref b6) (.nms nums.reverse) from ⟨b6, rfl, by rw [upd_same, List.map_reverse]⟩)
    generalize upd H5 b6 (.tup (nums.map V.int).reverse) = H6 at k6 l6 p6 ⊢
    refine ⟨.ref an, rfl, by show 1 ≤ sizeLine; decide, fun b7 n7 => ?_⟩
    have k7 : Le [] T H6 (upd H6 b7 (.tup [.int 0])) := Le.one n7
    refine catA_ti (T := T) (hn3 (l6.trans k7)) (ms := [0]) ⟨b7, rfl, upd_same⟩ (by rw [hnl]; simp; omega) fun v8 H8 k8 t8 => ?_
    have l8 := (l6.trans k7).trans k8
    have p8 := (qrs_on (k7.trans k8) p6).snoc (show QR [] H8 v8 (.nms (nums ++ [0])) from t8)
    have p8b := (p8.snoc (show QR [] H8 .non .junk from .inl rfl)).snoc (show QR [] H8 (.int 3) .junk from .inr (.inl ⟨3, rfl⟩))
    refine ⟨.ref an, rfl, an, rfl, ⟨_, SqT.of (l8.tup _ _ han3)⟩, fun b9 n9 => ?_⟩
    refine lc_tup (xs := nums.map V.int) (fun j Hx => Le [] T H8 Hx ∧ Hx b9 = some (.lst (((nums.take j).map fun x => x + 1).map V.int))) ⟨Le.one n9, upd_same⟩ (fun j Hx _ hP => SqT.of ((l8.trans hP.1).tup _ _ han3)) (fun j x Hx hx hP => ?_) (fun H9 hP => ?_)
    · obtain ⟨k9, h9⟩ := hP
      obtain ⟨o, ho, rfl⟩ := map_get hx
      refine ⟨rfl, _, rfl, o, 1, rfl, rfl, _, h9, small1000 (by rw [List.length_map, List.length_map, List.length_take]; omega), k9.new n9, ?_⟩
      rw [upd_same, take_snoc ho, List.map_append, List.map_append]
      rfl
    obtain ⟨k9, h9⟩ := hP
    rw [List.length_map, List.take_length] at h9
    refine ⟨b9, _, rfl, .inl ⟨SqL.of h9, fun b10 n10 => ?_⟩⟩
    have k10 : Le [] T H9 (upd H9 b10 (.tup ((nums.map fun x => x + 1).map V.int))) := Le.one n10
    have l10 := (l8.trans k9).trans k10
    have p10 := (qrs_on (k9.trans k10) p8b).snoc (show QR [] _ (.ref b10) (.nms (nums.map fun x => x + 1)) from ⟨b10, rfl, upd_same⟩)
    generalize upd H9 b10 (.tup ((nums.map fun x => x + 1).map V.int)) = H10 at k10 l10 p10 ⊢
    refine ⟨by show 1 ≤ sizeLine; decide, fun b11 n11 => ?_⟩
    have k11 : Le [] T H10 (upd H10 b11 (.tup [.non])) := Le.one n11
    have h11 : upd H10 b11 (.tup [.non]) b11 = some (.tup [.non]) := upd_same
    generalize upd H10 b11 (.tup [.non]) = H11 at k11 h11 ⊢
    have l11 := l10.trans k11
    refine ⟨.ref oa, rfl, oa, oxs, rfl, .inl (SqL.of (l11.lst0 hoa)), ?_⟩
    rw [oal]
    refine rep_non (T := T) h11 (by omega) fun v12 H12 k12 t12 => ?_
    have l12 := l11.trans k12
    have p12 := (qrs_on (k11.trans k12) p10).snoc (show QR [] H12 v12 (.nones (CH n).length) from t12)
    refine ⟨by show 9 ≤ sizeLine; decide, fun a na => ?_⟩
    have k13 : Le [] T H12 (upd H12 a (.lst [.ref an, .ref b4, v5, .ref b6, v8, .non, .int 3, .ref b10, v12])) := Le.one na
    have lq : LQ (upd H12 a (.lst [.ref an, .ref b4, v5, .ref b6, v8, .non, .int 3, .ref b10, v12])) a 9 := ⟨_, _, upd_same, qrs_on k13 p12, by show 9 ≤ 9; decide⟩
    clear p12 p10 p8b p8 p6 p5 p4 t12 t8 t5
    have l13 := l12.trans k13
    generalize upd H12 a (.lst [.ref an, .ref b4, v5, .ref b6, v8, .non, .int 3, .ref b10, v12]) = H13 at k13 lq l13 ⊢
    refine ⟨.ref oa, rfl, oa, oxs, rfl, .inl (SqL.of (l13.lst0 hoa)), _, rfl, by omega, by omega, ?_⟩
    have base_le : Le [] T H H12 := l3.trans l12
    refine for_range (lo := 0) (n := ((oxs.length : Nat) : Int).toNat) (fun i σ Hx => Le [] T H12 Hx ∧ LQ Hx a (9 + 2 * i) ∧ ∃ y8 y9 y10 y11 y12 y13 y14 y15 y16, σ = [some (.ref as), some vg, some vp, some (.ref an), some (.int best), some (.ref oa), some (.ref sa), some (.ref a), y8, y9, y10, y11, y12, y13, y14, y15, y16])
      ⟨k13, lq, _, _, _, _, _, _, _, _, _, rfl⟩ (fun i σ Hx hi hP => ?_) (fun σ Hx hP => ?_)
    · obtain ⟨kx, hq, y8, y9, y10, y11, y12, y13, y14, y15, y16, rfl⟩ := hP
      have hi' : i < nums.length := by omega
      refine ⟨1, rfl, by show 2 ≤ sizeLine; decide, fun b nb => ?_⟩
      have kb : Le [] T Hx (upd Hx b (.lst [.int 1, .int (-1)])) := Le.one nb
      have hb : upd Hx b (.lst [.int 1, .int (-1)]) b = some (.lst [.int 1, .int (-1)]) := upd_same
      have hqb := hq.on kb
      have ab : b ≠ a := fun e => by
        obtain ⟨xs, qs, h1, _⟩ := hq
        rw [e, h1] at nb
        cases nb
      generalize upd Hx b (.lst [.int 1, .int (-1)]) = Hb at kb hb hqb ⊢
      have kxb := kx.trans kb
      refine ⟨_, rfl, ⟨_, SqL.of hb⟩, ?_⟩
      refine for_list (K := K) (a := b) (xs := [.int 1, .int (-1)]) (fun j σ Hy => Le [] T H12 Hy ∧ Hy b = some (.lst [.int 1, .int (-1)]) ∧ LQ Hy a (9 + 2 * i + j) ∧ ∃ y9 y10 y11 y12 y13 y14 y15 y16, σ = [some (.ref as), some vg, some vp, some (.ref an), some (.int best), some (.ref oa), some (.ref sa), some (.ref a), some (.int (0 + i)), y9, y10, y11, y12, y13, y14, y15, y16])
        ⟨kxb, hb, hqb, _, _, _, _, _, _, _, _, rfl⟩ (fun j σ Hy _ hP => SqL.of hP.2.1) (fun j x σ Hy hx hP => ?_) (fun σ Hy hP => ?_)
      · obtain ⟨ky, hby, hqy, y9, y10, y11, y12, y13, y14, y15, y16, rfl⟩ := hP
        have hj : j < 2 := (List.getElem?_eq_some_iff.mp hx).1
        obtain ⟨s, rfl⟩ : ∃ s : Int, x = .int s := by
          have e := (List.getElem?_eq_some_iff.mp hx).2
          match j, hj with
          | 0, _ => exact ⟨1, e.symm⟩
          | 1, _ => exact ⟨-1, e.symm⟩
        have ly := l12.trans ky
        obtain ⟨xs0, qs0, hxs0, _⟩ := id hqy
        refine ⟨.ref a, rfl, .inl ⟨rfl, _, SqL.of hxs0⟩, .ref an, rfl, .int (0 + i), rfl, 0 + (i : Int), rfl, ?_⟩
        refine slA_ti (T := T) (hn3 ly) fun w1 G1 m1 g1 u1 z1 => ?_
        have ati : atI (nums.map V.int) (0 + (i : Int)) = some (.int nums[i]) := by
          have zz := atI_nat (j := i) (show (nums.map V.int)[i]? = some (.int nums[i]) by rw [List.getElem?_map, List.getElem?_eq_getElem hi'] <;> rfl)
          rw [Int.zero_add]
          exact zz
        refine ⟨.ref an, rfl, _, rfl, an, _, 0 + (i : Int), _, rfl, rfl, SqT.of ((ly.trans g1).tup _ _ han3), ati, _, rfl, nums[i], s, rfl, rfl, by show 1 ≤ sizeLine; decide, fun b2 nb2 => ?_⟩
        have g2 : Le [] T G1 (upd G1 b2 (.tup [.int (nums[i] + s)])) := Le.one nb2
        refine catA_ti (T := T) (u1.mono g2.tup) (ms := [nums[i] + s]) ⟨b2, rfl, upd_same⟩ (by simp; omega) fun w3 G3 g3 u3 => ?_
        have g13 := (g1.trans g2).trans g3
        refine ⟨.ref an, rfl, .int (0 + i), rfl, 0 + (i : Int), 1, rfl, rfl, 0 + (i : Int) + 1, rfl, ?_⟩
        refine tnp_slA ?_
        refine slA_ti (T := T) (hn3 (ly.trans g13)) fun w4 G4 m4 g4 u4 z4 => ?_
        refine catA_ti (T := T) (u3.mono g4.tup) u4 (by simp; omega) fun w5 G5 g5 u5 => ?_
        have g15 := (g13.trans g4).trans g5
        obtain ⟨acc, e1, e2, e3⟩ := (hqy.on g15).push (q := .nms ((m1 ++ [nums[i] + s]) ++ m4)) u5 (by omega)
        refine ⟨a, acc, w5, rfl, rfl, e1, e2, (ky.trans g15).new na, ?_, e3, _, _, _, _, _, _, _, _, rfl⟩
        rw [upd_ne ab]
        exact g15.lst0 hby
      · obtain ⟨ky, hby, hqy, y9, y10, y11, y12, y13, y14, y15, y16, rfl⟩ := hP
        exact ⟨ky, hqy, _, _, _, _, _, _, _, _, _, rfl⟩
    · obtain ⟨kx, hq, y8, y9, y10, y11, y12, y13, y14, y15, y16, rfl⟩ := hP
      obtain ⟨xs, qs, hxa, hxq, hxl⟩ := hq
      have lHx : Le [] T H Hx := base_le.trans kx
      refine ⟨_, rfl, a, rfl, ⟨xs, SqL.of hxa⟩, ?_⟩
      refine for_list (K := K) (a := a) (xs := xs) (fun i σ Hy => Le [] T Hx Hy ∧ ∃ y8 y9 y10 y11 y12 y13 y14 y15 y16, σ = [some (.ref as), some vg, some vp, some (.ref an), some (.int best), some (.ref oa), some (.ref sa), some (.ref a), y8, y9, y10, y11, y12, y13, y14, y15, y16])
        ⟨Le.refl _, _, _, _, _, _, _, _, _, _, rfl⟩ (fun i σ Hy _ hP => SqL.of (hP.1.lst0 hxa)) (fun i x σ Hy hx hP => ?_) (fun σ Hy hP => ?_)
      · obtain ⟨ky, y8, y9, y10, y11, y12, y13, y14, y15, y16, rfl⟩ := hP
        obtain ⟨q0, hq0, hxq0⟩ := paired_at hxq hx
        have hv := hxq0.on ky
        have lHy := lHx.trans ky
        refine tseq3_by (fun σ' H' => Le [] T Hy H' ∧ ∃ y8 y9 y12 y13 y14 y15 y16, σ' = [some (.ref as), some vg, some vp, some (.ref an), some (.int best), some (.ref oa), some (.ref sa), some (.ref a), y8, y9, some x, some (.bl (due2 n pr g c best q0)), y12, y13, y14, y15, y16]) (fun σ' H' hI => ?_) (fun fin => ?_)
        · obtain ⟨kz, y8, y9, y12, y13, y14, y15, y16, rfl⟩ := hI
          have lz := lHy.trans kz
          refine ⟨_, rfl, _, rfl, _, rfl, _, rfl, .ref as, vg, vp, x, n, c, g, pr, q0, rfl, z.on lz, ⟨as, rfl, lz.tup _ _ has⟩, hcm, hv.on kz, hp3, fun H5 best' l5 hb' => ?_⟩
          rw [hb'.eq hbest]
          exact ⟨_, rfl, _, rfl, .inr ⟨_, rfl⟩, fun H6 l6 => ⟨true, rfl, (ky.trans kz).trans (l5.trans l6), _, _, _, _, _, _, _, _, _, rfl⟩⟩
        · have l3y : Le [] T H3 Hy := (l12.trans kx).trans ky
          have hoay := l3y.lst0 hoa
          have hoxy := tis_mono l3y.tup hox
          cases q0 with
          | junk =>
            rcases hv with rfl | ⟨i0, rfl⟩ | ⟨b, zs, rfl, _, hb⟩
            · exact ⟨.non, rfl, .non, .ty "tuple", .type "NoneType", .type "tuple", false, rfl, .ty _, .base .non, kit_nt, false, rfl, .bl false, rfl, false, rfl, fin _ _ ⟨Le.refl _, _, _, _, _, _, _, _, rfl⟩⟩
            · exact ⟨.int i0, rfl, .int i0, .ty "tuple", .type "int", .type "tuple", false, rfl, .ty _, .base (.int i0), kit_it, false, rfl, .bl false, rfl, false, rfl, fin _ _ ⟨Le.refl _, _, _, _, _, _, _, _, rfl⟩⟩
            · exact ⟨.ref b, rfl, .ref b, .ty "tuple", .type "list", .type "tuple", false, rfl, .ty _, .base (.lst hb), kit_lt, false, rfl, .bl false, rfl, false, rfl, fin _ _ ⟨Le.refl _, _, _, _, _, _, _, _, rfl⟩⟩
          | nones k =>
            obtain ⟨b, rfl, hb⟩ := hv
            refine ⟨.ref b, rfl, .ref b, .ty "tuple", .type "tuple", .type "tuple", true, rfl, .ty _, .base (.tup hb), kit_tt, true, rfl, ?_⟩
            refine ⟨.ref b, rfl, b, _, rfl, .inr (SqT.of hb), .ref oa, rfl, oa, oxs, rfl, .inl (SqL.of hoay), rfl, _, rfl, ?_⟩
            rw [dvi, List.length_replicate, oal]
            by_cases hk : ((k : Int) = ((CH n).length : Nat))
            · rw [decide_eq_true hk]
              have hk0 : 0 < k := by
                have := List.length_pos_of_mem hcm
                omega
              refine ⟨.ref b, rfl, b, rfl, ⟨_, SqT.of hb⟩, fun d nd1 => ?_⟩
              refine lc_tup (xs := List.replicate k .non) (fun j Hz => Le [] T Hy Hz ∧ Hz d = some (.lst (List.replicate j .non))) ⟨Le.one nd1, upd_same⟩ (fun j Hz _ hP => SqT.of (hP.1.tup _ _ hb)) (fun j w Hz hw hP => ?_) (fun Hz hP => ?_)
              · obtain ⟨k1, h1⟩ := hP
                have ew : w = .non := by
                  obtain ⟨_, e1⟩ := List.getElem?_eq_some_iff.mp hw
                  rw [List.getElem_replicate] at e1
                  exact e1.symm
                have jk : j < k := by
                  have := (List.getElem?_eq_some_iff.mp hw).1
                  rw [List.length_replicate] at this
                  exact this
                subst ew
                refine ⟨rfl, .non, rfl, .non, .ty "int", .type "NoneType", .type "int", false, rfl, .ty _, .base .non, kit_ni, false, rfl, .non, rfl, _, h1, small1000 (by rw [List.length_replicate]; omega), k1.new nd1, ?_⟩
                rw [upd_same, List.replicate_succ']
              · obtain ⟨k1, h1⟩ := hP
                rw [List.length_replicate] at h1
                refine ⟨by show 0 ≤ sizeLine; decide, fun o no => ?_⟩
                have k2 : Le [] T Hz (upd Hz o (.lst [])) := Le.one no
                refine ⟨_, _, nons_dp (k2.lst0 h1), .lst (SqL.of upd_same) .nil, shaped_nons k, by decide +kernel, ?_⟩
                rw [eqv_nons, decide_eq_false (by omega)]
                exact ⟨.bl false, rfl, false, rfl, fin _ _ ⟨k1.trans k2, _, _, _, _, _, _, _, rfl⟩⟩
            · rw [decide_eq_false hk]
              exact ⟨.bl false, rfl, false, rfl, fin _ _ ⟨Le.refl _, _, _, _, _, _, _, _, rfl⟩⟩
          | nms ns =>
            obtain ⟨b, rfl, hb⟩ := hv
            refine ⟨.ref b, rfl, .ref b, .ty "tuple", .type "tuple", .type "tuple", true, rfl, .ty _, .base (.tup hb), kit_tt, true, rfl, ?_⟩
            refine ⟨.ref b, rfl, b, _, rfl, .inr (SqT.of hb), .ref oa, rfl, oa, oxs, rfl, .inl (SqL.of hoay), rfl, _, rfl, ?_⟩
            rw [dvi, List.length_map, oal]
            by_cases hk : ns.length = (CH n).length
            · rw [decide_eq_true (show ((ns.length : Nat) : Int) = ((CH n).length : Nat) by omega)]
              refine ⟨.ref b, rfl, b, rfl, ⟨_, SqT.of hb⟩, fun d nd1 => ?_⟩
              refine lc_tup (xs := ns.map V.int) (fun j Hz => Le [] T Hy Hz ∧ Hz d = some (.lst [])) ⟨Le.one nd1, upd_same⟩ (fun j Hz _ hP => SqT.of (hP.1.tup _ _ hb)) (fun j w Hz hw hP => ?_) (fun Hz hP => ?_)
              · obtain ⟨k1, h1⟩ := hP
                obtain ⟨i0, _, rfl⟩ := map_get hw
                exact ⟨rfl, .int i0, rfl, .int i0, .ty "int", .type "int", .type "int", true, rfl, .ty _, .base (.int i0), kit_ii, true, rfl, k1, h1⟩
              · obtain ⟨k1, h1⟩ := hP
                refine ⟨by show 0 ≤ sizeLine; decide, fun o no => ?_⟩
                have k2 : Le [] T Hz (upd Hz o (.lst [])) := Le.one no
                refine ⟨.list [], .list [], .lst (SqL.of (k2.lst0 h1)) .nil, .lst (SqL.of upd_same) .nil, by decide +kernel, by decide +kernel, ?_⟩
                generalize upd Hz o (.lst []) = Ha at k2 ⊢
                have la := k1.trans k2
                refine ⟨.bl true, rfl, true, rfl, ?_⟩
                refine ite_seq3 (fun σ' H' => Le [] T Hy H' ∧ ∃ d5 y8 y9 y13 y14 y15 y16, (∀ H'', Le [] T H' H'' → ∀ cc ∈ CH n, ∀ b, H'' b = some (.tup (cc.map V.int)) → DGet H'' d5 (.ref b) (some (.int (vl n ns cc)))) ∧
                  σ' = [some (.ref as), some vg, some vp, some (.ref an), some (.int best), some (.ref oa), some (.ref sa), some (.ref a), y8, y9, some (.ref b), some (.bl (decide (vl n ns g = 0) && decide (vl n ns c = best))), some (.ref d5), y13, y14, y15, y16]) (fun σ' H' hI => ?_) (fun fin2 => ?_)
                · obtain ⟨lf, d5, y8, y9, y13, y14, y15, y16, val, rfl⟩ := hI
                  have e2 : due2 n pr g c best (.nms ns) = (decide (vl n ns g = 0) && decide (vl n ns c = best) && allTo n pr ns (CH n).length) := by
                    unfold allTo
                    rw [due2_nms, decide_eq_true hk, Bool.true_and, List.take_length]
                  rw [e2] at fin
                  generalize (decide (vl n ns g = 0) && decide (vl n ns c = best)) = b0 at fin ⊢
                  refine ⟨_, rfl, oa, rfl, ⟨oxs, SqL.of (lf.lst0 hoay)⟩, ?_⟩
                  refine for_list (K := K) (a := oa) (xs := oxs) (fun j σ Hz => Le [] T H' Hz ∧ ∃ y8 y9 y13 y14 y15 y16, σ = [some (.ref as), some vg, some vp, some (.ref an), some (.int best), some (.ref oa), some (.ref sa), some (.ref a), y8, y9, some (.ref b), some (.bl (b0 && allTo n pr ns j)), some (.ref d5), y13, y14, y15, y16])
                    ⟨Le.refl _, _, _, _, _, _, _, by unfold allTo; rw [List.take_zero, List.all_nil, Bool.and_true]⟩ (fun j σ Hz _ hP => SqL.of ((lf.trans hP.1).lst0 hoay)) (fun j w σ Hz hw hP => ?_) (fun σ Hz hP => ?_)
                  · obtain ⟨kz, y8, y9, y13, y14, y15, y16, rfl⟩ := hP
                    obtain ⟨cc, hcc, hxc⟩ := paired_at hoxy hw
                    have hccm := List.mem_of_getElem? hcc
                    have ccl := ch_len z.sz hccm
                    have lz := lf.trans kz
                    obtain ⟨bx, rfl, hbx⟩ := hxc.mono lz.tup
                    have esucc : (b0 && allTo n pr ns (j + 1)) = ((b0 && allTo n pr ns j) && (stp n).all (okk n pr ns cc)) := by rw [allTo_succ hcc, Bool.and_assoc]
                    rw [esucc]
                    refine ⟨_, rfl, b0 && allTo n pr ns j, rfl, ?_⟩
                    cases hbb : b0 && allTo n pr ns j with
                    | false => exact ⟨kz, _, _, _, _, _, _, rfl⟩
                    | true =>
                      refine ⟨_, rfl, sa, rfl, ⟨sxs, SqL.of ((l3y.trans lz).lst0 hsa)⟩, fun dd nd2 => ?_⟩
                      refine lc_list (K := K) (a := sa) (xs := sxs) (fun k Hw => Le [] T Hz Hw ∧ Hw dd = some (.lst ((ones n pr ns cc ((stp n).take k)).map V.int))) ⟨Le.one nd2, upd_same⟩ (fun k Hw _ hP => SqL.of (((l3y.trans lz).trans hP.1).lst0 hsa)) (fun k u Hw hu hP => ?_) (fun Hw hP => ?_)
                      · obtain ⟨kw, hdd⟩ := hP
                        obtain ⟨w2, hw2, hzw⟩ := paired_at hsx hu
                        obtain ⟨s, hs, rfl⟩ := map_at hw2
                        have hsm := List.mem_of_getElem? hs
                        obtain ⟨s1, s2, s3, s4, s5⟩ := stp_facts.mp hsm
                        obtain ⟨bs, rfl, hbs⟩ := hzw.mono ((l3y.trans lz).trans kw).tup
                        have hbxw := kw.tup _ _ hbx
                        have sk : k < (stp n).length := (List.getElem?_eq_some_iff.mp hs).1
                        have s9 := (ch_facts z.sz).2.1
                        refine ⟨bs, [.int s.1, .int s.2], rfl, SqT.of hbs, rfl, .int s.1, [.int s.2], rfl, .int s.2, [], rfl, rfl, rfl, ?_⟩
                        refine ⟨.ref d5, rfl, .ref bx, rfl, d5, _, rfl, val Hw (kz.trans kw) cc hccm bx hbxw, .ref d5, rfl, .ref bx, rfl, .int s.1, rfl, .int s.2, rfl, by show 2 ≤ sizeLine; decide, fun t2 nt2 => ?_⟩
                        have kt : Le [] T Hw (upd Hw t2 (.tup [.int s.1, .int s.2])) := Le.one nt2
                        refine ⟨.ref bx, .ref t2, cc, s.1, s.2, rfl, ⟨bx, rfl, kt.tup _ _ hbxw⟩, ⟨t2, rfl, upd_same⟩, s1, by omega, by omega, fun vt H9 l10 ht => ?_⟩
                        obtain ⟨bt, rfl, hbt⟩ := ht
                        have l89 := kt.trans l10
                        have hmm := mv_mem z.sz hccm hsm
                        refine ⟨d5, _, rfl, val H9 ((kz.trans kw).trans l89) _ hmm bt hbt, _, _, rfl, rfl, ?_⟩
                        have l09 := lHy.trans ((lz.trans kw).trans l89)
                        obtain ⟨ap, xp, eap, hap, hxp⟩ := (z.on l09).tt
                        obtain ⟨r, l, hat1, hr0, hat2⟩ := price_at z.pok hsm hxp
                        refine ⟨vp, rfl, .int s.1, rfl, s.1, 1, rfl, rfl, ap, xp, s.1 - 1, .ref r, eap, rfl, SqT.of hap, hat1, .int s.2, rfl, r, _, s.2, _, rfl, rfl, SqT.of hr0, hat2, _, _, rfl, rfl, _, rfl, ?_⟩
                        have eok : okk n pr ns cc s = !decide (vl n ns cc - vl n ns (mv cc s.1 s.2) > wt pr s) := by
                          unfold okk
                          rw [Bool.eq_iff_iff, Bool.not_eq_true', decide_eq_true_iff, decide_eq_false_iff_not]
                          omega
                        rw [ones_succ hs, eok]
                        have hdd9 := l89.lst0 hdd
                        cases y3 : decide (vl n ns cc - vl n ns (mv cc s.1 s.2) > wt pr s) with
                        | true =>
                          refine ⟨_, hdd9, small1000 ?_, (kw.trans l89).new nd2, ?_⟩
                          · rw [List.length_map]
                            have := ones_len n pr ns cc ((stp n).take k)
                            rw [List.length_take] at this
                            omega
                          · show _ = some (HO.lst ((ones n pr ns cc ((stp n).take k) ++ [1]).map V.int))
                            rw [upd_same, List.map_append]
                            rfl
                        | false => exact ⟨kw.trans l89, hdd9⟩
                      · obtain ⟨kw, hdd⟩ := hP
                        rw [sal, List.take_length] at hdd
                        refine ⟨by show 0 ≤ sizeLine; decide, fun o no => ?_⟩
                        have k2 : Le [] T Hw (upd Hw o (.lst [])) := Le.one no
                        refine ⟨_, _, lin_dp (k2.lst0 hdd), lin_dp (ks := []) upd_same, shaped_li _, shaped_li [], ?_⟩
                        rw [eqv_lis, ones_nil, Bool.true_and]
                        exact ⟨(kz.trans kw).trans k2, _, _, _, _, _, _, rfl⟩
                  · obtain ⟨kz, y8, y9, y13, y14, y15, y16, rfl⟩ := hP
                    rw [oal]
                    exact fin _ _ ⟨lf.trans kz, _, _, _, _, _, _, _, rfl⟩
                have hoaa := la.lst0 hoay
                have hoxa := tis_mono la.tup hoxy
                have hba := la.tup _ _ hb
                refine ⟨.ref oa, rfl, oa, oxs, rfl, .inl (SqL.of hoaa), _, rfl, by omega, by omega, fun dd nd2 => ?_⟩
                refine lc_range (lo := 0) (n := ((oxs.length : Nat) : Int).toNat) (fun j Hz => Le [] T Ha Hz ∧ ∃ rows : List (Addr × List Int × Addr × V), Hz dd = some (.lst (rows.map fun q => V.ref q.1)) ∧ (∀ q ∈ rows, Hz q.1 = some (.tup [.ref q.2.2.1, q.2.2.2]) ∧ Hz q.2.2.1 = some (.tup (q.2.1.map V.int))) ∧
                  rows.map (·.2.1) = (CH n).take j ∧ rows.map (·.2.2.2) = (ns.take j).map V.int) ⟨Le.one nd2, [], upd_same, fun q h => (nomatch h), rfl, rfl⟩ (fun j Hz hj hP => ?_) (fun Hz hP => ?_)
                · obtain ⟨kz, rows, hdd, hrows, hr1, hr2⟩ := hP
                  have hj1 : j < oxs.length := by omega
                  have hj2 : j < ns.length := by omega
                  have ex := List.getElem?_eq_getElem hj1
                  obtain ⟨cc, hcc, hxc⟩ := paired_at hoxa ex
                  obtain ⟨bc, hbc1, hbc⟩ := hxc.mono kz.tup
                  have at1 := atI_nat (j := j) (show oxs[j]? = some (.ref bc) by rw [ex, hbc1])
                  have at2 := atI_nat (j := j) (show (ns.map V.int)[j]? = some (.int ns[j]) by rw [List.getElem?_map, List.getElem?_eq_getElem hj2] <;> rfl)
                  rw [← Int.zero_add (j : Int)] at at1 at2
                  refine ⟨rfl, .ref oa, rfl, _, rfl, oa, _, 0 + (j : Int), .ref bc, rfl, rfl, SqL.of (kz.lst0 hoaa), at1, .ref b, rfl, _, rfl, b, _, 0 + (j : Int), .int ns[j], rfl, rfl, SqT.of (kz.tup _ _ hba), at2, by show 2 ≤ sizeLine; decide, fun t2 nt2 => ?_⟩
                  have kt : Le [] T Hz (upd Hz t2 (.tup [.ref bc, .int ns[j]])) := Le.one nt2
                  have rl : rows.length ≤ j := by
                    have := congrArg List.length hr1
                    rw [List.length_map, List.length_take] at this
                    omega
                  have hdd2 := kt.lst0 hdd
                  refine ⟨_, hdd2, small1000 (by rw [List.length_map]; omega), (kz.trans kt).new nd2, rows ++ [(t2, cc, bc, .int ns[j])], by rw [upd_same, List.map_append] <;> rfl, fun q hq => ?_, ?_, ?_⟩
                  · have tp : Tp (upd Hz t2 (.tup [.ref bc, .int ns[j]])) (upd (upd Hz t2 (.tup [.ref bc, .int ns[j]])) dd (.lst (rows.map (fun q => V.ref q.1) ++ [.ref t2]))) := (Tp.refl _).upd (nt_lst hdd2)
                    rcases List.mem_append.mp hq with hq | hq
                    · exact ⟨tp _ _ (kt.tup _ _ (hrows q hq).1), tp _ _ (kt.tup _ _ (hrows q hq).2)⟩
                    · rcases List.mem_singleton.mp hq with rfl
                      exact ⟨tp _ _ upd_same, tp _ _ (kt.tup _ _ hbc)⟩
                  · rw [List.map_append, hr1, take_snoc hcc]
                    rfl
                  · rw [List.map_append, hr2, take_snoc (List.getElem?_eq_getElem hj2), List.map_append]
                    rfl
                · obtain ⟨kz, rows, hdd, hrows, hr1, hr2⟩ := hP
                  rw [show ((oxs.length : Nat) : Int).toNat = (CH n).length by omega] at hr1 hr2
                  rw [List.take_length] at hr1
                  rw [← hk, List.take_length] at hr2
                  have rl : rows.length = (CH n).length := by rw [← hr1, List.length_map]
                  refine ⟨dd, rows, rfl, hdd, hrows, by omega, fun d5 nd5 => ?_⟩
                  have ekeys : (rows.map fun q => (ik q.2.1, q.2.2.2)).map (·.1) = (CH n).map ik := by
                    rw [← hr1, List.map_map, List.map_map]
                    rfl
                  rw [merge_nd _ _ (by rw [List.nil_append, ekeys]; exact ik_nodup (ch_facts z.sz).2.2.1), List.nil_append]
                  have hkr0 : KR VI Hz (rows.map fun q => (ik q.2.1, q.2.2.2)) ((CH n).zip ns) := by
                    have gen : ∀ (rows : List (Addr × List Int × Addr × V)) (cs : List Ch) (ms : List Int), rows.map (·.2.1) = cs → rows.map (·.2.2.2) = ms.map V.int → KR VI Hz (rows.map fun q => (ik q.2.1, q.2.2.2)) (cs.zip ms) := by
                      intro rows
                      induction rows with
                      | nil =>
                        intro cs ms h1 h2
                        subst h1
                        exact .nil
                      | cons r rows ih =>
                        intro cs ms h1 h2
                        subst h1
                        cases ms with
                        | nil => cases h2
                        | cons m ms =>
                          rw [List.map_cons, List.map_cons] at h2
                          injection h2 with e1 e2
                          exact .cons ⟨rfl, e1⟩ (ih _ _ rfl e2)
                    exact gen rows _ _ hr1 hr2
                  generalize rows.map (fun q => (ik q.2.1, q.2.2.2)) = kvs at hkr0 ⊢
                  have l4' : Le [] T Hz (upd Hz d5 (.dT kvs)) := Le.one nd5
                  have hd4 : upd Hz d5 (.dT kvs) d5 = some (.dT kvs) := upd_same
                  generalize upd Hz d5 (.dT kvs) = Hd at l4' hd4 ⊢
                  have lyd : Le [] T Hy Hd := (la.trans kz).trans l4'
                  have lHd := lHy.trans lyd
                  have zd := z.on lHd
                  have val : ∀ (H' : Hp), Le [] T Hd H' → ∀ cc ∈ CH n, ∀ b, H' b = some (.tup (cc.map V.int)) → DGet H' d5 (.ref b) (some (.int (vl n ns cc))) := fun H' l cc hcc b hb => by
                    rcases hkr0.val cc with ⟨_, f2⟩ | ⟨v1, e1, f1, f2, er⟩
                    · rw [vl_of hk hcc] at f2
                      cases f2
                    · rw [vl_of hk hcc] at f2
                      cases f2
                      cases er
                      rw [← f1]
                      exact DGet.t (l.dt0 hd4) (key_at hb)
                  obtain ⟨ag, eg, hag⟩ := zd.ti
                  have hasd := lHd.tup _ _ has
                  refine ⟨.ref d5, rfl, vg, rfl, d5, .int (vl n ns g), rfl, by rw [eg]; exact val Hd (Le.refl _) g z.gm ag hag, rfl, _, rfl, ?_⟩
                  rw [dvi]
                  cases y1 : decide (vl n ns g = 0) with
                  | false =>
                    rw [y1] at fin2
                    exact fin2 _ _ ⟨lyd, d5, _, _, _, _, _, _, val, rfl⟩
                  | true =>
                    refine ⟨.ref d5, rfl, .ref as, rfl, d5, _, rfl, val Hd (Le.refl _) c hcm as hasd, _, rfl, rfl, ?_⟩
                    rw [y1] at fin2
                    rw [dvi]
                    exact fin2 _ _ ⟨lyd, d5, _, _, _, _, _, _, val, rfl⟩
            · rw [decide_eq_false (show ¬ ((ns.length : Nat) : Int) = ((CH n).length : Nat) by omega)]
              have e2 : due2 n pr g c best (.nms ns) = false := by
                rw [due2_nms, decide_eq_false hk]
                rfl
              rw [e2] at fin
              exact ⟨.bl false, rfl, false, rfl, fin _ _ ⟨Le.refl _, _, _, _, _, _, _, _, rfl⟩⟩
      · obtain ⟨ky, _⟩ := hP
        exact q Hy (lHx.trans ky)
end
end Cd

set_option Elab.async false
set_option linter.all false
set_option maxRecDepth 100000
set_option maxHeartbeats 16000000
/-! the law -/
namespace Cd
open PySem PySem.Spec PyProof.Rows L2 Cm
theorem li_ne {H : Hp} {r sc sa : Addr} {cs : List (List Int)} (h : LI H (.ref sa) cs) (hv : RowV H r sc) : sa ≠ r := fun z => by
  obtain ⟨i, s, d, h1, _⟩ := hv
  obtain ⟨a, xs, e, hsa, hsx⟩ := h
  cases e
  rw [z, h1] at hsa
  injection hsa with e1
  injection e1 with e2
  obtain ⟨c2, _, t2, e3, _⟩ := paired_at hsx (i := 1) (x := .int i) (by rw [← e2] <;> rfl)
  cases e3
theorem LI.leR {T : List Addr} {H H' : Hp} {r a : Addr} {cs : List (List Int)} (h : LI H (.ref a) cs) (n : a ≠ r) (l : Le [r] T H H') : LI H' (.ref a) cs := by
  obtain ⟨b, xs, e, h1, h2⟩ := h
  cases e
  exact ⟨a, xs, rfl, l.lst (fun y => n (List.mem_singleton.mp y)) h1, tis_mono l.tup h2⟩
structure SL (T : List Addr) (H1 : Hp) (d : Addr) (n : Nat) (pr : List (List Int)) (g : Ch) (acc : List (Ch × Int) × Bool) (H : Hp) : Prop where
  le : Le [] T H1 H
  dt : ∃ kvs, H d = some (.dT kvs) ∧ KR VI H kvs acc.1
  ip : IL n pr g acc.1
theorem SL.on {T : List Addr} {H1 H H' : Hp} {d : Addr} {n : Nat} {pr : List (List Int)} {g : Ch} {acc : List (Ch × Int) × Bool} (h : SL T H1 d n pr g acc H) (l : Le [] T H H') : SL T H1 d n pr g acc H' := by
  obtain ⟨kvs, h1, h2⟩ := h.dt
  exact ⟨h.le.trans l, ⟨kvs, l.dt0 h1, h2.mono (fun _ _ e => e)⟩, h.ip⟩
theorem il_len {n : Nat} (hn : Sz n) {pr : List (List Int)} {g : Ch} {st : List (Ch × Int)} (I : IL n pr g st) : st.length ≤ 16 := by
  have h := nd_len _ _ I.nd (fun c hc => by
    cases z : gv st c with
    | none => exact absurd hc (gv_none.mp z)
    | some e => exact (I.ent c e z).1)
  rw [List.length_map] at h
  exact Nat.le_trans h (ch_facts hn).1
def PV (R : List Addr) (H : Hp) (v : V) (p : PVal) : Prop := PR R H v p ∧ ∀ x us, p = .row x us → us.length ≤ 900
theorem PV.on {R T : List Addr} {H H' : Hp} {v : V} {p : PVal} (l : Le R T H H') (h : PV R H v p) : PV R H' v p := ⟨h.1.on l, h.2⟩
theorem pvs_on {R T : List Addr} {H H' : Hp} {xs : List V} {ps : List PVal} (l : Le R T H H') (h : Paired (PV R H) xs ps) : Paired (PV R H') xs ps := h.mono fun _ _ => PV.on l
theorem pv_junk {R : List Addr} {H : Hp} {v : V} (h : PR R H v .junk) : PV R H v .junk := ⟨h, fun _ _ e => nomatch e⟩
theorem pv_lst {R : List Addr} {H : Hp} {v : V} {x : Int} (h : PR R H v (.lst x)) : PV R H v (.lst x) := ⟨h, fun _ _ e => nomatch e⟩
theorem pv_row {R : List Addr} {H : Hp} {v : V} {x : Int} {us : List Sq} (h : PR R H v (.row x us)) (l : us.length ≤ 900) : PV R H v (.row x us) := ⟨h, fun _ _ e => by cases e; exact l⟩
theorem best_eq {n : Nat} {pr : List (List Int)} {g : Ch} : ∀ {cs : List Ch} {xs ys : List Int}, Paired (Best n pr g) cs xs → Paired (Best n pr g) cs ys → xs = ys
  | _, _, _, .nil, .nil => rfl
  | _, _, _, .cons a p, .cons b q => by rw [a.eq b, best_eq p q]
theorem row_fresh {H : Hp} {r sc p : Addr} (hv : RowV H r sc) (n : H p = none) : p ∉ [r] := fun y => by
  obtain ⟨i, s, d, h1, _⟩ := hv
  rw [List.mem_singleton.mp y, h1] at n
  cases n
theorem tseq4_by {t u v z : TS} {D : Ends} {σ : L2.St} {H : Hp} (Iv : L2.St → Hp → Prop) (h2 : ∀ σ' H', Iv σ' H' → z D σ' H') (h1 : (∀ σ' H', Iv σ' H' → z D σ' H') → tSeq t (tSeq u (tSeq v z)) D σ H) : tSeq t (tSeq u (tSeq v z)) D σ H := h1 h2
/-- the steps that are none, compared with the list of the steps -/
theorem sq_dp {K : PySem.W.Frag} {H : Hp} {a : Addr} {xs : List V} {ss : List Sq} (h : H a = some (.lst xs)) (p : Paired (TI H) xs (ss.map l2)) : Dp K H (.ref a) (.list (ss.map fun s => PyData.tuple ((l2 s).map PyData.int))) := by
  refine .lst (SqL.of h) ?_
  clear h
  induction ss generalizing xs with
  | nil =>
    cases p
    exact .nil
  | cons s ss ih =>
    cases p with
    | cons a b => exact .cons (TI.dp a) (ih b)
theorem lay_sqs : ∀ ss : List Sq, PyData.canLayAll0 (ss.map fun s => PyData.tuple ((l2 s).map PyData.int)) = true
  | [] => by simp [PyData.canLayAll0]
  | s :: ss => by
    have h := lay_sqs ss
    simp [PyData.canLayAll0, PyData.canLay0] at h ⊢
    exact h
theorem deep_sqs : ∀ ss : List Sq, PyData.depthAll (ss.map fun s => PyData.tuple ((l2 s).map PyData.int)) ≤ 2
  | [] => by simp [PyData.depthAll]
  | s :: ss => by
    have h := deep_sqs ss
    have h2 := deep_ints (l2 s)
    simp only [List.map_cons, PyData.depthAll, PyData.depth] at h h2 ⊢
    omega
theorem shaped_sqs (ss : List Sq) : SeqAt.shaped (.list (ss.map fun s => PyData.tuple ((l2 s).map PyData.int))) = true := by
  have h1 := deep_sqs ss
  have h2 : PyData.depth (.list (ss.map fun s => PyData.tuple ((l2 s).map PyData.int))) ≤ 64 := by simp only [PyData.depth]; omega
  show (PyData.canLay0 (.list (ss.map fun s => PyData.tuple ((l2 s).map PyData.int))) && decide (PyData.depth (.list (ss.map fun s => PyData.tuple ((l2 s).map PyData.int))) ≤ 64)) = true
  rw [Bool.and_eq_true]
  exact ⟨by simp only [PyData.canLay0]; exact lay_sqs ss, decide_eq_true h2⟩
theorem any_sqs (n : Nat) (s : Sq) : ((stp n).map fun s => PyData.tuple ((l2 s).map PyData.int)).any (fun z => PyData.eqv z (.tuple ((l2 s).map PyData.int))) = okStep n s := by
  rw [Bool.eq_iff_iff, List.any_eq_true, okStep_mem]
  constructor
  · rintro ⟨z, hz, e⟩
    obtain ⟨u, hu, rfl⟩ := List.mem_map.mp hz
    rw [eqv_tups, decide_eq_true_iff] at e
    obtain ⟨a, b⟩ := u
    obtain ⟨c, d⟩ := s
    injection e with e1 e2
    injection e2 with e3
    cases e1
    cases e3
    exact hu
  · intro h
    exact ⟨_, List.mem_map.mpr ⟨s, h, rfl⟩, by rw [eqv_tups]; exact decide_eq_true rfl⟩
section
variable {P : Program} {w : World} {K : PySem.W.Frag} {mg : Str → Option Value} {base : Heap} {T : List Addr}
abbrev nLaw : List Str := ["_law_script", "_law_row_here", "_law_size", "_law_start", "_law_goal", "_law_steps_here", "_law_prices", "_law_some", "_law_least", "_law_is_less", "_law_here", "_law_person", "_law_chief", "_law_there", "_law_numbers", "_law_found", "_law_best", "_law_word", "_law_values", "_law_value", "_law_due", "_law_one", "_law_step_here", "_law_p", "_law_c"]
theorem scLaw : FnScope nLaw ["_law_script"] (defScope sLaw) := ⟨rfl, rfl, rfl, by decide +kernel, rfl, by decide +kernel, by decide +kernel⟩
/-- the program's defs as the law calls them -/
structure Lw (P : Program) (w : World) (K : PySem.W.Frag) (mg : Str → Option Value) (base : Heap) (T : List Addr) (P1 P2 P3 P4 P5 : Addr) where
  ft : Addr
  ft' : FuncData
  gt : mg "_law_taken" = some (.ref ft)
  kt : PySem.W.keepIn K (.ref ft) = true
  bt : Binds K ft' ["_law_row_here", "_law_many"] []
  Gt : FnOk P w K mg base CX0 1 ft ft' ["_law_row_here", "_law_many"] (spTaken K T)
  fc : Addr
  fc' : FuncData
  gc : mg "_law_chart" = some (.ref fc)
  kc : PySem.W.keepIn K (.ref fc) = true
  bc : Binds K fc' ["_law_row_here", "_law_size"] []
  Gc : FnOk P w K mg base CX0 3 fc fc' ["_law_row_here", "_law_size"] (spLChart K T)
  fs : Addr
  fs' : FuncData
  gs : mg "_law_steps" = some (.ref fs)
  ks : PySem.W.keepIn K (.ref fs) = true
  bs : Binds K fs' ["_law_size"] []
  Gs : FnOk P w K mg base CX0 1 fs fs' ["_law_size"] (spSteps T)
  fb : Addr
  fb' : FuncData
  gb : mg "_law_table" = some (.ref fb)
  kb : PySem.W.keepIn K (.ref fb) = true
  bb : Binds K fb' ["_law_row_here", "_law_size", "_law_low", "_law_many"] []
  Gb : FnOk P w K mg base CX0 2 fb fb' ["_law_row_here", "_law_size", "_law_low", "_law_many"] (spLTable K T)
  fh : Addr
  fh' : FuncData
  gh : mg "_law_charts" = some (.ref fh)
  kh : PySem.W.keepIn K (.ref fh) = true
  bh : Binds K fh' ["_law_size"] []
  Gh : FnOk P w K mg base CX0 2 fh fh' ["_law_size"] (spCharts T)
  fp : Addr
  fp' : FuncData
  gp : mg "_law_step" = some (.ref fp)
  kp : PySem.W.keepIn K (.ref fp) = true
  bp : Binds K fp' ["_law_chart_here", "_law_step_here"] []
  Gp : FnOk P w K mg base CX0 1 fp fp' ["_law_chart_here", "_law_step_here"] (spStepped T)
  fa : Addr
  fa' : FuncData
  ga : mg "_law_alike" = some (.ref fa)
  ka : PySem.W.keepIn K (.ref fa) = true
  ba : Binds K fa' ["_law_found", "_law_due"] []
  Ga0 : FnOk P w K mg base CX0 1 fa fa' ["_law_found", "_law_due"] (spAlike0 T)
  Ga1 : FnOk P w K mg base CX0 2 fa fa' ["_law_found", "_law_due"] (spAlike1 T)
  fw : Addr
  fw' : FuncData
  gw : mg "worths" = some (.ref fw)
  kw : PySem.W.keepIn K (.ref fw) = true
  bw : Binds K fw' ["goal", "prices"] []
  Gw : FnOk P w K mg base CX0 6 fw fw' ["goal", "prices"] (spWorths P1 P2 T)
  fe : Addr
  fe' : FuncData
  ge : mg "cheap_row" = some (.ref fe)
  ke : PySem.W.keepIn K (.ref fe) = true
  be : Binds K fe' ["start", "goal", "prices"] []
  Ge : FnOk P w K mg base CX0 7 fe fe' ["start", "goal", "prices"] (spCheap P1 P2 T)
  fq : Addr
  fq' : FuncData
  gq : mg "shows_cheap_row" = some (.ref fq)
  kq : PySem.W.keepIn K (.ref fq) = true
  bq : Binds K fq' ["start", "goal", "prices", "value"] []
  Gq : FnOk P w K mg base CX0 7 fq fq' ["start", "goal", "prices", "value"] (spShowsRow P1 P2 P3 P4 T)
  fr : Addr
  fr' : FuncData
  gr : mg "_law_row" = some (.ref fr)
  kr : PySem.W.keepIn K (.ref fr) = true
  br : Binds K fr' ["_law_row_here", "_law_size", "_law_most"] []
  Gr : FnOk P w K mg base CX0 3 fr fr' ["_law_row_here", "_law_size", "_law_most"] (spLRow K T)
  fd : Addr
  fd' : FuncData
  gd : mg "_law_done" = some (.ref fd)
  kd : PySem.W.keepIn K (.ref fd) = true
  bd : Binds K fd' ["_law_chart_here", "_law_steps_here"] []
  Gd : FnOk P w K mg base CX0 2 fd fd' ["_law_chart_here", "_law_steps_here"] (spDone T)
  fo : Addr
  fo' : FuncData
  go : mg "_law_papers" = some (.ref fo)
  ko : PySem.W.keepIn K (.ref fo) = true
  bo : Binds K fo' pPapers []
  Go : FnOk P w K mg base CX0 8 fo fo' pPapers (spPapers P1 P2 P5 T)
def spLaw (K : PySem.W.Frag) (T : List Addr) : Sp := fun vs H Q _ => ∃ (a : Addr) (ns : List Int), vs = [.ref a] ∧ SqL K H a (ns.map V.int) ∧ ns.length ≤ 1000 ∧ Tb T H ∧ ∀ H', Q (.bl true) H'
theorem ok_law {P1 P2 P3 P4 P5 : Addr} (B : Bl mg) (L : Lw P w K mg base T P1 P2 P3 P4 P5) (hP : P1 ∈ T ∧ P2 ∈ T ∧ P3 ∈ T ∧ P4 ∈ T ∧ P5 ∈ T) (D : Df K mg "law" sLaw ["_law_script"]) : FnOk P w K mg base CX0 9 D.f D.fd ["_law_script"] (spLaw K T) := by
  refine D.F.ok scLaw (fun vs H Q E h => ?_) (fun cdv A outer s0 H vs Q E hr h => ?_)
  · obtain ⟨a, ns, rfl, _⟩ := h
    rfl
  · obtain ⟨a, ns, rfl, hsc, hns, htb, q⟩ := h
    have hu := hu_of hr
    have hu65 : A.units + 3 + 65 < cLine := by
      have := hr.un
      show (A.deeper (envOfC "law" (defScope sLaw) s0.heap.objs.size D.f cdv)).units + 65 < cLine
      omega
    have nd := scLaw.nd
    refine ⟨_, pss_cons (ps_set (i := 1) nd rfl (.inl rfl) (pe_lst (pa_cons (pv 0) (pa_cons pe_int (pa_cons pe_int (pa_cons pe_int pa_nil))))))
      (pss_cons (ps_set (i := 2) nd rfl (.inl rfl) (pe_op op_add pe_int (pe_call L.Gt (hr.mono (by decide)) (by rfl) L.gt L.kt L.bt .nil pass0 (pa_cons (pv 1) (pa_cons pe_int pa_nil)))))
      (pss_cons (ps_asg (pe_tup (pa_cons (pe_call L.Gc (hr.mono (by decide)) (by rfl) L.gc L.kc L.bc .nil pass0 (pa_cons (pv 1) (pa_cons (pv 2) pa_nil)))
          (pa_cons (pe_call L.Gc (hr.mono (by decide)) (by rfl) L.gc L.kc L.bc .nil pass0 (pa_cons (pv 1) (pa_cons (pv 2) pa_nil)))
          (pa_cons (pe_call L.Gs (hr.mono (by decide)) (by rfl) L.gs L.ks L.bs .nil pass0 (pa_cons (pv 2) pa_nil))
          (pa_cons (pe_call L.Gb (hr.mono (by decide)) (by rfl) L.gb L.kb L.bb .nil pass0 (pa_cons (pv 1) (pa_cons (pv 2) (pa_cons pe_int (pa_cons pe_int pa_nil))))) pa_nil)))))
        (pg_tup rfl (pgs_cons (pg_name (i := 3) nd rfl (.inl rfl)) (pgs_cons (pg_name (i := 4) nd rfl (.inl rfl)) (pgs_cons (pg_name (i := 5) nd rfl (.inr rfl)) (pgs_cons (pg_name (i := 6) nd rfl (.inr rfl)) pgs_nil))))))
      (pss_cons (ps_asg (pe_tup (pa_cons (pe_call L.Gh (hr.mono (by decide)) (by rfl) L.gh L.kh L.bh .nil pass0 (pa_cons (pv 2) pa_nil)) (pa_cons (pe_disp1T hu (pv 4) pe_int) (pa_cons pe_bl pa_nil))))
        (pg_tup rfl (pgs_cons (pg_name (i := 7) nd rfl (.inl rfl)) (pgs_cons (pg_name (i := 8) nd rfl (.inr rfl)) (pgs_cons (pg_name (i := 9) nd rfl (.inl rfl)) pgs_nil)))))
      (pss_cons (ps_while PassesOwn.never (pt_val (pv 9))
        (pss_cons (ps_set (i := 9) nd rfl (.inl rfl) pe_bl)
        (pss_one (ps_for PassesOwn.never rfl (pi_list (pv 7)) (pg_name (i := 10) nd rfl (.inl rfl))
          (pss_one (ps_for PassesOwn.never rfl (pi_list (pv 5)) (pg_tup rfl (pgs_cons (pg_name (i := 11) nd rfl (.inl rfl)) (pgs_cons (pg_name (i := 12) nd rfl (.inl rfl)) pgs_nil)))
            (pss_cons (ps_set (i := 13) nd rfl (.inl rfl) (pe_call L.Gp (hr.mono (by decide)) (by rfl) L.gp L.kp L.bp .nil pass0 (pa_cons (pv 10) (pa_cons (pe_tup (pa_cons (pv 11) (pa_cons (pv 12) pa_nil))) pa_nil))))
            (pss_one (ps_if (PW.pt (pw_and (pt_cmp (pc_din hu (pv 13) (pv 8))) (pw_and1 (PW.pt (pw_or (pt_cmp (pc_dnotin hu (pv 10) (pv 8)))
                (pw_or1 (pt_cmpR op_lt (pe_op op_add (pe_dget hu (pv 8) (pv 13) (fun _ _ => rfl)) (pe_ix ix_tup (pe_ix ix_tup (pv 6) (pe_op op_sub (pv 11) pe_int) (fun _ _ => rfl)) (pv 12) (fun _ _ => rfl))) (pe_dget hu (pv 8) (pv 10) (fun _ _ => rfl)) (nomark _))))))))
              (pss_cons (ps_dput hu (pv 8) (pv 10) (pe_op op_add (pe_dget hu (pv 8) (pv 13) (fun _ _ => rfl)) (pe_ix ix_tup (pe_ix ix_tup (pv 6) (pe_op op_sub (pv 11) pe_int) (fun _ _ => rfl)) (pv 12) (fun _ _ => rfl))) rfl)
              (pss_one (ps_set (i := 9) nd rfl (.inl rfl) pe_bl))) pss_nil)))))))))
      (pss_cons (ps_set (i := 14) nd rfl (.inl rfl) (pe_callTy call_tuple_of (by rfl) B.tuple boot_tup (pa_cons
        (pe_lc (own := [("_law_one", 21)]) (g := gName 21) rfl nd (pi_list (pv 7)) (blkOk_by (own := [("_law_one", 21)]) (N := nLaw) (sc := defScope sLaw) (by decide +kernel))
          (fun _ _ _ _ _ => pg_name (i := 21) nd rfl (.inl rfl)) (fun _ _ _ _ _ => pts_nil) (fun _ _ _ _ _ => pe_dget hu (pv 8) (pv 21) (fun _ _ => rfl))) pa_nil)))
      (pss_cons (ps_if (pt_not (pt_val (pe_call L.Ga1 (hr.mono (by decide)) (by rfl) L.ga L.ka L.ba .nil pass0 (pa_cons (pe_call L.Gw (hr.mono (by decide)) (by rfl) L.gw L.kw L.bw .nil pass0 (pa_cons (pv 4) (pa_cons (pv 6) pa_nil))) (pa_cons (pv 14) pa_nil))))) (pss_one ps_never) pss_nil)
      (pss_cons (ps_par (i := 15) (j := 16) rfl nd rfl rfl (by decide) rfl rfl (pa_cons (pe_call L.Ge (hr.mono (by decide)) (by rfl) L.ge L.ke L.be .nil pass0 (pa_cons (pv 3) (pa_cons (pv 4) (pa_cons (pv 6) pa_nil)))) (pa_cons (pe_dget hu (pv 8) (pv 3) (fun _ _ => rfl)) pa_nil)) (by rfl))
      (pss_cons (ps_if (PW.pt (pw_or (pt_not (pt_val (pe_callB call_isi (by rfl) B.isi boot_isi (pa_cons (pv 15) (pa_cons (pe_bltn (v := .ty "tuple") (by rfl) B.tuple boot_tup rfl) pa_nil)))))
          (pw_or (pt_cmpR op_ne (pe_callB call_len_seq (by rfl) B.len PySem.boot_len (pa_cons (pv 15) pa_nil)) pe_int (nomark _))
          (pw_or (pt_cmpR op_ne (pe_ix ix_tup (pv 15) pe_int (fun _ _ => rfl)) (pv 16) (nomark _))
          (pw_or1 (pt_cmpR op_isnot_bl (pe_call L.Gq (hr.mono (by decide)) (by rfl) L.gq L.kq L.bq .nil pass0 (pa_cons (pv 3) (pa_cons (pv 4) (pa_cons (pv 6) (pa_cons (pv 15) pa_nil))))) pe_bl (nomark _))))))) (pss_one ps_never) pss_nil)
      (pss_cons (ps_set (i := 17) nd rfl (.inl rfl) (pe_ix ix_tup (pv 15) pe_int (fun _ _ => rfl)))
      (pss_cons (ps_set (i := 18) nd rfl (.inl rfl) (pe_lst (pa_cons (pv 15) (pa_cons (pe_callTy call_list_of (by rfl) B.list boot_list' (pa_cons (pv 15) pa_nil)) (pa_cons (pe_tup (pa_cons (pv 16) (pa_cons (pe_callTy call_list_of (by rfl) B.list boot_list' (pa_cons (pv 17) pa_nil)) pa_nil)))
        (pa_cons (pe_tup (pa_cons (pe_op op_add (pv 16) pe_int) (pa_cons (pv 17) pa_nil))) (pa_cons (pe_tup (pa_cons (pv 16) (pa_cons (pe_slice sl_tupA (pv 17) (po_some pe_int) po_none) pa_nil)))
        (pa_cons (pe_tup (pa_cons (pv 16) (pa_cons (pe_op op_catA (pv 17) (pe_tup (pa_cons (pe_tup (pa_cons pe_int (pa_cons pe_int pa_nil))) pa_nil))) pa_nil))) (pa_cons (pe_tup (pa_cons (pv 16) (pa_cons (pe_tup pa_nil) pa_nil)))
        (pa_cons pe_non (pa_cons pe_int pa_nil)))))))))))
      (pss_cons (ps_for PassesOwn.never rfl (pi_list (pe_op op_cat (pv 18) (pe_lst (pa_cons (pe_tup (pa_cons (pv 16) (pa_cons (pe_call L.Gr (hr.mono (by decide)) (by rfl) L.gr L.kr L.br .nil pass0 (pa_cons (pv 1) (pa_cons (pv 2) (pa_cons pe_int pa_nil)))) pa_nil)))
          (pa_cons (pe_tup (pa_cons (pv 16) (pa_cons (pe_revT (pv 17)) pa_nil))) (pa_cons (pe_tup (pa_cons (pv 16) (pa_cons (pe_tup (pa_cons (pe_tup (pa_cons pe_int (pa_cons (pe_op op_add (pv 2) pe_int) pa_nil))) pa_nil)) pa_nil))) pa_nil)))))) (pg_name (i := 19) nd rfl (.inl rfl))
        (pss_cons (ps_set (i := 20) nd rfl (.inl rfl) (pe_and (pe_callB call_isi (by rfl) B.isi boot_isi (pa_cons (pv 19) (pa_cons (pe_bltn (v := .ty "tuple") (by rfl) B.tuple boot_tup rfl) pa_nil)))
          (pe_and (pe_cmpR op_eq (pe_callB call_len_seq (by rfl) B.len PySem.boot_len (pa_cons (pv 19) pa_nil)) pe_int (nomark _)) (pe_and (pe_cmpR op_eq (pe_ix ix_tup (pv 19) pe_int (fun _ _ => rfl)) (pv 16) (nomark _))
          (pe_one (pe_callB call_isi (by rfl) B.isi boot_isi (pa_cons (pe_ix ix_tup (pv 19) pe_int (fun _ _ => rfl)) (pa_cons (pe_bltn (v := .ty "tuple") (by rfl) B.tuple boot_tup rfl) pa_nil))))))))
        (pss_cons (ps_set (i := 20) nd rfl (.inl rfl) (pe_and (pv 20) (pe_and (pe_cmpR op_le (pe_callB call_len_seq (by rfl) B.len PySem.boot_len (pa_cons (pe_ix ix_tup (pv 19) pe_int (fun _ _ => rfl)) pa_nil)) pe_int (nomark _))
          (pe_one (pe_cmpR (op_eqD hr.units) (pe_lc (own := [("_law_step_here", 22)]) (g := gName 22) rfl nd (pi_tup (pe_ix ix_tup (pv 19) pe_int (fun _ _ => rfl))) (blkOk_by (own := [("_law_step_here", 22)]) (N := nLaw) (sc := defScope sLaw) (by decide +kernel))
            (fun _ _ _ _ _ => pg_name (i := 22) nd rfl (.inl rfl)) (fun _ _ _ _ _ => pts_one (pt_cmpR (show OpR _ _ (rNotInD K) from op_notInD hu65) (pv 22) (pv 5) (by rfl))) (fun _ _ _ _ _ => pv 22)) (pe_lst pa_nil) (nomark _))))))
        (pss_cons (ps_set (i := 20) nd rfl (.inl rfl) (pe_and (pv 20) (pe_and (pe_cmpR (op_eqD hr.units) (pe_call L.Gd (hr.mono (by decide)) (by rfl) L.gd L.kd L.bd .nil pass0 (pa_cons (pv 3) (pa_cons (pe_ix ix_tup (pv 19) pe_int (fun _ _ => rfl)) pa_nil))) (pv 4) (nomark _))
          (pe_one (pe_cmpR op_eq (pe_callB (cr_sum rfl) (by rfl) B.sum boot_sum (pa_cons (pe_lc (own := [("_law_p", 23), ("_law_c", 24)]) (g := gTup K 2 (gCons (gName 23) (gCons (gName 24) gNil))) rfl nd (pi_tup (pe_ix ix_tup (pv 19) pe_int (fun _ _ => rfl))) (blkOk_by (own := [("_law_p", 23), ("_law_c", 24)]) (N := nLaw) (sc := defScope sLaw) (by decide +kernel))
              (fun _ _ _ _ _ => pg_tup rfl (pgs_cons (pg_name (i := 23) nd rfl (.inl rfl)) (pgs_cons (pg_name (i := 24) nd rfl (.inl rfl)) pgs_nil))) (fun _ _ _ _ _ => pts_nil)
              (fun _ _ _ _ _ => pe_ix (show IxR _ (rIxT K) from ix_tup) (pe_ix (show IxR _ (rIxT K) from ix_tup) (pv 6) (pe_op op_sub (pv 23) pe_int) (fun _ _ => rfl)) (pv 24) (fun _ _ => rfl))) pa_nil)) (pv 16) (nomark _))))))
        (pss_one (ps_if (pt_not (pt_val (pe_call L.Ga0 (hr.mono (by decide)) (by rfl) L.ga L.ka L.ba .nil pass0 (pa_cons (pe_call L.Gq (hr.mono (by decide)) (by rfl) L.gq L.kq L.bq .nil pass0 (pa_cons (pv 3) (pa_cons (pv 4) (pa_cons (pv 6) (pa_cons (pv 19) pa_nil))))) (pa_cons (pv 20) pa_nil))))) (pss_one ps_never) pss_nil))))))
      (pss_one (ps_ret (pe_call L.Go hr (by rfl) L.go L.ko L.bo .nil pass0 (pa_cons (pv 3) (pa_cons (pv 4) (pa_cons (pv 6) (pa_cons (pv 14) (pa_cons (pv 16) pa_nil))))))))))))))))))), ?_⟩
    refine ⟨.ref a, rfl, by show 4 ≤ sizeLine; decide, fun r nr => ?_⟩
    have l1 : Le [r] T H (upd H r (.lst [.ref a, .int 0, .int 13709, .int 0])) := Le.one nr
    have dr1 : Dr K (upd H r (.lst [.ref a, .int 0, .int 13709, .int 0])) r a ns := ⟨⟨0, 13709, 0, upd_same, by decide, by decide, by decide⟩, (Scr.make hsc nr).on l1, hns⟩
    have tb1 := l1.tb htb
    generalize upd H r (.lst [.ref a, .int 0, .int 13709, .int 0]) = H1 at dr1 tb1 ⊢
    clear l1 hsc htb nr
    refine ⟨.ref r, rfl, r, a, ns, 3, rfl, dr1.v, dr1.s, dr1.l, by decide, by decide, fun H2 k l2' hv2 k0 k1 => ⟨1, k, rfl, rfl, ?_⟩⟩
    have dr2 := dr1.on l2' hv2
    obtain ⟨n, hkn⟩ : ∃ n : Nat, (1 + k : Int) = n := ⟨(1 + k).toNat, by omega⟩
    have hn : Sz n := by unfold Sz; omega
    have n3 : n ≤ 3 := by omega
    have en : V.int (1 + k) = V.int n := by rw [hkn]
    refine ⟨.ref r, rfl, _, rfl, r, a, ns, n, by rw [← en] <;> rfl, dr2, hn, fun H3 v3 c l3 hv3 hc hcm => ?_⟩
    have dr3 := dr2.on l3 hv3
    refine ⟨.ref r, rfl, _, rfl, r, a, ns, n, by rw [← en] <;> rfl, dr3, hn, fun H4 v4 g l4 hv4 hg hgm => ?_⟩
    have dr4 := dr3.on l4 hv4
    refine ⟨_, rfl, n, by rw [← en] <;> rfl, by omega, fun v5 H5 l5 hst => ?_⟩
    have dr5 := dr4.on0 l5
    refine ⟨.ref r, rfl, _, rfl, r, a, ns, n, by rw [← en] <;> rfl, dr5, hn, fun H6 v6 pr l6 hv6 hpr hok => ?_⟩
    have dr6 := dr5.on l6 hv6
    refine ⟨by show 4 ≤ sizeLine; decide, fun t nt => ⟨t, [v3, v4, v5, v6], rfl, SqT.of upd_same, rfl, v3, [v4, v5, v6], rfl, v4, [v5, v6], rfl, v5, [v6], rfl, v6, [], rfl, rfl, ?_⟩⟩
    have l7 : Le [] T H6 (upd H6 t (.tup [v3, v4, v5, v6])) := Le.one nt
    have dr7 := dr6.on0 l7
    obtain ⟨sa, sxs, rfl, hsa5, hsx5⟩ := hst
    have sar : sa ≠ r := li_ne ⟨sa, sxs, rfl, hsa5, hsx5⟩ dr5.v
    have hst7 := (LI.leR (⟨sa, sxs, rfl, hsa5, hsx5⟩ : LI H5 (.ref sa) ((stp n).map l2)) sar l6).le0 l7
    have hc7 := (((hc.mono l4.tup).mono l5.tup).mono l6.tup).mono l7.tup
    have hg7 := ((hg.mono l5.tup).mono l6.tup).mono l7.tup
    have hpr7 := hpr.mono l7.tup
    have tb7 := l7.tb (l6.tb (l5.tb (l4.tb (l3.tb (l2'.tb tb1)))))
    generalize upd H6 t (.tup [v3, v4, .ref sa, v6]) = H7 at l7 dr7 hst7 hc7 hg7 hpr7 tb7 ⊢
    clear hst7
    have hst7 : LI H7 (.ref sa) ((stp n).map l2) := (LI.leR (⟨sa, sxs, rfl, hsa5, hsx5⟩ : LI H5 (.ref sa) ((stp n).map l2)) sar l6).le0 l7
    clear dr1 dr2 dr3 dr4 dr5 dr6 hc hg hpr hsa5 hsx5 tb1
    refine ⟨_, rfl, n, by rw [← en] <;> rfl, hn, fun v8 H8 l8 hso => ?_⟩
    refine fun d nd8 => ⟨v4, rfl, ?_⟩
    obtain ⟨ag, rfl, hag7⟩ := hg7
    obtain ⟨as, rfl, has7⟩ := hc7
    obtain ⟨oa, oxs, rfl, hoa, hox⟩ := hso
    obtain ⟨sa', sxs', e, hsa, hsx⟩ := hst7.le0 l8
    cases e
    have dr8 := dr7.on0 l8
    have hag := l8.tup _ _ hag7
    have has := l8.tup _ _ has7
    obtain ⟨ap, xp, rfl, hap, hxp⟩ := hpr7.mono l8.tup
    have tb8 := l8.tb tb7
    have le9 : Le [] T H8 (upd H8 d (.dT [])) := Le.one nd8
    refine ⟨upd_same, ag, ik g, rfl, key_at (le9.tup _ _ hag), by show 3 ≤ sizeLine; decide, fun t nt => ⟨t, [.ref oa, .ref d, .bl true], rfl, SqT.of upd_same, rfl, .ref oa, [.ref d, .bl true], rfl, .ref d, [.bl true], rfl, .bl true, [], rfl, rfl, ?_⟩⟩
    have le10 : Le [] T H8 (upd (upd H8 d (.dT [])) d (.dT [(ik g, .int 0)])) := le9.new nd8
    have le11 := le10.new (o := .tup [.ref oa, .ref d, .bl true]) (le10.dom _ nt)
    have hdt : d ≠ t := ne_of_none upd_same nt
    have si0 : SL T H8 d n pr g ([(g, 0)], true) (upd (upd (upd H8 d (.dT [])) d (.dT [(ik g, .int 0)])) t (.tup [.ref oa, .ref d, .bl true])) :=
      ⟨le11, ⟨[(ik g, .int 0)], by rw [upd_ne hdt]; exact upd_same, .cons ⟨rfl, rfl⟩ .nil⟩, il_start hgm⟩
    obtain ⟨k0', hk0⟩ := il_runs hok _ si0.ip
    have oal := hox.length
    have sal := hsx.length
    rw [List.length_map] at sal
    refine ⟨fun m σ Hx => ∃ acc y10 y11 y12 y13 y14 y15 y16 y17 y18 y19 y20 y21 y22 y23 y24, σ = [some (.ref a), some (.ref r), some (.int (1 + k)), some (.ref as), some (.ref ag), some (.ref sa), some (.ref ap), some (.ref oa), some (.ref d), some (.bl acc.2), y10, y11, y12, y13, y14, y15, y16, y17, y18, y19, y20, y21, y22, y23, y24] ∧ SL T H8 d n pr g acc Hx ∧
      ((acc.2 = true ∧ ∃ k, Runs AL n pr k acc.1 ∧ m = k + 1) ∨ (acc.2 = false ∧ m = 0 ∧ Still AL n pr acc.1)), ⟨k0' + 1, _, _, _, _, _, _, _, _, _, _, _, _, _, _, _, _, rfl, si0, .inl ⟨rfl, k0', hk0, rfl⟩⟩, fun m σ Hx hW => ?_⟩
    obtain ⟨⟨st, b⟩, y10, y11, y12, y13, y14, y15, y16, y17, y18, y19, y20, y21, y22, y23, y24, rfl, si, hm⟩ := hW
    refine ⟨_, rfl, b, rfl, ?_⟩
    rcases hm with ⟨hb, kk, hk, rfl⟩ | ⟨hb, rfl, hs⟩
    · replace hb : b = true := hb
      subst hb
      refine ⟨fun σ' H' => ∃ y10 y11 y12 y13 y14 y15 y16 y17 y18 y19 y20 y21 y22 y23 y24, σ' = [some (.ref a), some (.ref r), some (.int (1 + k)), some (.ref as), some (.ref ag), some (.ref sa), some (.ref ap), some (.ref oa), some (.ref d), some (.bl (pass AL n pr st).2), y10, y11, y12, y13, y14, y15, y16, y17, y18, y19, y20, y21, y22, y23, y24] ∧ SL T H8 d n pr g (pass AL n pr st) H', fun σ' H' hN => ?_, ?_⟩
      · obtain ⟨y10, y11, y12, y13, y14, y15, y16, y17, y18, y19, y20, y21, y22, y23, y24, rfl, si'⟩ := hN
        cases kk with
        | zero =>
          have hk' : (pass AL n pr st).2 = false := hk
          obtain ⟨p1, p2⟩ := pass_still AL n pr hk'
          refine ⟨0, Nat.succ_pos _, pass AL n pr st, _, _, _, _, _, _, _, _, _, _, _, _, _, _, _, rfl, si', .inr ⟨hk', rfl, ?_⟩⟩
          rw [p1]
          exact p2
        | succ kk =>
          obtain ⟨k1, k2⟩ : (pass AL n pr st).2 = true ∧ Runs AL n pr kk (pass AL n pr st).1 := hk
          exact ⟨kk + 1, Nat.lt_succ_self _, pass AL n pr st, _, _, _, _, _, _, _, _, _, _, _, _, _, _, _, rfl, si', .inl ⟨k1, kk, k2, rfl⟩⟩
      · refine ⟨_, rfl, oa, rfl, ⟨oxs, SqL.of (si.le.lst0 hoa)⟩, ?_⟩
        refine for_list (K := K) (a := oa) (xs := oxs) (fun i σ H => ∃ y10 y11 y12 y13 y14 y15 y16 y17 y18 y19 y20 y21 y22 y23 y24, σ = [some (.ref a), some (.ref r), some (.int (1 + k)), some (.ref as), some (.ref ag), some (.ref sa), some (.ref ap), some (.ref oa), some (.ref d), some (.bl (((CH n).take i).foldl (fun acc here => inner AL n pr here acc) (st, false)).2), y10, y11, y12, y13, y14, y15, y16, y17, y18, y19, y20, y21, y22, y23, y24] ∧ SL T H8 d n pr g (((CH n).take i).foldl (fun acc here => inner AL n pr here acc) (st, false)) H)
          ⟨_, _, _, _, _, _, _, _, _, _, _, _, _, _, _, rfl, si.le, si.dt, si.ip⟩ (fun i σ H _ hP => ?_) (fun i x σ H hx hP => ?_) (fun σ H hP => ?_)
        · obtain ⟨y10, y11, y12, y13, y14, y15, y16, y17, y18, y19, y20, y21, y22, y23, y24, rfl, si'⟩ := hP
          exact SqL.of (si'.le.lst0 hoa)
        · obtain ⟨y10, y11, y12, y13, y14, y15, y16, y17, y18, y19, y20, y21, y22, y23, y24, rfl, si1⟩ := hP
          obtain ⟨c, hc, hxc⟩ := paired_at hox hx
          have hcm := List.mem_of_getElem? hc
          obtain ⟨cl, cb⟩ := (ch_facts hn).2.2.2.1 c hcm
          rw [foldl_snoc hc]
          generalize ((CH n).take i).foldl (fun acc here => inner AL n pr here acc) (st, false) = acc1 at si1 ⊢
          refine ⟨_, rfl, sa, rfl, ⟨sxs', SqL.of (si1.le.lst0 hsa)⟩, ?_⟩
          refine for_list (K := K) (a := sa) (xs := sxs') (fun j σ H => ∃ y11 y12 y13 y14 y15 y16 y17 y18 y19 y20 y21 y22 y23 y24, σ = [some (.ref a), some (.ref r), some (.int (1 + k)), some (.ref as), some (.ref ag), some (.ref sa), some (.ref ap), some (.ref oa), some (.ref d), some (.bl (((stp n).take j).foldl (relax AL pr c) acc1).2), some x, y11, y12, y13, y14, y15, y16, y17, y18, y19, y20, y21, y22, y23, y24] ∧ SL T H8 d n pr g (((stp n).take j).foldl (relax AL pr c) acc1) H)
            ⟨_, _, _, _, _, _, _, _, _, _, _, _, _, _, rfl, si1.le, si1.dt, si1.ip⟩ (fun j σ H _ hP => ?_) (fun j z σ H hz hP => ?_) (fun σ H hP => ?_)
          · obtain ⟨y11, y12, y13, y14, y15, y16, y17, y18, y19, y20, y21, y22, y23, y24, rfl, si'⟩ := hP
            exact SqL.of (si'.le.lst0 hsa)
          · obtain ⟨y11, y12, y13, y14, y15, y16, y17, y18, y19, y20, y21, y22, y23, y24, rfl, si2⟩ := hP
            obtain ⟨w2, hw2, hzw⟩ := paired_at hsx hz
            obtain ⟨s, hs, rfl⟩ := map_at hw2
            have hsm := List.mem_of_getElem? hs
            obtain ⟨s1, s2, s3, s4, s5⟩ := stp_facts.mp hsm
            rw [foldl_snoc hs]
            generalize ((stp n).take j).foldl (relax AL pr c) acc1 = acc2 at si2 ⊢
            obtain ⟨st2, b2⟩ := acc2
            obtain ⟨bs, rfl, hbs⟩ := hzw.mono si2.le.tup
            obtain ⟨bh, rfl, hbh0⟩ := hxc
            refine ⟨bs, [.int s.1, .int s.2], rfl, SqT.of hbs, rfl, .int s.1, [.int s.2], rfl, .int s.2, [], rfl, rfl, ?_⟩
            refine ⟨_, rfl, .int s.1, rfl, .int s.2, rfl, by show 2 ≤ sizeLine; decide, fun t1 nt1 => ?_⟩
            have lt1 : Le [] T H (upd H t1 (.tup [.int s.1, .int s.2])) := Le.one nt1
            refine ⟨.ref bh, .ref t1, c, s.1, s.2, rfl, ⟨bh, rfl, (si2.le.trans lt1).tup _ _ hbh0⟩, ⟨t1, rfl, upd_same⟩, s1, by omega, by omega, fun vt Ha la ht => ?_⟩
            have si3 := (si2.on lt1).on la
            obtain ⟨b9, rfl, hb9⟩ := ht
            have hbh := si3.le.tup _ _ hbh0
            obtain ⟨kvs, hd, hkr⟩ := si3.dt
            refine ⟨.ref b9, rfl, .ref d, rfl, d, _, rfl, DGet.t hd (key_at hb9), _, rfl, ?_⟩
            rcases hkr.val (mv c s.1 s.2) with ⟨e1, e2⟩ | ⟨v1, e, e1, e2, er⟩
            · rw [e1, relax_none (A := AL) e2]
              exact ⟨_, _, _, _, _, _, _, _, _, _, _, _, _, _, rfl, si3⟩
            · cases er
              rw [e1]
              obtain ⟨rr, l, hat1, hr0, hat2⟩ := price_at hok hsm hxp
              have hap3 := si3.le.tup _ _ hap
              have hr3 := si3.le.tup _ _ hr0
              have dg : DGet Ha d (.ref b9) (some (.int e)) := by
                rw [← e1]
                exact DGet.t hd (key_at hb9)
              have ipk := il_keep hok c hcm s hsm st2 b2 si2.ip
              rw [relax_some (A := AL) (show AL.ok c = true from rfl) e2] at ipk ⊢
              have len4 : kvs.length < sizeLine := by
                have a1 : kvs.length = st2.length := hkr.length
                have b1 : st2.length ≤ 16 := il_len hn si2.ip
                exact small1000 (by omega)
              have put : better AL st2 c (e + wt pr s) = true → SL T H8 d n pr g (if better AL st2 c (AL.lift e s (wt pr s)) = true then (Cm.pv st2 c (AL.lift e s (wt pr s)), true) else (st2, b2)) (upd Ha d (.dT (putK kvs (ik c) (.int (e + wt pr s))))) := fun hb => by
                have hb' : better AL st2 c (AL.lift e s (wt pr s)) = true := hb
                rw [if_pos hb'] at ipk ⊢
                exact ⟨si3.le.new nd8, ⟨_, upd_same, (KR.put (VR := VI) hkr (show VI Ha (.int (e + wt pr s)) (AL.lift e s (wt pr s)) from rfl)).mono (fun _ _ e => e)⟩, ipk⟩
              refine ⟨.ref bh, rfl, .ref d, rfl, d, _, rfl, DGet.t hd (key_at hbh), _, rfl, ?_⟩
              rcases hkr.val c with ⟨f1, f2⟩ | ⟨v0, e0, f1, f2, er0⟩
              · rw [f1]
                have hb : better AL st2 c (e + wt pr s) = true := by
                  unfold better
                  rw [f2]
                refine ⟨.ref d, rfl, .ref b9, rfl, d, .int e, rfl, dg, .ref ap, rfl, .int s.1, rfl, s.1, 1, rfl, rfl, ap, xp, s.1 - 1, .ref rr, rfl, rfl, SqT.of hap3, hat1, .int s.2, rfl, rr, _, s.2, _, rfl, rfl, SqT.of hr3, hat2, e, wt pr s, rfl, rfl, ?_⟩
                refine ⟨.ref d, rfl, .ref bh, rfl, d, _, rfl, DPut.t hd (key_at hbh) len4, ?_⟩
                have := put hb
                rw [show better AL st2 c (AL.lift e s (wt pr s)) = true from hb] at this ⊢
                exact ⟨_, _, _, _, _, _, _, _, _, _, _, _, _, _, rfl, this⟩
              · cases er0
                rw [f1]
                refine ⟨.ref d, rfl, .ref b9, rfl, d, .int e, rfl, dg, .ref ap, rfl, .int s.1, rfl, s.1, 1, rfl, rfl, ap, xp, s.1 - 1, .ref rr, rfl, rfl, SqT.of hap3, hat1, .int s.2, rfl, rr, _, s.2, _, rfl, rfl, SqT.of hr3, hat2, e, wt pr s, rfl, rfl, ?_⟩
                have dg0 : DGet Ha d (.ref bh) (some (.int e0)) := by
                  rw [← f1]
                  exact DGet.t hd (key_at hbh)
                refine ⟨.ref d, rfl, .ref bh, rfl, d, .int e0, rfl, dg0, _, _, rfl, rfl, _, rfl, ?_⟩
                have hbe : better AL st2 c (AL.lift e s (wt pr s)) = decide (e + wt pr s < e0) := by
                  unfold better
                  rw [f2]
                  rfl
                cases hb : decide (e + wt pr s < e0) with
                | true =>
                  rw [hb] at hbe
                  refine ⟨.ref d, rfl, .ref b9, rfl, d, .int e, rfl, dg, .ref ap, rfl, .int s.1, rfl, s.1, 1, rfl, rfl, ap, xp, s.1 - 1, .ref rr, rfl, rfl, SqT.of hap3, hat1, .int s.2, rfl, rr, _, s.2, _, rfl, rfl, SqT.of hr3, hat2, e, wt pr s, rfl, rfl, ?_⟩
                  refine ⟨.ref d, rfl, .ref bh, rfl, d, _, rfl, DPut.t hd (key_at hbh) len4, ?_⟩
                  have := put hbe
                  rw [hbe] at this ⊢
                  exact ⟨_, _, _, _, _, _, _, _, _, _, _, _, _, _, rfl, this⟩
                | false =>
                  rw [hb] at hbe
                  rw [hbe]
                  exact ⟨_, _, _, _, _, _, _, _, _, _, _, _, _, _, rfl, si3⟩
          · obtain ⟨y11, y12, y13, y14, y15, y16, y17, y18, y19, y20, y21, y22, y23, y24, rfl, si'⟩ := hP
            rw [sal, List.take_length] at si'
            rw [sal, List.take_length]
            exact ⟨_, _, _, _, _, _, _, _, _, _, _, _, _, _, _, rfl, si'⟩
        · obtain ⟨y10, y11, y12, y13, y14, y15, y16, y17, y18, y19, y20, y21, y22, y23, y24, rfl, si'⟩ := hP
          rw [oal, List.take_length] at si'
          rw [oal, List.take_length]
          exact ⟨_, _, _, _, _, _, _, _, _, _, _, _, _, _, _, rfl, si'⟩
    · replace hb : b = false := hb
      subst hb
      have F := finL hn hgm hok si.ip hs
      have le9 := si.le
      obtain ⟨kvs, hd, hkr⟩ := si.dt
      clear hs hk0 si0 si
      have dr9 := dr8.on0 le9
      have dnr : d ∉ [r] := row_fresh dr8.v nd8
      have valL : ∀ H', Le [r] T Hx H' → ∀ cc ∈ CH n, ∀ b, H' b = some (.tup (cc.map V.int)) → ∃ x, Best n pr g cc x ∧ DGet H' d (.ref b) (some (.int x)) := fun H' l cc hcc b hb => by
        obtain ⟨x, hx, hb2⟩ := F.all cc hcc
        rcases hkr.val cc with ⟨_, f2⟩ | ⟨v1, e1, f1, f2, er⟩
        · rw [hx] at f2
          cases f2
        · rw [hx] at f2
          cases f2
          cases er
          refine ⟨x, hb2, ?_⟩
          rw [← f1]
          exact DGet.t (l.dt dnr hd) (key_at hb)
      have hag9 := le9.tup _ _ hag
      have has9 := le9.tup _ _ has
      have hoa9 := le9.lst0 hoa
      have hox9 := tis_mono le9.tup hox
      have hsa9 := le9.lst0 hsa
      have hsx9 := tis_mono le9.tup hsx
      have pz9 : Pz T P1 P2 Hx (.ref ag) (.ref ap) n g pr := ⟨hn, ⟨ag, rfl, hag9⟩, hgm, ⟨ap, xp, rfl, le9.tup _ _ hap, tis_mono le9.tup hxp⟩, hok, le9.tb tb8, hP.1, hP.2.1⟩
      have gl := ch_len hn hgm
      have c16 := (ch_facts hn).1
      -- numbers
      refine ⟨_, rfl, oa, rfl, ⟨oxs, SqL.of hoa9⟩, fun D nD => ?_⟩
      refine lc_list (K := K) (a := oa) (xs := oxs) (fun j Hy => Le [] T Hx Hy ∧ ∃ nums : List Int, Hy D = some (.lst (nums.map V.int)) ∧ Paired (Best n pr g) ((CH n).take j) nums) ⟨Le.one nD, [], upd_same, .nil⟩ (fun j Hy _ hP => SqL.of (hP.1.lst0 hoa9)) (fun j x Hy hx hP => ?_) (fun Hy hP => ?_)
      · obtain ⟨ly, nums, hD, hnums⟩ := hP
        obtain ⟨cc, hcc, hxc⟩ := paired_at hox9 hx
        have hccm := List.mem_of_getElem? hcc
        obtain ⟨b, rfl, hb⟩ := hxc.mono ly.tup
        obtain ⟨x, hbx, dg⟩ := valL Hy ly.weak cc hccm b hb
        have jl : j < (CH n).length := (List.getElem?_eq_some_iff.mp hcc).1
        have nl := hnums.length
        rw [List.length_take] at nl
        refine ⟨rfl, .ref d, rfl, .ref b, rfl, d, .int x, rfl, dg, _, hD, small1000 (by rw [List.length_map]; omega), ly.new nD, nums ++ [x], ?_, ?_⟩
        · rw [upd_same, List.map_append] <;> rfl
        · rw [take_snoc hcc]
          exact hnums.snoc hbx
      obtain ⟨ly, nums, hD, hnums⟩ := hP
      rw [oal, List.take_length] at hnums
      have nl := hnums.length
      refine ⟨D, _, rfl, .inl ⟨SqL.of hD, fun tn ntn => ?_⟩⟩
      have l10 : Le [] T Hx (upd Hy tn (.tup (nums.map V.int))) := ly.new (ly.dom _ ntn)
      have htn : upd Hy tn (.tup (nums.map V.int)) tn = some (.tup (nums.map V.int)) := upd_same
      generalize upd Hy tn (.tup (nums.map V.int)) = H10 at l10 htn ⊢
      -- worths
      refine ⟨.ref ag, rfl, .ref ap, rfl, .ref ag, .ref ap, n, g, pr, rfl, pz9.on l10, fun H11 v11 nums' l11 hv11 hp11 => ?_⟩
      have en2 := best_eq hp11 hnums
      subst en2
      refine ⟨.ref tn, rfl, v11, .ref tn, nums', rfl, hv11, ⟨tn, rfl, l11.tup _ _ htn⟩, by omega, fun H12 l12 => ⟨true, rfl, ?_⟩⟩
      have l912 := (l10.trans l11).trans l12
      have has12 := l912.tup _ _ has9
      -- cheap_row
      refine ⟨.ref as, rfl, .ref ag, rfl, .ref ap, rfl, .ref as, .ref ag, .ref ap, n, c, g, pr, rfl, pz9.on l912, ⟨as, rfl, has12⟩, hcm, fun H13 fa fb x ws l13 hfa hws hrow => ?_⟩
      have l913 := l912.trans l13
      obtain ⟨best, hbest, dgb⟩ := valL H13 l913.weak c hcm as (l13.tup _ _ has12)
      have ex := hrow.best.eq hbest
      subst ex
      refine ⟨.ref d, rfl, .ref as, rfl, d, .int x, rfl, dgb, _, _, rfl, ?_⟩
      refine ⟨.ref fa, rfl, .ref fa, .ty "tuple", .type "tuple", .type "tuple", true, rfl, .ty _, .base (.tup hfa), kit_tt, true, rfl, .ref fa, rfl, fa, _, rfl, .inr (SqT.of hfa), rfl, _, rfl, ?_⟩
      refine ⟨.ref fa, rfl, fa, _, 0, .int x, rfl, rfl, SqT.of hfa, atI_nat (j := 0) rfl, _, rfl, rfl, _, rfl, ?_⟩
      rw [dvi, decide_eq_true rfl]
      have tt13 : TT H13 (.ref fb) (ws.map l2) := hws
      refine ⟨.ref as, rfl, .ref ag, rfl, .ref ap, rfl, .ref fa, rfl, .ref as, .ref ag, .ref ap, .ref fa, n, c, g, pr, .row x ws, rfl, pz9.on l913, ⟨as, rfl, l13.tup _ _ has12⟩, hcm, ⟨fa, fb, rfl, hfa, hws⟩, hP.2.2.1, hP.2.2.2.1, fun x' us' e => by cases e; have := hrow.len; omega, fun H14 best' l14 hb' => ?_⟩
      have edue : due n pr g c best' (.row x ws) = true := by
        rw [hb'.eq hbest, due_row, decide_eq_true rfl, decide_eq_true (show (ws.length : Int) ≤ 200 by have := hrow.len; omega), List.all_eq_true.mpr (fun s hs => okStep_mem.mpr (hrow.st s hs)), decide_eq_true hrow.done, decide_eq_true hrow.sum]
        rfl
      rw [edue]
      refine ⟨true, true, rfl, rfl, _, rfl, ?_⟩
      have l914 := l913.trans l14
      have hfa14 := l14.tup _ _ hfa
      obtain ⟨fb', fxs, e, hfb14, hfx14⟩ := hws.mono l14.tup
      cases e
      -- word
      refine ⟨.ref fa, rfl, fa, _, 1, .ref fb, rfl, rfl, SqT.of hfa14, atI_nat (j := 1) rfl, ?_⟩
      have dr14 := dr9.on0 l914
      have wl := hrow.len
      have tw : ∀ {H'}, Le [] T H14 H' → TT H' (.ref fb) (ws.map l2) := fun l => TT.mono l.tup ⟨fb, fxs, rfl, hfb14, hfx14⟩
      -- values
      refine ⟨.ref fa, rfl, .ref fa, rfl, fa, _, rfl, .inr (SqT.of hfa14), fun b1 n1 => ?_⟩
      have k1' : Le [] T H14 (upd H14 b1 (.lst [.int x, .ref fb])) := Le.one n1
      have p1 : Paired (PV [r] (upd H14 b1 (.lst [.int x, .ref fb]))) [.ref fa, .ref b1] [.row x ws, .junk] :=
        .cons (pv_row ⟨fa, fb, rfl, k1'.tup _ _ hfa14, tw k1'⟩ (by omega)) (.cons (pv_junk (.inr (.inr ⟨b1, _, rfl, row_fresh dr14.v n1, upd_same⟩))) .nil)
      generalize upd H14 b1 (.lst [.int x, .ref fb]) = G1 at k1' p1 ⊢
      refine ⟨_, rfl, .ref fb, rfl, fb, _, rfl, .inr (SqT.of (k1'.tup _ _ hfb14)), fun b2 n2 => ⟨by show 2 ≤ sizeLine; decide, fun b3 n3' => ?_⟩⟩
      have dg1 := dr14.on0 k1'
      have hb2r := row_fresh dg1.v n2
      have k2 : Le [] T G1 (upd G1 b2 (.lst fxs)) := Le.one n2
      have hb2 : upd G1 b2 (.lst fxs) b2 = some (.lst fxs) := upd_same
      generalize upd G1 b2 (.lst fxs) = G2 at k2 hb2 n3' ⊢
      have k3 : Le [] T G2 (upd G2 b3 (.tup [.int x, .ref b2])) := Le.one n3'
      have k13 := k1'.trans (k2.trans k3)
      have p3 := (pvs_on (k2.trans k3).weak p1).snoc (pv_lst (R := [r]) (v := .ref b3) (x := x) ⟨b3, b2, fxs, rfl, upd_same, hb2r, k3.lst0 hb2⟩)
      generalize upd G2 b3 (.tup [.int x, .ref b2]) = G3 at k3 k13 p3 ⊢
      refine ⟨_, rfl, x, 1, rfl, rfl, .ref fb, rfl, by show 2 ≤ sizeLine; decide, fun b4 n4 => ?_⟩
      have k4 : Le [] T G3 (upd G3 b4 (.tup [.int (x + 1), .ref fb])) := Le.one n4
      have k14 := k13.trans k4
      have p4 := (pvs_on k4.weak p3).snoc (pv_row (R := [r]) (v := .ref b4) (x := x + 1) (us := ws) ⟨b4, fb, rfl, upd_same, tw k14⟩ (by omega))
      generalize upd G3 b4 (.tup [.int (x + 1), .ref fb]) = G4 at k4 k14 p4 ⊢
      refine ⟨_, rfl, .ref fb, rfl, 1, rfl, ?_⟩
      refine tnp_slA ?_
      refine slA_tt (T := T) (tw k14) fun v5' G5 us5 k5 t5 s5 z5 => ⟨by show 2 ≤ sizeLine; decide, fun b5 n5 => ?_⟩
      obtain ⟨q5, xs5, rfl, h5, x5⟩ := t5
      have k5b : Le [] T G5 (upd G5 b5 (.tup [.int x, .ref q5])) := Le.one n5
      have k15 := (k14.trans k5).trans k5b
      have p5 := (pvs_on (k5.trans k5b).weak p4).snoc (pv_row (R := [r]) (v := .ref b5) (x := x) (us := us5) ⟨b5, q5, rfl, upd_same, TT.mono k5b.tup ⟨q5, xs5, rfl, h5, x5⟩⟩ (by omega))
      generalize upd G5 b5 (.tup [.int x, .ref q5]) = G6 at k5b k15 p5 ⊢
      refine ⟨_, rfl, .ref fb, rfl, by show 2 ≤ sizeLine; decide, fun u1 nu1 => ⟨by show 1 ≤ sizeLine; decide, fun u2 nu2 => ?_⟩⟩
      have k6a : Le [] T G6 (upd (upd G6 u1 (.tup [.int 1, .int 0])) u2 (.tup [.ref u1])) := (Le.one nu1).trans (Le.one nu2)
      have t6 : TT (upd (upd G6 u1 (.tup [.int 1, .int 0])) u2 (.tup [.ref u1])) (.ref u2) ([(1, 0)].map l2) := ⟨u2, _, rfl, upd_same, .cons (TI.mono (Tp.new nu2) ⟨u1, rfl, upd_same⟩) .nil⟩
      generalize upd (upd G6 u1 (.tup [.int 1, .int 0])) u2 (.tup [.ref u1]) = G7 at k6a t6 ⊢
      refine catA_tt (T := T) (tw (k15.trans k6a)) t6 (by show ws.length + 1 ≤ 1000; omega) fun v7 G8 k7 t7 => ⟨by show 2 ≤ sizeLine; decide, fun b6 n6 => ?_⟩
      obtain ⟨q7, xs7, rfl, h7, x7⟩ := t7
      have k7b : Le [] T G8 (upd G8 b6 (.tup [.int x, .ref q7])) := Le.one n6
      have k67 := (k6a.trans k7).trans k7b
      have k17 := k15.trans k67
      have p6 := (pvs_on k67.weak p5).snoc (pv_row (R := [r]) (v := .ref b6) (x := x) (us := ws ++ [(1, 0)]) ⟨b6, q7, rfl, upd_same, TT.mono k7b.tup ⟨q7, xs7, rfl, h7, x7⟩⟩ (by rw [List.length_append]; show ws.length + 1 ≤ 900; omega))
      generalize upd G8 b6 (.tup [.int x, .ref q7]) = G9 at k7b k67 k17 p6 ⊢
      refine ⟨_, rfl, by show 0 ≤ sizeLine; decide, fun u3 nu3 => ⟨by show 2 ≤ sizeLine; decide, fun b7 n7 => ?_⟩⟩
      have k8 : Le [] T G9 (upd (upd G9 u3 (.tup [])) b7 (.tup [.int x, .ref u3])) := (Le.one nu3).trans (Le.one n7)
      have p7 := ((((pvs_on k8.weak p6).snoc (pv_row (R := [r]) (v := .ref b7) (x := x) (us := []) ⟨b7, u3, rfl, upd_same, ⟨u3, [], rfl, (Tp.new n7) _ _ upd_same, .nil⟩⟩ (by decide))).snoc (pv_junk (R := [r]) (v := .non) (.inl rfl))).snoc (pv_junk (R := [r]) (v := .int 3) (.inr (.inl ⟨3, rfl⟩))))
      have k18 := k17.trans k8
      generalize upd (upd G9 u3 (.tup [])) b7 (.tup [.int x, .ref u3]) = G10 at k8 k18 p7 ⊢
      refine ⟨by show 9 ≤ sizeLine; decide, fun vl nvl => ?_⟩
      have dr10 := dr14.on0 k18
      have vlr := row_fresh dr10.v nvl
      have k19 : Le [] T G10 (upd G10 vl (.lst [.ref fa, .ref b1, .ref b3, .ref b4, .ref b5, .ref b6, .ref b7, .non, .int 3])) := Le.one nvl
      have hvl : upd G10 vl (.lst [.ref fa, .ref b1, .ref b3, .ref b4, .ref b5, .ref b6, .ref b7, .non, .int 3]) vl = some (.lst [.ref fa, .ref b1, .ref b3, .ref b4, .ref b5, .ref b6, .ref b7, .non, .int 3]) := upd_same
      have p9 := pvs_on k19.weak p7
      have k1A := k18.trans k19
      generalize upd G10 vl (.lst [.ref fa, .ref b1, .ref b3, .ref b4, .ref b5, .ref b6, .ref b7, .non, .int 3]) = G11 at k19 hvl p9 k1A ⊢
      have dr11 := dr10.on0 k19
      clear p1 p3 p4 p5 p6 p7
      -- the three more
      refine ⟨.ref vl, rfl, _, rfl, .ref r, rfl, _, rfl, r, a, ns, n, by rw [← en] <;> rfl, dr11, hn, fun G12 v12 us12 k12 hv12 t12 m12 z12 => ⟨by show 2 ≤ sizeLine; decide, fun b10 n10 => ?_⟩⟩
      obtain ⟨q12, xs12, rfl, h12, x12⟩ := t12
      have k12b : Le [] T G12 (upd G12 b10 (.tup [.int x, .ref q12])) := Le.one n10
      have kA := k12.trans k12b.weak
      have p10 := (pvs_on kA p9).snoc (pv_row (R := [r]) (v := .ref b10) (x := x) (us := us12) ⟨b10, q12, rfl, upd_same, TT.mono k12b.tup ⟨q12, xs12, rfl, h12, x12⟩⟩ (by omega))
      have hvlA := kA.lst vlr hvl
      have hvA := hv12.on0 k12b
      have drA := dr11.on kA hvA
      generalize upd G12 b10 (.tup [.int x, .ref q12]) = G13 at k12b kA p10 hvlA hvA drA ⊢
      have twr : TT G13 (.ref fb) (ws.map l2) := TT.mono kA.tup (tw k1A)
      obtain ⟨fb', gxs, e, hfbA, hgx⟩ := twr
      cases e
      refine ⟨_, rfl, .ref fb, rfl, fb, gxs, rfl, SqT.of hfbA, fun u4 nu4 => ⟨by show 2 ≤ sizeLine; decide, fun b11 n11 => ?_⟩⟩
      have kB : Le [] T G13 (upd (upd G13 u4 (.tup gxs.reverse)) b11 (.tup [.int x, .ref u4])) := (Le.one nu4).trans (Le.one n11)
      have p11 := (pvs_on kB.weak p10).snoc (pv_row (R := [r]) (v := .ref b11) (x := x) (us := ws.reverse) ⟨b11, u4, rfl, upd_same, ⟨u4, _, rfl, (Tp.new n11) _ _ upd_same, by rw [List.map_reverse]; exact tis_mono kB.tup (paired_rev hgx)⟩⟩ (by rw [List.length_reverse]; omega))
      generalize upd (upd G13 u4 (.tup gxs.reverse)) b11 (.tup [.int x, .ref u4]) = G14 at kB p11 ⊢
      refine ⟨_, rfl, _, rfl, 1 + k, 1, rfl, rfl, by show 2 ≤ sizeLine; decide, fun u5 nu5 => ⟨by show 1 ≤ sizeLine; decide, fun u6 nu6 => ⟨by show 2 ≤ sizeLine; decide, fun b12 n12 => ?_⟩⟩⟩
      have kC : Le [] T G14 (upd (upd (upd G14 u5 (.tup [.int 1, .int (1 + k + 1)])) u6 (.tup [.ref u5])) b12 (.tup [.int x, .ref u6])) := ((Le.one nu5).trans (Le.one nu6)).trans (Le.one n12)
      have p12 := (pvs_on kC.weak p11).snoc (pv_row (R := [r]) (v := .ref b12) (x := x) (us := [(1, (n : Int) + 1)]) ⟨b12, u6, rfl, upd_same, ⟨u6, _, rfl, (Tp.new n12) _ _ upd_same, .cons (TI.mono ((Tp.new nu6).trans (Tp.new n12)) ⟨u5, rfl, by rw [upd_same, ← hkn] <;> rfl⟩) .nil⟩⟩ (by show 1 ≤ 900; decide))
      generalize upd (upd (upd G14 u5 (.tup [.int 1, .int (1 + k + 1)])) u6 (.tup [.ref u5])) b12 (.tup [.int x, .ref u6]) = G15 at kC p12 ⊢
      refine ⟨by show 3 ≤ sizeLine; decide, fun v3 nv3 => ?_⟩
      have kD : Le [] T G15 (upd G15 v3 (.lst [.ref b10, .ref b11, .ref b12])) := Le.one nv3
      have hvlD := (kB.trans (kC.trans kD)).lst0 hvlA
      have hv3D : upd G15 v3 (.lst [.ref b10, .ref b11, .ref b12]) v3 = some (.lst [.ref b10, .ref b11, .ref b12]) := upd_same
      have p13 := pvs_on kD.weak p12
      generalize upd G15 v3 (.lst [.ref b10, .ref b11, .ref b12]) = G16 at kD hvlD hv3D p13 ⊢
      refine ⟨vl, v3, _, _, rfl, rfl, hvlD, hv3D, by show 9 + 3 ≤ sizeLine; decide, fun va nva => ?_⟩
      have kE : Le [] T G16 (upd G16 va (.lst ([.ref fa, .ref b1, .ref b3, .ref b4, .ref b5, .ref b6, .ref b7, .non, .int 3] ++ [.ref b10, .ref b11, .ref b12]))) := Le.one nva
      have hva : upd G16 va (.lst ([.ref fa, .ref b1, .ref b3, .ref b4, .ref b5, .ref b6, .ref b7, .non, .int 3] ++ [.ref b10, .ref b11, .ref b12])) va = some (.lst ([.ref fa, .ref b1, .ref b3, .ref b4, .ref b5, .ref b6, .ref b7, .non, .int 3] ++ [.ref b10, .ref b11, .ref b12])) := upd_same
      have p14 := pvs_on kE.weak p13
      have kF : Le [r] T Hx G16 := ((l914.trans k1A).weak.trans kA).trans (kB.trans (kC.trans kD)).weak
      have kG := kF.trans kE.weak
      generalize upd G16 va (.lst ([.ref fa, .ref b1, .ref b3, .ref b4, .ref b5, .ref b6, .ref b7, .non, .int 3] ++ [.ref b10, .ref b11, .ref b12])) = GG at kE hva p14 kG ⊢
      clear p9 p10 p11 p12 p13
      obtain ⟨items, ps, hitems, hps⟩ : ∃ items ps, items = ([.ref fa, .ref b1, .ref b3, .ref b4, .ref b5, .ref b6, .ref b7, .non, .int 3] ++ [.ref b10, .ref b11, .ref b12] : List V) ∧ Paired (PV [r] GG) items ps := ⟨_, _, rfl, p14⟩
      rw [← hitems] at hva
      have sar' : sa ≠ r := sar
      have saR : sa ∉ [r] := fun y => sar' (List.mem_singleton.mp y)
      have hsaG := kG.lst saR hsa9
      have hsxG := tis_mono kG.tup hsx9
      have hasG := kG.tup _ _ has9
      have hagG := kG.tup _ _ hag9
      have pzG := pz9.on kG
      refine ⟨va, rfl, ⟨items, SqL.of hva⟩, ?_⟩
      refine for_list (K := K) (a := va) (xs := items) (fun i σ Hy => Le [] T GG Hy ∧ ∃ y10 y11 y12 y13 y15 y17 y18 y19 y20 y21 y22 y23 y24, σ = [some (.ref a), some (.ref r), some (.int (1 + k)), some (.ref as), some (.ref ag), some (.ref sa), some (.ref ap), some (.ref oa), some (.ref d), some (.bl false), y10, y11, y12, y13, some (.ref tn), y15, some (.int x), y17, y18, y19, y20, y21, y22, y23, y24])
        ⟨Le.refl _, _, _, _, _, _, _, _, _, _, _, _, _, _, rfl⟩ (fun i σ Hy _ hP => SqL.of (hP.1.lst0 hva)) (fun i w Hσ Hy hw hP => ?_) (fun σ Hy hP => ?_)
      · obtain ⟨ky, y10, y11, y12, y13, y15, y17, y18, y19, y20, y21, y22, y23, y24, rfl⟩ := hP
        obtain ⟨p0, hp0, hpv⟩ := paired_at hps hw
        obtain ⟨hpr0, hlen0⟩ := hpv.on ky.weak
        have kyG := kG.trans ky.weak
        have pzY := pz9.on kyG
        have hasY := kyG.tup _ _ has9
        refine tseq4_by (fun σ' H' => Le [] T Hy H' ∧ ∃ y10 y11 y12 y13 y15 y17 y18 y21 y22 y23 y24, σ' = [some (.ref a), some (.ref r), some (.int (1 + k)), some (.ref as), some (.ref ag), some (.ref sa), some (.ref ap), some (.ref oa), some (.ref d), some (.bl false), y10, y11, y12, y13, some (.ref tn), y15, some (.int x), y17, y18, some w, some (.bl (due n pr g c x p0)), y21, y22, y23, y24]) (fun σ' H' hI => ?_) (fun fin => ?_)
        · obtain ⟨kz, y10, y11, y12, y13, y15, y17, y18, y21, y22, y23, y24, rfl⟩ := hI
          have kzG := kyG.trans kz.weak
          refine ⟨_, rfl, _, rfl, _, rfl, _, rfl, .ref as, .ref ag, .ref ap, w, n, c, g, pr, p0, rfl, pz9.on kzG, ⟨as, rfl, kzG.tup _ _ has9⟩, hcm, (hpr0.free).on kz, hP.2.2.1, hP.2.2.2.1, hlen0, fun H5 best' l5 hb' => ?_⟩
          rw [hb'.eq hbest]
          exact ⟨_, rfl, _, rfl, .inr ⟨_, rfl⟩, fun H6 l6 => ⟨true, rfl, (ky.trans kz).trans (l5.trans l6), _, _, _, _, _, _, _, _, _, _, _, _, _, rfl⟩⟩
        · cases p0 with
          | junk =>
            rcases hpr0 with rfl | ⟨i0, rfl⟩ | ⟨b, zs, rfl, _, hb⟩
            · exact ⟨.non, rfl, .non, .ty "tuple", .type "NoneType", .type "tuple", false, rfl, .ty _, .base .non, kit_nt, false, rfl, .bl false, rfl, false, rfl, .bl false, rfl, false, rfl, fin _ _ ⟨Le.refl _, _, _, _, _, _, _, _, _, _, _, _, rfl⟩⟩
            · exact ⟨.int i0, rfl, .int i0, .ty "tuple", .type "int", .type "tuple", false, rfl, .ty _, .base (.int i0), kit_it, false, rfl, .bl false, rfl, false, rfl, .bl false, rfl, false, rfl, fin _ _ ⟨Le.refl _, _, _, _, _, _, _, _, _, _, _, _, rfl⟩⟩
            · exact ⟨.ref b, rfl, .ref b, .ty "tuple", .type "list", .type "tuple", false, rfl, .ty _, .base (.lst hb), kit_lt, false, rfl, .bl false, rfl, false, rfl, .bl false, rfl, false, rfl, fin _ _ ⟨Le.refl _, _, _, _, _, _, _, _, _, _, _, _, rfl⟩⟩
          | lst x2 =>
            obtain ⟨b, b2, zs, rfl, hb, _, hb2⟩ := hpr0
            refine ⟨.ref b, rfl, .ref b, .ty "tuple", .type "tuple", .type "tuple", true, rfl, .ty _, .base (.tup hb), kit_tt, true, rfl, ?_⟩
            refine ⟨.ref b, rfl, b, _, rfl, .inr (SqT.of hb), rfl, _, rfl, ?_⟩
            refine ⟨.ref b, rfl, b, _, 0, .int x2, rfl, rfl, SqT.of hb, atI_nat (j := 0) rfl, .int x, rfl, rfl, _, rfl, ?_⟩
            cases decide (V.int x2 = V.int x) with
            | false => exact ⟨.bl false, rfl, false, rfl, .bl false, rfl, false, rfl, fin _ _ ⟨Le.refl _, _, _, _, _, _, _, _, _, _, _, _, rfl⟩⟩
            | true => exact ⟨.ref b, rfl, b, _, 1, .ref b2, rfl, rfl, SqT.of hb, atI_nat (j := 1) rfl, .ref b2, .ty "tuple", .type "list", .type "tuple", false, rfl, .ty _, .base (.lst hb2), kit_lt, .bl false, rfl, false, rfl, .bl false, rfl, false, rfl, fin _ _ ⟨Le.refl _, _, _, _, _, _, _, _, _, _, _, _, rfl⟩⟩
          | row x2 us =>
            obtain ⟨b, b2, rfl, hb, ⟨b2', uxs, e, hb2, hux⟩⟩ := hpr0
            cases e
            have uxl := hux.length
            rw [List.length_map] at uxl
            have u900 := hlen0 x2 us rfl
            rw [due_row] at fin
            refine ⟨.ref b, rfl, .ref b, .ty "tuple", .type "tuple", .type "tuple", true, rfl, .ty _, .base (.tup hb), kit_tt, true, rfl, ?_⟩
            refine ⟨.ref b, rfl, b, _, rfl, .inr (SqT.of hb), rfl, _, rfl, ?_⟩
            refine ⟨.ref b, rfl, b, _, 0, .int x2, rfl, rfl, SqT.of hb, atI_nat (j := 0) rfl, .int x, rfl, rfl, _, rfl, ?_⟩
            rw [dvi]
            cases y1 : decide (x2 = x) with
            | false =>
              rw [y1] at fin
              exact ⟨.bl false, rfl, false, rfl, .bl false, rfl, false, rfl, fin _ _ ⟨Le.refl _, _, _, _, _, _, _, _, _, _, _, _, rfl⟩⟩
            | true =>
              rw [y1] at fin
              refine ⟨.ref b, rfl, b, _, 1, .ref b2, rfl, rfl, SqT.of hb, atI_nat (j := 1) rfl, .ref b2, .ty "tuple", .type "tuple", .type "tuple", true, rfl, .ty _, .base (.tup hb2), kit_tt, .bl true, rfl, true, rfl, ?_⟩
              refine ⟨.ref b, rfl, b, _, 1, .ref b2, rfl, rfl, SqT.of hb, atI_nat (j := 1) rfl, b2, uxs, rfl, .inr (SqT.of hb2), _, _, rfl, rfl, _, rfl, ?_⟩
              rw [uxl]
              cases y2 : decide ((us.length : Int) ≤ 200) with
              | false =>
                rw [y2] at fin
                exact ⟨.bl false, rfl, false, rfl, fin _ _ ⟨Le.refl _, _, _, _, _, _, _, _, _, _, _, _, rfl⟩⟩
              | true =>
                rw [y2] at fin
                refine ⟨.ref b, rfl, b, _, 1, .ref b2, rfl, rfl, SqT.of hb, atI_nat (j := 1) rfl, b2, rfl, ⟨uxs, SqT.of hb2⟩, fun D nD => ?_⟩
                refine lc_tup (xs := uxs) (fun j Hz => Le [] T Hy Hz ∧ ∃ bad, Hz D = some (.lst bad) ∧ Paired (TI Hz) bad (((us.take j).filter fun s => !okStep n s).map l2)) ⟨Le.one nD, [], upd_same, .nil⟩ (fun j Hz _ hP => SqT.of (hP.1.tup _ _ hb2)) (fun j u Hz hu hP => ?_) (fun Hz hP => ?_)
                · obtain ⟨kz, bad, hD, hbad⟩ := hP
                  obtain ⟨c2, hc2, hxc⟩ := paired_at hux hu
                  obtain ⟨s, hs, rfl⟩ := map_at hc2
                  have hti := hxc.mono kz.tup
                  have lsa : Le [] T GG Hz := ky.trans kz
                  refine ⟨rfl, u, rfl, .ref sa, rfl, _, _, TI.dp hti, sq_dp (lsa.lst0 hsaG) (tis_mono lsa.tup hsxG), shaped_ti _, shaped_sqs _, _, rfl, ?_⟩
                  rw [any_sqs]
                  rw [filter_take hs]
                  have bl := hbad.length
                  rw [List.length_map] at bl
                  cases y3 : okStep n s with
                  | true => exact ⟨kz, bad, hD, hbad⟩
                  | false =>
                    refine ⟨u, rfl, bad, hD, small1000 ?_, kz.new nD, bad ++ [u], upd_same, ?_⟩
                    · rw [bl]
                      have := List.length_filter_le (fun s => !okStep n s) (us.take j)
                      rw [List.length_take] at this
                      omega
                    · have tp : Tp Hz (upd Hz D (.lst (bad ++ [u]))) := (Tp.refl Hz).upd (nt_lst hD)
                      show Paired _ _ ((List.filter _ _ ++ [s]).map l2)
                      rw [List.map_append]
                      exact (tis_mono tp hbad).snoc (hti.mono tp)
                · obtain ⟨kz, bad, hD, hbad⟩ := hP
                  rw [uxl, List.take_length] at hbad
                  refine ⟨by show 0 ≤ sizeLine; decide, fun o no => ?_⟩
                  have ko : Le [] T Hz (upd Hz o (.lst [])) := Le.one no
                  refine ⟨_, .list [], sq_dp (ko.lst0 hD) (tis_mono ko.tup hbad), .lst (SqL.of upd_same) .nil, shaped_sqs _, by decide +kernel, ?_⟩
                  have ee : PyData.eqv (.list ((us.filter fun s => !okStep n s).map fun s => PyData.tuple ((l2 s).map PyData.int))) (.list []) = us.all (okStep n) := by
                    cases hf : us.filter fun s => !okStep n s with
                    | nil =>
                      have : us.all (okStep n) = true := by
                        rw [List.all_eq_true]
                        intro s hs
                        have := List.filter_eq_nil_iff.mp hf s hs
                        cases z : okStep n s with
                        | true => rfl
                        | false =>
                          rw [z] at this
                          exact absurd rfl this
                      rw [this]
                      simp [PyData.eqv, PyData.eqvAll]
                    | cons s ss =>
                      have hm : s ∈ us.filter fun s => !okStep n s := by rw [hf]; exact List.mem_cons_self
                      obtain ⟨m1, m2⟩ := List.mem_filter.mp hm
                      have : us.all (okStep n) = false := by
                        rw [List.all_eq_false]
                        refine ⟨s, m1, ?_⟩
                        cases z : okStep n s with
                        | false => decide
                        | true =>
                          rw [z] at m2
                          cases m2
                      rw [this]
                      simp [PyData.eqv, PyData.eqvAll]
                  rw [ee]
                  generalize upd Hz o (.lst []) = Ho at ko ⊢
                  have kyo := kz.trans ko
                  cases y3 : us.all (okStep n) with
                  | false =>
                    rw [y3] at fin
                    exact ⟨.bl false, rfl, false, rfl, fin _ _ ⟨kyo, _, _, _, _, _, _, _, _, _, _, _, rfl⟩⟩
                  | true =>
                    rw [y3] at fin
                    have hst : ∀ s ∈ us, s ∈ stp n := fun s hs => okStep_mem.mp (List.all_eq_true.mp y3 s hs)
                    have hbo := kyo.tup _ _ hb
                    have kGo := kyG.trans kyo.weak
                    refine ⟨.bl true, rfl, true, rfl, .ref as, rfl, .ref b, rfl, b, _, 1, .ref b2, rfl, rfl, SqT.of hbo, atI_nat (j := 1) rfl, .ref as, .ref b2, c, us, rfl, ⟨as, rfl, kGo.tup _ _ has9⟩, ⟨b2, uxs, rfl, kyo.tup _ _ hb2, tis_mono kyo.tup hux⟩, fun s hs => ?_, by rw [ch_len hn hcm]; omega, fun vd Hd ld hdone => ?_⟩
                    · have := stp_facts.mp (hst s hs)
                      rw [ch_len hn hcm]
                      exact ⟨this.1, this.2.1⟩
                    · have kyd := kyo.trans ld
                      have kGd := kyG.trans kyd.weak
                      refine ⟨.ref ag, rfl, _, _, TI.dp hdone, TI.dp (⟨ag, rfl, kGd.tup _ _ hag9⟩ : TI Hd (.ref ag) g), shaped_ti _, shaped_ti g, ?_⟩
                      rw [eqv_tups]
                      refine ⟨_, rfl, ?_⟩
                      cases y4 : decide (doneTo c us = g) with
                      | false =>
                        rw [y4] at fin
                        exact fin _ _ ⟨kyd, _, _, _, _, _, _, _, _, _, _, _, rfl⟩
                      | true =>
                        rw [y4] at fin
                        have hbd := kyd.tup _ _ hb
                        refine ⟨.ref b, rfl, b, _, 1, .ref b2, rfl, rfl, SqT.of hbd, atI_nat (j := 1) rfl, b2, rfl, ⟨uxs, SqT.of (kyd.tup _ _ hb2)⟩, fun D2 nD2 => ?_⟩
                        refine lc_tup (xs := uxs) (fun j He => Le [] T Hd He ∧ He D2 = some (.lst (((us.take j).map (wt pr)).map V.int))) ⟨Le.one nD2, upd_same⟩ (fun j He _ hP => SqT.of ((kyd.trans hP.1).tup _ _ hb2)) (fun j u He hu hP => ?_) (fun He hP => ?_)
                        · obtain ⟨ke, hD2⟩ := hP
                          obtain ⟨c2, hc2, hxc⟩ := paired_at hux hu
                          obtain ⟨s, hs, rfl⟩ := map_at hc2
                          obtain ⟨bs, rfl, hbs⟩ := hxc.mono (kyd.trans ke).tup
                          have hsm := hst s (List.mem_of_getElem? hs)
                          obtain ⟨ap', xp', eap, hap', hxp'⟩ := (pz9.on (kGd.trans ke.weak)).tt
                          cases eap
                          obtain ⟨rr, l, hat1, hr0, hat2⟩ := price_at hok hsm hxp'
                          refine ⟨bs, [.int s.1, .int s.2], rfl, SqT.of hbs, rfl, .int s.1, [.int s.2], rfl, .int s.2, [], rfl, rfl, rfl, ?_⟩
                          refine ⟨.ref ap, rfl, .int s.1, rfl, s.1, 1, rfl, rfl, ap, xp', s.1 - 1, .ref rr, rfl, rfl, SqT.of hap', hat1, .int s.2, rfl, rr, _, s.2, _, rfl, rfl, SqT.of hr0, hat2, _, hD2, small1000 (by rw [List.length_map, List.length_map, List.length_take]; omega), ke.new nD2, ?_⟩
                          rw [upd_same, take_snoc hs, List.map_append, List.map_append]
                          rfl
                        · obtain ⟨ke, hD2⟩ := hP
                          rw [uxl, List.take_length] at hD2
                          refine ⟨D2, us.map (wt pr), rfl, SqL.of hD2, .int x, rfl, rfl, ?_⟩
                          rw [dvi]
                          exact fin _ _ ⟨kyd.trans ke, _, _, _, _, _, _, _, _, _, _, _, rfl⟩
      · obtain ⟨ky, y10, y11, y12, y13, y15, y17, y18, y19, y20, y21, y22, y23, y24, rfl⟩ := hP
        have kyG := kG.trans ky.weak
        refine ⟨.ref as, rfl, .ref ag, rfl, .ref ap, rfl, .ref tn, rfl, .int x, rfl, .ref as, .ref ag, .ref ap, .ref tn, x, n, c, g, pr, nums', rfl, pz9.on kyG, hP.2.2.2.2, ⟨as, rfl, kyG.tup _ _ has9⟩, hcm, ⟨tn, rfl, ?_⟩, nl.symm, hbest, fun H' _ => q H'⟩
        have ltn : Le [r] T H10 GG := (((l11.trans l12).trans (l13.trans l14)).trans k1A).weak.trans (kA.trans ((kB.trans (kC.trans kD)).trans kE).weak)
        exact ky.tup _ _ (ltn.tup _ _ htn)
end
end Cd

set_option Elab.async false
set_option linter.all false
set_option maxRecDepth 100000
set_option maxHeartbeats 8000000
/-! what the top has left; the end -/
namespace Cd
open PySem PySem.Spec PyProof.Rows L2 Cm
def fnObj (x : Str) (st : Stmt) (oc : Value) (od : Option Addr) (kV dc pm : Value) (an : Option Addr) (cd ct : Value) (sl : Array (Option Value)) : Obj :=
  ⟨oc, od, .func (PySem.W.fnOf x x (defArgs st) (defBody st) (defScope st) .none kV dc pm an cd ct), sl⟩
def Df.of {K : PySem.W.Frag} {h : Heap} {mg : Str → Option Value} {x : Str} {st : Stmt} {ps : List Str} {f : Addr} {oc kV dc pm cd ct : Value} {od an : Option Addr} {sl : Array (Option Value)} (X : K.In h) (G : h.Ns mainGlobals mg)
    (a : PySem.W.nsIn K mainGlobals x = some (some (.ref f))) (l : K.lookup f = some ⟨oc, od, .func (PySem.W.fnOf x x (defArgs st) (defBody st) (defScope st) .none kV dc pm an cd ct), sl⟩) (c : PySem.W.codeIn K cd x = true) (k : PySem.W.keepIn K (.ref f) = true)
    (hb : ∀ (kV doc pm : Value) (an : Option Addr) (cdv ct : Value) (us : List Value), us.length = ps.length → bindArgs (PySem.W.fnOf x x (defArgs st) (defBody st) (defScope st) .none kV doc pm an cdv ct) ⟨us, []⟩ = pure (ps.zip us)) : Df K mg x st ps :=
  ⟨f, _, fun_mk l c k, (fun_mk l c k).binds hb, PySem.W.mg_of X G a⟩
def DfG.of {K : PySem.W.Frag} {h : Heap} {mg : Str → Option Value} {x : Str} {st : Stmt} {ps : List Str} {f cc : Addr} {oc kV dc pm ct : Value} {od an : Option Addr} {sl : Array (Option Value)} (X : K.In h) (G : h.Ns mainGlobals mg)
    (a : PySem.W.nsIn K mainGlobals x = some (some (.ref f))) (l : K.lookup f = some ⟨oc, od, .func (PySem.W.fnOf x x (defArgs st) (defBody st) (defScope st) .none kV dc pm an (.ref cc) ct), sl⟩) (c : PySem.W.codeIn K (.ref cc) x = true) (k : PySem.W.keepIn K (.ref f) = true)
    (hb : ∀ (kV doc pm : Value) (an : Option Addr) (cdv ct : Value) (us : List Value), us.length = ps.length → bindArgs (PySem.W.fnOf x x (defArgs st) (defBody st) (defScope st) .none kV doc pm an cdv ct) ⟨us, []⟩ = pure (ps.zip us)) : DfG K mg x st ps :=
  ⟨f, _, cc, ⟨⟨oc, od, kV, dc, pm, an, ct, sl, rfl, l, c⟩, k⟩, (fun_mk l c k).binds hb, PySem.W.mg_of X G a⟩
/-- all the defs -/
structure Ds (K : PySem.W.Frag) (mg : Str → Option Value) where
  d_is_in : Df K mg "is_in" sIn ["value", "least", "most"]
  d_comes_up : Df K mg "comes_up" sComes ["chiefs"]
  d_is_chart : DfG K mg "is_chart" sIsChart ["value"]
  d_need_chart : Df K mg "need_chart" sNeedChart ["chart"]
  d_all_charts : Df K mg "all_charts" sAllCharts ["size"]
  d_is_step : Df K mg "is_step" sIsStep ["size", "value"]
  d_stepped : Df K mg "stepped" sStepped ["chart", "step"]
  d_are_steps : DfG K mg "are_steps" sAreSteps ["size", "value", "most"]
  d_trace : Df K mg "trace" sTrace ["chart", "row"]
  d_all_steps : Df K mg "all_steps" sAllSteps ["size"]
  d_need_two : Df K mg "need_two" sNeedTwo ["start", "goal"]
  d_are_prices : DfG K mg "are_prices" sArePrices ["size", "value"]
  d_need_shaped : Df K mg "need_shaped" sNeedShaped ["size", "prices"]
  d_need_priced_few : Df K mg "need_priced_few" sNeedFew ["size"]
  d_need_prices : Df K mg "need_prices" sNeedPrices ["size", "prices"]
  d_least_rows : Df K mg "least_rows" sLeast ["goal", "prices"]
  d_need_priced : Df K mg "need_priced" sNeedPriced ["start", "goal", "prices"]
  d_cheap_row : Df K mg "cheap_row" sCheap ["start", "goal", "prices"]
  d_price_of : DfG K mg "price_of" sPriceOf ["prices", "row"]
  d_shows_cheap_row : Df K mg "shows_cheap_row" sShowsRow ["start", "goal", "prices", "value"]
  d_worths : Df K mg "worths" sWorths ["goal", "prices"]
  d_shows_price_paper : DfG K mg "shows_price_paper" sShowsPaper ["start", "goal", "prices", "value"]
  d__law_taken : Df K mg "_law_taken" sTaken ["_law_row_here", "_law_many"]
  d__law_pick : Df K mg "_law_pick" sPick ["_law_row_here", "_law_things"]
  d__law_alike : Df K mg "_law_alike" sAlike ["_law_found", "_law_due"]
  d__law_step : Df K mg "_law_step" sLStep ["_law_chart_here", "_law_step_here"]
  d__law_done : Df K mg "_law_done" sLDone ["_law_chart_here", "_law_steps_here"]
  d__law_steps : Df K mg "_law_steps" sLSteps ["_law_size"]
  d__law_row : Df K mg "_law_row" sLRow ["_law_row_here", "_law_size", "_law_most"]
  d__law_is_chart : Df K mg "_law_is_chart" sLIsChart ["_law_value"]
  d__law_charts : Df K mg "_law_charts" sLCharts ["_law_size"]
  d__law_chart : Df K mg "_law_chart" sLChart ["_law_row_here", "_law_size"]
  d__law_table : Df K mg "_law_table" sLTable ["_law_row_here", "_law_size", "_law_low", "_law_many"]
  d__law_papers : Df K mg "_law_papers" sLPapers ["_law_start", "_law_goal", "_law_prices", "_law_numbers", "_law_best"]
  d_law : Df K mg "law" sLaw ["_law_script"]
section
variable {P : Program} {w : World} {K : PySem.W.Frag} {mg : Str → Option Value} {base : Heap}
def lw_of {T : List Addr} {P1 P2 P3 P4 P5 : Addr} (B : Bl mg) (C : Cs mg) (D : Ds K mg) (T1 : GxR.TabB base mg D.d_is_chart.c P1) (T2 : GxR.TabB base mg D.d_are_prices.c P2) (T3 : GxR.TabB base mg D.d_are_steps.c P3) (T4 : GxR.TabB base mg D.d_price_of.c P4) (T5 : GxR.TabB base mg D.d_shows_price_paper.c P5) :
    Lw P w K mg base T P1 P2 P3 P4 P5 :=
  have GI : FnOk P w K mg base CX0 3 D.d_is_chart.f D.d_is_chart.fd ["value"] (spIsChart P1 T) := let ⟨_, hM⟩ := C.people; ok_isChart B hM D.d_is_in D.d_comes_up D.d_is_chart T1
  have GP : FnOk P w K mg base CX0 3 D.d_are_prices.f D.d_are_prices.fd ["size", "value"] (spArePrices P2 T) := ok_arePrices B C D.d_is_in D.d_are_prices T2
  have GN : FnOk P w K mg base CX0 4 D.d_need_chart.f D.d_need_chart.fd ["chart"] (spNeedChart P1 T) := ok_needChart (gC := D.d_is_chart.g) (kC := D.d_is_chart.F.kp) (bC := D.d_is_chart.b) GI D.d_need_chart
  have G2 : FnOk P w K mg base CX0 5 D.d_need_two.f D.d_need_two.fd ["start", "goal"] (spNeedTwo P1 T) := ok_needTwo (gC := D.d_is_chart.g) (kC := D.d_is_chart.F.kp) (bC := D.d_is_chart.b) B GI D.d_need_chart D.d_need_two
  have GQ : FnOk P w K mg base CX0 5 D.d_need_prices.f D.d_need_prices.fd ["size", "prices"] (spNeedPrices P2 T) := ok_needPrices (gC := D.d_are_prices.g) (kC := D.d_are_prices.F.kp) (bC := D.d_are_prices.b) C GP D.d_need_shaped D.d_need_priced_few D.d_need_prices
  have GR : FnOk P w K mg base CX0 6 D.d_need_priced.f D.d_need_priced.fd ["start", "goal", "prices"] (spNeedPriced P1 P2 T) := ok_needPriced B D.d_need_two.g D.d_need_two.F.kp D.d_need_two.b G2 D.d_need_prices.g D.d_need_prices.F.kp D.d_need_prices.b GQ D.d_need_priced
  have GL : FnOk P w K mg base CX0 3 D.d_least_rows.f D.d_least_rows.fd ["goal", "prices"] (spLeast T) := ok_least B D.d_all_steps D.d_comes_up D.d_all_charts D.d_stepped D.d_least_rows
  have G3 : FnOk P w K mg base CX0 4 D.d_are_steps.f D.d_are_steps.fd nAreSteps (spAreSteps P3 T) := ok_areSteps B D.d_is_in D.d_is_step D.d_are_steps T3
  have G4 : FnOk P w K mg base CX0 3 D.d_price_of.f D.d_price_of.fd ["prices", "row"] (spPriceOf P4 T) := ok_priceOf B D.d_price_of T4
  have G5 : FnOk P w K mg base CX0 7 D.d_shows_price_paper.f D.d_shows_price_paper.fd ["start", "goal", "prices", "value"] (spShowsPaper P1 P2 P5 T) :=
    ok_showsPaper B D.d_need_priced.g D.d_need_priced.F.kp D.d_need_priced.b GR D.d_least_rows GL D.d_all_steps D.d_comes_up D.d_all_charts D.d_stepped D.d_shows_price_paper T5
  { ft := _, ft' := _, gt := D.d__law_taken.g, kt := D.d__law_taken.F.kp, bt := D.d__law_taken.b, Gt := ok_taken B D.d__law_taken
    fc := _, fc' := _, gc := D.d__law_chart.g, kc := D.d__law_chart.F.kp, bc := D.d__law_chart.b, Gc := ok_LChart B D.d__law_taken D.d__law_pick D.d__law_chart
    fs := _, fs' := _, gs := D.d__law_steps.g, ks := D.d__law_steps.F.kp, bs := D.d__law_steps.b, Gs := ok_LSteps B D.d__law_steps
    fb := _, fb' := _, gb := D.d__law_table.g, kb := D.d__law_table.F.kp, bb := D.d__law_table.b, Gb := ok_LTable B D.d__law_taken D.d__law_table
    fh := _, fh' := _, gh := D.d__law_charts.g, kh := D.d__law_charts.F.kp, bh := D.d__law_charts.b, Gh := ok_LCharts B D.d__law_is_chart D.d__law_charts
    fp := _, fp' := _, gp := D.d__law_step.g, kp := D.d__law_step.F.kp, bp := D.d__law_step.b, Gp := ok_LStep B D.d__law_step
    fa := _, fa' := _, ga := D.d__law_alike.g, ka := D.d__law_alike.F.kp, ba := D.d__law_alike.b, Ga0 := ok_alike0 B D.d__law_alike, Ga1 := ok_alike1 B D.d__law_alike
    fw := _, fw' := _, gw := D.d_worths.g, kw := D.d_worths.F.kp, bw := D.d_worths.b, Gw := ok_worths B D.d_need_chart.g D.d_need_chart.F.kp D.d_need_chart.b GN D.d_need_prices.g D.d_need_prices.F.kp D.d_need_prices.b GQ D.d_least_rows GL D.d_worths
    fe := _, fe' := _, ge := D.d_cheap_row.g, ke := D.d_cheap_row.F.kp, be := D.d_cheap_row.b, Ge := ok_cheap B D.d_need_priced.g D.d_need_priced.F.kp D.d_need_priced.b GR D.d_least_rows GL D.d_stepped D.d_cheap_row
    fq := _, fq' := _, gq := D.d_shows_cheap_row.g, kq := D.d_shows_cheap_row.F.kp, bq := D.d_shows_cheap_row.b,
    Gq := ok_showsRow B C D.d_need_priced.g D.d_need_priced.F.kp D.d_need_priced.b GR D.d_least_rows GL D.d_is_in D.d_are_steps.g D.d_are_steps.F.kp D.d_are_steps.b G3 D.d_price_of.g D.d_price_of.F.kp D.d_price_of.b G4 D.d_stepped D.d_trace D.d_shows_cheap_row
    fr := _, fr' := _, gr := D.d__law_row.g, kr := D.d__law_row.F.kp, br := D.d__law_row.b, Gr := ok_LRow B D.d__law_taken D.d__law_pick D.d__law_steps D.d__law_row
    fd := _, fd' := _, gd := D.d__law_done.g, kd := D.d__law_done.F.kp, bd := D.d__law_done.b, Gd := ok_LDone B D.d__law_step D.d__law_done
    fo := _, fo' := _, go := D.d__law_papers.g, ko := D.d__law_papers.F.kp, bo := D.d__law_papers.b, Go := ok_papers B D.d__law_is_chart D.d__law_charts D.d__law_steps D.d__law_step D.d__law_alike D.d_shows_price_paper.g D.d_shows_price_paper.F.kp D.d_shows_price_paper.b G5 D.d__law_papers }
end
theorem hd_of {K : PySem.W.Frag} {c Pt : Addr} {dd : Option Addr} {vs : Array Value} {sl : Array (Option Value)} (kc : K.lookup c = some ⟨.type "code", dd, .fields vs, sl⟩)
    (e : PySem.W.codeHdIn [(c, ⟨.type "code", dd, .fields vs, sl⟩)] c Pt = true) : PySem.W.codeHdIn K c Pt = true := by
  have e1 : ([(c, (⟨.type "code", dd, .fields vs, sl⟩ : Obj))] : PySem.W.Frag).lookup c = some ⟨.type "code", dd, .fields vs, sl⟩ := by simp [List.lookup]
  unfold PySem.W.codeHdIn at e ⊢
  rw [e1] at e
  rw [kc]
  exact e
/-- the table of a def's code object is empty at the start -/
def TabE (K : PySem.W.Frag) (mg : Str → Option Value) (h : Heap) (x : Str) : Prop := ∀ (f c Pt : Addr) (ob : Obj) (fd : FuncData), mg x = some (.ref f) → K.lookup f = some ob → ob.data = .func fd → fd.code = .ref c → PySem.W.codeHdIn K c Pt = true → h.get? Pt = some { cls := .none, data := .fields #[] }

end Cd

set_option Elab.async false
set_option linter.all false
set_option maxRecDepth 100000
set_option maxHeartbeats 16000000
/-! the facts joined -/
namespace Cd
open PySem PySem.Spec PyProof.Rows L2 Cm
/-- the end where several defs hold generator expressions -/
theorem walk_tabs {lw : PySem.W.OpenLaw} {most lev : Nat} {pg : Program} {lse : List Str} {XQ : (Str → Option Value) → Heap → Prop} {YQ : World → Heap → Prop} {rec : DefRec} {KP : Params → PySem.W.Frag} {CC : World → CXT} {arg : Str} (names : List Str)
    (h1 : lw.most = some most) (h2 : most ≤ sizeLine) (h3 : rec.params.defaults = []) (h4 : Room lev callerA) (h5 : ∀ nm ∈ names, ((recsOf pg).any fun e => e.name == nm) = true) (h6 : ∀ (w : World) (hp : Heap), YQ w hp → (KP w.params).In hp)
    (h7 : ∀ (w : World) (mg : Str → Option Value) (f0 : Addr) (hp : Heap), YQ w hp → (KP w.params).In hp → hp.Ns mainGlobals mg → mg rec.name = some (.ref f0) → (∀ nm ∈ names, TabE (KP w.params) mg hp nm) → LamX.LawAtS lw w (KP w.params) (CC w) lev most arg mg f0 hp)
    (h8 : ∀ (w : World) (H : Hp) (s : Shared) (e : Value) (s' : Shared), CC w [] H s (fun _ _ _ => False) e s' → False) :
    PySem.W.WalkO pg lse XQ YQ lw.row.toRowW rec [] (fun f vs => PySem.call f vs) := by
  refine Att.attach_callB h1 h3 fun wd st0 st mg mb f0 ob pm cd doc scr vals nums G Y g1 g2 g3 hmg gobj gints glen gbits ggen => ?_
  have KI := h6 wd _ Y
  have tabs : ∀ nm ∈ names, TabE (KP wd.params) mg st.heap nm := fun nm hnm f c Pt ob fd hf hk hd2 hc2 hh => by
    obtain ⟨dL, hm, hx⟩ := List.any_eq_true.mp (h5 nm hnm)
    have en : dL.name = nm := beq_iff_eq.mp hx
    obtain ⟨f', o', fd', c', P', t1, t2, t3, t4, t5, ⟨oc, vc, u1, _, u3, u4⟩, u5⟩ := G.T.tab dL hm
    rw [en, hf] at t1
    cases t1
    rw [KI _ _ hk] at t2
    cases t2
    rw [hd2] at t3
    cases t3
    rw [hc2] at t4
    cases t4
    obtain ⟨og, vg, _, _, _, _, _, _, _, q1, q2, q3, q4, _⟩ := PySem.W.codeHd_of_K KI hh
    rw [q1] at u1
    cases u1
    rw [q3] at u3
    cases u3
    rw [q4] at u4
    cases u4
    exact u5
  obtain ⟨fd, cs, sp, e1, e2, e3, e4, e5, e6⟩ := h7 wd mg f0 _ Y KI G.T.g hmg tabs
  exact LamX.law_callTs KI G.T.g G.T.b G.T.builtins G.T.nolimit ggen e1 e2 e3 G.T.bmain gobj gints (Nat.le_trans glen h2) h4 e6 e4
    (fun H a1 a2 => e5 H scr nums glen gbits a1 a2) fun H e s' => h8 wd H st e s'
theorem mem5 (a b c d e : Addr) : a ∈ [a, b, c, d, e] ∧ b ∈ [a, b, c, d, e] ∧ c ∈ [a, b, c, d, e] ∧ d ∈ [a, b, c, d, e] ∧ e ∈ [a, b, c, d, e] := by simp
def genNames : List Str := ["is_chart", "are_prices", "are_steps", "price_of", "shows_price_paper"]
theorem all_mk {lw : PySem.W.OpenLaw} {w : World} {K : PySem.W.Frag} {h : Heap} {mg : Str → Option Value} {fz : Addr} (X : K.In h) (G : h.Ns mainGlobals mg) (hmg : mg "law" = some (.ref fz)) (hT : ∀ nm ∈ genNames, TabE K mg h nm)
    {f0 : Addr} {oc0 kV0 dc0 pm0 cd0 ct0 : Value} {od0 an0 : Option Addr} {sl0 : Array (Option Value)}
    (a0 : PySem.W.nsIn K mainGlobals "is_in" = some (some (.ref f0))) (l0 : K.lookup f0 = some ⟨oc0, od0, .func (PySem.W.fnOf "is_in" "is_in" (defArgs sIn) (defBody sIn) (defScope sIn) .none kV0 dc0 pm0 an0 cd0 ct0), sl0⟩) (e0 : PySem.W.codeIn K cd0 "is_in" = true) (k0 : PySem.W.keepIn K (.ref f0) = true)
    {f1 : Addr} {oc1 kV1 dc1 pm1 cd1 ct1 : Value} {od1 an1 : Option Addr} {sl1 : Array (Option Value)}
    (a1 : PySem.W.nsIn K mainGlobals "comes_up" = some (some (.ref f1))) (l1 : K.lookup f1 = some ⟨oc1, od1, .func (PySem.W.fnOf "comes_up" "comes_up" (defArgs sComes) (defBody sComes) (defScope sComes) .none kV1 dc1 pm1 an1 cd1 ct1), sl1⟩) (e1 : PySem.W.codeIn K cd1 "comes_up" = true) (k1 : PySem.W.keepIn K (.ref f1) = true)
    {f2 : Addr} {oc2 kV2 dc2 pm2 ct2 : Value} {od2 an2 : Option Addr} {sl2 : Array (Option Value)} {c2 Pt2 : Addr} {dd2 : Option Addr} {vs2 : Array Value} {sm2 : Array (Option Value)}
    (a2 : PySem.W.nsIn K mainGlobals "is_chart" = some (some (.ref f2))) (l2 : K.lookup f2 = some ⟨oc2, od2, .func (PySem.W.fnOf "is_chart" "is_chart" (defArgs sIsChart) (defBody sIsChart) (defScope sIsChart) .none kV2 dc2 pm2 an2 (.ref c2) ct2), sl2⟩) (e2 : PySem.W.codeIn K (.ref c2) "is_chart" = true) (k2 : PySem.W.keepIn K (.ref f2) = true)
    (kc2 : K.lookup c2 = some ⟨.type "code", dd2, .fields vs2, sm2⟩) (kp2 : vs2[11]? = some (.ref Pt2)) (kh2 : PySem.W.codeHdIn [(c2, ⟨.type "code", dd2, .fields vs2, sm2⟩)] c2 Pt2 = true) (kn2 : K.lookup Pt2 = none)
    {f3 : Addr} {oc3 kV3 dc3 pm3 cd3 ct3 : Value} {od3 an3 : Option Addr} {sl3 : Array (Option Value)}
    (a3 : PySem.W.nsIn K mainGlobals "need_chart" = some (some (.ref f3))) (l3 : K.lookup f3 = some ⟨oc3, od3, .func (PySem.W.fnOf "need_chart" "need_chart" (defArgs sNeedChart) (defBody sNeedChart) (defScope sNeedChart) .none kV3 dc3 pm3 an3 cd3 ct3), sl3⟩) (e3 : PySem.W.codeIn K cd3 "need_chart" = true) (k3 : PySem.W.keepIn K (.ref f3) = true)
    {f4 : Addr} {oc4 kV4 dc4 pm4 cd4 ct4 : Value} {od4 an4 : Option Addr} {sl4 : Array (Option Value)}
    (a4 : PySem.W.nsIn K mainGlobals "all_charts" = some (some (.ref f4))) (l4 : K.lookup f4 = some ⟨oc4, od4, .func (PySem.W.fnOf "all_charts" "all_charts" (defArgs sAllCharts) (defBody sAllCharts) (defScope sAllCharts) .none kV4 dc4 pm4 an4 cd4 ct4), sl4⟩) (e4 : PySem.W.codeIn K cd4 "all_charts" = true) (k4 : PySem.W.keepIn K (.ref f4) = true)
    {f5 : Addr} {oc5 kV5 dc5 pm5 cd5 ct5 : Value} {od5 an5 : Option Addr} {sl5 : Array (Option Value)}
    (a5 : PySem.W.nsIn K mainGlobals "is_step" = some (some (.ref f5))) (l5 : K.lookup f5 = some ⟨oc5, od5, .func (PySem.W.fnOf "is_step" "is_step" (defArgs sIsStep) (defBody sIsStep) (defScope sIsStep) .none kV5 dc5 pm5 an5 cd5 ct5), sl5⟩) (e5 : PySem.W.codeIn K cd5 "is_step" = true) (k5 : PySem.W.keepIn K (.ref f5) = true)
    {f6 : Addr} {oc6 kV6 dc6 pm6 cd6 ct6 : Value} {od6 an6 : Option Addr} {sl6 : Array (Option Value)}
    (a6 : PySem.W.nsIn K mainGlobals "stepped" = some (some (.ref f6))) (l6 : K.lookup f6 = some ⟨oc6, od6, .func (PySem.W.fnOf "stepped" "stepped" (defArgs sStepped) (defBody sStepped) (defScope sStepped) .none kV6 dc6 pm6 an6 cd6 ct6), sl6⟩) (e6 : PySem.W.codeIn K cd6 "stepped" = true) (k6 : PySem.W.keepIn K (.ref f6) = true)
    {f7 : Addr} {oc7 kV7 dc7 pm7 ct7 : Value} {od7 an7 : Option Addr} {sl7 : Array (Option Value)} {c7 Pt7 : Addr} {dd7 : Option Addr} {vs7 : Array Value} {sm7 : Array (Option Value)}
    (a7 : PySem.W.nsIn K mainGlobals "are_steps" = some (some (.ref f7))) (l7 : K.lookup f7 = some ⟨oc7, od7, .func (PySem.W.fnOf "are_steps" "are_steps" (defArgs sAreSteps) (defBody sAreSteps) (defScope sAreSteps) .none kV7 dc7 pm7 an7 (.ref c7) ct7), sl7⟩) (e7 : PySem.W.codeIn K (.ref c7) "are_steps" = true) (k7 : PySem.W.keepIn K (.ref f7) = true)
    (kc7 : K.lookup c7 = some ⟨.type "code", dd7, .fields vs7, sm7⟩) (kp7 : vs7[11]? = some (.ref Pt7)) (kh7 : PySem.W.codeHdIn [(c7, ⟨.type "code", dd7, .fields vs7, sm7⟩)] c7 Pt7 = true) (kn7 : K.lookup Pt7 = none)
    {f8 : Addr} {oc8 kV8 dc8 pm8 cd8 ct8 : Value} {od8 an8 : Option Addr} {sl8 : Array (Option Value)}
    (a8 : PySem.W.nsIn K mainGlobals "trace" = some (some (.ref f8))) (l8 : K.lookup f8 = some ⟨oc8, od8, .func (PySem.W.fnOf "trace" "trace" (defArgs sTrace) (defBody sTrace) (defScope sTrace) .none kV8 dc8 pm8 an8 cd8 ct8), sl8⟩) (e8 : PySem.W.codeIn K cd8 "trace" = true) (k8 : PySem.W.keepIn K (.ref f8) = true)
    {f9 : Addr} {oc9 kV9 dc9 pm9 cd9 ct9 : Value} {od9 an9 : Option Addr} {sl9 : Array (Option Value)}
    (a9 : PySem.W.nsIn K mainGlobals "all_steps" = some (some (.ref f9))) (l9 : K.lookup f9 = some ⟨oc9, od9, .func (PySem.W.fnOf "all_steps" "all_steps" (defArgs sAllSteps) (defBody sAllSteps) (defScope sAllSteps) .none kV9 dc9 pm9 an9 cd9 ct9), sl9⟩) (e9 : PySem.W.codeIn K cd9 "all_steps" = true) (k9 : PySem.W.keepIn K (.ref f9) = true)
    {f10 : Addr} {oc10 kV10 dc10 pm10 cd10 ct10 : Value} {od10 an10 : Option Addr} {sl10 : Array (Option Value)}
    (a10 : PySem.W.nsIn K mainGlobals "need_two" = some (some (.ref f10))) (l10 : K.lookup f10 = some ⟨oc10, od10, .func (PySem.W.fnOf "need_two" "need_two" (defArgs sNeedTwo) (defBody sNeedTwo) (defScope sNeedTwo) .none kV10 dc10 pm10 an10 cd10 ct10), sl10⟩) (e10 : PySem.W.codeIn K cd10 "need_two" = true) (k10 : PySem.W.keepIn K (.ref f10) = true)
    {f11 : Addr} {oc11 kV11 dc11 pm11 ct11 : Value} {od11 an11 : Option Addr} {sl11 : Array (Option Value)} {c11 Pt11 : Addr} {dd11 : Option Addr} {vs11 : Array Value} {sm11 : Array (Option Value)}
    (a11 : PySem.W.nsIn K mainGlobals "are_prices" = some (some (.ref f11))) (l11 : K.lookup f11 = some ⟨oc11, od11, .func (PySem.W.fnOf "are_prices" "are_prices" (defArgs sArePrices) (defBody sArePrices) (defScope sArePrices) .none kV11 dc11 pm11 an11 (.ref c11) ct11), sl11⟩) (e11 : PySem.W.codeIn K (.ref c11) "are_prices" = true) (k11 : PySem.W.keepIn K (.ref f11) = true)
    (kc11 : K.lookup c11 = some ⟨.type "code", dd11, .fields vs11, sm11⟩) (kp11 : vs11[11]? = some (.ref Pt11)) (kh11 : PySem.W.codeHdIn [(c11, ⟨.type "code", dd11, .fields vs11, sm11⟩)] c11 Pt11 = true) (kn11 : K.lookup Pt11 = none)
    {f12 : Addr} {oc12 kV12 dc12 pm12 cd12 ct12 : Value} {od12 an12 : Option Addr} {sl12 : Array (Option Value)}
    (a12 : PySem.W.nsIn K mainGlobals "need_shaped" = some (some (.ref f12))) (l12 : K.lookup f12 = some ⟨oc12, od12, .func (PySem.W.fnOf "need_shaped" "need_shaped" (defArgs sNeedShaped) (defBody sNeedShaped) (defScope sNeedShaped) .none kV12 dc12 pm12 an12 cd12 ct12), sl12⟩) (e12 : PySem.W.codeIn K cd12 "need_shaped" = true) (k12 : PySem.W.keepIn K (.ref f12) = true)
    {f13 : Addr} {oc13 kV13 dc13 pm13 cd13 ct13 : Value} {od13 an13 : Option Addr} {sl13 : Array (Option Value)}
    (a13 : PySem.W.nsIn K mainGlobals "need_priced_few" = some (some (.ref f13))) (l13 : K.lookup f13 = some ⟨oc13, od13, .func (PySem.W.fnOf "need_priced_few" "need_priced_few" (defArgs sNeedFew) (defBody sNeedFew) (defScope sNeedFew) .none kV13 dc13 pm13 an13 cd13 ct13), sl13⟩) (e13 : PySem.W.codeIn K cd13 "need_priced_few" = true) (k13 : PySem.W.keepIn K (.ref f13) = true)
    {f14 : Addr} {oc14 kV14 dc14 pm14 cd14 ct14 : Value} {od14 an14 : Option Addr} {sl14 : Array (Option Value)}
    (a14 : PySem.W.nsIn K mainGlobals "need_prices" = some (some (.ref f14))) (l14 : K.lookup f14 = some ⟨oc14, od14, .func (PySem.W.fnOf "need_prices" "need_prices" (defArgs sNeedPrices) (defBody sNeedPrices) (defScope sNeedPrices) .none kV14 dc14 pm14 an14 cd14 ct14), sl14⟩) (e14 : PySem.W.codeIn K cd14 "need_prices" = true) (k14 : PySem.W.keepIn K (.ref f14) = true)
    {f15 : Addr} {oc15 kV15 dc15 pm15 cd15 ct15 : Value} {od15 an15 : Option Addr} {sl15 : Array (Option Value)}
    (a15 : PySem.W.nsIn K mainGlobals "least_rows" = some (some (.ref f15))) (l15 : K.lookup f15 = some ⟨oc15, od15, .func (PySem.W.fnOf "least_rows" "least_rows" (defArgs sLeast) (defBody sLeast) (defScope sLeast) .none kV15 dc15 pm15 an15 cd15 ct15), sl15⟩) (e15 : PySem.W.codeIn K cd15 "least_rows" = true) (k15 : PySem.W.keepIn K (.ref f15) = true)
    {f16 : Addr} {oc16 kV16 dc16 pm16 cd16 ct16 : Value} {od16 an16 : Option Addr} {sl16 : Array (Option Value)}
    (a16 : PySem.W.nsIn K mainGlobals "need_priced" = some (some (.ref f16))) (l16 : K.lookup f16 = some ⟨oc16, od16, .func (PySem.W.fnOf "need_priced" "need_priced" (defArgs sNeedPriced) (defBody sNeedPriced) (defScope sNeedPriced) .none kV16 dc16 pm16 an16 cd16 ct16), sl16⟩) (e16 : PySem.W.codeIn K cd16 "need_priced" = true) (k16 : PySem.W.keepIn K (.ref f16) = true)
    {f17 : Addr} {oc17 kV17 dc17 pm17 cd17 ct17 : Value} {od17 an17 : Option Addr} {sl17 : Array (Option Value)}
    (a17 : PySem.W.nsIn K mainGlobals "cheap_row" = some (some (.ref f17))) (l17 : K.lookup f17 = some ⟨oc17, od17, .func (PySem.W.fnOf "cheap_row" "cheap_row" (defArgs sCheap) (defBody sCheap) (defScope sCheap) .none kV17 dc17 pm17 an17 cd17 ct17), sl17⟩) (e17 : PySem.W.codeIn K cd17 "cheap_row" = true) (k17 : PySem.W.keepIn K (.ref f17) = true)
    {f18 : Addr} {oc18 kV18 dc18 pm18 ct18 : Value} {od18 an18 : Option Addr} {sl18 : Array (Option Value)} {c18 Pt18 : Addr} {dd18 : Option Addr} {vs18 : Array Value} {sm18 : Array (Option Value)}
    (a18 : PySem.W.nsIn K mainGlobals "price_of" = some (some (.ref f18))) (l18 : K.lookup f18 = some ⟨oc18, od18, .func (PySem.W.fnOf "price_of" "price_of" (defArgs sPriceOf) (defBody sPriceOf) (defScope sPriceOf) .none kV18 dc18 pm18 an18 (.ref c18) ct18), sl18⟩) (e18 : PySem.W.codeIn K (.ref c18) "price_of" = true) (k18 : PySem.W.keepIn K (.ref f18) = true)
    (kc18 : K.lookup c18 = some ⟨.type "code", dd18, .fields vs18, sm18⟩) (kp18 : vs18[11]? = some (.ref Pt18)) (kh18 : PySem.W.codeHdIn [(c18, ⟨.type "code", dd18, .fields vs18, sm18⟩)] c18 Pt18 = true) (kn18 : K.lookup Pt18 = none)
    {f19 : Addr} {oc19 kV19 dc19 pm19 cd19 ct19 : Value} {od19 an19 : Option Addr} {sl19 : Array (Option Value)}
    (a19 : PySem.W.nsIn K mainGlobals "shows_cheap_row" = some (some (.ref f19))) (l19 : K.lookup f19 = some ⟨oc19, od19, .func (PySem.W.fnOf "shows_cheap_row" "shows_cheap_row" (defArgs sShowsRow) (defBody sShowsRow) (defScope sShowsRow) .none kV19 dc19 pm19 an19 cd19 ct19), sl19⟩) (e19 : PySem.W.codeIn K cd19 "shows_cheap_row" = true) (k19 : PySem.W.keepIn K (.ref f19) = true)
    {f20 : Addr} {oc20 kV20 dc20 pm20 cd20 ct20 : Value} {od20 an20 : Option Addr} {sl20 : Array (Option Value)}
    (a20 : PySem.W.nsIn K mainGlobals "worths" = some (some (.ref f20))) (l20 : K.lookup f20 = some ⟨oc20, od20, .func (PySem.W.fnOf "worths" "worths" (defArgs sWorths) (defBody sWorths) (defScope sWorths) .none kV20 dc20 pm20 an20 cd20 ct20), sl20⟩) (e20 : PySem.W.codeIn K cd20 "worths" = true) (k20 : PySem.W.keepIn K (.ref f20) = true)
    {f21 : Addr} {oc21 kV21 dc21 pm21 ct21 : Value} {od21 an21 : Option Addr} {sl21 : Array (Option Value)} {c21 Pt21 : Addr} {dd21 : Option Addr} {vs21 : Array Value} {sm21 : Array (Option Value)}
    (a21 : PySem.W.nsIn K mainGlobals "shows_price_paper" = some (some (.ref f21))) (l21 : K.lookup f21 = some ⟨oc21, od21, .func (PySem.W.fnOf "shows_price_paper" "shows_price_paper" (defArgs sShowsPaper) (defBody sShowsPaper) (defScope sShowsPaper) .none kV21 dc21 pm21 an21 (.ref c21) ct21), sl21⟩) (e21 : PySem.W.codeIn K (.ref c21) "shows_price_paper" = true) (k21 : PySem.W.keepIn K (.ref f21) = true)
    (kc21 : K.lookup c21 = some ⟨.type "code", dd21, .fields vs21, sm21⟩) (kp21 : vs21[11]? = some (.ref Pt21)) (kh21 : PySem.W.codeHdIn [(c21, ⟨.type "code", dd21, .fields vs21, sm21⟩)] c21 Pt21 = true) (kn21 : K.lookup Pt21 = none)
    {f22 : Addr} {oc22 kV22 dc22 pm22 cd22 ct22 : Value} {od22 an22 : Option Addr} {sl22 : Array (Option Value)}
    (a22 : PySem.W.nsIn K mainGlobals "_law_taken" = some (some (.ref f22))) (l22 : K.lookup f22 = some ⟨oc22, od22, .func (PySem.W.fnOf "_law_taken" "_law_taken" (defArgs sTaken) (defBody sTaken) (defScope sTaken) .none kV22 dc22 pm22 an22 cd22 ct22), sl22⟩) (e22 : PySem.W.codeIn K cd22 "_law_taken" = true) (k22 : PySem.W.keepIn K (.ref f22) = true)
    {f23 : Addr} {oc23 kV23 dc23 pm23 cd23 ct23 : Value} {od23 an23 : Option Addr} {sl23 : Array (Option Value)}
    (a23 : PySem.W.nsIn K mainGlobals "_law_pick" = some (some (.ref f23))) (l23 : K.lookup f23 = some ⟨oc23, od23, .func (PySem.W.fnOf "_law_pick" "_law_pick" (defArgs sPick) (defBody sPick) (defScope sPick) .none kV23 dc23 pm23 an23 cd23 ct23), sl23⟩) (e23 : PySem.W.codeIn K cd23 "_law_pick" = true) (k23 : PySem.W.keepIn K (.ref f23) = true)
    {f24 : Addr} {oc24 kV24 dc24 pm24 cd24 ct24 : Value} {od24 an24 : Option Addr} {sl24 : Array (Option Value)}
    (a24 : PySem.W.nsIn K mainGlobals "_law_alike" = some (some (.ref f24))) (l24 : K.lookup f24 = some ⟨oc24, od24, .func (PySem.W.fnOf "_law_alike" "_law_alike" (defArgs sAlike) (defBody sAlike) (defScope sAlike) .none kV24 dc24 pm24 an24 cd24 ct24), sl24⟩) (e24 : PySem.W.codeIn K cd24 "_law_alike" = true) (k24 : PySem.W.keepIn K (.ref f24) = true)
    {f25 : Addr} {oc25 kV25 dc25 pm25 cd25 ct25 : Value} {od25 an25 : Option Addr} {sl25 : Array (Option Value)}
    (a25 : PySem.W.nsIn K mainGlobals "_law_step" = some (some (.ref f25))) (l25 : K.lookup f25 = some ⟨oc25, od25, .func (PySem.W.fnOf "_law_step" "_law_step" (defArgs sLStep) (defBody sLStep) (defScope sLStep) .none kV25 dc25 pm25 an25 cd25 ct25), sl25⟩) (e25 : PySem.W.codeIn K cd25 "_law_step" = true) (k25 : PySem.W.keepIn K (.ref f25) = true)
    {f26 : Addr} {oc26 kV26 dc26 pm26 cd26 ct26 : Value} {od26 an26 : Option Addr} {sl26 : Array (Option Value)}
    (a26 : PySem.W.nsIn K mainGlobals "_law_done" = some (some (.ref f26))) (l26 : K.lookup f26 = some ⟨oc26, od26, .func (PySem.W.fnOf "_law_done" "_law_done" (defArgs sLDone) (defBody sLDone) (defScope sLDone) .none kV26 dc26 pm26 an26 cd26 ct26), sl26⟩) (e26 : PySem.W.codeIn K cd26 "_law_done" = true) (k26 : PySem.W.keepIn K (.ref f26) = true)
    {f27 : Addr} {oc27 kV27 dc27 pm27 cd27 ct27 : Value} {od27 an27 : Option Addr} {sl27 : Array (Option Value)}
    (a27 : PySem.W.nsIn K mainGlobals "_law_steps" = some (some (.ref f27))) (l27 : K.lookup f27 = some ⟨oc27, od27, .func (PySem.W.fnOf "_law_steps" "_law_steps" (defArgs sLSteps) (defBody sLSteps) (defScope sLSteps) .none kV27 dc27 pm27 an27 cd27 ct27), sl27⟩) (e27 : PySem.W.codeIn K cd27 "_law_steps" = true) (k27 : PySem.W.keepIn K (.ref f27) = true)
    {f28 : Addr} {oc28 kV28 dc28 pm28 cd28 ct28 : Value} {od28 an28 : Option Addr} {sl28 : Array (Option Value)}
    (a28 : PySem.W.nsIn K mainGlobals "_law_row" = some (some (.ref f28))) (l28 : K.lookup f28 = some ⟨oc28, od28, .func (PySem.W.fnOf "_law_row" "_law_row" (defArgs sLRow) (defBody sLRow) (defScope sLRow) .none kV28 dc28 pm28 an28 cd28 ct28), sl28⟩) (e28 : PySem.W.codeIn K cd28 "_law_row" = true) (k28 : PySem.W.keepIn K (.ref f28) = true)
    {f29 : Addr} {oc29 kV29 dc29 pm29 cd29 ct29 : Value} {od29 an29 : Option Addr} {sl29 : Array (Option Value)}
    (a29 : PySem.W.nsIn K mainGlobals "_law_is_chart" = some (some (.ref f29))) (l29 : K.lookup f29 = some ⟨oc29, od29, .func (PySem.W.fnOf "_law_is_chart" "_law_is_chart" (defArgs sLIsChart) (defBody sLIsChart) (defScope sLIsChart) .none kV29 dc29 pm29 an29 cd29 ct29), sl29⟩) (e29 : PySem.W.codeIn K cd29 "_law_is_chart" = true) (k29 : PySem.W.keepIn K (.ref f29) = true)
    {f30 : Addr} {oc30 kV30 dc30 pm30 cd30 ct30 : Value} {od30 an30 : Option Addr} {sl30 : Array (Option Value)}
    (a30 : PySem.W.nsIn K mainGlobals "_law_charts" = some (some (.ref f30))) (l30 : K.lookup f30 = some ⟨oc30, od30, .func (PySem.W.fnOf "_law_charts" "_law_charts" (defArgs sLCharts) (defBody sLCharts) (defScope sLCharts) .none kV30 dc30 pm30 an30 cd30 ct30), sl30⟩) (e30 : PySem.W.codeIn K cd30 "_law_charts" = true) (k30 : PySem.W.keepIn K (.ref f30) = true)
    {f31 : Addr} {oc31 kV31 dc31 pm31 cd31 ct31 : Value} {od31 an31 : Option Addr} {sl31 : Array (Option Value)}
    (a31 : PySem.W.nsIn K mainGlobals "_law_chart" = some (some (.ref f31))) (l31 : K.lookup f31 = some ⟨oc31, od31, .func (PySem.W.fnOf "_law_chart" "_law_chart" (defArgs sLChart) (defBody sLChart) (defScope sLChart) .none kV31 dc31 pm31 an31 cd31 ct31), sl31⟩) (e31 : PySem.W.codeIn K cd31 "_law_chart" = true) (k31 : PySem.W.keepIn K (.ref f31) = true)
    {f32 : Addr} {oc32 kV32 dc32 pm32 cd32 ct32 : Value} {od32 an32 : Option Addr} {sl32 : Array (Option Value)}
    (a32 : PySem.W.nsIn K mainGlobals "_law_table" = some (some (.ref f32))) (l32 : K.lookup f32 = some ⟨oc32, od32, .func (PySem.W.fnOf "_law_table" "_law_table" (defArgs sLTable) (defBody sLTable) (defScope sLTable) .none kV32 dc32 pm32 an32 cd32 ct32), sl32⟩) (e32 : PySem.W.codeIn K cd32 "_law_table" = true) (k32 : PySem.W.keepIn K (.ref f32) = true)
    {f33 : Addr} {oc33 kV33 dc33 pm33 cd33 ct33 : Value} {od33 an33 : Option Addr} {sl33 : Array (Option Value)}
    (a33 : PySem.W.nsIn K mainGlobals "_law_papers" = some (some (.ref f33))) (l33 : K.lookup f33 = some ⟨oc33, od33, .func (PySem.W.fnOf "_law_papers" "_law_papers" (defArgs sLPapers) (defBody sLPapers) (defScope sLPapers) .none kV33 dc33 pm33 an33 cd33 ct33), sl33⟩) (e33 : PySem.W.codeIn K cd33 "_law_papers" = true) (k33 : PySem.W.keepIn K (.ref f33) = true)
    {f34 : Addr} {oc34 kV34 dc34 pm34 cd34 ct34 : Value} {od34 an34 : Option Addr} {sl34 : Array (Option Value)}
    (a34 : PySem.W.nsIn K mainGlobals "law" = some (some (.ref f34))) (l34 : K.lookup f34 = some ⟨oc34, od34, .func (PySem.W.fnOf "law" "law" (defArgs sLaw) (defBody sLaw) (defScope sLaw) .none kV34 dc34 pm34 an34 cd34 ct34), sl34⟩) (e34 : PySem.W.codeIn K cd34 "law" = true) (k34 : PySem.W.keepIn K (.ref f34) = true)
    (z0 : PySem.W.nsIn K mainGlobals "isinstance" = some none)
    (z1 : PySem.W.nsIn K mainGlobals "int" = some none)
    (z2 : PySem.W.nsIn K mainGlobals "bool" = some none)
    (z3 : PySem.W.nsIn K mainGlobals "str" = some none)
    (z4 : PySem.W.nsIn K mainGlobals "tuple" = some none)
    (z5 : PySem.W.nsIn K mainGlobals "list" = some none)
    (z6 : PySem.W.nsIn K mainGlobals "dict" = some none)
    (z7 : PySem.W.nsIn K mainGlobals "len" = some none)
    (z8 : PySem.W.nsIn K mainGlobals "range" = some none)
    (z9 : PySem.W.nsIn K mainGlobals "all" = some none)
    (z10 : PySem.W.nsIn K mainGlobals "sum" = some none)
    (z11 : PySem.W.nsIn K mainGlobals "sorted" = some none)
    (z12 : PySem.W.nsIn K mainGlobals "zip" = some none)
    {t0 : Tok} (y0 : PySem.W.nsIn K mainGlobals "MOST_PEOPLE" = some (some (.int 6 t0)))
    {t1 : Tok} (y1 : PySem.W.nsIn K mainGlobals "MOST_PRICE" = some (some (.int 1000 t1)))
    {t2 : Tok} (y2 : PySem.W.nsIn K mainGlobals "MOST_PRICED" = some (some (.int 4 t2)))
    {t3 : Tok} (y3 : PySem.W.nsIn K mainGlobals "MOST_CHEAP" = some (some (.int 200 t3)))
    : LamX.LawAtS lw w K CX0 9 63 "_law_script" mg fz h := by
  have eq0 := hmg.symm.trans (PySem.W.mg_of X G a34)
  cases eq0
  let D : Ds K mg := {
    d_is_in := Df.of X G a0 l0 e0 k0 (fun _ _ _ _ _ _ us hl => match us, hl with | [_, _, _], _ => rfl)
    d_comes_up := Df.of X G a1 l1 e1 k1 (fun _ _ _ _ _ _ us hl => match us, hl with | [_], _ => rfl)
    d_is_chart := DfG.of X G a2 l2 e2 k2 (fun _ _ _ _ _ _ us hl => match us, hl with | [_], _ => rfl)
    d_need_chart := Df.of X G a3 l3 e3 k3 (fun _ _ _ _ _ _ us hl => match us, hl with | [_], _ => rfl)
    d_all_charts := Df.of X G a4 l4 e4 k4 (fun _ _ _ _ _ _ us hl => match us, hl with | [_], _ => rfl)
    d_is_step := Df.of X G a5 l5 e5 k5 (fun _ _ _ _ _ _ us hl => match us, hl with | [_, _], _ => rfl)
    d_stepped := Df.of X G a6 l6 e6 k6 (fun _ _ _ _ _ _ us hl => match us, hl with | [_, _], _ => rfl)
    d_are_steps := DfG.of X G a7 l7 e7 k7 (fun _ _ _ _ _ _ us hl => match us, hl with | [_, _, _], _ => rfl)
    d_trace := Df.of X G a8 l8 e8 k8 (fun _ _ _ _ _ _ us hl => match us, hl with | [_, _], _ => rfl)
    d_all_steps := Df.of X G a9 l9 e9 k9 (fun _ _ _ _ _ _ us hl => match us, hl with | [_], _ => rfl)
    d_need_two := Df.of X G a10 l10 e10 k10 (fun _ _ _ _ _ _ us hl => match us, hl with | [_, _], _ => rfl)
    d_are_prices := DfG.of X G a11 l11 e11 k11 (fun _ _ _ _ _ _ us hl => match us, hl with | [_, _], _ => rfl)
    d_need_shaped := Df.of X G a12 l12 e12 k12 (fun _ _ _ _ _ _ us hl => match us, hl with | [_, _], _ => rfl)
    d_need_priced_few := Df.of X G a13 l13 e13 k13 (fun _ _ _ _ _ _ us hl => match us, hl with | [_], _ => rfl)
    d_need_prices := Df.of X G a14 l14 e14 k14 (fun _ _ _ _ _ _ us hl => match us, hl with | [_, _], _ => rfl)
    d_least_rows := Df.of X G a15 l15 e15 k15 (fun _ _ _ _ _ _ us hl => match us, hl with | [_, _], _ => rfl)
    d_need_priced := Df.of X G a16 l16 e16 k16 (fun _ _ _ _ _ _ us hl => match us, hl with | [_, _, _], _ => rfl)
    d_cheap_row := Df.of X G a17 l17 e17 k17 (fun _ _ _ _ _ _ us hl => match us, hl with | [_, _, _], _ => rfl)
    d_price_of := DfG.of X G a18 l18 e18 k18 (fun _ _ _ _ _ _ us hl => match us, hl with | [_, _], _ => rfl)
    d_shows_cheap_row := Df.of X G a19 l19 e19 k19 (fun _ _ _ _ _ _ us hl => match us, hl with | [_, _, _, _], _ => rfl)
    d_worths := Df.of X G a20 l20 e20 k20 (fun _ _ _ _ _ _ us hl => match us, hl with | [_, _], _ => rfl)
    d_shows_price_paper := DfG.of X G a21 l21 e21 k21 (fun _ _ _ _ _ _ us hl => match us, hl with | [_, _, _, _], _ => rfl)
    d__law_taken := Df.of X G a22 l22 e22 k22 (fun _ _ _ _ _ _ us hl => match us, hl with | [_, _], _ => rfl)
    d__law_pick := Df.of X G a23 l23 e23 k23 (fun _ _ _ _ _ _ us hl => match us, hl with | [_, _], _ => rfl)
    d__law_alike := Df.of X G a24 l24 e24 k24 (fun _ _ _ _ _ _ us hl => match us, hl with | [_, _], _ => rfl)
    d__law_step := Df.of X G a25 l25 e25 k25 (fun _ _ _ _ _ _ us hl => match us, hl with | [_, _], _ => rfl)
    d__law_done := Df.of X G a26 l26 e26 k26 (fun _ _ _ _ _ _ us hl => match us, hl with | [_, _], _ => rfl)
    d__law_steps := Df.of X G a27 l27 e27 k27 (fun _ _ _ _ _ _ us hl => match us, hl with | [_], _ => rfl)
    d__law_row := Df.of X G a28 l28 e28 k28 (fun _ _ _ _ _ _ us hl => match us, hl with | [_, _, _], _ => rfl)
    d__law_is_chart := Df.of X G a29 l29 e29 k29 (fun _ _ _ _ _ _ us hl => match us, hl with | [_], _ => rfl)
    d__law_charts := Df.of X G a30 l30 e30 k30 (fun _ _ _ _ _ _ us hl => match us, hl with | [_], _ => rfl)
    d__law_chart := Df.of X G a31 l31 e31 k31 (fun _ _ _ _ _ _ us hl => match us, hl with | [_, _], _ => rfl)
    d__law_table := Df.of X G a32 l32 e32 k32 (fun _ _ _ _ _ _ us hl => match us, hl with | [_, _, _, _], _ => rfl)
    d__law_papers := Df.of X G a33 l33 e33 k33 (fun _ _ _ _ _ _ us hl => match us, hl with | [_, _, _, _, _], _ => rfl)
    d_law := Df.of X G a34 l34 e34 k34 (fun _ _ _ _ _ _ us hl => match us, hl with | [_], _ => rfl)
  }
  have B : Bl mg := ⟨PySem.W.mg_none_of X G z0, PySem.W.mg_none_of X G z1, PySem.W.mg_none_of X G z2, PySem.W.mg_none_of X G z3, PySem.W.mg_none_of X G z4, PySem.W.mg_none_of X G z5, PySem.W.mg_none_of X G z6, PySem.W.mg_none_of X G z7, PySem.W.mg_none_of X G z8, PySem.W.mg_none_of X G z9, PySem.W.mg_none_of X G z10, PySem.W.mg_none_of X G z11, PySem.W.mg_none_of X G z12⟩
  have C : Cs mg := ⟨⟨_, PySem.W.mg_of X G y0⟩, ⟨_, PySem.W.mg_of X G y1⟩, ⟨_, PySem.W.mg_of X G y2⟩, ⟨_, PySem.W.mg_of X G y3⟩⟩
  have hh2 := hd_of kc2 kh2
  have tb2 := hT "is_chart" (by decide) f2 c2 Pt2 _ _ (PySem.W.mg_of X G a2) l2 rfl rfl hh2
  have hh11 := hd_of kc11 kh11
  have tb11 := hT "are_prices" (by decide) f11 c11 Pt11 _ _ (PySem.W.mg_of X G a11) l11 rfl rfl hh11
  have hh7 := hd_of kc7 kh7
  have tb7 := hT "are_steps" (by decide) f7 c7 Pt7 _ _ (PySem.W.mg_of X G a7) l7 rfl rfl hh7
  have hh18 := hd_of kc18 kh18
  have tb18 := hT "price_of" (by decide) f18 c18 Pt18 _ _ (PySem.W.mg_of X G a18) l18 rfl rfl hh18
  have hh21 := hd_of kc21 kh21
  have tb21 := hT "shows_price_paper" (by decide) f21 c21 Pt21 _ _ (PySem.W.mg_of X G a21) l21 rfl rfl hh21
  have each : ∀ {Q : Addr × Addr → Prop}, Q (c2, Pt2) → Q (c11, Pt11) → Q (c7, Pt7) → Q (c18, Pt18) → Q (c21, Pt21) → ∀ p ∈ ([(c2, Pt2), (c11, Pt11), (c7, Pt7), (c18, Pt18), (c21, Pt21)] : List (Addr × Addr)), Q p := fun {Q} q1 q2 q3 q4 q5 p hp => by
    rcases List.mem_cons.mp hp with rfl | hp
    · exact q1
    rcases List.mem_cons.mp hp with rfl | hp
    · exact q2
    rcases List.mem_cons.mp hp with rfl | hp
    · exact q3
    rcases List.mem_cons.mp hp with rfl | hp
    · exact q4
    rcases List.mem_cons.mp hp with rfl | hp
    · exact q5
    cases hp
  refine ⟨D.d_law.fd, [(c2, Pt2), (c11, Pt11), (c7, Pt7), (c18, Pt18), (c21, Pt21)], spLaw K [Pt2, Pt11, Pt7, Pt18, Pt21], each tb2 tb11 tb7 tb18 tb21, each kn2 kn11 kn7 kn18 kn21, each (PySem.W.codeHd_of_K X hh2) (PySem.W.codeHd_of_K X hh11) (PySem.W.codeHd_of_K X hh7) (PySem.W.codeHd_of_K X hh18) (PySem.W.codeHd_of_K X hh21), fun s v => .of_eq rfl, fun H a ns hlen _ hcs hS => ?_, fun base KB GB TB => ?_⟩
  · refine ⟨a, ns, rfl, hS, Nat.le_trans hlen (by decide), fun P hP => ?_, fun _ => rfl⟩
    have : ∃ c, (c, P) ∈ ([(c2, Pt2), (c11, Pt11), (c7, Pt7), (c18, Pt18), (c21, Pt21)] : List (Addr × Addr)) := by
      have hm : P ∈ ([(c2, Pt2), (c11, Pt11), (c7, Pt7), (c18, Pt18), (c21, Pt21)] : List (Addr × Addr)).map (·.2) := hP
      obtain ⟨p, hp, e⟩ := List.mem_map.mp hm
      exact ⟨p.1, by rw [← e]; exact hp⟩
    obtain ⟨c, hc⟩ := this
    exact ⟨#[], hcs _ hc, by constructor⟩
  · have tb := fun p hp => (TB p hp : LamX.TabB base mg p.1 p.2)
    have u2 : GxR.TabB base mg c2 Pt2 := let t := tb (c2, Pt2) (by simp); ⟨t.code, t.bm, t.gP⟩
    have u11 : GxR.TabB base mg c11 Pt11 := let t := tb (c11, Pt11) (by simp); ⟨t.code, t.bm, t.gP⟩
    have u7 : GxR.TabB base mg c7 Pt7 := let t := tb (c7, Pt7) (by simp); ⟨t.code, t.bm, t.gP⟩
    have u18 : GxR.TabB base mg c18 Pt18 := let t := tb (c18, Pt18) (by simp); ⟨t.code, t.bm, t.gP⟩
    have u21 : GxR.TabB base mg c21 Pt21 := let t := tb (c21, Pt21) (by simp); ⟨t.code, t.bm, t.gP⟩
    have fin : FnOk lw.prog w K mg base CX0 9 D.d_law.f D.d_law.fd ["_law_script"] (spLaw K [Pt2, Pt11, Pt7, Pt18, Pt21]) := ok_law B (lw_of B C D u2 u11 u7 u18 u21) (mem5 _ _ _ _ _) D.d_law
    have ef : D.d_law.f = fz := rfl
    rw [ef] at fin
    exact fin
end Cd

set_option Elab.async false
set_option linter.all false
set_option maxRecDepth 100000
open PySem PySem.W PyProof.Rows
set_option maxHeartbeats 0 in
theorem PySem.Challenge.cw_chiefdeeds_k09_whole_prices_holds : PySem.Challenge.rw_chiefdeeds_k09_whole_prices.Holds := by
  w_on; o_law; k_head; (case hw => w_witness2)
  k_fill
  refine Cd.walk_tabs (lw := PySem.Challenge.rw_chiefdeeds_k09_whole_prices) (most := 63) (lev := 9) (arg := "_law_script") (CC := fun _ => L2.CX0) Cd.genNames rfl (by decide) rfl ⟨rfl, by decide, by decide⟩ (by decide +kernel) (fun w h Y => PySem.W.kIn_of Y) ?F (fun _ _ _ _ _ h => h)
  case F =>
    intro w mg fa h Y KX G hmg hT
    refine' Cd.all_mk KX G hmg hT ?a0 ?l0 ?e0 ?k0 ?a1 ?l1 ?e1 ?k1 ?a2 ?l2 ?e2 ?k2 ?kc2 ?kp2 ?kh2 ?kn2 ?a3 ?l3 ?e3 ?k3 ?a4 ?l4 ?e4 ?k4 ?a5 ?l5 ?e5 ?k5 ?a6 ?l6 ?e6 ?k6 ?a7 ?l7 ?e7 ?k7 ?kc7 ?kp7 ?kh7 ?kn7 ?a8 ?l8 ?e8 ?k8 ?a9 ?l9 ?e9 ?k9 ?a10 ?l10 ?e10 ?k10 ?a11 ?l11 ?e11 ?k11 ?kc11 ?kp11 ?kh11 ?kn11 ?a12 ?l12 ?e12 ?k12 ?a13 ?l13 ?e13 ?k13 ?a14 ?l14 ?e14 ?k14 ?a15 ?l15 ?e15 ?k15 ?a16 ?l16 ?e16 ?k16 ?a17 ?l17 ?e17 ?k17 ?a18 ?l18 ?e18 ?k18 ?kc18 ?kp18 ?kh18 ?kn18 ?a19 ?l19 ?e19 ?k19 ?a20 ?l20 ?e20 ?k20 ?a21 ?l21 ?e21 ?k21 ?kc21 ?kp21 ?kh21 ?kn21 ?a22 ?l22 ?e22 ?k22 ?a23 ?l23 ?e23 ?k23 ?a24 ?l24 ?e24 ?k24 ?a25 ?l25 ?e25 ?k25 ?a26 ?l26 ?e26 ?k26 ?a27 ?l27 ?e27 ?k27 ?a28 ?l28 ?e28 ?k28 ?a29 ?l29 ?e29 ?k29 ?a30 ?l30 ?e30 ?k30 ?a31 ?l31 ?e31 ?k31 ?a32 ?l32 ?e32 ?k32 ?a33 ?l33 ?e33 ?k33 ?a34 ?l34 ?e34 ?k34 ?z0 ?z1 ?z2 ?z3 ?z4 ?z5 ?z6 ?z7 ?z8 ?z9 ?z10 ?z11 ?z12 ?y0 ?y1 ?y2 ?y3
    (case a0 => k_is)
    (case l0 => k_is)
    (case e0 => k_is)
    (case k0 => k_is)
    (case a1 => k_is)
    (case l1 => k_is)
    (case e1 => k_is)
    (case k1 => k_is)
    (case a2 => k_is)
    (case l2 => k_is)
    (case e2 => k_is)
    (case k2 => k_is)
    (case kc2 => k_is)
    (case kp2 => rfl)
    (case kh2 => rfl)
    (case kn2 => rfl)
    (case a3 => k_is)
    (case l3 => k_is)
    (case e3 => k_is)
    (case k3 => k_is)
    (case a4 => k_is)
    (case l4 => k_is)
    (case e4 => k_is)
    (case k4 => k_is)
    (case a5 => k_is)
    (case l5 => k_is)
    (case e5 => k_is)
    (case k5 => k_is)
    (case a6 => k_is)
    (case l6 => k_is)
    (case e6 => k_is)
    (case k6 => k_is)
    (case a7 => k_is)
    (case l7 => k_is)
    (case e7 => k_is)
    (case k7 => k_is)
    (case kc7 => k_is)
    (case kp7 => rfl)
    (case kh7 => rfl)
    (case kn7 => rfl)
    (case a8 => k_is)
    (case l8 => k_is)
    (case e8 => k_is)
    (case k8 => k_is)
    (case a9 => k_is)
    (case l9 => k_is)
    (case e9 => k_is)
    (case k9 => k_is)
    (case a10 => k_is)
    (case l10 => k_is)
    (case e10 => k_is)
    (case k10 => k_is)
    (case a11 => k_is)
    (case l11 => k_is)
    (case e11 => k_is)
    (case k11 => k_is)
    (case kc11 => k_is)
    (case kp11 => rfl)
    (case kh11 => rfl)
    (case kn11 => rfl)
    (case a12 => k_is)
    (case l12 => k_is)
    (case e12 => k_is)
    (case k12 => k_is)
    (case a13 => k_is)
    (case l13 => k_is)
    (case e13 => k_is)
    (case k13 => k_is)
    (case a14 => k_is)
    (case l14 => k_is)
    (case e14 => k_is)
    (case k14 => k_is)
    (case a15 => k_is)
    (case l15 => k_is)
    (case e15 => k_is)
    (case k15 => k_is)
    (case a16 => k_is)
    (case l16 => k_is)
    (case e16 => k_is)
    (case k16 => k_is)
    (case a17 => k_is)
    (case l17 => k_is)
    (case e17 => k_is)
    (case k17 => k_is)
    (case a18 => k_is)
    (case l18 => k_is)
    (case e18 => k_is)
    (case k18 => k_is)
    (case kc18 => k_is)
    (case kp18 => rfl)
    (case kh18 => rfl)
    (case kn18 => rfl)
    (case a19 => k_is)
    (case l19 => k_is)
    (case e19 => k_is)
    (case k19 => k_is)
    (case a20 => k_is)
    (case l20 => k_is)
    (case e20 => k_is)
    (case k20 => k_is)
    (case a21 => k_is)
    (case l21 => k_is)
    (case e21 => k_is)
    (case k21 => k_is)
    (case kc21 => k_is)
    (case kp21 => rfl)
    (case kh21 => rfl)
    (case kn21 => rfl)
    (case a22 => k_is)
    (case l22 => k_is)
    (case e22 => k_is)
    (case k22 => k_is)
    (case a23 => k_is)
    (case l23 => k_is)
    (case e23 => k_is)
    (case k23 => k_is)
    (case a24 => k_is)
    (case l24 => k_is)
    (case e24 => k_is)
    (case k24 => k_is)
    (case a25 => k_is)
    (case l25 => k_is)
    (case e25 => k_is)
    (case k25 => k_is)
    (case a26 => k_is)
    (case l26 => k_is)
    (case e26 => k_is)
    (case k26 => k_is)
    (case a27 => k_is)
    (case l27 => k_is)
    (case e27 => k_is)
    (case k27 => k_is)
    (case a28 => k_is)
    (case l28 => k_is)
    (case e28 => k_is)
    (case k28 => k_is)
    (case a29 => k_is)
    (case l29 => k_is)
    (case e29 => k_is)
    (case k29 => k_is)
    (case a30 => k_is)
    (case l30 => k_is)
    (case e30 => k_is)
    (case k30 => k_is)
    (case a31 => k_is)
    (case l31 => k_is)
    (case e31 => k_is)
    (case k31 => k_is)
    (case a32 => k_is)
    (case l32 => k_is)
    (case e32 => k_is)
    (case k32 => k_is)
    (case a33 => k_is)
    (case l33 => k_is)
    (case e33 => k_is)
    (case k33 => k_is)
    (case a34 => k_is)
    (case l34 => k_is)
    (case e34 => k_is)
    (case k34 => k_is)
    (case z0 => k_is)
    (case z1 => k_is)
    (case z2 => k_is)
    (case z3 => k_is)
    (case z4 => k_is)
    (case z5 => k_is)
    (case z6 => k_is)
    (case z7 => k_is)
    (case z8 => k_is)
    (case z9 => k_is)
    (case z10 => k_is)
    (case z11 => k_is)
    (case z12 => k_is)
    (case y0 => k_is)
    (case y1 => k_is)
    (case y2 => k_is)
    (case y3 => k_is)

