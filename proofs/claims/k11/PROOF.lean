import PyProof.Rows.All
import Wide.All
import OpenK.AllK
import Wide.FinOn
import HandS.ForMost
import HandS.Flow
import HandS.Wide
import HandS.IsInst
import HandS.Property
import HandS.Star
import HandS.Deep
import HandS.DictComp
import HandS.Conv
import HandS.Strs
import HandS.Zip
import HandS.Walk
import HandS.More
import HandS.Small
import HandS.Style
import HandS.NoneIn
import HandS.Defaults
import HandS.TupSets
import HandS.Head0
import HandS.Head1
import HandS.Head2
import HandS.HeadEnd
import HandS.HeadHook1
import HandS.HeadHook2
import HandS.HeadHook3
import HandS.HeadHook4
import KE.SortData
import KE.KDictZip
import KE.GoesEnum
import PySem.Challenge.RW_narrowdraws_k11_whole_units_kept
import KE.KTupSum
import HandS.TupAny
import HandS.Codes
set_option Elab.async false
set_option linter.all false
set_option maxRecDepth 100000
set_option maxHeartbeats 2000000
/-! Narrowdraws k11: the ground: the text by places, short words, data, walks. -/
namespace Nd
open PySem PySem.Spec PyProof.Rows L2

/-! ### the text by places -/
def top (i : Nat) : Stmt := PySem.Challenge.pw_narrowdraws_k11_whole_units_kept.main.body.getD i (.Pass ⟨0, 0, 0, 0⟩)

/-! ### a def of the module, by its name -/
def HasFn (K : PySem.W.Frag) (mg : Str → Option Value) (x : Str) (st : Stmt) : Prop :=
  ∃ (f : Addr) (fd : FuncData), FunD K x x (defArgs st) (defBody st) (defScope st) [] [] f fd ∧ mg x = some (.ref f)
/-- a def that may be called by its name -/
structure Cal (P : Program) (w : World) (K : PySem.W.Frag) (mg : Str → Option Value) (base : Heap) (k : Nat) (x : Str) (sp : Sp) : Prop where
  ex : ∃ (f : Addr) (fd : FuncData) (ps : List Str), FnOk P w K mg base CX0 k f fd ps sp ∧ mg x = some (.ref f) ∧ PySem.W.keepIn K (.ref f) = true ∧ Binds K fd ps []
section
variable {P : Program} {w : World} {K : PySem.W.Frag} {mg : Str → Option Value} {base : Heap}
theorem Cal.of {x : Str} {st : Stmt} {N ps : List Str} {k : Nat} {sp : Sp} (F : HasFn K mg x st) (S : FnScope N ps (defScope st))
    (b : ∀ (kV doc pm : Value) (an : Option Addr) (cdv ct : Value) (us : List Value), us.length = ps.length → bindArgs (PySem.W.fnOf x x (defArgs st) (defBody st) (defScope st) .none kV doc pm an cdv ct) ⟨us, []⟩ = pure (ps.zip us))
    (len : ∀ vs H Q E, sp vs H Q E → vs.length = ps.length)
    (hbody : ∀ (f : Addr) (cdv : Value) (A : Around) (outer : List Env) (s : Shared) (H : Hp) (vs : List V) (Q : VK) (E : XK), Room k (A.deeper (envOfC x (defScope st) s.heap.objs.size f cdv)) → sp vs H Q E →
      ∃ t, PSs (cxOf CX0 P w K mg base N x (defScope st) f cdv A outer s H E).nox (defBody st) t ∧ t { nx := fun _ H' => Q .non H', rt := Q } (start N vs) H) : Cal P w K mg base (k + 1) x sp := by
  obtain ⟨f, fd, F, hm⟩ := F
  refine ⟨f, fd, ps, F.ok S len fun cdv A outer s H vs Q E hr hsp => ?_, hm, F.kp, F.bindsN b⟩
  obtain ⟨t, h, q⟩ := hbody f cdv A outer s H vs Q E hr hsp
  exact ⟨t, h.nox, q⟩
theorem Cal.imp {x : Str} {k : Nat} {sp sp' : Sp} (c : Cal P w K mg base k x sp) (h : ∀ vs H Q E, sp' vs H Q E → sp vs H Q E) : Cal P w K mg base k x sp' := by
  obtain ⟨f, fd, ps, F, hm, kp, b⟩ := c.ex
  exact ⟨f, fd, ps, F.imp h, hm, kp, b⟩
end
section
variable {X : Cx} {k j : Nat} {x : Str} {sp : Sp} {p pos : Pos} {e : Expr} {es : List Expr} {t : TA}
/-- x(e, ..) -/
theorem pcl (c : Cal X.prog X.w X.K X.mg X.base k x sp) (hr : Room j X.A) (ha : PA X (e :: es) t) (hk : k ≤ j := by decide) (hg : Gl X x := by rfl)
    (hdb : (x == ("__debug__" : Str)) = false := by decide) (he : starEach (e :: es) X.env = (false, eval e X.env) :: starEach es X.env := by rfl) (hpl : (backTo pos (starEach es X.env)).any (·.1) = false := by rfl) :
    PE X (.Call (.Name x p) (e :: es) [] pos) (tCall sp [] E0 t) := by
  obtain ⟨f, fd, ps, F, hm, kp, b⟩ := c.ex
  exact pe_call F (hr.mono hk) hg hm kp b .nil pass0 ha hdb he hpl
/-- argument lists of one, two, three, four -/
theorem pa1 {a : Expr} {ta : TE} (h : PE X a ta) (s1 : starEach [a] X.env = (false, eval a X.env) :: starEach [] X.env := by rfl) : PA X [a] (tCons ta tNil) := pa_cons h pa_nil s1
theorem pa2 {a b : Expr} {ta tb : TE} (h : PE X a ta) (h' : PE X b tb) (s1 : starEach [a, b] X.env = (false, eval a X.env) :: starEach [b] X.env := by rfl) (s2 : starEach [b] X.env = (false, eval b X.env) :: starEach [] X.env := by rfl) : PA X [a, b] (tCons ta (tCons tb tNil)) :=
  pa_cons h (pa_cons h' pa_nil s2) s1
theorem pa3 {a b c : Expr} {ta tb tc : TE} (h : PE X a ta) (h' : PE X b tb) (h'' : PE X c tc) (s1 : starEach [a, b, c] X.env = (false, eval a X.env) :: starEach [b, c] X.env := by rfl) (s2 : starEach [b, c] X.env = (false, eval b X.env) :: starEach [c] X.env := by rfl)
    (s3 : starEach [c] X.env = (false, eval c X.env) :: starEach [] X.env := by rfl) : PA X [a, b, c] (tCons ta (tCons tb (tCons tc tNil))) :=
  pa_cons h (pa_cons h' (pa_cons h'' pa_nil s3) s2) s1
theorem pa4 {a b c d : Expr} {ta tb tc td : TE} (h : PE X a ta) (h' : PE X b tb) (h'' : PE X c tc) (h3 : PE X d td) (s1 : starEach [a, b, c, d] X.env = (false, eval a X.env) :: starEach [b, c, d] X.env := by rfl) (s2 : starEach [b, c, d] X.env = (false, eval b X.env) :: starEach [c, d] X.env := by rfl)
    (s3 : starEach [c, d] X.env = (false, eval c X.env) :: starEach [d] X.env := by rfl) (s4 : starEach [d] X.env = (false, eval d X.env) :: starEach [] X.env := by rfl) : PA X [a, b, c, d] (tCons ta (tCons tb (tCons tc (tCons td tNil)))) :=
  pa_cons h (pa_cons h' (pa_cons h'' (pa_cons h3 pa_nil s4) s3) s2) s1
/-- isinstance(x, T), T a built-in class -/
theorem pisi (T : String) {a : Expr} {ta : TE} {y : Str} {py : Pos} (hm : X.mg "isinstance" = none) (hy : X.mg y = none) (ha : PE X a ta) (hg : Gl X "isinstance" := by rfl) (hgy : Gl X y := by rfl) (hb : bootBuiltins y = some (.type T) := by decide +kernel)
    (hv : bootBuiltins "isinstance" = some (.builtin "isinstance") := by decide +kernel) (hn : y ≠ "__name__" := by decide) (hd : (y == ("__debug__" : Str)) = false := by decide)
    (s1 : starEach [a, .Name y py] X.env = (false, eval a X.env) :: starEach [.Name y py] X.env := by rfl) : PE X (.Call (.Name "isinstance" p) [a, .Name y py] [] pos) (tCB (rIsi X.K) (tCons ta (tCons (tC (.ty T)) tNil))) :=
  pe_callB call_isi hg hm hv (pa_cons ha (pa_cons (pe_bltn hgy hy hb rfl hn hd) pa_nil) s1) (he := s1)
/-- len(xs) -/
theorem plen {a : Expr} {ta : TE} (hm : X.mg "len" = none) (ha : PE X a ta) (hg : Gl X "len" := by rfl) (s1 : starEach [a] X.env = (false, eval a X.env) :: starEach [] X.env := by rfl) : PE X (.Call (.Name "len" p) [a] [] pos) (tCB (fun xs H Q => ∃ x n, xs = [x] ∧ LenV X.K x H n ∧ Q (.int n) H) (tCons ta tNil)) :=
  pe_callB call_len hg hm boot_len (pa_cons ha pa_nil s1) (he := s1)
/-- a built-in's call, a built-in class's call, of one argument; two -/
theorem pcb (id : String) {r : List V → Hp → VK → Prop} {a : Expr} {ta : TE} (hc : CallR X (.builtin id) r) (hm : X.mg x = none) (ha : PE X a ta) (hg : Gl X x := by rfl) (hv : bootBuiltins x = some (.builtin id) := by decide +kernel) (hn : x ≠ "__name__" := by decide) (hdb : (x == ("__debug__" : Str)) = false := by decide)
    (s1 : starEach [a] X.env = (false, eval a X.env) :: starEach [] X.env := by rfl) : PE X (.Call (.Name x p) [a] [] pos) (tCB r (tCons ta tNil)) := pe_callB hc hg hm hv (pa_cons ha pa_nil s1) hn hdb (he := s1)
theorem pct (id : String) {r : List V → Hp → VK → Prop} {a : Expr} {ta : TE} (hc : CallR X (.type id) r) (hm : X.mg x = none) (ha : PE X a ta) (hg : Gl X x := by rfl) (hv : bootBuiltins x = some (.type id) := by decide +kernel) (hn : x ≠ "__name__" := by decide) (hdb : (x == ("__debug__" : Str)) = false := by decide)
    (s1 : starEach [a] X.env = (false, eval a X.env) :: starEach [] X.env := by rfl) : PE X (.Call (.Name x p) [a] [] pos) (tCB r (tCons ta tNil)) := pe_callTy hc hg hm hv (pa_cons ha pa_nil s1) hn hdb (he := s1)
theorem pcb2 (id : String) {r : List V → Hp → VK → Prop} {a b : Expr} {ta tb : TE} (hc : CallR X (.builtin id) r) (hm : X.mg x = none) (ha : PE X a ta) (hb : PE X b tb) (hg : Gl X x := by rfl) (hv : bootBuiltins x = some (.builtin id) := by decide +kernel) (hn : x ≠ "__name__" := by decide) (hdb : (x == ("__debug__" : Str)) = false := by decide)
    (s1 : starEach [a, b] X.env = (false, eval a X.env) :: starEach [b] X.env := by rfl) (s2 : starEach [b] X.env = (false, eval b X.env) :: starEach [] X.env := by rfl) (hpl : (backTo pos (starEach [b] X.env)).any (·.1) = false := by rfl) :
    PE X (.Call (.Name x p) [a, b] [] pos) (tCB r (tCons ta (tCons tb tNil))) := pe_callB hc hg hm hv (pa_cons ha (pa_cons hb pa_nil s2) s1) hn hdb (he := s1) (hpl := hpl)
/-- isinstance(x, C), C a class of the module -/
theorem pisc {a : Expr} {ta : TE} {C : Addr} {y : Str} {py : Pos} (hm : X.mg "isinstance" = none) (hy : X.mg y = some (.ref C)) (ha : PE X a ta) (hg : Gl X "isinstance" := by rfl) (hgy : Gl X y := by rfl)
    (hv : bootBuiltins "isinstance" = some (.builtin "isinstance") := by decide +kernel) (hd : (y == ("__debug__" : Str)) = false := by decide)
    (s1 : starEach [a, .Name y py] X.env = (false, eval a X.env) :: starEach [.Name y py] X.env := by rfl) : PE X (.Call (.Name "isinstance" p) [a, .Name y py] [] pos) (tCB (rIsi X.K) (tCons ta (tCons (tC (.ref C)) tNil))) :=
  pe_callB call_isi hg hm hv (pa_cons ha (pa_cons (pe_glob hgy hy rfl hd) pa_nil) s1) (he := s1)
/-- the same where the reading must not speak of X (in a comprehension) -/
theorem piscK (K : PySem.W.Frag) {a : Expr} {ta : TE} {C : Addr} {y : Str} {py : Pos} (hm : X.mg "isinstance" = none) (hy : X.mg y = some (.ref C)) (ha : PE X a ta) (hK : X.K = K := by rfl) (hg : Gl X "isinstance" := by rfl) (hgy : Gl X y := by rfl)
    (hv : bootBuiltins "isinstance" = some (.builtin "isinstance") := by decide +kernel) (hd : (y == ("__debug__" : Str)) = false := by decide)
    (s1 : starEach [a, .Name y py] X.env = (false, eval a X.env) :: starEach [.Name y py] X.env := by rfl) : PE X (.Call (.Name "isinstance" p) [a, .Name y py] [] pos) (tCB (rIsi K) (tCons ta (tCons (tC (.ref C)) tNil))) := hK ▸ pisc hm hy ha hg hgy hv hd s1
theorem pisiK (K : PySem.W.Frag) (T : String) {a : Expr} {ta : TE} {y : Str} {py : Pos} (hm : X.mg "isinstance" = none) (hy : X.mg y = none) (ha : PE X a ta) (hK : X.K = K := by rfl) (hg : Gl X "isinstance" := by rfl) (hgy : Gl X y := by rfl) (hb : bootBuiltins y = some (.type T) := by decide +kernel)
    (hv : bootBuiltins "isinstance" = some (.builtin "isinstance") := by decide +kernel) (hn : y ≠ "__name__" := by decide) (hd : (y == ("__debug__" : Str)) = false := by decide)
    (s1 : starEach [a, .Name y py] X.env = (false, eval a X.env) :: starEach [.Name y py] X.env := by rfl) : PE X (.Call (.Name "isinstance" p) [a, .Name y py] [] pos) (tCB (rIsi K) (tCons ta (tCons (tC (.ty T)) tNil))) := hK ▸ pisi T hm hy ha hg hgy hb hv hn hd s1
theorem pflK (K : PySem.W.Frag) {e : Expr} {ta : TE} {f : Str} (he : PE X e ta) (hK : X.K = K := by rfl) (hb : attributeBase e f X.env (eval e X.env) = eval e X.env := by rfl) : PE X (.Attribute e f pos) (tFld K ta f) := hK ▸ pe_fld he hb
theorem pixK (K : PySem.W.Frag) {a b : Expr} {ta tb : TE} (ha : PE X a ta) (hb : PE X b tb) (hs : PlainIx b) (hK : X.K = K := by rfl) : PE X (.Subscript a b pos) (tOp (rIxT K) ta tb) := hK ▸ pe_ix ix_tup ha hb hs
theorem pixlK (K : PySem.W.Frag) {a b : Expr} {ta tb : TE} (ha : PE X a ta) (hb : PE X b tb) (hs : PlainIx b) (hK : X.K = K := by rfl) : PE X (.Subscript a b pos) (tOp (rIxL K) ta tb) := hK ▸ pe_ix ix_list ha hb hs
/-- all(xs) -/
theorem pall {a : Expr} {ta : TE} (hm : X.mg "all" = none) (hc : X.calm = true) (ha : PE X a ta) (hg : Gl X "all" := by rfl) (hv : bootBuiltins "all" = some (.builtin "all") := by decide +kernel) (s1 : starEach [a] X.env = (false, eval a X.env) :: starEach [] X.env := by rfl) :
    PE X (.Call (.Name "all" p) [a] [] pos) (tCB (rAll X.K) (tCons ta tNil)) :=
  pe_callB (cr_all hc) hg hm hv (pa_cons ha pa_nil s1) (he := s1)
/-- a constant of the module -/
theorem pcon {y : Str} {py : Pos} {v : V} (h : ∃ u, X.mg y = some u ∧ RelV v u) (hg : Gl X y := by rfl) (hd : (y == ("__debug__" : Str)) = false := by decide) : PE X (.Name y py) (tC v) := by
  obtain ⟨u, h1, h2⟩ := h
  exact pe_glob hg h1 h2 hd
/-- a name stored, a target -/
theorem pst (i : Nat) {y : Str} {py : Pos} {te : TE} {e : Expr} (nd : X.N.Nodup) (he : PE X e te) (hN : X.N[i]? = some y := by rfl) (hx : Loc X.env.scope y := by first | exact Or.inl rfl | exact Or.inr rfl)
    (hs : swapsWith e (some (.Name y py)) pos.line X.env = pure false := by rfl) (hf : X.fn y = true ∨ X.env.scope.names.lookup y = some .local := by first | exact Or.inl rfl | exact Or.inr rfl) : PS X (.Assign [.Name y py] e pos) (tAsg te (gName i)) := ps_set nd hN hx he hs hf
theorem pgn (i : Nat) {y : Str} {py : Pos} (nd : X.N.Nodup) (hN : X.N[i]? = some y := by rfl) (hx : Loc X.env.scope y := by first | exact Or.inl rfl | exact Or.inr rfl) (hf : X.fn y = true ∨ X.env.scope.names.lookup y = some .local := by first | exact Or.inl rfl | exact Or.inr rfl) : PG X (.Name y py) (gName i) := pg_name nd hN hx hf
end
/-! ### short ends -/
theorem ebl {Q : VK} {b c : Bool} {H : Hp} (e : b = c) (h : Q (.bl c) H) : Q (.bl b) H := e ▸ h
theorem eint {Q : VK} {b c : Int} {H : Hp} (e : b = c) (h : Q (.int c) H) : Q (.int b) H := e ▸ h
theorem iteD {c A B : Prop} [Decidable c] (hc : c) (h : A) : if decide c = true then A else B := by
  rw [decide_eq_true hc]
  exact iteT h
theorem iteDF {c A B : Prop} [Decidable c] (hc : ¬ c) (h : B) : if decide c = true then A else B := by
  rw [decide_eq_false hc]
  exact iteF h
theorem iteB {b : Bool} {A B : Prop} (hb : b = true) (h : A) : if b = true then A else B := by
  rw [hb]
  exact iteT h
theorem iteBF {b : Bool} {A B : Prop} (hb : b = false) (h : B) : if b = true then A else B := by
  rw [hb]
  exact iteF h

/-- an if whose test is known, whatever way it goes about it -/
theorem ifN {c : TT} {t1 t2 : TS} {D : Ends} {σ : L2.St} {H : Hp} (h : ∀ Q : Bool → Hp → Prop, Q false H → c σ H Q) (q : t2 D σ H) : tIfS c t1 t2 D σ H := h _ (iteF q)
theorem ifY {c : TT} {t1 t2 : TS} {D : Ends} {σ : L2.St} {H : Hp} (h : ∀ Q : Bool → Hp → Prop, Q true H → c σ H Q) (q : t1 D σ H) : tIfS c t1 t2 D σ H := h _ (iteT q)

theorem ifN2 {c : TT} {t1 t2 u : TS} {D : Ends} {σ : L2.St} {H : Hp} (h : ∀ Q : Bool → Hp → Prop, Q false H → c σ H Q) (q : t2 { D with nx := u D } σ H) : tSeq (tIfS c t1 t2) u D σ H := h _ (iteF q)
theorem ifY2 {c : TT} {t1 t2 u : TS} {D : Ends} {σ : L2.St} {H : Hp} (h : ∀ Q : Bool → Hp → Prop, Q true H → c σ H Q) (q : t1 { D with nx := u D } σ H) : tSeq (tIfS c t1 t2) u D σ H := h _ (iteT q)

/-! ### heaps: what stays -/
theorem same_upd {H : Hp} {p : Addr} {o : HO} (h : H p = none) : Same H (upd H p o) := fun b x e => by
  rw [upd_ne (ne_of_none e h)]
  exact e
theorem sup {H H' : Hp} {p : Addr} {o : HO} (s : Same H H') (h : H' p = none) : Same H (upd H' p o) := s.trans (same_upd h)
/-- an instance's own store -/
theorem ins4 {H : Hp} {x : Addr} {a b c d : HO} {y : Addr} (n : y ≠ x) : upd (upd (upd (upd H x a) x b) x c) x d y = H y := by rw [upd_ne n, upd_ne n, upd_ne n, upd_ne n]
/-- all tracked tuples are as they were -/
def TK (H H' : Hp) : Prop := ∀ b xs, H b = some (.tup xs) → H' b = some (.tup xs)
theorem TK.refl (H : Hp) : TK H H := fun _ _ h => h
theorem TK.trans {H H1 H2 : Hp} (a : TK H H1) (b : TK H1 H2) : TK H H2 := fun c o h => b c o (a c o h)
theorem TK.of {H H' : Hp} (s : Same H H') : TK H H' := fun b xs h => s b _ h
theorem TK.wr {H : Hp} {p : Addr} {o : HO} (h : ∀ xs, H p ≠ some (.tup xs)) : TK H (upd H p o) := fun b xs e => by
  have n : b ≠ p := fun q => by
    rw [q] at e
    exact h xs e
  rw [upd_ne n]
  exact e
theorem TK.updL {H : Hp} {p : Addr} {o : HO} {ys : List V} (h : H p = some (.lst ys)) : TK H (upd H p o) := TK.wr fun xs e => by
  rw [h] at e
  cases e
theorem TK.updN {H : Hp} {p : Addr} {o : HO} (h : H p = none) : TK H (upd H p o) := TK.of (same_upd h)

/-! ### data that never changes: none, bools, ints, texts, tuples of such -/
/-- a tuple: tracked, or of the written part -/
def TupAt (K : PySem.W.Frag) (H : Hp) (a : Addr) (xs : List V) : Prop := H a = some (.tup xs) ∨ ∀ H', SqT K H' a xs
theorem TupAt.sq {K : PySem.W.Frag} {H : Hp} {a : Addr} {xs : List V} (h : TupAt K H a xs) : SqT K H a xs := h.elim SqT.of fun z => z H
theorem TupAt.keep {K : PySem.W.Frag} {H H' : Hp} {a : Addr} {xs : List V} (h : TupAt K H a xs) (k : TK H H') : TupAt K H' a xs := h.elim (fun z => .inl (k _ _ z)) .inr
mutual
inductive Td (K : PySem.W.Frag) (H : Hp) : V → PyData → Prop
  | non : Td K H .non .none
  | bl (b : Bool) : Td K H (.bl b) (.bool b)
  | int (i : Int) : Td K H (.int i) (.int i)
  | str (x : Str) : Td K H (.str x) (.str x)
  | tup {a : Addr} {xs : List V} {ds : List PyData} : TupAt K H a xs → TdAll K H xs ds → Td K H (.ref a) (.tuple ds)
inductive TdAll (K : PySem.W.Frag) (H : Hp) : List V → List PyData → Prop
  | nil : TdAll K H [] []
  | cons {v : V} {vs : List V} {d : PyData} {ds : List PyData} : Td K H v d → TdAll K H vs ds → TdAll K H (v :: vs) (d :: ds)
end
section
variable {K : PySem.W.Frag} {H H' : Hp}
mutual
theorem Td.keep (k : TK H H') : ∀ {v : V} {d : PyData}, Td K H v d → Td K H' v d
  | _, _, .non => .non
  | _, _, .bl b => .bl b
  | _, _, .int i => .int i
  | _, _, .str x => .str x
  | _, _, .tup h t => .tup (h.keep k) (TdAll.keep k t)
theorem TdAll.keep (k : TK H H') : ∀ {vs : List V} {ds : List PyData}, TdAll K H vs ds → TdAll K H' vs ds
  | _, _, .nil => .nil
  | _, _, .cons h t => .cons (Td.keep k h) (TdAll.keep k t)
end
mutual
theorem Td.dp : ∀ {v : V} {d : PyData}, Td K H v d → Dp K H v d
  | _, _, .non => .non
  | _, _, .bl b => .bl b
  | _, _, .int i => .int i
  | _, _, .str x => .str x
  | _, _, .tup h t => .tup h.sq (TdAll.dp t)
theorem TdAll.dp : ∀ {vs : List V} {ds : List PyData}, TdAll K H vs ds → DpAll K H vs ds
  | _, _, .nil => .nil
  | _, _, .cons h t => .cons (Td.dp h) (TdAll.dp t)
end
theorem TdAll.len : ∀ {vs : List V} {ds : List PyData}, TdAll K H vs ds → vs.length = ds.length
  | _, _, .nil => rfl
  | _, _, .cons _ t => congrArg (· + 1) (TdAll.len t)
theorem TdAll.at_ : ∀ {vs : List V} {ds : List PyData} {i : Nat} {v : V}, TdAll K H vs ds → vs[i]? = some v → ∃ d, ds[i]? = some d ∧ Td K H v d
  | _, _, _, _, .nil, e => by simp at e
  | _, _, 0, _, .cons h _, e => by
    have e' := Option.some.inj (by simpa using e)
    subst e'
    exact ⟨_, by simp, h⟩
  | _, _, i + 1, v, .cons _ t, e => by
    obtain ⟨d, h1, h2⟩ := TdAll.at_ (i := i) (v := v) t (by simpa using e)
    exact ⟨d, by simpa using h1, h2⟩
theorem TdAll.snoc : ∀ {vs : List V} {ds : List PyData} {v : V} {d : PyData}, TdAll K H vs ds → Td K H v d → TdAll K H (vs ++ [v]) (ds ++ [d])
  | _, _, _, _, .nil, h => .cons h .nil
  | _, _, _, _, .cons a t, h => .cons a (TdAll.snoc t h)
theorem TdAll.app : ∀ {vs ws : List V} {ds es : List PyData}, TdAll K H vs ds → TdAll K H ws es → TdAll K H (vs ++ ws) (ds ++ es)
  | _, _, _, _, .nil, h => h
  | _, _, _, _, .cons a t, h => .cons a (TdAll.app t h)
theorem Td.tup_inv {v : V} {ds : List PyData} (h : Td K H v (.tuple ds)) : ∃ a xs, v = .ref a ∧ TupAt K H a xs ∧ TdAll K H xs ds := by
  cases h with
  | tup h t => exact ⟨_, _, rfl, h, t⟩
theorem Td.int_inv {v : V} {i : Int} (h : Td K H v (.int i)) : v = .int i := by
  cases h
  rfl
theorem Td.str_inv {v : V} {x : Str} (h : Td K H v (.str x)) : v = .str x := by
  cases h
  rfl
theorem Td.non_inv {v : V} (h : Td K H v .none) : v = .non := by
  cases h
  rfl
theorem TdAll.ints : ∀ {ns : List Int}, TdAll K H (ns.map V.int) (ns.map PyData.int)
  | [] => .nil
  | _ :: _ => .cons (.int _) TdAll.ints
theorem TdAll.ints_inv : ∀ {ns : List Int} {vs : List V}, TdAll K H vs (ns.map PyData.int) → vs = ns.map V.int
  | [], _, h => by
    cases h
    rfl
  | n :: ns, _, h => by
    cases h with
    | cons a t => rw [a.int_inv, TdAll.ints_inv t] <;> rfl
theorem TdAll.strs : ∀ {ns : List Str}, TdAll K H (ns.map V.str) (ns.map PyData.str)
  | [] => .nil
  | _ :: _ => .cons (.str _) TdAll.strs
theorem TdAll.strs_inv : ∀ {ns : List Str} {vs : List V}, TdAll K H vs (ns.map PyData.str) → vs = ns.map V.str
  | [], _, h => by
    cases h
    rfl
  | n :: ns, _, h => by
    cases h with
    | cons a t => rw [a.str_inv, TdAll.strs_inv t] <;> rfl
/-- a new tuple -/
theorem Td.new {p : Addr} {xs : List V} {ds : List PyData} (h : H p = none) (t : TdAll K H xs ds) : Td K (upd H p (.tup xs)) (.ref p) (.tuple ds) :=
  .tup (.inl upd_same) (t.keep (TK.updN h))
/-- its type -/
theorem Td.ty {a : Addr} {xs : List V} (h : TupAt K H a xs) : TyX K H (.ref a) (.type "tuple") := by
  rcases h with h | h
  · exact .base (.tup h)
  · rcases h fun _ => none with (h | ⟨o, h⟩) | ⟨o, its, n, h1, h2, _⟩
    · cases h
    · cases h
    · exact .kTuple h1 h2
end
/-! ### the data of this program -/
def letters : Str := "abcdefghijklmnopqrstuvwxyz"
abbrev Slot := Str × Int
def slotD (z : Slot) : PyData := .tuple [.str z.1, .int z.2]
def rollD : Option (Str × Int) → PyData
  | none => .none
  | some (n, m) => .tuple [.str n, .int m]
def costV : Option Int → V
  | none => .non
  | some c => .int c
def nameOk (z : Str) : Prop := 1 ≤ z.length ∧ z.length ≤ 6 ∧ ∀ c ∈ z.cps.toList, c ∈ letters.cps.toList

/-! ### comprehensions that change nothing: R speaks of the tuples alone -/
theorem lc_go {J : It} {n : Nat} {G : Hp → Prop} {Y : Nat → Hp → V → Hp → Prop} (w : Walk J n G Y) {g : TG} {tt : TT} {te : TE} {vs : List Nat} {σ : L2.St} {H1 : Hp} {D : Addr} {Qd : Hp → Prop} (hD : H1 D = none) (R : Nat → List V → Hp → Prop)
    (hR : ∀ i acc H H', TK H H' → R i acc H → R i acc H') (h0 : R 0 [] H1) (hG : ∀ H, Same H1 H → G H) (hn : n < sizeLine)
    (hs : ∀ i x acc H H' (Fy : V → Hp → Prop) (Fn : Hp → Prop), i < n → Same H1 H → R i acc H → Y i H x H' → (∀ y H4, Same H H4 → R (i + 1) (acc ++ [y]) H4 → Fy y H4) → (∀ H3, Same H H3 → R (i + 1) acc H3 → Fn H3) →
      g x (wipe σ vs) H' fun σ2 H2 => wipe σ2 vs = wipe σ vs ∧ tt σ2 H2 fun b H3 => if b = true then te σ2 H3 Fy else Fn H3)
    (hd : ∀ H acc, Same H1 H → H D = some (.lst acc) → R n acc H → Qd H) :
    ∃ W : Nat → Nat → Hp → Prop, (∃ m, W 0 m (upd H1 D (.lst []))) ∧ ∀ i m H, W i m H →
      (J.stop i H ∧ Qd H) ∨ (J.go i H ∧ ∃ Nx : Hp → Prop, (∀ H', Nx H' → ∃ m', m' < m ∧ W (i + 1) m' H') ∧ ∀ x H', J.yld i H x H' → g x (wipe σ vs) H' fun σ2 H2 => wipe σ2 vs = wipe σ vs ∧ tt σ2 H2 fun b H3 =>
        if b = true then te σ2 H3 fun y H4 => ∃ acc, H4 D = some (.lst acc) ∧ acc.length < sizeLine ∧ Nx (upd H4 D (.lst (acc ++ [y]))) else Nx H3) := by
  refine lc_it w (fun i H => Same H1 H ∧ ∃ acc, H D = some (.lst acc) ∧ acc.length ≤ i ∧ R i acc H) ⟨same_upd hD, [], upd_same, Nat.le_refl _, hR _ _ _ _ (TK.updN hD) h0⟩ (fun i H _ h => hG H h.1) (fun i x H H' hi h y => ?_) fun H ⟨s, acc, a1, _, a3⟩ => hd H acc s a1 a3
  obtain ⟨s, acc, a1, a2, a3⟩ := h
  refine hs i x acc H H' _ _ hi s a3 y (fun v H4 z1 z2 => ?_) fun H3 z1 z2 => ⟨s.trans z1, acc, z1 _ _ a1, by omega, z2⟩
  have e4 : H4 D = some (.lst acc) := z1 _ _ a1
  refine ⟨acc, e4, by omega, fun b o e => ?_, acc ++ [v], upd_same, by rw [List.length_append, List.length_singleton]; omega, hR _ _ _ _ (TK.updL e4) z2⟩
  rw [upd_ne (ne_of_none e hD)]
  exact z1 _ _ (s _ _ e)

/-- a turn without a test -/
theorem lcY {te : TE} {σ : L2.St} {H : Hp} {Fy : V → Hp → Prop} {Fn : Hp → Prop} (h : te σ H Fy) : tYes σ H fun b H3 => if b = true then te σ H3 Fy else Fn H3 :=
  show (if true = true then te σ H Fy else Fn H) from iteT h

/-! ### what the top holds -/
abbrev CP (K : PySem.W.Frag) : Addr := He.ga K "Pack"
abbrev CL (K : PySem.W.Frag) : Addr := He.ga K "Plan"
abbrev CD (K : PySem.W.Frag) : Addr := He.ga K "Drawn"
def fnL : List (Str × Nat) := ([("is_number", 24), ("is_within", 25), ("is_list", 26), ("is_name", 27), ("is_slot", 28), ("are_slots", 29)] : List (Str × Nat)) ++ ([("is_roll", 30), ("are_prices", 32), ("are_packs", 33), ("does_fit", 34), ("need_plan", 36), ("start_of", 37)] : List (Str × Nat)) ++ ([("start", 38), ("are_rests", 39), ("is_state", 40), ("need_state", 41), ("rolled", 42), ("night_behind", 43)] : List (Str × Nat)) ++ ([("night", 44), ("lost_at", 45), ("lost", 46), ("is_order", 50), ("need_order", 51), ("need_cell", 52)] : List (Str × Nat)) ++ ([("covering", 53), ("can_buy", 54), ("choices_of", 55), ("choice_of", 56), ("taken_of", 57), ("is_choice", 58)] : List (Str × Nat)) ++ ([("taken", 59), ("is_deed", 60), ("can_do", 61), ("need_deeds", 62), ("drawn", 64), ("along", 65)] : List (Str × Nat)) ++ ([("paid", 66), ("behind", 67), ("wasted", 68), ("_law_begun", 70), ("_law_mixed", 71), ("_law_take", 72)] : List (Str × Nat)) ++ ([("_law_pick", 73), ("_law_any_of", 74), ("_law_shuffled", 75), ("_law_names", 76), ("_law_all_spots", 77), ("_law_spots", 78)] : List (Str × Nat)) ++ ([("_law_last", 79), ("_law_flows", 80), ("_law_sheet", 81), ("_law_plan", 82), ("_law_wares", 83), ("_law_kinds", 84)] : List (Str × Nat)) ++ ([("_law_ranks", 85), ("_law_acts", 86), ("_law_walked", 87), ("_law_is_kept", 88), ("law", 89)] : List (Str × Nat))
def freeL : List Str := (["isinstance", "int", "bool", "list", "tuple", "str"] : List Str) ++ (["len", "all", "set", "sorted", "max", "min"] : List Str) ++ (["dict", "sum", "zip", "enumerate", "range", "abs"] : List Str)
def intL : List (Str × Int) := ([("LONGEST_NAME", 6), ("MOST_CELLS", 3), ("MOST_DAYS", 4), ("MOST_PACKS", 4), ("MOST_SLOTS", 12)] : List (Str × Int)) ++ ([("MOST_AMOUNT", 3), ("MOST_UNITS", 6), ("MOST_PRICE", 9), ("MOST_COST", 99)] : List (Str × Int))
/-- what is told of a class C, named x at the top, of the attributes fs -/
structure ClsT (K : PySem.W.Frag) (mg : Str → Option Value) (x : Str) (C : Addr) (fs : List Str) : Prop where
  cl : Cls K C
  mgC : mg x = some (.ref C)
  ty : ∀ (H : Hp) (a dx : Addr) (fs : List (Str × V)), H a = some (.ins C dx fs) → TyOf K H (.ref a) (.ref C)
  no : ∀ f ∈ fs, NoAttr K C f
/-- its __init__; a property -/
def HasI (K : PySem.W.Frag) (C : Addr) (qual : Str) (st : Stmt) (dvs : List V) : Prop :=
  ∃ (f : Addr) (fd : FuncData), Mk K C f ∧ FunD K "__init__" qual (defArgs st) (defBody st) (defScope st) dvs [] f fd
def HasP (K : PySem.W.Frag) (C : Addr) (x qual : Str) (st : Stmt) : Prop :=
  ∃ (p g : Addr) (fd : FuncData), PropOf K C x p g ∧ FunD K x qual (defArgs st) (defBody st) (defScope st) [] [] g fd
def attrP : List Str := ["own_slots", "own_amount", "own_cost", "own_roll"]
def attrL : List Str := ["own_prices", "own_days", "own_names", "own_rows"]
def attrD : List Str := ["made", "sums", "gone", "now"]
structure Tx (K : PySem.W.Frag) (mg : Str → Option Value) : Prop where
  fn : ∀ p ∈ fnL, HasFn K mg p.1 (top p.2)
  free : ∀ x ∈ freeL, mg x = none
  int : ∀ p ∈ intL, ∃ u, mg p.1 = some u ∧ RelV (.int p.2) u
  let_ : ∃ u, mg "LETTERS" = some u ∧ RelV (.str letters) u
  pay : ∃ a, mg "PAY" = some (.ref a) ∧ ∀ H, SqT K H a [.str "pay"]
  night : ∃ a, mg "NIGHT" = some (.ref a) ∧ ∀ H, SqT K H a [.str "night"]
  P : ClsT K mg "Pack" (CP K) attrP
  L : ClsT K mg "Plan" (CL K) attrL
  D : ClsT K mg "Drawn" (CD K) attrD
  iP : HasI K (CP K) "Pack.__init__" (inClass (top 31) 0) [.non, .non]
  iL : HasI K (CL K) "Plan.__init__" (inClass (top 35) 0) []
  iD : HasI K (CD K) "Drawn.__init__" (inClass (top 63) 0) []
  pLast : HasP K (CP K) "last" "Pack.last" (inClass (top 31) 5)
  pPrices : HasP K (CL K) "prices" "Plan.prices" (inClass (top 35) 1)
  pDays : HasP K (CL K) "days" "Plan.days" (inClass (top 35) 2)
  pPacks : HasP K (CL K) "packs" "Plan.packs" (inClass (top 35) 3)
  pNames : HasP K (CL K) "names" "Plan.names" (inClass (top 35) 5)
/-- a class that may be made by its name; a property that may be read -/
structure Mak (P : Program) (w : World) (K : PySem.W.Frag) (mg : Str → Option Value) (base : Heap) (k : Nat) (x : Str) (C : Addr) (sp : Sp) : Prop where
  ex : ∃ (f : Addr) (fd : FuncData) (ps : List Str), Mk K C f ∧ FnOk P w K mg base CX0 k f fd ps sp ∧ mg x = some (.ref C) ∧ Binds K fd ps []
structure Pro (P : Program) (w : World) (K : PySem.W.Frag) (mg : Str → Option Value) (base : Heap) (k : Nat) (C : Addr) (x : Str) (sp : Sp) : Prop where
  ex : ∃ (p g : Addr) (fd : FuncData) (ps : List Str), Cls K C ∧ PropOf K C x p g ∧ FnOk P w K mg base CX0 k g fd ps sp ∧ Binds K fd ps []
section
variable {P : Program} {w : World} {K : PySem.W.Frag} {mg : Str → Option Value} {base : Heap}
theorem Mak.of {x qual : Str} {C : Addr} {fs : List Str} {st : Stmt} {N ps : List Str} {k : Nat} {sp : Sp} (c : ClsT K mg x C fs) (F : HasI K C qual st []) (S : FnScope N ps (defScope st))
    (b : ∀ (kV doc pm : Value) (an : Option Addr) (cdv ct : Value) (us : List Value), us.length = ps.length → bindArgs (PySem.W.fnOf "__init__" qual (defArgs st) (defBody st) (defScope st) .none kV doc pm an cdv ct) ⟨us, []⟩ = pure (ps.zip us))
    (len : ∀ vs H Q E, sp vs H Q E → vs.length = ps.length)
    (hbody : ∀ (f : Addr) (cdv : Value) (A : Around) (outer : List Env) (s : Shared) (H : Hp) (vs : List V) (Q : VK) (E : XK), Room k (A.deeper (envOfC qual (defScope st) s.heap.objs.size f cdv)) → sp vs H Q E →
      ∃ t, PSs (cxOf CX0 P w K mg base N qual (defScope st) f cdv A outer s H E).nox (defBody st) t ∧ t { nx := fun _ H' => Q .non H', rt := Q } (start N vs) H) : Mak P w K mg base (k + 1) x C sp := by
  obtain ⟨f, fd, M, F⟩ := F
  refine ⟨f, fd, ps, M, F.ok S len fun cdv A outer s H vs Q E hr hsp => ?_, c.mgC, F.bindsN b⟩
  obtain ⟨t, h, q⟩ := hbody f cdv A outer s H vs Q E hr hsp
  exact ⟨t, h.nox, q⟩
/-- the same, every default overwritten -/
theorem Mak.ofD {x qual : Str} {C : Addr} {fs : List Str} {st : Stmt} {N ps : List Str} {k : Nat} {sp : Sp} {dvs : List V} (hd : dvs ≠ []) (c : ClsT K mg x C fs) (F : HasI K C qual st dvs) (S : FnScope N ps (defScope st))
    (b : ∀ (T : Addr) (kV doc pm : Value) (an : Option Addr) (cdv ct : Value) (us its : List Value), us.length = ps.length → its.length = dvs.length →
      ∃ k, bindArgs (PySem.W.fnOf "__init__" qual (defArgs st) (defBody st) (defScope st) (.ref T) kV doc pm an cdv ct) ⟨us, []⟩ = seqItems? (.ref T) >>= k ∧ k (some its.toArray) = pure (ps.zip (us ++ its.drop dvs.length)))
    (len : ∀ vs H Q E, sp vs H Q E → vs.length = ps.length)
    (hbody : ∀ (f : Addr) (cdv : Value) (A : Around) (outer : List Env) (s : Shared) (H : Hp) (vs : List V) (Q : VK) (E : XK), Room k (A.deeper (envOfC qual (defScope st) s.heap.objs.size f cdv)) → sp vs H Q E →
      ∃ t, PSs (cxOf CX0 P w K mg base N qual (defScope st) f cdv A outer s H E).nox (defBody st) t ∧ t { nx := fun _ H' => Q .non H', rt := Q } (start N vs) H) : Mak P w K mg base (k + 1) x C sp := by
  obtain ⟨f, fd, M, F⟩ := F
  obtain ⟨ds, v, B⟩ := F.binds1 (ps := ps) ps.length dvs.length hd (by omega) b
  rw [List.drop_length] at v
  cases v
  refine ⟨f, fd, ps, M, F.ok S len fun cdv A outer s H vs Q E hr hsp => ?_, c.mgC, B⟩
  obtain ⟨t, h, q⟩ := hbody f cdv A outer s H vs Q E hr hsp
  exact ⟨t, h.nox, q⟩
theorem Pro.of {x qual : Str} {C : Addr} {st : Stmt} {N : List Str} {k : Nat} {sp : Sp} (c : Cls K C) (F : HasP K C x qual st) (S : FnScope N ["self"] (defScope st))
    (b : ∀ (kV doc pm : Value) (an : Option Addr) (cdv ct : Value) (us : List Value), us.length = ["self"].length → bindArgs (PySem.W.fnOf x qual (defArgs st) (defBody st) (defScope st) .none kV doc pm an cdv ct) ⟨us, []⟩ = pure ((["self"] : List Str).zip us))
    (len : ∀ vs H Q E, sp vs H Q E → vs.length = ["self"].length)
    (hbody : ∀ (f : Addr) (cdv : Value) (A : Around) (outer : List Env) (s : Shared) (H : Hp) (vs : List V) (Q : VK) (E : XK), Room k (A.deeper (envOfC qual (defScope st) s.heap.objs.size f cdv)) → sp vs H Q E →
      ∃ t, PSs (cxOf CX0 P w K mg base N qual (defScope st) f cdv A outer s H E).nox (defBody st) t ∧ t { nx := fun _ H' => Q .non H', rt := Q } (start N vs) H) : Pro P w K mg base (k + 1) C x sp := by
  obtain ⟨p, g, fd, Hp, F⟩ := F
  refine ⟨p, g, fd, ["self"], c, Hp, F.ok S len fun cdv A outer s H vs Q E hr hsp => ?_, F.bindsN b⟩
  obtain ⟨t, h, q⟩ := hbody g cdv A outer s H vs Q E hr hsp
  exact ⟨t, h.nox, q⟩
end
section
variable {X : Cx} {k j : Nat} {x : Str} {C : Addr} {sp : Sp} {p pos : Pos} {e : Expr} {es : List Expr} {t : TA} {ta : TE}
theorem pmk (c : Mak X.prog X.w X.K X.mg X.base k x C sp) (hr : Room j X.A) (ha : PA X (e :: es) t) (hk : k + 1 ≤ j := by decide) (hg : Gl X x := by rfl)
    (hdb : (x == ("__debug__" : Str)) = false := by decide) (he : starEach (e :: es) X.env = (false, eval e X.env) :: starEach es X.env := by rfl) (hpl : (backTo pos (starEach es X.env)).any (·.1) = false := by rfl) :
    PE X (.Call (.Name x p) (e :: es) [] pos) (tMake C sp [] E0 t) := by
  obtain ⟨f, fd, ps, M, F, hm, b⟩ := c.ex
  exact pe_make M F (hr.mono hk) hg hm b .nil pass0 ha hdb he hpl
theorem ppr (c : Pro X.prog X.w X.K X.mg X.base k C x sp) (hr : Room j X.A) (he : PE X e ta) (hk : k + 1 ≤ j := by decide) (hab : attributeBase e x X.env (eval e X.env) = eval e X.env := by rfl) : PE X (.Attribute e x pos) (tProp C sp [] E0 ta) := by
  obtain ⟨p, g, fd, ps, cl, hp, F, b⟩ := c.ex
  exact pe_prop he cl hp F (hr.mono hk) b .nil pass0 hab
theorem pfl {f : Str} (he : PE X e ta) (hb : attributeBase e f X.env (eval e X.env) = eval e X.env := by rfl) : PE X (.Attribute e f pos) (tFld X.K ta f) := pe_fld he hb
end
section
variable {K : PySem.W.Frag} {mg : Str → Option Value}
theorem Tx.f (T : Tx K mg) (p : Str × Nat) (h : p ∈ fnL := by decide +kernel) : HasFn K mg p.1 (top p.2) := T.fn p h
theorem Tx.z (T : Tx K mg) (x : Str) (h : x ∈ freeL := by decide +kernel) : mg x = none := T.free x h
theorem Tx.i (T : Tx K mg) (p : Str × Int) (h : p ∈ intL := by decide +kernel) : ∃ u, mg p.1 = some u ∧ RelV (.int p.2) u := T.int p h
end
end Nd
set_option Elab.async false
set_option linter.all false
set_option maxRecDepth 100000
set_option maxHeartbeats 2000000
namespace Nd
open PySem PySem.Spec PyProof.Rows L2
section
variable {P : Program} {w : World} {K : PySem.W.Frag} {mg : Str → Option Value} {base : Heap}
/-! ### is_number, is_within, is_list -/
def spIsNumber : Sp := fun vs H Q _ => ∃ n : Int, vs = [.int n] ∧ Q (.bl true) H
theorem sc_is_number : FnScope ["thing"] ["thing"] (defScope (top 24)) := ⟨rfl, rfl, rfl, by decide +kernel, rfl, by decide +kernel, by decide +kernel⟩
theorem ok_is_number (T : Tx K mg) : Cal P w K mg base 1 "is_number" spIsNumber := by
  refine Cal.of (T.f ("is_number", 24)) sc_is_number (fun _ _ _ _ _ _ us hl => match us, hl with | [_], _ => rfl) (fun vs H Q E h => ?_) (fun f cdv A outer s H vs Q E hr h => ?_)
  · obtain ⟨n, rfl, _⟩ := h
    rfl
  · obtain ⟨n, rfl, k⟩ := h
    refine ⟨_, pss_one (ps_ret (pe_and (pisi "int" (T.z "isinstance") (T.z "int") (pv 0)) (pe_one (pe_not (pisi "bool" (T.z "isinstance") (T.z "bool") (pv 0)))))), ?_⟩
    refine ⟨_, rfl, _, _, _, _, true, rfl, .ty _, .base (.int n), kit_ty (by decide +kernel), true, rfl, ?_⟩
    refine iteT ?_
    exact ⟨_, rfl, _, _, _, _, false, rfl, .ty _, .base (.int n), kit_ty (by decide +kernel), false, rfl, k⟩
def spIsWithin : Sp := fun vs H Q _ => ∃ n a b : Int, vs = [.int n, .int a, .int b] ∧ a ≤ n ∧ n ≤ b ∧ Q (.bl true) H
theorem sc_is_within : FnScope ["thing", "least", "most"] ["thing", "least", "most"] (defScope (top 25)) := ⟨rfl, rfl, rfl, by decide +kernel, rfl, by decide +kernel, by decide +kernel⟩
theorem ok_is_within (T : Tx K mg) : Cal P w K mg base 2 "is_within" spIsWithin := by
  refine Cal.of (T.f ("is_within", 25)) sc_is_within (fun _ _ _ _ _ _ us hl => match us, hl with | [_, _, _], _ => rfl) (fun vs H Q E h => ?_) (fun f cdv A outer s H vs Q E hr h => ?_)
  · obtain ⟨n, a, b, rfl, _⟩ := h
    rfl
  · obtain ⟨n, a, b, rfl, h1, h2, k⟩ := h
    refine ⟨_, pss_one (ps_ret (pe_and (pcl (ok_is_number T) hr (pa1 (pv 0))) (pe_one (pe_chain op_le op_le (pv 1) (pv 0) (pv 2))))), ?_⟩
    refine ⟨_, rfl, n, rfl, true, rfl, iteT ?_⟩
    refine ⟨_, rfl, _, rfl, _, _, rfl, rfl, _, rfl, ?_⟩
    refine iteD h1 ⟨_, rfl, _, _, rfl, rfl, ?_⟩
    exact ebl (decide_eq_true h2) k
def spIsList : Sp := fun vs H Q _ => ∃ (a : Addr) (xs : List V), vs = [.ref a] ∧ H a = some (.lst xs) ∧ ∀ H', Same H H' → Q (.bl true) H'
theorem sc_is_list : FnScope ["thing"] ["thing"] (defScope (top 26)) := ⟨rfl, rfl, rfl, by decide +kernel, rfl, by decide +kernel, by decide +kernel⟩
theorem ok_is_list (T : Tx K mg) : Cal P w K mg base 1 "is_list" spIsList := by
  refine Cal.of (T.f ("is_list", 26)) sc_is_list (fun _ _ _ _ _ _ us hl => match us, hl with | [_], _ => rfl) (fun vs H Q E h => ?_) (fun f cdv A outer s H vs Q E hr h => ?_)
  · obtain ⟨a, xs, rfl, _⟩ := h
    rfl
  · obtain ⟨a, xs, rfl, ha, k⟩ := h
    refine ⟨_, pss_one (ps_ret (pe_callB call_isiT rfl (T.z "isinstance") (by decide +kernel) (pa2 (pv 0) (pe_tup (pa2 (pe_bltn rfl (T.z "list") (v := .ty "list") (by decide +kernel) rfl) (pe_bltn rfl (T.z "tuple") (v := .ty "tuple") (by decide +kernel) rfl)))))), ?_⟩
    refine ⟨_, rfl, by show 2 ≤ sizeLine; decide, fun p hp => ?_⟩
    refine ⟨_, p, _, _, _, true, rfl, upd_same, .cons (.ty _) (.cons (.ty _) .nil), .base (.lst (xs := xs) ?_), kitAny_cons (b := true) (kit_ty (by decide +kernel)) (fun z => nomatch z) (fun _ => rfl), k _ (same_upd hp)⟩
    rw [upd_ne (ne_of_none ha hp)]
    exact ha
/-! ### is_name -/
theorem letters_len : ∀ c ∈ letters.cps.toList, c < 1114112 := by decide +kernel
def spIsName : Sp := fun vs H Q _ => ∃ z : Str, vs = [.str z] ∧ nameOk z ∧ ∀ H', Same H H' → Q (.bl true) H'
theorem sc_is_name : FnScope ["thing", "sign"] ["thing"] (defScope (top 27)) := ⟨rfl, rfl, rfl, by decide +kernel, rfl, by decide +kernel, by decide +kernel⟩
theorem ok_is_name (T : Tx K mg) : Cal P w K mg base 1 "is_name" spIsName := by
  refine Cal.of (T.f ("is_name", 27)) sc_is_name (fun _ _ _ _ _ _ us hl => match us, hl with | [_], _ => rfl) (fun vs H Q E h => ?_) (fun f cdv A outer s H vs Q E hr h => ?_)
  · obtain ⟨z, rfl, _⟩ := h
    rfl
  · obtain ⟨z, rfl, ⟨z1, z2, z3⟩, k⟩ := h
    refine ⟨_, pss_cons (ps_if (pw_or (pt_not (pt_val (pisi "str" (T.z "isinstance") (T.z "str") (pv 0)))) (pw_or1 (pt_not (pt_chain op_le op_le pe_int (plen (T.z "len") (pv 0)) (pcon (T.i ("LONGEST_NAME", 6))))))).pt pss_never pss_nil)
      (pss_one (ps_ret (pall (T.z "all") rfl (pe_lc (own := [("sign", 1)]) (g := gName 1) (tt := tYes) rfl sc_is_name.nd (pi_str (pv 0)) (blkOk_by (N := ["thing", "sign"]) (sc := defScope (top 27)) (by decide +kernel)) (fun _ _ _ _ _ => pgn 1 sc_is_name.nd) (fun _ _ _ _ _ => pts_nil)
        (fun _ _ _ _ _ => pe_cmpR op_in_sign (pv 1) (pcon T.let_) rfl))))), ?_⟩
    refine ⟨_, rfl, _, _, _, _, true, rfl, .ty _, .base (.str z), kit_ty (by decide +kernel), true, rfl, iteF ?_⟩
    have hz : z.length ≤ sizeLine := Nat.le_trans z2 (by decide)
    refine ⟨_, rfl, _, z.length, rfl, ⟨hz, rfl⟩, _, _, rfl, rfl, _, rfl, iteD (by omega) ⟨_, _, rfl, rfl, _, rfl, ?_⟩⟩
    refine iteBF (by simp; omega) ?_
    refine ⟨_, rfl, z, rfl, fun D hD => ?_⟩
    refine lc_go walk_str hD (fun i acc _ => acc = List.replicate i (V.bl true)) (fun _ _ _ _ _ h => h) rfl (fun _ _ => trivial) (Nat.lt_of_le_of_lt (show z.cps.size ≤ 6 from z2) (by decide)) (fun i x acc H1 H2 Fy Fn hi s e y ky kn => ?_) (fun H1 acc s hd e => ?_)
    · obtain ⟨rfl, c, hc, rfl⟩ := y
      refine ⟨rfl, lcY ⟨_, rfl, c, letters, rfl, rfl, ?_⟩⟩
      have hm : c ∈ letters.cps.toList := z3 c (by rw [← Array.getElem?_toList] at hc; exact List.mem_of_getElem? hc)
      rw [decide_eq_true hm]
      refine ky _ _ (Same.refl _) ?_
      rw [e, List.replicate_succ']
    · refine ⟨D, List.replicate z.cps.size true, rfl, SqL.of (by rw [hd, e, List.map_replicate]), ebl (by simp) (k _ s)⟩
end
end Nd
set_option Elab.async false
set_option linter.all false
set_option maxRecDepth 100000
set_option maxHeartbeats 2000000
/-! rules that the layer lacks: a target that is an attribute; enumerate of a tuple; sum, sorted of a tuple; sorted of pairs of a text and an int; in a tuple of data; dict(zip(tuple, tuple)). -/
namespace Nd
open PySem PySem.Spec PyProof.Rows L2
section
variable {X : Cx} {pos : Pos}
/-! ### o.f as a target -/
def gFld (K : PySem.W.Frag) (ta : TE) (f : Str) : TG := fun y σ H Q => ta σ H fun x H1 => ∃ a C dx fs, x = .ref a ∧ H1 a = some (.ins C dx fs) ∧ Cls K C ∧ NoAttr K C f ∧ fs.length < 1000 ∧ Q σ (upd H1 a (.ins C dx (putF f y fs)))
theorem pg_fld {o : Expr} {f : Str} {ta : TE} (ho : PE X o ta)
    (ha : ∀ v, assign (.Attribute o f pos) X.env v = (do
      let ov ← holding [v] (eval o X.env)
      standAt pos.atName
      holding [v, ov] (setAttr ov f v)
      release [v, ov] []) := by intro _; rfl) : PG X (.Attribute o f pos) (gFld X.K ta f) := by
  refine ⟨fun pins s σ H v u Q I r h => ?_⟩
  rw [ha]
  refine wpAny_bind (wpAny_holding (thn (ho.run pins s σ H _ I h) fun ov s1 ⟨x, H1, I1, r1, a, C, dx, fs, ex, ea, c, n, l, q⟩ => ?_))
  subst ex
  obtain rfl : ov = Value.ref a := r1
  refine wpAny_bind (wpAny_standAt (wpAny_bind (wpAny_holding (setattr_ok I1 ea c n l r fun s2 I2 => wpAny_release ⟨σ, _, I2, q⟩))))
end
end Nd
namespace Nd
open PySem PySem.Spec PyProof.Rows L2
open AutoSeq1 (wpAny_loadPart')
/-! ### enumerate(t), t a tuple -/
theorem meets_enumT (t : Addr) (items : Array Value) (n : Nat) (dct : Option Addr) (sl : Array (Option Value)) :
    Meets (Builtin.«enumerate.__new__» ⟨[.type "enumerate", .ref t], []⟩) (fun _ R s => s.heap.get? t = some { cls := .type "tuple", dict := dct, data := .seq items n, slots := sl } ∧
      R (.ok (.ret (.ref (s.heap.push { cls := .type "tuple_iterator", data := .fields #[.ref t, .int 0 0] }).objs.size)))
        { s with heap := (s.heap.push { cls := .type "tuple_iterator", data := .fields #[.ref t, .int 0 0] }).push { cls := .type "enumerate", data := .fields #[.none, .bool false, .ref s.heap.objs.size, rawInt 0, .none, .none] } }) :=
  .of_wp fun prog w A R s h => by
    obtain ⟨hp, g, d, tk, os⟩ := s
    obtain ⟨hl, h⟩ := h
    have hsub := sub_enumerate
    have hT : Heap.IsTuple (Shared.heap ⟨hp, g, d, tk, os⟩) t items := ⟨_, hl, rfl, n, rfl⟩
    wp_walk using wpAny_loadPart' hl
    refine wpAny_stack_any fun st => wpAny_pure ?_
    split
    · rename_i c _ _ _ _ _
      cases (c == Value.type "enumerate")
      · wp_walk using wpAny_loadPart' hl, wpAny_pyIter_tuple hT
        exact ⟨_, rfl, h⟩
      · wp_walk using wpAny_loadPart' hl, wpAny_pyIter_tuple hT
        exact ⟨_, rfl, h⟩
    · wp_walk using wpAny_loadPart' hl, wpAny_pyIter_tuple hT
      exact ⟨_, rfl, h⟩
theorem call_enumT {prog : Program} {w : World} {A : Around} {E : Value → Shared → Prop} {s : Shared} {t : Addr} {items : Array Value} {Q : Value → Shared → Prop} (hT : s.heap.IsTuple t items)
    (h : ∀ h', IsEnum h' (s.heap.objs.size + 1) s.heap.objs.size 0 .none → h'.IsTupleIter s.heap.objs.size t 0 → (∀ b o, s.heap.get? b = some o → h'.get? b = some o) → Q (.ref (s.heap.objs.size + 1)) { s with heap := h' }) :
    wpAny (model prog w) A (call (.type "enumerate") [.ref t]) Q E s := by
  obtain ⟨⟨c, dct, dt, sl⟩, hl, hc, n, hd⟩ := hT
  replace hc : c = .type "tuple" := hc
  replace hd : dt = .seq items n := hd
  subst hc hd
  refine callType_new F.called_enumerate (by decide) (F.typeCall_enumerate_1 _) (F.newCall_enumerate_1 _) (fun obj => F.args_object_init_2 obj _) F.entry_enumerate_new (meets_enumT t items n dct sl) ⟨hl, ?_⟩
  have hz : (s.heap.push { cls := .type "tuple_iterator", data := .fields #[.ref t, .int 0 0] }).objs.size = s.heap.objs.size + 1 := Heap.size_push ..
  have he := Heap.get?_push_size (s.heap.push { cls := .type "tuple_iterator", data := .fields #[.ref t, .int 0 0] }) (o := { cls := .type "enumerate", data := .fields #[.none, .bool false, .ref s.heap.objs.size, rawInt 0, .none, .none] }) rfl
  rw [hz] at he
  show _ ∧ _
  rw [hz]
  exact ⟨⟨_, he, rfl⟩, h _ he ⟨_, Heap.get?_push_of_some _ (Heap.get?_push_size _ rfl), rfl, rfl⟩ fun b o x => Heap.get?_push_of_some _ (Heap.get?_push_of_some _ x)⟩
/-- the tuple at a as it stands at each turn: the index and the item in a new pair -/
def IteT (K : PySem.W.Frag) (a : Addr) : It :=
  ⟨fun i H => ∃ (xs : List V) (x : V), SqT K H a xs ∧ xs[i]? = some x,
    fun i H v H' => ∃ T x, v = .ref T ∧ H T = none ∧ H' = upd H T (.tup [.int (i : Nat), x]) ∧ ∀ xs, SqT K H a xs → xs[i]? = some x,
    fun i H => ∃ xs : List V, SqT K H a xs ∧ xs.length ≤ i⟩
theorem turn_enumT {P : Program} {w : World} {K : PySem.W.Frag} {elts : List Expr} {kk : Nat} {tpos : Pos} (a e it : Addr) (hne : e ≠ it) (hae : a ≠ e) (hai : a ≠ it) :
    Turn P w K (.Tuple elts kk tpos) (IteT K a) [e, it] e (fun i h => (∃ old, IsEnum h e it (i : Nat) old) ∧ h.IsTupleIter it a i) where
  mem := by simp
  obj := fun i h st b hb => by
    obtain ⟨⟨old, he⟩, ⟨o, ho, hc, hd⟩⟩ := st
    have e' : b = e ∨ b = it := by simpa using hb
    rcases e' with z | z
    · rw [z]
      exact ⟨_, he, fun v q => nomatch q⟩
    · rw [z]
      exact ⟨o, ho, fun v q => by
        rw [hd] at q
        cases q⟩
  keep := fun i h h' st k => ⟨let ⟨old, he⟩ := st.1; ⟨old, k e (by simp) _ he⟩, st.2.at fun o q => k it (by simp) o q⟩
  item := by
    intro X hP hw hK hc i pins s σ H E I hf st hg
    subst hP hw hK
    obtain ⟨⟨old, he⟩, hit⟩ := st
    obtain ⟨xs, x, hq, hx⟩ := hg
    obtain ⟨its, rv, p, hz⟩ := I.tuple hq
    obtain ⟨u, hu, ru⟩ := rv.get hx
    have hel : e < s.heap.objs.size := Heap.lt_size he
    have hil : it < s.heap.objs.size := let ⟨_, q, _⟩ := hit; Heap.lt_size q
    have hlt : i < its.toArray.size := by
      have := (List.getElem?_eq_some_iff.mp hu).1
      simpa using this
    have hef : e ∉ [it, a] := by simp [hne, Ne.symm hae]
    refine wpAny_pyNext_enum_itemD (i := i) (Draws.tuple (prog := X.prog) (w := X.w) (A := X.A.in1) (I.ok.hd hc) it a hai its.toArray) he ⟨hit, p⟩ hlt hne hef fun y h' tk hy ho st' hT hsz hk => ?_
    have ey : y = u := Option.some.inj (hy.symm.trans (by simpa using hu))
    subst ey
    refine ⟨_, rfl, wpAny_letOwnedTupleGo_enum (s := { s with heap := h', toks := tk + 1 }) ho fun h'' he' sb => ?_⟩
    have hT2 : h''.get? s.heap.objs.size = some { cls := .type "tuple", data := .seq #[.int i tk, y] } := (sb.2 _ (Nat.ne_of_gt hel)).trans hT
    have new : ObjOk X.prog X.w (upd H s.heap.objs.size (.tup [.int (i : Nat), x])) h'' s.heap.objs.size (.tup [.int (i : Nat), x]) :=
      ⟨by show 2 ≤ sizeLine; decide, [.int i tk, y], .cons ⟨_, rfl⟩ (.cons ru .nil), ⟨_, hT2, rfl, _, rfl⟩⟩
    have I1 : Inv X pins σ (upd H s.heap.objs.size (.tup [.int (i : Nat), x])) { s with heap := h'', toks := tk + 1 } :=
      I.turnedNew (ch := [e, it]) (fun b ob hb q => (sb.2 b (fun z => hb (by simp [z]))).trans (hk b ob (fun z => hb (by simp [z])) (fun z => hb (by simp [z])) q)) hf (Nat.le_refl _) new
    refine ⟨.ref s.heap.objs.size, _, I1, rfl, ⟨_, x, rfl, I.hok.fresh (Nat.le_refl _), rfl, fun ys hy' => by rw [I.tuple_inj hy' hq]; exact hx⟩, ⟨⟨y, ?_⟩, st'.1.at fun o q => (sb.2 it (Ne.symm hne)).trans q⟩, fun b hb => ?_⟩
    · have e1 : ((i + 1 : Nat) : Int) = (i : Int) + 1 := by omega
      rw [e1]
      exact he'
    · have hb' : b < s.heap.objs.size := by
        have e' : b = e ∨ b = it := by simpa using hb
        rcases e' with z | z
        · rw [z]
          exact hel
        · rw [z]
          exact hil
      rw [upd_ne (Nat.ne_of_lt hb')]
      exact (hf b hb).1
  done := by
    intro X hP hw hK hc i pins s σ H E I hf st hg
    subst hP hw hK
    obtain ⟨⟨old, he⟩, hit⟩ := st
    obtain ⟨xs, hq, hx⟩ := hg
    obtain ⟨its, rv, p, hz⟩ := I.tuple hq
    obtain ⟨f0, f1, f2, f3, f4, f5⟩ := hf it (by simp)
    have hl := rv.length
    have hT : s.TypeIs (.ref e) "enumerate" := ⟨_, he, rfl⟩
    unfold pyNext
    refine wpAny_bind (wpAny_attempt (wpAny_callSpecial?_slot (name := Str.ofString "__next__") hT F.slot_enumerate_next (wpAny_call_entry F.slot_enumerate_next hT F.entry_enumerate_next ?_ (F.args_enumerate_next_1 _))))
    show wpAny _ _ (field (.ref e) 2 >>= _) _ _ _
    refine wpAny_bind (wpAny_field he rfl (x := .ref it) rfl ?_)
    refine wpAny_bind (wpAny_nextOf_tuple_end (I.ok.hd hc) hit p (by simp; omega) fun h' x eb hx' => ?_)
    obtain ⟨o, ho, hcl⟩ := hx'
    refine wpAny_bind (wpAny_isInstance (T := "StopIteration") (b := true) ⟨o, ho, hcl⟩ isSubtype_stop ?_)
    exact wpAny_pure ⟨rfl, I.turned (t' := s.toks) (fun b o hb q => eb b o hb q) f0 f1 f3 f4 f5⟩
  self := fun A i s Q E st h => let ⟨⟨_, he⟩, _⟩ := st; wpAny_pyIter_enum he h
def iEnumT (K : PySem.W.Frag) (ta : TA) : TI := fun σ H R => ta σ H fun vs H1 => ∃ a xs, vs = [.ref a] ∧ SqT K H1 a xs ∧ R (IteT K a) H1
theorem pi_enumT {X : Cx} {e : Expr} {ta : TA} {p pos tpos : Pos} {elts : List Expr} {kk : Nat} (hm : X.mg "enumerate" = none) (ha : PA X [e] ta) (hg : Gl X "enumerate" := by rfl) (hs : starEach [e] X.env = [(false, eval e X.env)] := by rfl) :
    PI X (.Tuple elts kk tpos) (.Call (.Name "enumerate" p) [e] [] pos) (iEnumT X.K ta) := by
  refine ⟨fun pins s σ H R I h => ?_⟩
  refine Call_ (ld_blt I hg hm boot_enumerate (PyProof.Rows.callWith_type1 (thn (ha.run pos pins s σ H _ I h) fun us s1 ⟨vs, H1, I1, r1, q1⟩ => ?_) hs rfl))
  obtain ⟨a, xs, ex, hq, q⟩ := q1
  subst ex
  cases r1 with
  | cons r rr =>
    cases rr
    cases r
    obtain ⟨its, rv, p', hz⟩ := I1.tuple hq
    have hal : a < s1.heap.objs.size := p'.lt
    refine call_enumT p' fun h' he hit hk => wpAny_pyIter_enum he ?_
    have I2 : Inv X pins σ H1 { s1 with heap := h' } := I1.kept (t' := s1.toks) hk
    refine ⟨s1.heap.objs.size + 1, [s1.heap.objs.size + 1, s1.heap.objs.size], _, _, H1, rfl, I2, turn_enumT a (s1.heap.objs.size + 1) s1.heap.objs.size (Nat.succ_ne_self _) (Nat.ne_of_lt (Nat.lt_succ_of_lt hal)) (Nat.ne_of_lt hal), ⟨⟨.none, he⟩, hit⟩, fun b hb => ?_, q⟩
    have e' : b = s1.heap.objs.size + 1 ∨ b = s1.heap.objs.size := by simpa using hb
    have hle : s1.heap.objs.size ≤ b := by
      rcases e' with z | z
      · rw [z]
        exact Nat.le_add_right _ _
      · rw [z]
        exact Nat.le_refl _
    exact I1.fpOk hle (I1.hok.fresh hle)
theorem walk_enumT {K : PySem.W.Frag} {a : Addr} {xs : List V} : Walk (IteT K a) xs.length (fun H => SqT K H a xs) (YPair (fun i => some (.int (i : Nat))) (fun i => xs[i]?)) := by
  refine ⟨fun i _ hi q => ⟨xs, xs[i], q, by simp [hi]⟩, fun _ q => ⟨xs, q, Nat.le_refl _⟩, fun i H v H' _ q y => ?_⟩
  obtain ⟨T, x, h1, h2, h3, h4⟩ := y
  exact ⟨T, .int (i : Nat), x, h1, h2, h3, rfl, h4 xs q⟩
theorem walk_zipT {K : PySem.W.Frag} {a b : Addr} {xs ys : List V} {n : Nat} (hn : n = min xs.length ys.length) : Walk (RZ.ItzT K a b) n (fun H => SqT K H a xs ∧ SqT K H b ys) (YPair (fun i => xs[i]?) (fun i => ys[i]?)) := by
  subst hn
  refine ⟨fun i _ hi q => ?_, fun _ q => ⟨xs, ys, q.1, q.2, by omega⟩, fun i H v H' _ q y => ?_⟩
  · have h1 : i < xs.length := by omega
    have h2 : i < ys.length := by omega
    exact ⟨xs, ys, xs[i], ys[i], q.1, q.2, by simp [h1], by simp [h2]⟩
  · obtain ⟨T, x, z, h1, h2, h3, h4, h5⟩ := y
    exact ⟨T, x, z, h1, h2, h3, h4 xs q.1, h5 ys q.2⟩
end Nd
set_option Elab.async false
set_option linter.all false
set_option maxRecDepth 100000
set_option maxHeartbeats 2000000
namespace Nd
open PySem PySem.Spec PyProof.Rows L2
/-! ### sum(t), t a tuple of ints -/
def rSumT (K : PySem.W.Frag) : List V → Hp → VK → Prop := fun vs H Q => ∃ (a : Addr) (ns : List Int), vs = [V.ref a] ∧ SqT K H a (ns.map V.int) ∧ Q (.int ns.sum) H
theorem cr_sumT {X : Cx} (hc : X.calm = true) : CallR X (.builtin "sum") (rSumT X.K) := by
  intro pins s σ H vs us Q I r h
  obtain ⟨a, ns, rfl, hs, q⟩ := h
  obtain ⟨its, rv, hl, _⟩ := I.tuple hs
  rw [Vals.ref1 r]
  have hi := rv.ints
  obtain ⟨xs, e⟩ := hi.allInts.items
  have hn : numsOf (intItems xs).toList = ns := by
    rw [← e]
    exact hi.numsOf
  rw [nums_intItems] at hn
  rw [e] at hl
  refine PySem.W.ktm_sumG (I.ok.hd hc) hl fun h' tk t' hk => ?_
  have z : preSum (numAt xs) xs.size = ns.sum := by
    rw [preSum_eq, List.take_of_length_le (by simp), hn]
  rw [z]
  exact ⟨.int _, H, I.kept hk, ⟨_, rfl⟩, q⟩

/-! ### sorted of a list of pairs of a text and an int -/
theorem TdAll.zipped {K : PySem.W.Frag} {H : Hp} {β : Type} {f : β → PyData} : ∀ {vs : List V} {bs : List β}, TdAll K H vs (bs.map f) → (∀ p ∈ vs.zip bs, Td K H p.1 (f p.2)) ∧ vs.length = bs.length
  | [], [], _ => ⟨fun p hp => by simp at hp, rfl⟩
  | v :: vs, b :: bs, h => by
    cases h with
    | cons a t =>
      obtain ⟨h1, h2⟩ := TdAll.zipped t
      refine ⟨fun p hp => ?_, congrArg (· + 1) h2⟩
      rcases List.mem_cons.mp hp with e | hp
      · rw [e]
        exact a
      · exact h1 p hp
theorem TdAll.of_zip {K : PySem.W.Frag} {H : Hp} {β : Type} {f : β → PyData} : ∀ {ps : List (V × β)}, (∀ p ∈ ps, Td K H p.1 (f p.2)) → TdAll K H (ps.map Prod.fst) ((ps.map Prod.snd).map f)
  | [], _ => .nil
  | p :: ps, h => .cons (h p (List.mem_cons_self ..)) (TdAll.of_zip fun q hq => h q (List.mem_cons_of_mem _ hq))
theorem slot_alike (a b : Slot) : PySem.W.alike (slotD a) (slotD b) = true := by simp [slotD, PySem.W.alike, PySem.W.alikeAll]
theorem slot_depth (a : Slot) : (slotD a).depth = 1 := by simp [slotD, PyData.depth, PyData.depthAll]
theorem vals_each {bs : List (V × Slot)} : ∀ {us : List Value}, Vals (bs.map Prod.fst) us → PySem.W.EachIs (fun v (b : V × Slot) => RelV b.1 v) us bs := by
  induction bs with
  | nil =>
    intro us h
    cases h
    exact .nil
  | cons b bs ih =>
    intro us h
    cases h with
    | cons r t => exact .cons r (ih t)
theorem each_vals {bs : List (V × Slot)} : ∀ {us : List Value}, PySem.W.EachIs (fun v (b : V × Slot) => RelV b.1 v) us bs → Vals (bs.map Prod.fst) us := by
  induction bs with
  | nil =>
    intro us h
    cases h
    exact .nil
  | cons b bs ih =>
    intro us h
    cases h with
    | cons r t => exact .cons r (ih t)
def rSortSI (K : PySem.W.Frag) : List V → Hp → VK → Prop := fun vs H Q => ∃ (a : Addr) (xs : List V) (ss : List Slot), vs = [V.ref a] ∧ SqL K H a xs ∧ TdAll K H xs (ss.map slotD) ∧ ss.length ≤ 1000 ∧
  ∀ (ys : List V) (ts : List Slot) (p : Addr), ts.Perm ss → TdAll K H ys (ts.map slotD) → H p = none → Q (.ref p) (upd H p (.lst ys))
theorem cr_sortSI {X : Cx} (hu : X.A.units + 64 < cLine) : CallR X (.builtin "sorted") (rSortSI X.K) := by
  intro pins s σ H vs us Q I r h
  obtain ⟨a, xs, ss, rfl, hs, ht, hl, q⟩ := h
  obtain ⟨its, rv, pl, _⟩ := I.list hs
  rw [Vals.ref1 r]
  obtain ⟨hz, hlen⟩ := TdAll.zipped ht
  have e1 : (xs.zip ss).map Prod.fst = xs := List.map_fst_zip (Nat.le_of_eq hlen)
  have e2 : (xs.zip ss).map Prod.snd = ss := List.map_snd_zip (Nat.le_of_eq hlen.symm)
  have rv' : Vals ((xs.zip ss).map Prod.fst) its := by
    rw [e1]
    exact rv
  have lz : (xs.zip ss).length = ss.length := by
    rw [List.length_zip, hlen, Nat.min_self]
  have er : PySem.W.EachIs (fun v (b : V × Slot) => ∃ as, Reads s.heap v (slotD b.2) as) its (xs.zip ss) := by
    have key : ∀ (bs : List (V × Slot)) (us : List Value), (∀ p ∈ bs, Td X.K H p.1 (slotD p.2)) → Vals (bs.map Prod.fst) us → PySem.W.EachIs (fun v (b : V × Slot) => ∃ as, Reads s.heap v (slotD b.2) as) us bs := by
      intro bs
      induction bs with
      | nil =>
        intro us _ h
        cases h
        exact .nil
      | cons b bs ih =>
        intro us hb h
        cases h with
        | cons r t => exact .cons (Dp.reads I _ _ _ (hb b (List.mem_cons_self ..)).dp r) (ih _ (fun p hp => hb p (List.mem_cons_of_mem _ hp)) t)
    exact key _ _ hz rv'
  refine PySem.W.sorted_data (vs := its) (bs := xs.zip ss) (enc := fun b => slotD b.2) pl.isList (vals_each rv') er (PySem.W.AllAlike.of fun b c => slot_alike b.2 c.2) (PySem.W.Sortable.tuples fun b => ⟨_, _, rfl⟩) (by rw [lz]; exact Nat.le_trans hl (by decide)) (fun b _ => by rw [slot_depth]; omega) fun out ho eo => ?_
  obtain ⟨ep, he'⟩ := PyProof.Rows.sortedAll_at s.heap its out.toArray
  have hp : ((xs.zip ss).mergeSort (PySem.W.dataLe false fun b => slotD b.2)).Perm (xs.zip ss) := List.mergeSort_perm _ _
  have vo := each_vals eo
  have hlo : (((xs.zip ss).mergeSort (PySem.W.dataLe false fun b => slotD b.2)).map Prod.fst).length ≤ sizeLine := by
    rw [List.length_map, hp.length_eq, lz]
    exact Nat.le_trans hl (by decide)
  refine ⟨.ref _, upd H (s.heap.objs.size + 1) (.lst (((xs.zip ss).mergeSort (PySem.W.dataLe false fun b => slotD b.2)).map Prod.fst)), I.laid (t' := s.toks) (fun _ _ => PyProof.Rows.sortedAll_old) (Nat.le_succ _) ⟨hlo, out, ep, vo, he'⟩, rfl, q _ _ _ ?_ (TdAll.of_zip fun p hm => hz p (hp.mem_iff.mp hm)) (I.hok.fresh (Nat.le_succ _))⟩
  have z := hp.map Prod.snd
  rw [e2] at z
  exact z

/-! ### sorted of a tuple of texts -/
def rSortTS (K : PySem.W.Frag) : List V → Hp → VK → Prop := fun vs H Q => ∃ (a : Addr) (xs : List Str), vs = [V.ref a] ∧ SqT K H a (xs.map V.str) ∧ xs.length < 64 ∧
  ∀ (ys : List Str) (p : Addr), ys.Perm xs → sortedS ys = true → H p = none → Q (.ref p) (upd H p (.lst (ys.map V.str)))
theorem cr_sortTS {X : Cx} : CallR X (.builtin "sorted") (rSortTS X.K) := by
  intro pins s σ H vs us Q I r h
  obtain ⟨a, xs, rfl, hs, h64, q⟩ := h
  obtain ⟨its, rv, ⟨o, ho, hc, n, hd⟩, _⟩ := I.tuple hs
  rw [Vals.ref1 r]
  have hS := rv.strs
  have hlen0 := rv.length
  rw [List.length_map] at hlen0
  refine Calls.call_function_entry kind_sorted plain_sorted entry_sorted (args_sorted1 _) ?_
  unfold Builtin.«sorted»
  refine wpAny_bind (m := checkCount "sorted" 1 1 _) (wpAny_pure ?_)
  refine wpAny_bind (wpAny_collect_seq a (.inr rfl) ho hc hd (fun h' hk => ?_) (by rw [List.size_toArray]; exact small64 (by omega)))
  have e : its.toArray.toList = its := by simp
  rw [e]
  have I1 : Inv X pins σ H { s with heap := h' } := I.kept (t' := s.toks) hk
  refine wpAny_bind (wpAny_newList ?_ (by rw [sizeLine_eq]; omega))
  have hoL : (h'.push (seqObj "list" its.toArray 0)).get? h'.objs.size = some (seqObj "list" its.toArray 0) := Heap.get?_push_size _ rfl
  refine wpAny_bind (wpAny_holding (wpAny_call_entry slot_list_sort ⟨_, hoL, rfl⟩ entry_list_sort (list_sort_treeK strKind_oneLt hoL hS.keysOf (fun v₁ v₂ rest e => keyKind_strs (by rw [← e]; exact hS)) (by omega) fun st' hp hs' => ⟨_, rfl, ?_⟩) (args_list_sort _)))
  obtain ⟨ys, h1, h2, h3⟩ := sorted_out_str hS hp hs'
  obtain ⟨ep, he'⟩ := PyProof.Rows.sortedHeap_at (vs := its) (out := (arrOf st').map (·.2)) hoL
  have hlen : (ys.map V.str).length ≤ sizeLine := by
    rw [List.length_map, h2.length_eq]
    exact small64 h64
  have keep : ∀ b u, h'.get? b = some u → (PyProof.Rows.sortedHeap (h'.push (seqObj "list" its.toArray 0)) h'.objs.size its ((arrOf st').map (·.2))).get? b = some u := fun b u e => by
    have hb : b < h'.objs.size := Heap.lt_size e
    rw [PyProof.Rows.sortedHeap_old (Nat.ne_of_lt hb) (by rw [Heap.size_push]; exact Nat.lt_succ_of_lt hb)]
    exact Heap.get?_push_of_some _ e
  exact wpAny_pure ⟨_, rfl, .ref h'.objs.size, upd H h'.objs.size (.lst (ys.map V.str)), I1.laid (t' := s.toks) keep (Nat.le_refl _) ⟨hlen, _, ep, vals_of_strs h1, he'⟩, rfl, q ys _ h2 h3 (I1.hok.fresh (Nat.le_refl _))⟩

/-! ### x in t, t a tuple of data -/
def rInDT (K : PySem.W.Frag) : R2 := fun x y H Q => ∃ d ds, Dp K H x d ∧ Dp K H y (.tuple ds) ∧ SeqAt.shaped d = true ∧ PyData.canLayAll0 ds = true ∧ Q (.bl (ds.any fun z => PyData.eqv z d)) H
theorem op_inDT {X : Cx} (hu : X.A.units + 65 < cLine) : OpR X (compareOp .In) (rInDT X.K) := by
  intro pins s σ H x y v u Q I rx ry h
  obtain ⟨d, ds, hd, he, sd, se, q⟩ := h
  obtain ⟨as, r1⟩ := Dp.reads I d x v hd rx
  obtain ⟨bs, r2⟩ := Dp.reads I (.tuple ds) y u he ry
  refine SeqAt.in_tuple_reads r2 r1 se (SeqAt.canLay_of_shaped sd) ?_ ⟨.bl _, H, I, rfl, q⟩
  have h1 := SeqAt.depth_of_shaped sd
  have h2 : min (PyData.depthAll ds) d.depth ≤ d.depth := Nat.min_le_right _ _
  omega
end Nd
set_option Elab.async false
set_option linter.all false
set_option maxRecDepth 100000
set_option maxHeartbeats 2000000
/-! dict(zip(t, u)), t and u tuples. -/
namespace Nd
open PySem PySem.Spec PyProof.Rows L2
section
variable {prog : Program} {w : World} {A : Around} {E : Value → Shared → Prop} {s : Shared}
/-- the next pair, while the one before is still out -/
theorem heldT_item {z TI TO T i1 i2 l1 l2 : Addr} {f : Bool} {oT : Obj} {k : Nat} {xs ys : Array Value} {x y : Value} {Q : Option Value → Shared → Prop} (D : ZipApart z TI TO i1 i2 l1 l2)
    (hz : IsZipHeld s.heap z TI TO T f) (hT : s.heap.get? T = some oT) (hTI : IsPair s.heap TI (.ref i1) (.ref i2)) (h1 : s.heap.IsTupleIter i1 l1 k) (h2 : s.heap.IsTupleIter i2 l2 k) (t1 : s.heap.IsTuple l1 xs) (t2 : s.heap.IsTuple l2 ys)
    (hx : xs[k]? = some x) (hy : ys[k]? = some y)
    (hQ : ∀ h', IsZipHeld h' z TI TO T true → h'.IsTupleIter i1 l1 (k + 1) → h'.IsTupleIter i2 l2 (k + 1) → IsPair h' s.heap.objs.size x y →
      (∀ c o, c ≠ z → c ≠ i1 → c ≠ i2 → s.heap.get? c = some o → h'.get? c = some o) → Q (some (.ref s.heap.objs.size)) { s with heap := h' }) :
    wpAny (model prog w) A (pyNext (.ref z)) Q E s := by
  have hTy : s.TypeIs (.ref z) "zip" := ⟨_, hz, rfl⟩
  unfold pyNext
  refine wpAny_bind (wpAny_attempt (wpAny_callSpecial?_slot (name := Str.ofString "__next__") hTy F.slot_zip_next (wpAny_call_entry F.slot_zip_next hTy F.entry_zip_next ?_ (F.args_zip_next_1 _))))
  show wpAny _ _ (field (.ref z) 2 >>= _) _ _ _
  refine wpAny_bind (wpAny_field hz rfl (x := .bool false) rfl ?_)
  show wpAny _ _ (field (.ref z) 3 >>= _) _ _ _
  refine wpAny_bind (wpAny_field hz rfl (x := .ref TI) rfl ?_)
  refine wpAny_bind (wpAny_seqItems hTI rfl ?_)
  show wpAny _ _ (Builtin.SmallTypes.ownedTupleIsFree (.ref z) >>= _) _ _ _
  refine wpAny_bind (wpAny_tupleHeld_zip hz hT fun g1 z1 s1 => ?_)
  simp only [Bool.false_eq_true, if_false]
  refine wpAny_bind ?_
  rw [← Array.forIn_toList]
  simp only [List.forIn_cons, List.forIn_nil]
  refine wpAny_bind (wpAny_bind (wpAny_holding ?_))
  show wpAny _ _ (Builtin.SmallTypes.nextOf (.ref i1) >>= _) _ _ _
  refine wpAny_bind (RZ.nextOf_tuple_item (s := { s with heap := g1 }) (h1.extBut s1.extBut D.i1z) (t1.extBut s1.extBut D.l1z) hx fun g2 a1 s2 => wpAny_pure ?_)
  refine wpAny_pure ?_
  refine wpAny_bind (wpAny_bind (wpAny_holding ?_))
  show wpAny _ _ (Builtin.SmallTypes.nextOf (.ref i2) >>= _) _ _ _
  refine wpAny_bind (RZ.nextOf_tuple_item (s := { s with heap := g2 }) ((h2.extBut s1.extBut D.i2z).extBut s2.extBut D.i12.symm) ((t2.extBut s1.extBut D.l2z).extBut s2.extBut D.l2i1) hy fun g3 a2 s3 => wpAny_pure ?_)
  refine wpAny_pure (wpAny_pure ?_)
  show wpAny _ _ (newTuple [x, y] >>= _) _ _ _
  refine wpAny_bind (wpAny_newTuple ?_)
  have sz : g3.objs.size = s.heap.objs.size := by rw [s3.1, s2.1, s1.1]
  have z3 : IsZipHeld g3 z TI TO T true := s3.extBut _ _ D.i2z.symm (s2.extBut _ _ D.i1z.symm z1)
  have a3 : g3.IsTupleIter i1 l1 (k + 1) := a1.extBut s3.extBut D.i12
  have hp : IsPair (g3.push { cls := .type "tuple", data := .seq #[x, y] }) g3.objs.size x y := Heap.get?_push_size _ rfl
  refine wpAny_pure ⟨_, rfl, ?_⟩
  rw [sz] at hp
  show wpAny _ _ (pure (some (Value.ref g3.objs.size))) _ _ _
  rw [sz]
  exact wpAny_pure (hQ _ (Heap.get?_push_of_some _ z3) (a3.at fun o e => Heap.get?_push_of_some _ e) (a2.at fun o e => Heap.get?_push_of_some _ e) hp fun c o c1 c2 c3 e =>
    Heap.get?_push_of_some _ (s3.extBut _ _ c3 (s2.extBut _ _ c2 (s1.extBut _ _ c1 e))))
theorem heldT_end {z TI TO T i1 i2 l1 l2 : Addr} {f : Bool} {oT : Obj} {k : Nat} {xs : Array Value} {Q : Option Value → Shared → Prop} (hh : A.handled = none) (D : ZipApart z TI TO i1 i2 l1 l2)
    (hz : IsZipHeld s.heap z TI TO T f) (hT : s.heap.get? T = some oT) (hTI : IsPair s.heap TI (.ref i1) (.ref i2)) (h1 : s.heap.IsTupleIter i1 l1 k) (t1 : s.heap.IsTuple l1 xs)
    (hx : xs[k]? = none) (hQ : ∀ h', (∀ c o, c ≠ z → c ≠ i1 → c ≠ i2 → s.heap.get? c = some o → h'.get? c = some o) → Q none { s with heap := h' }) :
    wpAny (model prog w) A (pyNext (.ref z)) Q E s := by
  have hTy : s.TypeIs (.ref z) "zip" := ⟨_, hz, rfl⟩
  unfold pyNext
  refine wpAny_bind (wpAny_attempt (wpAny_callSpecial?_slot (name := Str.ofString "__next__") hTy F.slot_zip_next (wpAny_call_entry F.slot_zip_next hTy F.entry_zip_next ?_ (F.args_zip_next_1 _))))
  show wpAny _ _ (field (.ref z) 2 >>= _) _ _ _
  refine wpAny_bind (wpAny_field hz rfl (x := .bool false) rfl ?_)
  show wpAny _ _ (field (.ref z) 3 >>= _) _ _ _
  refine wpAny_bind (wpAny_field hz rfl (x := .ref TI) rfl ?_)
  refine wpAny_bind (wpAny_seqItems hTI rfl ?_)
  show wpAny _ _ (Builtin.SmallTypes.ownedTupleIsFree (.ref z) >>= _) _ _ _
  refine wpAny_bind (wpAny_tupleHeld_zip hz hT fun g1 z1 s1 => ?_)
  simp only [Bool.false_eq_true, if_false]
  refine wpAny_bind ?_
  rw [← Array.forIn_toList]
  simp only [List.forIn_cons, List.forIn_nil]
  refine wpAny_bind (wpAny_bind (wpAny_holding ?_))
  show wpAny _ _ (Builtin.SmallTypes.nextOf (.ref i1) >>= _) _ _ _
  refine wpAny_bind (RZ.nextOf_tuple_end (s := { s with heap := g1 }) hh (h1.extBut s1.extBut D.i1z) (t1.extBut s1.extBut D.l1z) hx fun g2 e s2 he => ?_)
  obtain ⟨o, ho, hc⟩ := he
  refine wpAny_bind (wpAny_isInstance (T := "StopIteration") (b := true) ⟨o, ho, hc⟩ isSubtype_stop ?_)
  exact wpAny_pure (hQ _ fun c o c1 c2 _ x => s2 _ _ c2 (s1.extBut _ _ c1 x))
end
/-- zip(t, u) of two tuples of one length, as dict's argument -/
theorem pairsT {prog : Program} {w : World} (z TI TO i1 i2 l1 l2 : Addr) (D : ZipApart z TI TO i1 i2 l1 l2) (xs ys : Array Value) (hxy : xs.size = ys.size) :
    PairArg prog w "zip" z [z, TI, TO, i1, i2, l1, l2] [z, TO, i1, i2] xs.size (fun i k v => xs[i]? = some k ∧ ys[i]? = some v)
      (fun h => IsZip h z TI TO .none ∧ IsPair h TI (.ref i1) (.ref i2) ∧ (∃ a b, IsPair h TO a b) ∧ h.IsTupleIter i1 l1 0 ∧ h.IsTupleIter i2 l2 0 ∧ h.IsTuple l1 xs ∧ h.IsTuple l2 ys) where
  type := fun s ok => ⟨_, ok.1, rfl⟩
  notDict := by decide
  keep := fun h h' ok hk => by
    obtain ⟨hz, hTI, ⟨a, b, hTO⟩, h1, h2, t1, t2⟩ := ok
    exact ⟨hk _ _ hz, hk _ _ hTI, ⟨a, b, hk _ _ hTO⟩, h1.at fun o e => hk _ o e, h2.at fun o e => hk _ o e, t1.at fun o e => hk _ o e, t2.at fun o e => hk _ o e⟩
  there := fun h ok b hb => by
    obtain ⟨hz, hTI, ⟨a, c, hTO⟩, ⟨o1, h1, _⟩, ⟨o2, h2, _⟩, ⟨o3, t1, _⟩, ⟨o4, t2, _⟩⟩ := ok
    simp only [List.mem_cons, List.not_mem_nil, or_false] at hb
    rcases hb with rfl | rfl | rfl | rfl | rfl | rfl | rfl
    all_goals first | exact ⟨_, hz⟩ | exact ⟨_, hTI⟩ | exact ⟨_, hTO⟩ | exact ⟨_, h1⟩ | exact ⟨_, h2⟩ | exact ⟨_, t1⟩ | exact ⟨_, t2⟩
  sub := fun b hb => by
    simp at hb ⊢
    rcases hb with rfl | rfl | rfl | rfl <;> simp
  noKeys := fun A s Q E hA ok h => getAttrOr_miss_zip ok.1 rfl rfl rfl zip_no_keys (by decide +kernel) hA h
  iter := fun A s d Q E hA ok hd hdf h => by
    obtain ⟨hz, hTI, ⟨a, b, hTO⟩, h1, h2, t1, t2⟩ := ok
    simp only [List.mem_cons, List.not_mem_nil, or_false, not_or] at hdf
    obtain ⟨dz, dTI, dTO, di1, di2, dl1, dl2⟩ := hdf
    refine wpAny_pyIter_zip hz (h z [z, TO, i1, i2] (fun i h => IsPair h TI (.ref i1) (.ref i2) ∧ h.IsTupleIter i1 l1 i ∧ h.IsTupleIter i2 l2 i ∧ h.IsTuple l1 xs ∧ h.IsTuple l2 ys ∧
      ((IsZip h z TI TO .none ∧ ∃ a b, IsPair h TO a b) ∨ ∃ T f oT, IsZipHeld h z TI TO T f ∧ h.get? T = some oT ∧ T ≠ z ∧ T ≠ i1 ∧ T ≠ i2 ∧ T ≠ d)) s.heap s.toks ?_
      ⟨hTI, h1, h2, t1, t2, .inl ⟨hz, a, b, hTO⟩⟩ (fun _ _ e => e) fun b hb => .inl hb)
    refine ⟨fun hm => ?_, fun i g g' st hk => ?_, fun i s₁ Q₁ E₁ hi st hds hQ => ?_, fun s₁ Q₁ E₁ st hQ => ?_⟩
    · simp only [List.mem_cons, List.not_mem_nil, or_false] at hm
      rcases hm with e | e | e | e
      · exact dz e
      · exact dTO e
      · exact di1 e
      · exact di2 e
    · obtain ⟨hTI, h1, h2, t1, t2, hz⟩ := st
      refine ⟨hk _ _ (Ne.symm dTI) hTI, h1.at fun o e => hk _ o (Ne.symm di1) e, h2.at fun o e => hk _ o (Ne.symm di2) e, t1.at fun o e => hk _ o (Ne.symm dl1) e, t2.at fun o e => hk _ o (Ne.symm dl2) e, ?_⟩
      rcases hz with ⟨hz, a, b, hTO⟩ | ⟨T, f, oT, hz, hT, r1, r2, r3, r4⟩
      · exact .inl ⟨hk _ _ (Ne.symm dz) hz, a, b, hk _ _ (Ne.symm dTO) hTO⟩
      · exact .inr ⟨T, f, oT, hk _ _ (Ne.symm dz) hz, hk _ _ r4 hT, r1, r2, r3, r4⟩
    · obtain ⟨hTI, h1, h2, t1, t2, hz⟩ := st
      have hiy : i < ys.size := by omega
      have ex := Array.getElem?_eq_getElem hi
      have ey := Array.getElem?_eq_getElem hiy
      have lt : ∀ {c o}, s₁.heap.get? c = some o → s₁.heap.objs.size ≠ c := fun e => Nat.ne_of_gt (Heap.lt_size e)
      have n1 : s₁.heap.objs.size ≠ i1 := let ⟨_, e, _⟩ := h1; lt e
      have n2 : s₁.heap.objs.size ≠ i2 := let ⟨_, e, _⟩ := h2; lt e
      rcases hz with ⟨hz, a, b, hTO⟩ | ⟨T, f, oT, hz, hT, r1, r2, r3, r4⟩
      · refine RZ.pyNext_zipT_item D hz hTI hTO h1 h2 t1 t2 ex ey fun h' a1 a2 a3 a4 a5 a6 hk => ?_
        exact hQ s₁.heap.objs.size _ _ h' s₁.toks ⟨ex, ey⟩ (.inl ⟨_, a5, rfl, _, rfl⟩)
          ⟨hk _ _ D.TIz D.TITO D.TIi1 D.TIi2 hTI, a3, a4, t1.at fun o e => hk _ o D.l1z D.l1TO D.l1i1 D.l1i2 e, t2.at fun o e => hk _ o D.l2z D.l2TO D.l2i1 D.l2i2 e,
            .inr ⟨s₁.heap.objs.size, false, _, a1, a5, lt hz, n1, n2, Nat.ne_of_gt hds⟩⟩
          fun c o hc e => hk c o (fun x => hc (by simp [x])) (fun x => hc (by simp [x])) (fun x => hc (by simp [x])) (fun x => hc (by simp [x])) e
      · refine heldT_item D hz hT hTI h1 h2 t1 t2 ex ey fun h' a1 a3 a4 a5 hk => ?_
        exact hQ s₁.heap.objs.size _ _ h' s₁.toks ⟨ex, ey⟩ (.inl ⟨_, a5, rfl, _, rfl⟩)
          ⟨hk _ _ D.TIz D.TIi1 D.TIi2 hTI, a3, a4, t1.at fun o e => hk _ o D.l1z D.l1i1 D.l1i2 e, t2.at fun o e => hk _ o D.l2z D.l2i1 D.l2i2 e,
            .inr ⟨T, true, oT, a1, hk _ _ r1 r2 r3 hT, r1, r2, r3, r4⟩⟩
          fun c o hc e => hk c o (fun x => hc (by simp [x])) (fun x => hc (by simp [x])) (fun x => hc (by simp [x])) e
    · obtain ⟨hTI, h1, h2, t1, t2, hz⟩ := st
      have ex : xs[xs.size]? = none := by simp
      rcases hz with ⟨hz, a, b, hTO⟩ | ⟨T, f, oT, hz, hT, r1, r2, r3, r4⟩
      · exact RZ.pyNext_zipT_end hA D hz hTI hTO h1 h2 t1 t2 (.inl ex) fun h' hk => hQ h' s₁.toks fun c o hc e => hk c o (fun x => hc (by simp [x])) (fun x => hc (by simp [x])) (fun x => hc (by simp [x])) (fun x => hc (by simp [x])) e
      · exact heldT_end hA D hz hT hTI h1 t1 ex fun h' hk => hQ h' s₁.toks fun c o hc e => hk c o (fun x => hc (by simp [x])) (fun x => hc (by simp [x])) (fun x => hc (by simp [x])) e
/-- the entries -/
def kvT (ks : List Str) (vs : List V) : List (Key × V) := (ks.zip vs).map fun p => (Sum.inr p.1, p.2)
theorem mergeK_nodup : ∀ {more acc : List (Key × V)}, (acc.map (·.1) ++ more.map (·.1)).Nodup → mergeK acc more = acc ++ more
  | [], acc, _ => by simp [mergeK]
  | p :: more, acc, h => by
    have hp : valV acc p.1 = none := by
      cases e : valV acc p.1 with
      | none => rfl
      | some v =>
        have hm := valV_in e
        rw [List.map_cons] at h
        have := (List.nodup_append.mp h).2.2 _ hm _ (List.mem_cons_self ..)
        exact absurd rfl this
    have e1 : mergeK acc (p :: more) = mergeK (putK acc p.1 p.2) more := rfl
    rw [e1, putK_new _ hp, mergeK_nodup (by simpa using h)]
    simp
def tDictZip (K : PySem.W.Frag) (ta : TA) : TE := fun σ H Q => ta σ H fun vs H1 => ∃ (a b : Addr) (ks : List Str) (ys : List V), vs = [.ref a, .ref b] ∧ SqT K H1 a (ks.map V.str) ∧ SqT K H1 b ys ∧ ks.length = ys.length ∧ ks.Nodup ∧
  ∀ p, H1 p = none → Q (.ref p) (upd H1 p (.dK (kvT ks ys)))
theorem pe_dictZip {X : Cx} {e e2 : Expr} {ta : TA} {p p2 q pos : Pos} (hm : X.mg "dict" = none) (hm2 : X.mg "zip" = none) (hc : X.calm = true) (ha : PA X [e, e2] ta) (hg : Gl X "dict" := by rfl) (hg2 : Gl X "zip" := by rfl)
    (hs : starEach [e, e2] X.env = (false, eval e X.env) :: starEach [e2] X.env := by rfl) (hpl : (backTo q (starEach [e2] X.env)).any (·.1) = false := by rfl)
    (hs2 : starEach [Expr.Call (.Name "zip" p2) [e, e2] [] q] X.env = (false, eval (Expr.Call (.Name "zip" p2) [e, e2] [] q) X.env) :: starEach [] X.env := by rfl) :
    PE X (.Call (.Name "dict" p) [.Call (.Name "zip" p2) [e, e2] [] q] [] pos) (tDictZip X.K ta) := by
  refine ⟨fun pins s σ H Q I h => ?_⟩
  refine Call_ (ld_blt I hg hm PyProof.Rows.boot_dict ?_)
  refine PyProof.Rows.callWith_type1 (PyProof.Rows.args_cons ?_ hs2) hs2 rfl
  refine Call_ (ld_blt I hg2 hm2 PyProof.Rows.boot_zip ?_)
  refine PyProof.Rows.callWith_type1 (thn (ha.run q pins s σ H _ I h) fun us s1 ⟨vs, H1, I1, r1, q1⟩ => ?_) hs hpl
  obtain ⟨a, b, ks, ys, rfl, ha1, hb1, hl, hnd, q1⟩ := q1
  cases r1 with
  | cons r rr =>
    cases rr with
    | cons r' rr =>
      cases rr
      cases r
      cases r'
      obtain ⟨its, rv, p1, z1⟩ := I1.tuple ha1
      obtain ⟨its2, rv2, p2', z2⟩ := I1.tuple hb1
      have l1 := rv.length
      have l2 := rv2.length
      rw [List.length_map] at l1 z1
      refine RZ.call_zipT (show s1.heap.IsTuple a its.toArray from p1) (show s1.heap.IsTuple b its2.toArray from p2') fun h' hz hTI hTO hi1 hi2 hsz hk => PyProof.Rows.args_nil ?_
      have hbig : ∀ c, c ∈ [s1.heap.objs.size + 4, s1.heap.objs.size + 3, s1.heap.objs.size, s1.heap.objs.size + 1] → s1.heap.objs.size ≤ c := fun c hcm => by
        simp only [List.mem_cons, List.not_mem_nil, or_false] at hcm
        rcases hcm with e | e | e | e <;> rw [e]
        · exact Nat.le_add_right _ _
        · exact Nat.le_add_right _ _
        · exact Nat.le_refl _
        · exact Nat.le_add_right _ _
      have ap := PySem.W.ktu_apart s1.heap.objs.size a b p1.lt p2'.lt
      refine PySem.call_dict_pairs (knd := mixKind X.prog X.w) (kvs := (ks.zip its2).map fun p => ((Sum.inr p.1 : Key), p.2)) (pairsT _ _ _ _ _ a b ap its.toArray its2.toArray (by simp; omega)) (I1.ok.hd hc)
        ⟨hz, hTI, ⟨_, _, hTO⟩, hi1, hi2, Heap.IsTuple.at (show s1.heap.IsTuple a its.toArray from p1) fun o e => hk _ o e, Heap.IsTuple.at (show s1.heap.IsTuple b its2.toArray from p2') fun o e => hk _ o e⟩ ⟨by simp; omega, fun i key v hiv => ?_⟩ (by simp; omega) fun h'' tk hd hk2 => ?_
      · obtain ⟨e1, e2⟩ := hiv
        have e1' : its[i]? = some key := by simpa using e1
        have e2' : its2[i]? = some v := by simpa using e2
        obtain ⟨x, hx, rx⟩ : ∃ x, (ks.map V.str)[i]? = some x ∧ RelV x key := by
          have hi : i < (ks.map V.str).length := by
            have := (List.getElem?_eq_some_iff.mp e1').1
            rw [List.length_map]
            omega
          obtain ⟨u, hu, ru⟩ := rv.get (List.getElem?_eq_getElem hi)
          rw [e1'] at hu
          cases hu
          exact ⟨_, List.getElem?_eq_getElem hi, ru⟩
        rw [List.getElem?_map] at hx
        cases ek : ks[i]? with
        | none =>
          rw [ek] at hx
          cases hx
        | some k =>
          rw [ek] at hx
          cases hx
          refine ⟨Sum.inr k, ?_, kV_is rx⟩
          rw [List.getElem?_map, List.getElem?_zip_eq_some (z := (k, v)) |>.mpr ⟨ek, e2'⟩]
          rfl
      · have big := I1.big
        have hkeep : ∀ b o, s1.heap.get? b = some o → h''.get? b = some o := fun b o e => hk2 b o (fun hm => absurd (hbig b hm) (Nat.not_le.mpr (Heap.lt_size e))) (hk b o e)
        have hle : s1.heap.objs.size ≤ h'.objs.size := by rw [hsz]; exact Nat.le_add_right _ _
        have key : ∀ (ks : List Str) (ys : List V) (its : List Value), Vals ys its → KV (kvT ks ys) ((ks.zip its).map fun p => ((Sum.inr p.1 : Key), p.2)) := by
          intro ks
          induction ks with
          | nil => intro ys its _; exact .nil
          | cons k ks ih =>
            intro ys its h
            cases h with
            | nil => exact .nil
            | cons r t => exact .cons ⟨rfl, r⟩ (ih _ _ t)
        have hkv := KV.merge (key ks ys its2 rv2) (kvs := []) (vs := []) .nil
        have hndk : (kvT ks ys).map (·.1) = ks.map Sum.inr := by
          unfold kvT
          rw [List.map_map]
          show (ks.zip ys).map (fun p => (Sum.inr p.1 : Key)) = _
          have e : (ks.zip ys).map (fun p => (Sum.inr p.1 : Key)) = ((ks.zip ys).map Prod.fst).map Sum.inr := by
            rw [List.map_map]
            rfl
          rw [e, List.map_fst_zip (Nat.le_of_eq hl)]
        rw [mergeK_nodup (acc := []) (by
          rw [List.map_nil, List.nil_append, hndk]
          exact List.Pairwise.map _ (fun a b h e => h (Sum.inr.inj e)) hnd), List.nil_append] at hkv
        have hlen : (kvT ks ys).length ≤ sizeLine := by
          unfold kvT
          rw [List.length_map, List.length_zip]
          exact Nat.le_trans (Nat.min_le_left _ _) z1
        have hsm : (h'.objs.size == sysModules) = false := by
          have : sysModules < h'.objs.size := Nat.lt_of_lt_of_le big hle
          exact beq_eq_false_iff_ne.mpr (Nat.ne_of_gt this)
        exact ⟨.ref h'.objs.size, upd H1 h'.objs.size (.dK (kvT ks ys)), I1.laid (t' := tk) hkeep hle (dk_new hlen hsm hkv hd), rfl, q1 _ (I1.hok.fresh hle)⟩
end Nd
set_option Elab.async false
set_option linter.all false
set_option maxRecDepth 100000
set_option maxHeartbeats 2000000
/-! a tuple whose object is known to bear no dict: tuple(xs) makes one, t.index(x) asks for one. -/
namespace Nd
open PySem PySem.Spec PyProof.Rows L2
/-- the tuple xs at a, no dict of its own -/
def TupF (H : Hp) (a : Addr) (xs : List V) : Prop := ∃ od : Obj, od.cls = .type "tuple" ∧ od.dict = none ∧ H a = some (.frz od (.tup xs))
theorem TupF.sq {K : PySem.W.Frag} {H : Hp} {a : Addr} {xs : List V} (h : TupF H a xs) : SqT K H a xs := by
  obtain ⟨od, _, _, h⟩ := h
  exact .inl (.inr ⟨od, h⟩)
theorem TupF.keep {H H' : Hp} {a : Addr} {xs : List V} (h : TupF H a xs) (s : Same H H') : TupF H' a xs := by
  obtain ⟨od, h1, h2, h⟩ := h
  exact ⟨od, h1, h2, s _ _ h⟩
section
variable {X : Cx}
theorem call_tupF : CallR X (.type "tuple") (fun zs H Q => ∃ p ys, zs = [.ref p] ∧ SqL X.K H p ys ∧ ∀ (l : Addr) (od : Obj), od.cls = .type "tuple" → od.dict = none → H l = none → Q (.ref l) (upd H l (.frz od (.tup ys)))) := by
  intro pins st σ H zs us Q J r h
  obtain ⟨p, ys, rfl, hq, q⟩ := h
  obtain ⟨u, rfl, rx⟩ := vals1 r
  cases rx
  obtain ⟨its, rv, isl, hz⟩ := J.list hq
  have hle : its.toArray.size ≤ sizeLine := by
    rw [List.size_toArray, ← rv.length]
    exact hz
  refine call_tuple_list isl.isList (fun g kp => ?_) hle
  have J1 : Inv X pins σ H { st with heap := g } := J.kept (t' := st.toks) kp
  have hnew : (g.push { cls := .type "tuple", data := .seq its.toArray }).get? g.objs.size = some { cls := .type "tuple", data := .seq its.toArray } := Heap.get?_push_size _ rfl
  have J2 := J1.laid (a := g.objs.size) (o := .frz { cls := .type "tuple", data := .seq its.toArray } (.tup ys)) (t' := st.toks) (h' := g.push { cls := .type "tuple", data := .seq its.toArray }) (fun b o e => Heap.get?_push_of_some _ e) (Nat.le_refl _) ⟨hnew, hz, its, rv, IsTup.new _ _⟩
  exact ⟨.ref g.objs.size, _, J2, rfl, q _ _ rfl rfl (J1.hok.fresh (Nat.le_refl _))⟩
variable {o e : Expr} {to : TE} {t : TA} {apos cpos : Pos}
/-- the reading of o.index(e), o such a tuple of texts -/
def tTIx (to : TE) (t : TA) : TE := fun σ H Q => to σ H fun x H1 => ∃ (p : Addr) (ys : List Str), x = .ref p ∧ TupF H1 p (ys.map V.str) ∧ t σ H1 fun zs H2 => ∃ (z : Str) (j : Nat), zs = [.str z] ∧ TupF H2 p (ys.map V.str) ∧ ys[j]? = some z ∧ (∀ m, m < j → ys[m]? ≠ some z) ∧ Q (.int (j : Nat)) H2
theorem pe_tupIx (ho : PE X o to) (ha : PA X [e] t) (hbase : attributeBase o "index" X.env (eval o X.env) = eval o X.env := by rfl)
    (hfew : ((backTo cpos (starEach [e] X.env)).all (fun x => !x.1) && (backToKw cpos (keywordEach [] X.env)).all (fun x => x.1.isSome) && decide ([e].length + ([] : List Keyword).length + (if ([] : List Keyword).isEmpty then 0 else 1) < 30)) = true := by rfl)
    (hline : (apos.endLine == cpos.line) = true := by rfl) (hs : starEach [e] X.env = (false, eval e X.env) :: starEach [] X.env := by rfl) (hplain : (backTo cpos (starEach [] X.env)).any (·.1) = false := by rfl) : PE X (.Call (.Attribute o "index" apos) [e] [] cpos) (tTIx to t) := by
  refine ⟨fun pins st σ H Q J h => ?_⟩
  refine wpAny_Call_method_late hbase hfew hline rfl (thn (ho.run pins st σ H _ J h) fun v s1 ⟨x, H1, J1, r1, p, ys, ex, hp, q1⟩ => ?_)
  subst ex
  cases r1
  obtain ⟨od, hc, hd, hp⟩ := hp
  have hob : s1.heap.get? p = some od := (J1.hok p _ hp).1
  refine ⟨"tuple", "tuple.index", PySem.F.plainAttrs_tuple, PySem.F.slot_tuple_index, PySem.F.type_tuple_index, ⟨od, hob, hc⟩, (fun a e => ?_), ?_⟩
  · cases e
    exact ⟨od, hob, hd⟩
  · have hA := ha.run cpos pins s1 σ H1 _ J1 q1
    rw [hs] at hA ⊢
    refine Calls.callWith_builtin (by show (false || (backTo cpos (starEach [] X.env)).any (·.1)) = false; rw [hplain] <;> rfl) (Calls.evalArgs_plain ?_)
    refine thn hA fun us s2 ⟨vs, H2, J2, r2, z, j, ez, hp2, hj, hno, q2⟩ => ?_
    exact mt_tup_index pins s2 σ H2 (.ref p) vs _ us Q J2 rfl r2 ⟨p, ys, z, j, rfl, ez, hp2.sq, hj, hno, q2⟩
end
end Nd
set_option Elab.async false
set_option linter.all false
set_option maxRecDepth 100000
set_option maxHeartbeats 2000000
/-! the model: packs, plans, states, what an order does; no program here. -/
namespace Nd
open PySem PySem.Spec PyProof.Rows L2
structure PackD where
  slots : List Slot
  amount : Int
  cost : Option Int
  roll : Option (Str × Int)
structure PlanD where
  prices : List (Str × Int)
  days : Int
  names : List Str
  rows : List PackD
def lastD (p : PackD) : Int := (p.slots.map (·.2)).foldl max 0
theorem foldl_max_ge : ∀ (ns : List Int) (a : Int), a ≤ ns.foldl max a ∧ ∀ y ∈ ns, y ≤ ns.foldl max a
  | [], a => ⟨Int.le_refl a, fun y hy => by cases hy⟩
  | n :: ns, a => by
    obtain ⟨h1, h2⟩ := foldl_max_ge ns (max a n)
    refine ⟨Int.le_trans (Int.le_max_left a n) h1, fun y hy => ?_⟩
    rcases List.mem_cons.mp hy with e | hy
    · rw [e]
      exact Int.le_trans (Int.le_max_right a n) h1
    · exact h2 y hy
theorem foldl_max_mem : ∀ (ns : List Int) (a : Int), ns.foldl max a = a ∨ ns.foldl max a ∈ ns
  | [], a => .inl rfl
  | n :: ns, a => by
    show ns.foldl max (max a n) = a ∨ ns.foldl max (max a n) ∈ n :: ns
    rcases foldl_max_mem ns (max a n) with h | h
    · rw [h]
      rcases Int.le_total a n with q | q
      · right
        rw [Int.max_eq_right q]
        exact List.mem_cons_self ..
      · left
        exact Int.max_eq_left q
    · exact .inr (List.mem_cons_of_mem _ h)
theorem max_is {ns : List Int} {m : Int} (h0 : ∀ y ∈ ns, 0 ≤ y) (hm : m ∈ ns) (h : ∀ y ∈ ns, y ≤ m) : ns.foldl max 0 = m := by
  have h1 := (foldl_max_ge ns 0).2 m hm
  have h2 : ns.foldl max 0 ≤ m := by
    rcases foldl_max_mem ns 0 with e | e
    · rw [e]
      exact h0 m hm
    · exact h _ e
  omega
/-- a pack as Pack takes it -/
structure PackOk (p : PackD) : Prop where
  ne : p.slots ≠ []
  len : p.slots.length ≤ 12
  nd : p.slots.Nodup
  sl : ∀ z ∈ p.slots, nameOk z.1 ∧ 0 ≤ z.2 ∧ z.2 ≤ 3
  am : 0 ≤ p.amount ∧ p.amount ≤ 3
  co : ∀ c, p.cost = some c → 0 ≤ c ∧ c ≤ 99
  ro : ∀ r, p.roll = some r → nameOk r.1 ∧ 1 ≤ r.2 ∧ r.2 ≤ 3
theorem PackOk.pos {p : PackD} (h : PackOk p) : ∀ y ∈ p.slots.map (·.2), 0 ≤ y := fun y hy => by
  obtain ⟨z, hz, rfl⟩ := List.mem_map.mp hy
  exact (h.sl z hz).2.1
theorem PackOk.last0 {p : PackD} (h : PackOk p) : 0 ≤ lastD p := (foldl_max_ge _ 0).1
/-- a pack fits into a plan -/
structure FitOk (prices : List (Str × Int)) (days : Int) (names : List Str) (rows : List PackD) (p : PackD) : Prop where
  ok : PackOk p
  cells : ∀ z ∈ p.slots, z.1 ∈ prices.map (·.1)
  last : lastD p < days
  roll : ∀ r, p.roll = some r → ∃ (j : Nat) (q : PackD), names[j]? = some r.1 ∧ rows[j]? = some q ∧ lastD p < lastD q
structure PlanOk (pl : PlanD) : Prop where
  days : 1 ≤ pl.days ∧ pl.days ≤ 4
  pne : 1 ≤ pl.prices.length ∧ pl.prices.length ≤ 3
  pnd : (pl.prices.map (·.1)).Nodup
  pok : ∀ z ∈ pl.prices, nameOk z.1 ∧ 0 ≤ z.2 ∧ z.2 ≤ 9
  len : pl.names.length = pl.rows.length
  four : pl.names.length ≤ 4
  nd : pl.names.Nodup
  srt : sortedS pl.names = true
  nok : ∀ z ∈ pl.names, nameOk z
  fit : ∀ p ∈ pl.rows, FitOk pl.prices pl.days pl.names pl.rows p
  six : (pl.rows.map (·.amount)).sum ≤ 6
end Nd
set_option Elab.async false
set_option linter.all false
set_option maxRecDepth 100000
set_option maxHeartbeats 2000000
/-! packs and plans in the heap. -/
namespace Nd
open PySem PySem.Spec PyProof.Rows L2
/-- tuples and instances stay -/
structure FK (H H' : Hp) : Prop where
  t : TK H H'
  i : ∀ b C dx fs, H b = some (.ins C dx fs) → H' b = some (.ins C dx fs)
theorem FK.of {H H' : Hp} (s : Same H H') : FK H H' := ⟨TK.of s, fun b C dx fs h => s b _ h⟩
theorem FK.trans {H H1 H2 : Hp} (a : FK H H1) (b : FK H1 H2) : FK H H2 := ⟨a.t.trans b.t, fun c C dx fs h => b.i c C dx fs (a.i c C dx fs h)⟩
theorem FK.wr {H : Hp} {p : Addr} {o : HO} (h : ∀ xs, H p ≠ some (.tup xs)) (h' : ∀ C dx fs, H p ≠ some (.ins C dx fs)) : FK H (upd H p o) := ⟨TK.wr h, fun b C dx fs e => by
  have n : b ≠ p := fun q => by
    rw [q] at e
    exact h' _ _ _ e
  rw [upd_ne n]
  exact e⟩
theorem FK.updL {H : Hp} {p : Addr} {o : HO} {ys : List V} (h : H p = some (.lst ys)) : FK H (upd H p o) := FK.wr (fun xs e => by
  rw [h] at e
  cases e) fun C dx fs e => by
  rw [h] at e
  cases e
theorem FK.updD {H : Hp} {p : Addr} {o : HO} {ys : List (Key × V)} (h : H p = some (.dK ys)) : FK H (upd H p o) := FK.wr (fun xs e => by
  rw [h] at e
  cases e) fun C dx fs e => by
  rw [h] at e
  cases e
/-! ### a pack -/
def pkF (s r c : V) (a : Int) : List (Str × V) := putF "own_roll" r (putF "own_cost" c (putF "own_amount" (.int a) (putF "own_slots" s [])))
theorem pkF_slots (s r c : V) (a : Int) : (pkF s r c a).lookup ("own_slots" : Str) = some s := by
  unfold pkF
  rw [lookup_putF, if_neg (by decide +kernel), lookup_putF, if_neg (by decide +kernel), lookup_putF, if_neg (by decide +kernel), lookup_putF, if_pos rfl]
theorem pkF_amount (s r c : V) (a : Int) : (pkF s r c a).lookup ("own_amount" : Str) = some (.int a) := by
  unfold pkF
  rw [lookup_putF, if_neg (by decide +kernel), lookup_putF, if_neg (by decide +kernel), lookup_putF, if_pos rfl]
theorem pkF_cost (s r c : V) (a : Int) : (pkF s r c a).lookup ("own_cost" : Str) = some c := by
  unfold pkF
  rw [lookup_putF, if_neg (by decide +kernel), lookup_putF, if_pos rfl]
theorem pkF_roll (s r c : V) (a : Int) : (pkF s r c a).lookup ("own_roll" : Str) = some r := by
  unfold pkF
  rw [lookup_putF, if_pos rfl]
def PackAt (K : PySem.W.Frag) (H : Hp) (a : Addr) (p : PackD) : Prop := ∃ (dx s : Addr) (r : V), H a = some (.ins (CP K) dx (pkF (.ref s) r (costV p.cost) p.amount)) ∧ Td K H (.ref s) (.tuple (p.slots.map slotD)) ∧ Td K H r (rollD p.roll)
theorem PackAt.keep {K : PySem.W.Frag} {H H' : Hp} {a : Addr} {p : PackD} (h : PackAt K H a p) (k : FK H H') : PackAt K H' a p := by
  obtain ⟨dx, s, r, h1, h2, h3⟩ := h
  exact ⟨dx, s, r, k.i _ _ _ _ h1, h2.keep k.t, h3.keep k.t⟩
/-- packs at addresses -/
def PacksAt (K : PySem.W.Frag) (H : Hp) (as : List Addr) (ps : List PackD) : Prop := Paired (PackAt K H) as ps
theorem PacksAt.keep {K : PySem.W.Frag} {H H' : Hp} (k : FK H H') : ∀ {as : List Addr} {ps : List PackD}, PacksAt K H as ps → PacksAt K H' as ps
  | _, _, .nil => .nil
  | _, _, .cons h t => .cons (h.keep k) (PacksAt.keep k t)
theorem PacksAt.at_ {K : PySem.W.Frag} {H : Hp} : ∀ {as : List Addr} {ps : List PackD} {i : Nat} {a : Addr}, PacksAt K H as ps → as[i]? = some a → ∃ p, ps[i]? = some p ∧ PackAt K H a p
  | _, _, _, _, .nil, e => by simp at e
  | _, _, 0, _, .cons h _, e => by
    have e' := Option.some.inj (by simpa using e)
    subst e'
    exact ⟨_, by simp, h⟩
  | _, _, i + 1, a, .cons _ t, e => by
    obtain ⟨p, h1, h2⟩ := PacksAt.at_ (i := i) (a := a) t (by simpa using e)
    exact ⟨p, by simpa using h1, h2⟩
theorem PacksAt.len {K : PySem.W.Frag} {H : Hp} : ∀ {as : List Addr} {ps : List PackD}, PacksAt K H as ps → as.length = ps.length
  | _, _, .nil => rfl
  | _, _, .cons _ t => congrArg (· + 1) (PacksAt.len t)
theorem PacksAt.of_at {K : PySem.W.Frag} {H : Hp} {as : List Addr} {ps : List PackD} {i : Nat} {p : PackD} (h : PacksAt K H as ps) (e : ps[i]? = some p) : ∃ a, as[i]? = some a ∧ PackAt K H a p := by
  have hi : i < as.length := by
    rw [h.len]
    exact (List.getElem?_eq_some_iff.mp e).1
  obtain ⟨q, h1, h2⟩ := h.at_ (List.getElem?_eq_getElem hi)
  rw [e] at h1
  cases h1
  exact ⟨_, List.getElem?_eq_getElem hi, h2⟩
/-! ### a plan -/
def plF (r n m : V) (d : Int) : List (Str × V) := putF "own_rows" m (putF "own_names" n (putF "own_days" (.int d) (putF "own_prices" r [])))
theorem plF_prices (r n m : V) (d : Int) : (plF r n m d).lookup ("own_prices" : Str) = some r := by
  unfold plF
  rw [lookup_putF, if_neg (by decide +kernel), lookup_putF, if_neg (by decide +kernel), lookup_putF, if_neg (by decide +kernel), lookup_putF, if_pos rfl]
theorem plF_days (r n m : V) (d : Int) : (plF r n m d).lookup ("own_days" : Str) = some (.int d) := by
  unfold plF
  rw [lookup_putF, if_neg (by decide +kernel), lookup_putF, if_neg (by decide +kernel), lookup_putF, if_pos rfl]
theorem plF_names (r n m : V) (d : Int) : (plF r n m d).lookup ("own_names" : Str) = some n := by
  unfold plF
  rw [lookup_putF, if_neg (by decide +kernel), lookup_putF, if_pos rfl]
theorem plF_rows (r n m : V) (d : Int) : (plF r n m d).lookup ("own_rows" : Str) = some m := by
  unfold plF
  rw [lookup_putF, if_pos rfl]
/-- the entries of a dict of prices -/
def prK (ps : List (Str × Int)) : List (Key × V) := ps.map fun p => (Sum.inr p.1, V.int p.2)
structure PlanAt0 (K : PySem.W.Frag) (H : Hp) (x r n m : Addr) (as : List Addr) (pl : PlanD) : Prop where
  ob : ∃ dx, H x = some (.ins (CL K) dx (plF (.ref r) (.ref n) (.ref m) pl.days))
  pr : H r = some (.dK (prK pl.prices))
  nm : TupF H n (pl.names.map V.str)
  rw_ : H m = some (.tup (as.map V.ref))
  pk : PacksAt K H as pl.rows
def PlanAt (K : PySem.W.Frag) (H : Hp) (x : Addr) (pl : PlanD) : Prop := ∃ r n m as, PlanAt0 K H x r n m as pl
theorem PlanAt.keep {K : PySem.W.Frag} {H H' : Hp} {x : Addr} {pl : PlanD} (h : PlanAt K H x pl) (s : Same H H') : PlanAt K H' x pl := by
  obtain ⟨r, n, m, as, ⟨dx, h1⟩, h2, h3, h4, h5⟩ := h
  exact ⟨r, n, m, as, ⟨dx, s _ _ h1⟩, s _ _ h2, h3.keep s, s _ _ h4, h5.keep (FK.of s)⟩
end Nd
set_option Elab.async false
set_option linter.all false
set_option maxRecDepth 100000
set_option maxHeartbeats 2000000
namespace Nd
open PySem PySem.Spec PyProof.Rows L2
section
variable {P : Program} {w : World} {K : PySem.W.Frag} {mg : Str → Option Value} {base : Heap}
/-! ### is_slot, is_roll -/
def spIsSlot (K : PySem.W.Frag) : Sp := fun vs H Q _ => ∃ (v : V) (z : Slot), vs = [v] ∧ Td K H v (slotD z) ∧ nameOk z.1 ∧ 0 ≤ z.2 ∧ z.2 ≤ 3 ∧ ∀ H', Same H H' → Q (.bl true) H'
theorem sc_is_slot : FnScope ["thing"] ["thing"] (defScope (top 28)) := ⟨rfl, rfl, rfl, by decide +kernel, rfl, by decide +kernel, by decide +kernel⟩
theorem ok_is_slot (T : Tx K mg) : Cal P w K mg base 3 "is_slot" (spIsSlot K) := by
  refine Cal.of (T.f ("is_slot", 28)) sc_is_slot (fun _ _ _ _ _ _ us hl => match us, hl with | [_], _ => rfl) (fun vs H Q E h => ?_) (fun f cdv A outer s H vs Q E hr h => ?_)
  · obtain ⟨v, z, rfl, _⟩ := h
    rfl
  · obtain ⟨v, ⟨c, d⟩, rfl, ht, hn, h0, h3, k⟩ := h
    obtain ⟨a, xs, rfl, ha, hx⟩ := ht.tup_inv
    cases hx with
    | cons h1 hx =>
      cases hx with
      | cons h2 hx =>
        cases hx
        cases h1
        cases h2
        refine ⟨_, pss_one (ps_ret (pe_and (pisi "tuple" (T.z "isinstance") (T.z "tuple") (pv 0)) (pe_and (pe_cmpR op_eq (plen (T.z "len") (pv 0)) pe_int (nomark _))
          (pe_and (pcl (ok_is_name T) hr (pa1 (pe_ix ix_tup (pv 0) pe_int (fun _ _ => rfl))))
          (pe_one (pcl (ok_is_within T) hr (pa3 (pe_ix ix_tup (pv 0) pe_int (fun _ _ => rfl)) pe_int (pe_op op_sub (pcon (T.i ("MOST_DAYS", 4))) pe_int)))))))), ?_⟩
        refine ⟨_, rfl, _, _, _, _, true, rfl, .ty _, Td.ty ha, kit_ty (by decide +kernel), true, rfl, iteT ?_⟩
        refine ⟨_, rfl, _, 2, rfl, .inr ⟨_, ha.sq, rfl⟩, rfl, _, rfl, iteT ?_⟩
        refine ⟨_, rfl, a, _, 0, _, rfl, rfl, ha.sq, rfl, c, rfl, hn, fun H1 s1 => ⟨true, rfl, iteT ?_⟩⟩
        have ha1 : TupAt K H1 a [.str c, .int d] := ha.keep (TK.of s1)
        refine ⟨_, rfl, a, _, 1, _, rfl, rfl, ha1.sq, rfl, 4, 1, rfl, rfl, d, 0, 3, rfl, h0, h3, ?_⟩
        exact k _ s1
def spIsRoll (K : PySem.W.Frag) : Sp := fun vs H Q _ => ∃ (v : V) (r : Option (Str × Int)), vs = [v] ∧ Td K H v (rollD r) ∧ (∀ z, r = some z → nameOk z.1 ∧ 1 ≤ z.2 ∧ z.2 ≤ 3) ∧ ∀ H', Same H H' → Q (.bl true) H'
theorem sc_is_roll : FnScope ["thing"] ["thing"] (defScope (top 30)) := ⟨rfl, rfl, rfl, by decide +kernel, rfl, by decide +kernel, by decide +kernel⟩
theorem ok_is_roll (T : Tx K mg) : Cal P w K mg base 3 "is_roll" (spIsRoll K) := by
  refine Cal.of (T.f ("is_roll", 30)) sc_is_roll (fun _ _ _ _ _ _ us hl => match us, hl with | [_], _ => rfl) (fun vs H Q E h => ?_) (fun f cdv A outer s H vs Q E hr h => ?_)
  · obtain ⟨v, r, rfl, _⟩ := h
    rfl
  · obtain ⟨v, r, rfl, ht, hz, k⟩ := h
    refine ⟨_, pss_cons (ps_if (pt_cmpR op_isN (pv 0) pe_non (nomark _)) (pss_one (ps_ret pe_bl)) pss_nil)
      (pss_one (ps_ret (pe_and (pisi "tuple" (T.z "isinstance") (T.z "tuple") (pv 0)) (pe_and (pe_cmpR op_eq (plen (T.z "len") (pv 0)) pe_int (nomark _))
          (pe_and (pcl (ok_is_name T) hr (pa1 (pe_ix ix_tup (pv 0) pe_int (fun _ _ => rfl))))
          (pe_one (pcl (ok_is_within T) hr (pa3 (pe_ix ix_tup (pv 0) pe_int (fun _ _ => rfl)) pe_int (pcon (T.i ("MOST_AMOUNT", 3))))))))))), ?_⟩
    cases r with
    | none =>
      cases ht
      exact ⟨_, rfl, rfl, _, rfl, iteT (k _ (Same.refl _))⟩
    | some r =>
      obtain ⟨c, d⟩ := r
      obtain ⟨hn, h0, h3⟩ := hz _ rfl
      obtain ⟨a, xs, rfl, ha, hx⟩ := Td.tup_inv (ds := [.str c, .int d]) ht
      cases hx with
      | cons h1 hx =>
        cases hx with
        | cons h2 hx =>
          cases hx
          cases h1
          cases h2
          refine ⟨_, rfl, rfl, _, rfl, iteDF (by intro z; cases z) ?_⟩
          refine ⟨_, rfl, _, _, _, _, true, rfl, .ty _, Td.ty ha, kit_ty (by decide +kernel), true, rfl, iteT ?_⟩
          refine ⟨_, rfl, _, 2, rfl, .inr ⟨_, ha.sq, rfl⟩, rfl, _, rfl, iteT ?_⟩
          refine ⟨_, rfl, a, _, 0, _, rfl, rfl, ha.sq, rfl, c, rfl, hn, fun H1 s1 => ⟨true, rfl, iteT ?_⟩⟩
          have ha1 : TupAt K H1 a [.str c, .int d] := ha.keep (TK.of s1)
          refine ⟨_, rfl, a, _, 1, _, rfl, rfl, ha1.sq, rfl, d, 1, 3, rfl, h0, h3, ?_⟩
          exact k _ s1
end
end Nd
set_option Elab.async false
set_option linter.all false
set_option maxRecDepth 100000
set_option maxHeartbeats 2000000
namespace Nd
open PySem PySem.Spec PyProof.Rows L2
section
variable {P : Program} {w : World} {K : PySem.W.Frag} {mg : Str → Option Value} {base : Heap}
def slotsOk (ss : List Slot) : Prop := 1 ≤ ss.length ∧ ss.length ≤ 12 ∧ ss.Nodup ∧ ∀ z ∈ ss, nameOk z.1 ∧ 0 ≤ z.2 ∧ z.2 ≤ 3
def spAreSlots (K : PySem.W.Frag) : Sp := fun vs H Q _ => ∃ (l : Addr) (xs : List V) (ss : List Slot), vs = [.ref l] ∧ H l = some (.lst xs) ∧ TdAll K H xs (ss.map slotD) ∧ slotsOk ss ∧ ∀ H', Same H H' → Q (.bl true) H'
/-! ### Pack.__init__ -/
def spPackInit (K : PySem.W.Frag) : Sp := fun vs H Q _ => ∃ (x dx l : Addr) (xs : List V) (p : PackD) (r : V), vs = [.ref x, .ref l, .int p.amount, costV p.cost, r] ∧ H x = some (.ins (CP K) dx []) ∧ H l = some (.lst xs) ∧ TdAll K H xs (p.slots.map slotD) ∧ Td K H r (rollD p.roll) ∧ PackOk p ∧
  ∀ (H' : Hp) (ts : List Slot), ts.Perm p.slots → (∀ b o, H b = some o → b ≠ x → H' b = some o) → PackAt K H' x { p with slots := ts } → Q .non H'
theorem sc_pack : FnScope ["self", "slots", "amount", "cost", "roll"] ["self", "slots", "amount", "cost", "roll"] (defScope (inClass (top 31) 0)) := ⟨rfl, rfl, rfl, by decide +kernel, rfl, by decide +kernel, by decide +kernel⟩
theorem costV_non {c : Option Int} : (costV c = .non) ↔ c = none := by
  cases c with
  | none => exact ⟨fun _ => rfl, fun _ => rfl⟩
  | some c => exact ⟨fun h => (nomatch h), fun h => (nomatch h)⟩
theorem ok_pack (T : Tx K mg) (CS : Cal P w K mg base 4 "are_slots" (spAreSlots K)) : Mak P w K mg base 5 "Pack" (CP K) (spPackInit K) := by
  refine Mak.ofD (by simp) T.P T.iP sc_pack (fun T kV doc pm an cdv ct us its hl _ => match us, hl with | [_, _, _, _, _], _ => ⟨_, rfl, ?_⟩) (fun vs H Q E h => ?_) (fun f cdv A outer s H vs Q E hr h => ?_)
  · rename_i h2 _ _ _ _ _
    match its, h2 with
    | [_, _], _ => rfl
  · obtain ⟨x, dx, l, xs, p, r, rfl, _⟩ := h
    rfl
  · obtain ⟨x, dx, l, xs, p, r, rfl, hx, hl, ht, hrr, ok, k⟩ := h
    refine ⟨_, pss_cons (ps_if (pt_not (pt_val (pcl CS hr (pa1 (pv 1))))) pss_never pss_nil)
      (pss_cons (ps_if (pt_not (pt_val (pcl (ok_is_within T) hr (pa3 (pv 2) pe_int (pcon (T.i ("MOST_AMOUNT", 3))))))) pss_never pss_nil)
      (pss_cons (ps_if (pw_and (pt_cmpR op_notN (pv 3) pe_non (nomark _)) (pw_and1 (pt_not (pt_val (pcl (ok_is_within T) hr (pa3 (pv 3) pe_int (pcon (T.i ("MOST_COST", 99))))))))).pt pss_never pss_nil)
      (pss_cons (ps_if (pt_not (pt_val (pcl (ok_is_roll T) hr (pa1 (pv 4))))) pss_never pss_nil)
      (pss_cons (ps_fld (pv 0) (pe_callTy call_tuple_of rfl (T.z "tuple") (by decide +kernel) (pa1 (pe_callB (cr_sortSI hr.units) rfl (T.z "sorted") (by decide +kernel) (pa1 (pv 1))))) rfl)
      (pss_cons (ps_fld (pv 0) (pv 2) rfl) (pss_cons (ps_fld (pv 0) (pv 3) rfl) (pss_one (ps_fld (pv 0) (pv 4) rfl)))))))), ?_⟩
    refine ⟨_, rfl, l, xs, p.slots, rfl, hl, ht, ⟨List.length_pos_iff.mpr ok.ne, ok.len, ok.nd, ok.sl⟩, fun H1 s1 => ⟨true, rfl, iteF ?_⟩⟩
    refine ⟨_, rfl, p.amount, 0, 3, rfl, ok.am.1, ok.am.2, true, rfl, iteF ?_⟩
    dsimp only [tNext]
    refine ifN2 (fun Q0 q0 => ?_) ?_
    · cases e : p.cost with
      | none => exact ⟨_, rfl, rfl, false, rfl, iteF q0⟩
      | some c =>
        obtain ⟨c1, c2⟩ := ok.co c e
        refine ⟨_, rfl, rfl, true, rfl, iteT ?_⟩
        exact ⟨_, rfl, c, 0, 99, rfl, c1, c2, true, rfl, q0⟩
    refine ⟨_, rfl, r, p.roll, rfl, hrr.keep (TK.of s1), ok.ro, fun H2 s2 => ⟨true, rfl, iteF ?_⟩⟩
    have s02 : Same H H2 := s1.trans s2
    -- self.own_slots = tuple(sorted(slots))
    refine ⟨_, rfl, l, xs, p.slots, rfl, SqL.of (s02 _ _ hl), ht.keep (TK.of s02), Nat.le_trans ok.len (by decide), fun ys ts q hp hts hq => ?_⟩
    refine ⟨q, ys, rfl, .inl ⟨SqL.of upd_same, fun t ht' => ?_⟩⟩
    have s03 : Same H (upd H2 q (.lst ys)) := sup s02 hq
    have s04 : Same H (upd (upd H2 q (.lst ys)) t (.tup ys)) := sup s03 ht'
    have nP := T.P.no
    have hx4 := s04 _ _ hx
    have nP1 : NoAttr K (CP K) "own_slots" := nP _ (by decide +kernel)
    have nP2 : NoAttr K (CP K) "own_amount" := nP _ (by decide +kernel)
    have nP3 : NoAttr K (CP K) "own_cost" := nP _ (by decide +kernel)
    have nP4 : NoAttr K (CP K) "own_roll" := nP _ (by decide +kernel)
    have l1 := length_putF "own_slots" (.ref t) []
    have l2 := length_putF "own_amount" (.int p.amount) (putF "own_slots" (.ref t) [])
    have l3 := length_putF "own_cost" (costV p.cost) (putF "own_amount" (.int p.amount) (putF "own_slots" (.ref t) []))
    have l0 : ([] : List (Str × V)).length = 0 := rfl
    refine ⟨_, rfl, x, _, dx, [], rfl, hx4, T.P.cl, nP1, by omega, ?_⟩
    refine ⟨_, rfl, _, rfl, x, _, dx, _, rfl, upd_same, T.P.cl, nP2, by omega, ?_⟩
    refine ⟨_, rfl, _, rfl, x, _, dx, _, rfl, upd_same, T.P.cl, nP3, by omega, ?_⟩
    refine ⟨_, rfl, _, rfl, x, _, dx, _, rfl, upd_same, T.P.cl, nP4, by omega, ?_⟩
    have ntx : t ≠ x := fun e => by
      rw [e, upd_ne (fun e2 => by rw [e2] at hx; rw [s02.free hq] at hx; cases hx)] at ht'
      rw [s02 _ _ hx] at ht'
      cases ht'
    have kT : ∀ a b c d : HO, TK (upd (upd H2 q (.lst ys)) t (.tup ys)) (upd (upd (upd (upd (upd (upd H2 q (.lst ys)) t (.tup ys)) x a) x b) x c) x d) := fun _ _ _ _ b zs e => (ins4 (fun z => by
      rw [z, hx4] at e
      cases e)).trans e
    refine k _ ts hp (fun b o hb nb => (ins4 nb).trans (s04 _ _ hb)) ⟨dx, t, r, upd_same, .tup (.inl (kT _ _ _ _ _ _ upd_same)) ((TdAll.keep ?_ hts).keep (kT _ _ _ _)), (hrr.keep (TK.of s04)).keep (kT _ _ _ _)⟩
    exact (TK.updN hq).trans (TK.updN ht')
end
end Nd
set_option Elab.async false
set_option linter.all false
set_option maxRecDepth 100000
set_option maxHeartbeats 2000000
namespace Nd
open PySem PySem.Spec PyProof.Rows L2
theorem slot_inv {K : PySem.W.Frag} {H : Hp} {v : V} {z : Slot} (h : Td K H v (slotD z)) : ∃ a, v = .ref a ∧ TupAt K H a [.str z.1, .int z.2] := by
  obtain ⟨a, xs, rfl, ha, hx⟩ := h.tup_inv
  cases hx with
  | cons h1 hx =>
    cases hx with
    | cons h2 hx =>
      cases hx
      cases h1
      cases h2
      exact ⟨a, rfl, ha⟩
theorem TdAll.map_at {K : PySem.W.Frag} {H : Hp} {β : Type} {f : β → PyData} {xs : List V} {bs : List β} {i : Nat} {x : V} (h : TdAll K H xs (bs.map f)) (e : xs[i]? = some x) : ∃ b, bs[i]? = some b ∧ Td K H x (f b) := by
  obtain ⟨d, h1, h2⟩ := h.at_ e
  rw [List.getElem?_map] at h1
  cases eb : bs[i]? with
  | none =>
    rw [eb] at h1
    cases h1
  | some b =>
    rw [eb] at h1
    cases h1
    exact ⟨b, rfl, h2⟩
theorem take_snoc {β : Type} {l : List β} {i : Nat} {b : β} (h : l[i]? = some b) : l.take (i + 1) = l.take i ++ [b] := by
  rw [List.take_add_one, h]
  rfl
theorem take_all {β : Type} {l : List β} {n : Nat} (h : l.length ≤ n) : l.take n = l := List.take_of_length_le h
section
variable {P : Program} {w : World} {K : PySem.W.Frag} {mg : Str → Option Value} {base : Heap}
/-! ### Pack.last -/
def spLast (K : PySem.W.Frag) : Sp := fun vs H Q _ => ∃ (a : Addr) (p : PackD), vs = [.ref a] ∧ PackAt K H a p ∧ PackOk p ∧ ∀ H', Same H H' → Q (.int (lastD p)) H'
theorem sc_last : FnScope ["self", "cell", "day"] ["self"] (defScope (inClass (top 31) 5)) := ⟨rfl, rfl, rfl, by decide +kernel, rfl, by decide +kernel, by decide +kernel⟩
theorem ok_last (T : Tx K mg) : Pro P w K mg base 1 (CP K) "last" (spLast K) := by
  refine Pro.of T.P.cl T.pLast sc_last (fun _ _ _ _ _ _ us hl => match us, hl with | [_], _ => rfl) (fun vs H Q E h => ?_) (fun f cdv A outer s H vs Q E hr h => ?_)
  · obtain ⟨a, p, rfl, _⟩ := h
    rfl
  · obtain ⟨a, p, rfl, ⟨dx, t, r, ha, ht, _⟩, ok, k⟩ := h
    obtain ⟨t', xs, e, hta, hx⟩ := ht.tup_inv
    cases e
    refine ⟨_, pss_one (ps_ret (pe_callB (cr_max rfl) rfl (T.z "max") (by decide +kernel) (pa1 (pe_lc (own := [("cell", 1), ("day", 2)]) (g := gTup K 2 (gCons (gName 1) (gCons (gName 2) gNil))) (tt := tYes) rfl sc_last.nd (pi_tup (pfl (pv 0)))
      (blkOk_by (N := ["self", "cell", "day"]) (sc := defScope (inClass (top 31) 5)) (by decide +kernel)) (fun _ _ _ _ _ => pg_tup rfl (pgs_cons (pgn 1 sc_last.nd) (pgs_cons (pgn 2 sc_last.nd) pgs_nil))) (fun _ _ _ _ _ => pts_nil) (fun _ _ _ _ _ => pv 2))))), ?_⟩
    refine ⟨_, rfl, a, _, dx, _, _, rfl, ha, T.P.cl, T.P.no _ (by decide +kernel), pkF_slots _ _ _ _, t, rfl, ⟨xs, hta.sq⟩, fun D hD => ?_⟩
    have hl : xs.length = p.slots.length := by rw [hx.len, List.length_map]
    refine lc_go walk_tup hD (fun i acc _ => acc = (p.slots.take i).map fun z => V.int z.2) (fun _ _ _ _ _ h => h) rfl (fun H1 s => (hta.keep (TK.of s)).sq) (by rw [hl]; exact Nat.lt_of_le_of_lt ok.len (by decide)) (fun i x acc H1 H2 Fy Fn hi s e y ky kn => ?_) (fun H1 acc s hd e => ?_)
    · obtain ⟨rfl, hxi⟩ := y
      obtain ⟨z, hz, tz⟩ := hx.map_at hxi
      obtain ⟨b, rfl, hb⟩ := slot_inv (tz.keep (TK.of s))
      refine ⟨b, _, rfl, hb.sq, rfl, _, _, rfl, _, _, rfl, rfl, rfl, lcY ⟨_, rfl, ky _ _ (Same.refl _) ?_⟩⟩
      rw [e, take_snoc hz, List.map_append]
      rfl
    · refine ⟨D, p.slots.map (·.2), rfl, SqL.of ?_, ?_, fun m hm hle => eint ?_ (k _ s)⟩
      · rw [hd, e, hl, take_all (Nat.le_refl _), List.map_map]
        rfl
      · rw [List.length_map]
        exact List.length_pos_iff.mpr ok.ne
      · exact (max_is ok.pos hm hle).symm
end
end Nd
set_option Elab.async false
set_option linter.all false
set_option maxRecDepth 100000
set_option maxHeartbeats 2000000
namespace Nd
open PySem PySem.Spec PyProof.Rows L2
/-! ### dicts -/
theorem valV_at {kvs : List (Key × V)} {k : Key} {v : V} : ∀ {i : Nat}, (kvs.map (·.1)).Nodup → kvs[i]? = some (k, v) → valV kvs k = some v := by
  induction kvs with
  | nil =>
    intro i _ h
    simp at h
  | cons p r ih =>
    intro i hn h
    rw [List.map_cons] at hn
    cases i with
    | zero =>
      have e : p = (k, v) := by simpa using h
      rw [e]
      exact valV_pos rfl
    | succ i =>
      have h' : r[i]? = some (k, v) := by simpa using h
      have hm : k ∈ r.map (·.1) := List.mem_map.mpr ⟨_, List.mem_of_getElem? h', rfl⟩
      rw [valV_neg (fun e => (List.nodup_cons.mp hn).1 (e ▸ hm))]
      exact ih (List.nodup_cons.mp hn).2 h'
theorem lock_same {H H' : Hp} {d : Addr} {u f : HO} (hd : H d = some u) (s : Same (upd H d f) H') : Same H (upd H' d u) := fun b o e => by
  by_cases hb : b = d
  · rw [hb, upd_same, ← hd, ← hb]
    exact e
  · rw [upd_ne hb]
    exact s b o (by rw [upd_ne hb]; exact e)
theorem lock_ne {H : Hp} {d b : Addr} {u f o : HO} (hd : H d = some u) (hb : H b = some o) (n : o ≠ u) : upd H d f b = some o := by
  rw [upd_ne (ne_of hb hd n)]
  exact hb
theorem lock_FK {H : Hp} {d : Addr} {f : HO} {ys : List (Key × V)} (hd : H d = some (.dK ys)) : FK H (upd H d f) := FK.updD hd
theorem prK_at {ps : List (Str × Int)} {i : Nat} {c : Str} {n : Int} (h : ps[i]? = some (c, n)) : (prK ps)[i]? = some (Sum.inr c, V.int n) := by
  unfold prK
  rw [List.getElem?_map, h]
  rfl
theorem prK_keys (ps : List (Str × Int)) : (prK ps).map (·.1) = (ps.map (·.1)).map Sum.inr := by
  unfold prK
  rw [List.map_map, List.map_map]
  rfl
theorem nodup_inr {l : List Str} (h : l.Nodup) : (l.map (Sum.inr : Str → Key)).Nodup := List.Pairwise.map _ (fun a b h e => h (Sum.inr.inj e)) h
theorem prK_nd {ps : List (Str × Int)} (h : (ps.map (·.1)).Nodup) : ((prK ps).map (·.1)).Nodup := by
  rw [prK_keys]
  exact nodup_inr h
theorem prK_len (ps : List (Str × Int)) : (prK ps).length = ps.length := List.length_map _
theorem prK_in {ps : List (Str × Int)} {c : Str} (h : c ∈ ps.map (·.1)) : (valV (prK ps) (Sum.inr c)).isSome = true := by
  rw [← valV_any]
  obtain ⟨p, hp, rfl⟩ := List.mem_map.mp h
  exact List.any_eq_true.mpr ⟨(Sum.inr p.1, V.int p.2), List.mem_map.mpr ⟨p, hp, rfl⟩, by simp⟩
/-- the entries of a dict of packs -/
def pkK (ns : List Str) (as : List Addr) : List (Key × V) := kvT ns (as.map V.ref)
theorem kvT_at {ks : List Str} {vs : List V} {i : Nat} {c : Str} {v : V} (h : ks[i]? = some c) (h' : vs[i]? = some v) : (kvT ks vs)[i]? = some (Sum.inr c, v) := by
  unfold kvT
  rw [List.getElem?_map, List.getElem?_zip_eq_some (z := (c, v)) |>.mpr ⟨h, h'⟩]
  rfl
theorem kvT_keys {ks : List Str} {vs : List V} (h : ks.length = vs.length) : (kvT ks vs).map (·.1) = ks.map Sum.inr := by
  unfold kvT
  rw [List.map_map]
  have e : (ks.zip vs).map ((fun x : Key × V => x.1) ∘ fun p => ((Sum.inr p.1 : Key), p.2)) = ((ks.zip vs).map Prod.fst).map Sum.inr := by
    rw [List.map_map]
    rfl
  rw [e, List.map_fst_zip (Nat.le_of_eq h)]
theorem kvT_len {ks : List Str} {vs : List V} (h : ks.length = vs.length) : (kvT ks vs).length = ks.length := by
  unfold kvT
  rw [List.length_map, List.length_zip, h, Nat.min_self]
theorem kvT_nd {ks : List Str} {vs : List V} (h : ks.length = vs.length) (hn : ks.Nodup) : ((kvT ks vs).map (·.1)).Nodup := by
  rw [kvT_keys h]
  exact nodup_inr hn
theorem kvT_val {ks : List Str} {vs : List V} {i : Nat} {c : Str} {v : V} (hl : ks.length = vs.length) (hn : ks.Nodup) (h : ks[i]? = some c) (h' : vs[i]? = some v) : valV (kvT ks vs) (Sum.inr c) = some v := valV_at (kvT_nd hl hn) (kvT_at h h')
theorem replicate_true {n : Nat} : (List.replicate n true).all id = true := by simp
section
variable {P : Program} {w : World} {K : PySem.W.Frag} {mg : Str → Option Value} {base : Heap}
/-! ### are_prices -/
def pricesOk (ps : List (Str × Int)) : Prop := 1 ≤ ps.length ∧ ps.length ≤ 3 ∧ (ps.map (·.1)).Nodup ∧ ∀ z ∈ ps, nameOk z.1 ∧ 0 ≤ z.2 ∧ z.2 ≤ 9
def spArePrices : Sp := fun vs H Q _ => ∃ (d : Addr) (ps : List (Str × Int)), vs = [.ref d] ∧ H d = some (.dK (prK ps)) ∧ pricesOk ps ∧ ∀ H', Same H H' → Q (.bl true) H'
theorem sc_are_prices : FnScope ["thing", "cell"] ["thing"] (defScope (top 32)) := ⟨rfl, rfl, rfl, by decide +kernel, rfl, by decide +kernel, by decide +kernel⟩
theorem ok_are_prices (T : Tx K mg) : Cal P w K mg base 3 "are_prices" spArePrices := by
  refine Cal.of (T.f ("are_prices", 32)) sc_are_prices (fun _ _ _ _ _ _ us hl => match us, hl with | [_], _ => rfl) (fun vs H Q E h => ?_) (fun f cdv A outer s H vs Q E hr h => ?_)
  · obtain ⟨d, ps, rfl, _⟩ := h
    rfl
  · obtain ⟨d, ps, rfl, hd, ⟨l1, l3, hn, hz⟩, k⟩ := h
    have hu := hu_of hr
    refine ⟨_, pss_cons (ps_if (pw_or (pt_not (pt_val (pisi "dict" (T.z "isinstance") (T.z "dict") (pv 0)))) (pw_or1 (pt_not (pt_chain op_le op_le pe_int (pcb "len" call_lenD (T.z "len") (pv 0)) (pcon (T.i ("MOST_CELLS", 3))))))).pt pss_never pss_nil)
      (pss_one (ps_ret (pall (T.z "all") rfl (pe_lock (pe_lc (own := [("cell", 1)]) (g := gName 1) (tt := tYes) rfl sc_are_prices.nd (pi_keys (pv 0)) (blkOk_by (N := ["thing", "cell"]) (sc := defScope (top 32)) (by decide +kernel)) (fun _ _ _ _ _ => pgn 1 sc_are_prices.nd) (fun _ _ _ _ _ => pts_nil)
        (fun _ _ _ _ _ => pe_and (pcl (ok_is_name T) hr (pa1 (pv 1))) (pe_one (pcl (ok_is_within T) hr (pa3 (pe_dget hu (pv 0) (pv 1) (fun _ _ => rfl)) pe_int (pcon (T.i ("MOST_PRICE", 9)))))))))))), ?_⟩
    refine ⟨_, rfl, _, _, _, _, true, rfl, .ty _, .base (.dK hd), kit_ty (by decide +kernel), true, rfl, iteF ?_⟩
    refine ⟨_, rfl, d, _, rfl, hd, _, _, rfl, rfl, _, rfl, iteD (by rw [prK_len]; omega) ⟨_, _, rfl, rfl, _, rfl, ?_⟩⟩
    refine iteBF (by rw [prK_len]; simp; omega) ?_
    refine ⟨d, _, hd, trivial, fun od => ⟨_, rfl, d, od, rfl, .inl ⟨_, upd_same, fun D hD => ?_⟩⟩⟩
    have hDd : D ≠ d := fun e => by
      rw [e, upd_same] at hD
      cases hD
    refine lc_go walk_keys hD (fun i acc _ => acc = List.replicate i (V.bl true)) (fun _ _ _ _ _ h => h) rfl (fun H1 s => s _ _ upd_same) (by rw [prK_len]; exact Nat.lt_of_le_of_lt l3 (by decide)) (fun i x acc H1 H2 Fy Fn hi s e y ky kn => ?_) (fun H1 acc s hd' e => ?_)
    · obtain ⟨rfl, kk, v, hkv, rfl⟩ := y
      rw [prK_len] at hi
      have hp := List.getElem?_eq_getElem hi
      have hp2 := prK_at (c := (ps[i]).1) (n := (ps[i]).2) hp
      rw [hkv] at hp2
      cases hp2
      obtain ⟨z1, z2, z3⟩ := hz _ (List.getElem_mem hi)
      refine ⟨rfl, lcY ⟨_, rfl, _, rfl, z1, fun H3 s3 => ⟨true, rfl, iteT ?_⟩⟩⟩
      refine ⟨_, rfl, _, rfl, d, _, rfl, .inl ⟨_, _, .inr ⟨od, s3 _ _ (s _ _ upd_same)⟩, rfl, (valV_at (prK_nd hn) hkv).symm⟩, _, 0, 9, rfl, z2, z3, ?_⟩
      refine ky _ _ s3 ?_
      rw [e, List.replicate_succ']
    · refine ⟨s _ _ upd_same, D, List.replicate ps.length true, rfl, SqL.of ?_, ebl replicate_true (k _ (lock_same hd s))⟩
      rw [upd_ne hDd, hd', e, prK_len, List.map_replicate]
/-! ### are_packs -/
structure PksOk (K : PySem.W.Frag) (H : Hp) (ns : List Str) (as : List Addr) (ps : List PackD) : Prop where
  l : ns.length = as.length
  nd : ns.Nodup
  n4 : ns.length ≤ 4
  nok : ∀ z ∈ ns, nameOk z
  at_ : PacksAt K H as ps
theorem PksOk.keep {H H' : Hp} {ns : List Str} {as : List Addr} {ps : List PackD} (h : PksOk K H ns as ps) (k : FK H H') : PksOk K H' ns as ps := ⟨h.l, h.nd, h.n4, h.nok, h.at_.keep k⟩
theorem PksOk.l2 {H : Hp} {ns : List Str} {as : List Addr} {ps : List PackD} (h : PksOk K H ns as ps) : ns.length = (as.map V.ref).length := by
  rw [List.length_map]
  exact h.l
theorem PksOk.len {H : Hp} {ns : List Str} {as : List Addr} {ps : List PackD} (h : PksOk K H ns as ps) : (pkK ns as).length = ns.length := kvT_len h.l2
theorem PksOk.i {H : Hp} {ns : List Str} {as : List Addr} {ps : List PackD} (h : PksOk K H ns as ps) {i : Nat} (hi : i < ns.length) : ∃ c a p, ns[i]? = some c ∧ as[i]? = some a ∧ ps[i]? = some p ∧ (pkK ns as)[i]? = some (Sum.inr c, V.ref a) ∧ valV (pkK ns as) (Sum.inr c) = some (.ref a) ∧ PackAt K H a p ∧ nameOk c := by
  have ha : as[i]? = some (as[i]'(by rw [← h.l]; exact hi)) := List.getElem?_eq_getElem _
  have hc := List.getElem?_eq_getElem hi
  obtain ⟨p, hp, at_⟩ := h.at_.at_ ha
  have hv : (as.map V.ref)[i]? = some (V.ref (as[i]'(by rw [← h.l]; exact hi))) := by
    rw [List.getElem?_map, ha]
    rfl
  exact ⟨_, _, p, hc, ha, hp, kvT_at hc hv, kvT_val h.l2 h.nd hc hv, at_, h.nok _ (List.getElem_mem hi)⟩
def spArePacks (K : PySem.W.Frag) : Sp := fun vs H Q _ => ∃ (d : Addr) (ns : List Str) (as : List Addr) (ps : List PackD), vs = [.ref d] ∧ H d = some (.dK (pkK ns as)) ∧ PksOk K H ns as ps ∧ ∀ H', Same H H' → Q (.bl true) H'
theorem sc_are_packs : FnScope ["thing", "name"] ["thing"] (defScope (top 33)) := ⟨rfl, rfl, rfl, by decide +kernel, rfl, by decide +kernel, by decide +kernel⟩
theorem ok_are_packs (T : Tx K mg) : Cal P w K mg base 2 "are_packs" (spArePacks K) := by
  refine Cal.of (T.f ("are_packs", 33)) sc_are_packs (fun _ _ _ _ _ _ us hl => match us, hl with | [_], _ => rfl) (fun vs H Q E h => ?_) (fun f cdv A outer s H vs Q E hr h => ?_)
  · obtain ⟨d, ns, as, ps, rfl, _⟩ := h
    rfl
  · obtain ⟨d, ns, as, ps, rfl, hd, ok, k⟩ := h
    have hu := hu_of hr
    have n4 := ok.n4
    refine ⟨_, pss_cons (ps_if (pw_or (pt_not (pt_val (pisi "dict" (T.z "isinstance") (T.z "dict") (pv 0)))) (pw_or1 (pt_cmpR op_gt (pcb "len" call_lenD (T.z "len") (pv 0)) (pcon (T.i ("MOST_PACKS", 4))) (nomark _)))).pt pss_never pss_nil)
      (pss_one (ps_ret (pall (T.z "all") rfl (pe_lock (pe_lc (own := [("name", 1)]) (g := gName 1) (tt := tYes) rfl sc_are_packs.nd (pi_keys (pv 0)) (blkOk_by (N := ["thing", "name"]) (sc := defScope (top 33)) (by decide +kernel)) (fun _ _ _ _ _ => pgn 1 sc_are_packs.nd) (fun _ _ _ _ _ => pts_nil)
        (fun _ _ _ _ _ => pe_and (pcl (ok_is_name T) hr (pa1 (pv 1))) (pe_one (piscK K (T.z "isinstance") T.P.mgC (pe_dget hu (pv 0) (pv 1) (fun _ _ => rfl)))))))))), ?_⟩
    refine ⟨_, rfl, _, _, _, _, true, rfl, .ty _, .base (.dK hd), kit_ty (by decide +kernel), true, rfl, iteF ?_⟩
    refine ⟨_, rfl, d, _, rfl, hd, _, _, rfl, rfl, _, rfl, iteDF (by rw [ok.len]; omega) ?_⟩
    refine ⟨d, _, hd, trivial, fun od => ⟨_, rfl, d, od, rfl, .inl ⟨_, upd_same, fun D hD => ?_⟩⟩⟩
    have hDd : D ≠ d := fun e => by
      rw [e, upd_same] at hD
      cases hD
    refine lc_go walk_keys hD (fun i acc _ => acc = List.replicate i (V.bl true)) (fun _ _ _ _ _ h => h) rfl (fun H1 s => s _ _ upd_same) (by rw [ok.len]; exact Nat.lt_of_le_of_lt n4 (by decide)) (fun i x acc H1 H2 Fy Fn hi s e y ky kn => ?_) (fun H1 acc s hd' e => ?_)
    · obtain ⟨rfl, kk, v, hkv, rfl⟩ := y
      rw [ok.len] at hi
      obtain ⟨c, a, p, h1, h2, h3, h4, h5, h6, h7⟩ := ok.i hi
      rw [hkv] at h4
      cases h4
      refine ⟨rfl, lcY ⟨_, rfl, _, rfl, h7, fun H3 s3 => ⟨true, rfl, iteT ?_⟩⟩⟩
      have h8 : PackAt K H3 a p := h6.keep ((lock_FK hd).trans (FK.of (s.trans s3)))
      obtain ⟨dx, t, r, ha, _, _⟩ := h8
      refine ⟨_, rfl, _, rfl, d, _, rfl, .inl ⟨_, _, .inr ⟨od, s3 _ _ (s _ _ upd_same)⟩, rfl, h5.symm⟩, _, _, _, _, true, rfl, .own _, .base (T.P.ty _ _ _ _ ha), if_pos (beq_self_eq_true _), ?_⟩
      refine ky _ _ s3 ?_
      rw [e, List.replicate_succ']
    · refine ⟨s _ _ upd_same, D, List.replicate ns.length true, rfl, SqL.of ?_, ebl replicate_true (k _ (lock_same hd s))⟩
      rw [upd_ne hDd, hd', e, ok.len, List.map_replicate]
end
end Nd
set_option Elab.async false
set_option linter.all false
set_option maxRecDepth 100000
set_option maxHeartbeats 2000000
namespace Nd
open PySem PySem.Spec PyProof.Rows L2
section
variable {P : Program} {w : World} {K : PySem.W.Frag} {mg : Str → Option Value} {base : Heap}
theorem Td.roll_inv {H : Hp} {r : V} {z : Str × Int} (h : Td K H r (rollD (some z))) : ∃ a, r = .ref a ∧ TupAt K H a [.str z.1, .int z.2] := slot_inv (z := z) h
/-! ### does_fit -/
def spDoesFit (K : PySem.W.Frag) : Sp := fun vs H Q _ => ∃ (pr d : Addr) (prices : List (Str × Int)) (days : Int) (ns : List Str) (as : List Addr) (ps : List PackD) (i : Nat) (c : Str) (p : PackD), vs = [.ref pr, .int days, .ref d, .str c] ∧ H pr = some (.dK (prK prices)) ∧ H d = some (.dK (pkK ns as)) ∧ PksOk K H ns as ps ∧ (∀ q ∈ ps, PackOk q) ∧ ns[i]? = some c ∧ ps[i]? = some p ∧ FitOk prices days ns ps p ∧ ∀ H', Same H H' → Q (.bl true) H'
theorem sc_does_fit : FnScope ["prices", "days", "packs", "name", "pack", "cell", "day"] ["prices", "days", "packs", "name"] (defScope (top 34)) := ⟨rfl, rfl, rfl, by decide +kernel, rfl, by decide +kernel, by decide +kernel⟩
theorem PksOk.at2 {H : Hp} {ns : List Str} {as : List Addr} {ps : List PackD} (h : PksOk K H ns as ps) {i : Nat} {c : Str} {p : PackD} (hc : ns[i]? = some c) (hp : ps[i]? = some p) : ∃ a, valV (pkK ns as) (Sum.inr c) = some (.ref a) ∧ PackAt K H a p := by
  obtain ⟨c', a, p', h1, h2, h3, h4, h5, h6, h7⟩ := h.i (List.getElem?_eq_some_iff.mp hc).1
  rw [hc] at h1
  cases h1
  rw [hp] at h3
  cases h3
  exact ⟨a, h5, h6⟩
theorem ok_does_fit (T : Tx K mg) : Cal P w K mg base 3 "does_fit" (spDoesFit K) := by
  refine Cal.of (T.f ("does_fit", 34)) sc_does_fit (fun _ _ _ _ _ _ us hl => match us, hl with | [_, _, _, _], _ => rfl) (fun vs H Q E h => ?_) (fun f cdv A outer s H vs Q E hr h => ?_)
  · obtain ⟨pr, d, prices, days, ns, as, ps, i, c, p, rfl, _⟩ := h
    rfl
  · obtain ⟨pr, d, prices, days, ns, as, ps, i, c, p, rfl, hpr, hd, ok, hall, hc, hp, fit, k⟩ := h
    have hu := hu_of hr
    have nd := sc_does_fit.nd
    refine ⟨_, pss_cons (pst 4 nd (pe_dget hu (pv 2) (pv 3) (fun _ _ => rfl))) <|
      pss_cons (ps_if (pw_or (pt_cmpR op_ge (ppr (ok_last T) hr (pv 4)) (pv 1) (nomark _)) <| pw_or1 <| pt_not <| pt_val <| pall (T.z "all") rfl <|
        pe_lc (own := [("cell", 5), ("day", 6)]) (g := gTup K 2 (gCons (gName 5) (gCons (gName 6) gNil))) (tt := tYes) rfl nd (pi_tup (pfl (pv 4)))
          (blkOk_by (N := ["prices", "days", "packs", "name", "pack", "cell", "day"]) (sc := defScope (top 34)) (by decide +kernel)) (fun _ _ _ _ _ => pg_tup rfl (pgs_cons (pgn 5 nd) (pgs_cons (pgn 6 nd) pgs_nil))) (fun _ _ _ _ _ => pts_nil) (fun _ _ _ _ _ => pe_cmp (pc_din hu (pv 5) (pv 0)))).pt pss_never pss_nil) <|
      pss_one <| ps_ret <| pe_or (pe_cmpR op_isN (pfl (pv 4)) pe_non (nomark _)) <| pe_one <| pe_and (pe_cmp (pc_din hu (pe_ix ix_tup (pfl (pv 4)) pe_int (fun _ _ => rfl)) (pv 2))) <|
        pe_one <| pe_cmpR op_gt (ppr (ok_last T) hr (pe_dget hu (pv 2) (pe_ix ix_tup (pfl (pv 4)) pe_int (fun _ _ => rfl)) (fun _ _ => rfl))) (ppr (ok_last T) hr (pv 4)) (nomark _), ?_⟩
    obtain ⟨a, hv, hat⟩ := ok.at2 hc hp
    have hat0 := hat
    obtain ⟨dx, t, r, ha, ht, hrr⟩ := hat
    have nP := T.P.no
    have nP1 : NoAttr K (CP K) "own_slots" := nP _ (by decide +kernel)
    have nP4 : NoAttr K (CP K) "own_roll" := nP _ (by decide +kernel)
    refine ⟨_, rfl, _, rfl, d, _, rfl, .inl ⟨_, _, .inl hd, rfl, hv.symm⟩, ?_⟩
    refine ⟨_, rfl, a, dx, _, rfl, ha, a, p, rfl, hat0, fit.ok, fun H1 s1 => ?_⟩
    refine ⟨_, rfl, _, _, rfl, rfl, _, rfl, iteDF (by have := fit.last; omega) ?_⟩
    obtain ⟨t', xs, e, hta, hx⟩ := ht.tup_inv
    cases e
    refine ⟨_, rfl, a, _, dx, _, _, rfl, s1 _ _ ha, T.P.cl, nP1, pkF_slots _ _ _ _, t, rfl, ⟨xs, (hta.keep (TK.of s1)).sq⟩, fun D hD => ?_⟩
    have hl : xs.length = p.slots.length := by rw [hx.len, List.length_map]
    refine lc_go walk_tup hD (fun i acc _ => acc = List.replicate i (V.bl true)) (fun _ _ _ _ _ h => h) rfl (fun H2 s => (hta.keep (TK.of (s1.trans s))).sq) (by rw [hl]; exact Nat.lt_of_le_of_lt fit.ok.len (by decide)) (fun i x acc H2 H3 Fy Fn hi s e y ky kn => ?_) (fun H2 acc s hd' e => ?_)
    · obtain ⟨rfl, hxi⟩ := y
      obtain ⟨z, hz, tz⟩ := hx.map_at hxi
      obtain ⟨b, rfl, hb⟩ := slot_inv (tz.keep (TK.of (s1.trans s)))
      refine ⟨b, _, rfl, hb.sq, rfl, _, _, rfl, _, _, rfl, rfl, rfl, lcY ?_⟩
      refine ⟨_, rfl, _, rfl, pr, _, rfl, .inl ⟨_, Sum.inr z.1, .inl ((s1.trans s) _ _ hpr), rfl, rfl⟩, ?_⟩
      rw [prK_in (fit.cells z (List.mem_of_getElem? hz))]
      refine ky _ _ (Same.refl _) ?_
      rw [e, List.replicate_succ']
    · have s2 : Same H H2 := s1.trans s
      refine ⟨D, List.replicate xs.length true, rfl, SqL.of (by rw [hd', e, List.map_replicate]), true, (by rw [replicate_true]), iteF ?_⟩
      refine ⟨_, rfl, a, _, dx, _, _, rfl, s2 _ _ ha, T.P.cl, nP4, pkF_roll _ _ _ _, rfl, _, rfl, ?_⟩
      cases er : p.roll with
      | none =>
        rw [er] at hrr
        rw [Td.non_inv hrr]
        exact iteT (k _ s2)
      | some z =>
        rw [er] at hrr
        obtain ⟨b, rfl, hb⟩ := Td.roll_inv hrr
        obtain ⟨j, q, hj, hq, hlt⟩ := fit.roll z er
        obtain ⟨a2, hv2, hat2⟩ := ok.at2 hj hq
        refine iteDF (by intro z; cases z) ?_
        refine ⟨_, rfl, a, _, dx, _, _, rfl, s2 _ _ ha, T.P.cl, nP4, pkF_roll _ _ _ _, b, _, 0, _, rfl, rfl, (hb.keep (TK.of s2)).sq, rfl, ?_⟩
        refine ⟨_, rfl, d, _, rfl, .inl ⟨_, Sum.inr z.1, .inl (s2 _ _ hd), rfl, rfl⟩, _, rfl, ?_⟩
        rw [show pkK ns as = pkK ns as from rfl, hv2]
        refine iteT ?_
        refine ⟨_, rfl, _, rfl, a, _, dx, _, _, rfl, s2 _ _ ha, T.P.cl, nP4, pkF_roll _ _ _ _, b, _, 0, _, rfl, rfl, (hb.keep (TK.of s2)).sq, rfl, d, _, rfl, .inl ⟨_, _, .inl (s2 _ _ hd), rfl, hv2.symm⟩, ?_⟩
        have hat3 := hat2.keep (FK.of s2)
        obtain ⟨dx2, t2, r2, ha2, _, _⟩ := hat3
        refine ⟨a2, dx2, _, rfl, ha2, a2, q, rfl, hat2.keep (FK.of s2), hall _ (List.mem_of_getElem? hq), fun H3 s3 => ?_⟩
        refine ⟨_, rfl, a, dx, _, rfl, (s2.trans s3) _ _ ha, a, p, rfl, hat0.keep (FK.of (s2.trans s3)), fit.ok, fun H4 s4 => ?_⟩
        exact ⟨_, _, rfl, rfl, ebl (decide_eq_true hlt) (k _ ((s2.trans s3).trans s4))⟩
end
end Nd
set_option Elab.async false
set_option linter.all false
set_option maxRecDepth 100000
set_option maxHeartbeats 2000000
namespace Nd
open PySem PySem.Spec PyProof.Rows L2
/-! ### dict comprehensions that change nothing -/
theorem putK_length (kvs : List (Key × V)) (k : Key) (v : V) : (putK kvs k v).length ≤ kvs.length + 1 := by
  unfold putK
  split
  · rw [List.length_map]
    omega
  · rw [List.length_append, List.length_singleton]
    exact Nat.le_refl _
theorem dc_go {J : It} {n : Nat} {G : Hp → Prop} {Y : Nat → Hp → V → Hp → Prop} (w : Walk J n G Y) {g : TG} {tt : TT} {tk tv : TE} {vs : List Nat} {σ : L2.St} {H1 : Hp} {D : Addr} {Qd : Hp → Prop} (hD : H1 D = none) (R : Nat → List (Key × V) → Prop)
    (h0 : R 0 []) (hG : ∀ H, Same H1 H → G H) (hn : n < sizeLine)
    (hs : ∀ i x acc H H' (Fy : V → V → Hp → Prop) (Fn : Hp → Prop), i < n → Same H1 H → R i acc → Y i H x H' → (∀ k y H4, Same H H4 → R (i + 1) (putK acc k y) → Fy (kV k) y H4) → (∀ H3, Same H H3 → R (i + 1) acc → Fn H3) →
      g x (wipe σ vs) H' fun σ2 H2 => wipe σ2 vs = wipe σ vs ∧ tt σ2 H2 fun b H3 => if b = true then tk σ2 H3 fun y H4 => tv σ2 H4 fun z H5 => Fy y z H5 else Fn H3)
    (hd : ∀ H acc, Same H1 H → H D = some (.dK acc) → R n acc → Qd H) :
    ∃ W : Nat → Nat → Hp → Prop, (∃ m, W 0 m (upd H1 D (.dK []))) ∧ ∀ i m H, W i m H →
      (J.stop i H ∧ Qd H) ∨ (J.go i H ∧ ∃ Nx : Hp → Prop, (∀ H', Nx H' → ∃ m', m' < m ∧ W (i + 1) m' H') ∧ ∀ x H', J.yld i H x H' → g x (wipe σ vs) H' fun σ2 H2 => wipe σ2 vs = wipe σ vs ∧ tt σ2 H2 fun b H3 =>
        if b = true then tk σ2 H3 fun y H4 => tv σ2 H4 fun z H5 => ∃ kvs k, y = kV k ∧ H5 D = some (.dK kvs) ∧ kvs.length < sizeLine ∧ Nx (upd H5 D (.dK (putK kvs k z))) else Nx H3) := by
  let Pv : Nat → Hp → Prop := fun i H => Same H1 H ∧ ∃ acc, H D = some (.dK acc) ∧ acc.length ≤ i ∧ R i acc
  refine ⟨fun i m H => m = n - i ∧ i ≤ n ∧ Pv i H, ⟨n, by simp, Nat.zero_le _, same_upd hD, [], upd_same, Nat.le_refl _, h0⟩, ?_⟩
  rintro i m H ⟨rfl, hi, p⟩
  have q := hG H p.1
  by_cases hlt : i < n
  · refine .inr ⟨w.goes i H hlt q, Pv (i + 1), fun H' p' => ⟨n - (i + 1), by omega, rfl, hlt, p'⟩, fun x H' y => ?_⟩
    obtain ⟨s, acc, a1, a2, a3⟩ := p
    refine hs i x acc H H' _ _ hlt s a3 (w.yields i H x H' hlt q y) (fun k v H4 z1 z2 => ?_) fun H3 z1 z2 => ⟨s.trans z1, acc, z1 _ _ a1, by omega, z2⟩
    have e4 : H4 D = some (.dK acc) := z1 _ _ a1
    refine ⟨acc, k, rfl, e4, by omega, fun b o e => ?_, _, upd_same, ?_, z2⟩
    · rw [upd_ne (ne_of_none e hD)]
      exact z1 _ _ (s _ _ e)
    · have := putK_length acc k v
      omega
  · have e : i = n := by omega
    subst e
    obtain ⟨s, acc, a1, a2, a3⟩ := p
    exact .inl ⟨w.stops H q, hd H acc s a1 a3⟩
/-! ### orders of zipped lists -/
theorem perm_lift {α β : Type} {f : α → β} {ys zs : List β} (h : ys.Perm zs) : ∀ {l : List α}, l.map f = zs → ∃ l' : List α, l'.Perm l ∧ l'.map f = ys := by
  induction h with
  | nil =>
    intro l e
    exact ⟨l, List.Perm.refl _, e⟩
  | cons x h ih =>
    intro l e
    cases l with
    | nil => cases e
    | cons a l =>
      rw [List.map_cons] at e
      injection e with e1 e2
      obtain ⟨l', h1, h2⟩ := ih e2
      exact ⟨a :: l', h1.cons _, by rw [List.map_cons, e1, h2]⟩
  | swap x y r =>
    intro l e
    match l, e with
    | a :: b :: l, e =>
      rw [List.map_cons, List.map_cons] at e
      injection e with e1 e2
      injection e2 with e2 e3
      exact ⟨b :: a :: l, List.Perm.swap .., by rw [List.map_cons, List.map_cons, e1, e2, e3]⟩
  | trans h1 h2 ih1 ih2 =>
    intro l e
    obtain ⟨l2, a1, a2⟩ := ih2 e
    obtain ⟨l1, b1, b2⟩ := ih1 a2
    exact ⟨l1, b1.trans a1, b2⟩
theorem mem_zip {α β : Type} {l : List α} {m : List β} {a : α} {b : β} : (a, b) ∈ l.zip m ↔ ∃ i : Nat, l[i]? = some a ∧ m[i]? = some b := by
  constructor
  · intro h
    obtain ⟨i, hi, e⟩ := List.getElem_of_mem h
    have e' : (l.zip m)[i]? = some (a, b) := by rw [List.getElem?_eq_getElem hi, e]
    exact ⟨i, (List.getElem?_zip_eq_some (z := (a, b))).mp e'⟩
  · rintro ⟨i, h⟩
    exact List.mem_of_getElem? ((List.getElem?_zip_eq_some (z := (a, b))).mpr h)
theorem PacksAt.of_all {K : PySem.W.Frag} {H : Hp} : ∀ {l : List (Addr × PackD)}, (∀ p ∈ l, PackAt K H p.1 p.2) → PacksAt K H (l.map (·.1)) (l.map (·.2))
  | [], _ => .nil
  | p :: l, h => .cons (h p (List.mem_cons_self ..)) (PacksAt.of_all fun q hq => h q (List.mem_cons_of_mem _ hq))
/-! ### all but one stays -/
def But (x : Addr) (H H' : Hp) : Prop := ∀ b o, H b = some o → b ≠ x → H' b = some o
theorem But.of {x : Addr} {H H' : Hp} (s : Same H H') : But x H H' := fun b o h _ => s b o h
theorem But.trans {x : Addr} {H H1 H2 : Hp} (a : But x H H1) (b : But x H1 H2) : But x H H2 := fun c o h n => b c o (a c o h n) n
theorem But.wr {x : Addr} {H H' : Hp} {o : HO} (a : But x H H') : But x H (upd H' x o) := fun c u h n => by
  rw [upd_ne n]
  exact a c u h n
theorem But.sup {x p : Addr} {H H' : Hp} {o : HO} (a : But x H H') (hp : H' p = none) : But x H (upd H' p o) := a.trans (But.of (same_upd hp))
theorem But.tk {x C dx : Addr} {fs : List (Str × V)} {H H' : Hp} (a : But x H H') (hx : H x = some (.ins C dx fs)) : TK H H' := fun b xs h => a b _ h (ne_of h hx (by intro e; cases e))
theorem But.pack {K : PySem.W.Frag} {x C dx : Addr} {H H' : Hp} {q : Addr} {p : PackD} (a : But x H H') (hx : H x = some (.ins C dx [])) (h : PackAt K H q p) : PackAt K H' q p := by
  obtain ⟨dx2, s, r, h1, h2, h3⟩ := h
  refine ⟨dx2, s, r, a _ _ h1 (ne_of h1 hx ?_), h2.keep (a.tk hx), h3.keep (a.tk hx)⟩
  intro e
  injection e with _ _ e3
  have := congrArg (List.lookup ("own_slots" : Str)) e3
  rw [pkF_slots] at this
  cases this
theorem valV_none {κ α : Type} [DecidableEq κ] {kvs : List (κ × α)} {k : κ} (h : k ∉ kvs.map (·.1)) : (kvs.find? fun kv => decide (kv.1 = k)) = none := by
  rw [List.find?_eq_none]
  intro z hz e
  exact h (List.mem_map.mpr ⟨z, hz, of_decide_eq_true e⟩)
theorem valV_none' {kvs : List (Key × V)} {k : Key} (h : k ∉ kvs.map (·.1)) : valV kvs k = none := by
  cases e : valV kvs k with
  | none => rfl
  | some v => exact absurd (valV_in e) h
theorem perm_sum {l m : List Int} (h : l.Perm m) : l.sum = m.sum := by
  induction h with
  | nil => rfl
  | cons x _ ih => rw [List.sum_cons, List.sum_cons, ih]
  | swap x y r =>
    rw [List.sum_cons, List.sum_cons, List.sum_cons, List.sum_cons]
    omega
  | trans _ _ a b => exact a.trans b
/-- an item that comes anew behind the first i of a list without doubles -/
theorem nd_take {α : Type} {l : List α} (h : l.Nodup) {i : Nat} {a : α} (e : l[i]? = some a) : a ∉ l.take i := by
  intro hm
  obtain ⟨j, hj, ej⟩ := List.getElem_of_mem hm
  rw [List.length_take] at hj
  have e1 : l[j]? = some a := by
    rw [List.getElem_take] at ej
    rw [List.getElem?_eq_getElem (by omega), ej]
  have := nd_ix h e1 e
  omega
end Nd
set_option Elab.async false
set_option linter.all false
set_option maxRecDepth 100000
set_option maxHeartbeats 2000000
namespace Nd
open PySem PySem.Spec PyProof.Rows L2
section
variable {P : Program} {w : World} {K : PySem.W.Frag} {mg : Str → Option Value} {base : Heap}
/-! ### Plan.__init__ -/
structure PlanIn (prices : List (Str × Int)) (days : Int) (ns : List Str) (ps : List PackD) : Prop where
  pr : pricesOk prices
  da : 1 ≤ days ∧ days ≤ 4
  pk : ∀ q ∈ ps, PackOk q
  fit : ∀ q ∈ ps, FitOk prices days ns ps q
  six : (ps.map (·.amount)).sum ≤ 6
/-- the plan made: its lists in their order -/
structure PlanOut (prices : List (Str × Int)) (days : Int) (ns : List Str) (ps : List PackD) (pl : PlanD) : Prop where
  pr : pl.prices.Perm prices
  da : pl.days = days
  pk : (pl.names.zip pl.rows).Perm (ns.zip ps)
  ok : PlanOk pl
def spPlanInit (K : PySem.W.Frag) : Sp := fun vs H Q _ => ∃ (x dx pr d : Addr) (prices : List (Str × Int)) (days : Int) (ns : List Str) (as : List Addr) (ps : List PackD), vs = [.ref x, .ref pr, .int days, .ref d] ∧ H x = some (.ins (CL K) dx []) ∧ H pr = some (.dK (prK prices)) ∧ H d = some (.dK (pkK ns as)) ∧
  PksOk K H ns as ps ∧ PlanIn prices days ns ps ∧ ∀ (H' : Hp) (pl : PlanD), (∀ b o, H b = some o → b ≠ x → H' b = some o) → PlanAt K H' x pl → PlanOut prices days ns ps pl → Q .non H'
theorem sc_plan : FnScope ["self", "prices", "days", "packs", "name", "cell"] ["self", "prices", "days", "packs"] (defScope (inClass (top 35) 0)) := ⟨rfl, rfl, rfl, by decide +kernel, rfl, by decide +kernel, by decide +kernel⟩
theorem FitOk.perm {prices prices' : List (Str × Int)} {days : Int} {ns ns' : List Str} {ps ps' : List PackD} {p : PackD} (h : FitOk prices days ns ps p) (hp : prices'.Perm prices) (hz : (ns'.zip ps').Perm (ns.zip ps)) : FitOk prices' days ns' ps' p := by
  refine ⟨h.ok, fun z hz' => ((hp.map (·.1)).mem_iff).mpr (h.cells z hz'), h.last, fun r hr => ?_⟩
  obtain ⟨j, q, h1, h2, h3⟩ := h.roll r hr
  have := hz.mem_iff.mpr (mem_zip.mpr ⟨j, h1, h2⟩)
  obtain ⟨i, a, b⟩ := mem_zip.mp this
  exact ⟨i, q, a, b, h3⟩
/-- a turn of a dict comprehension without a test -/
theorem lcY2 {σ : L2.St} {H : Hp} {f : Hp → Prop} {g : Hp → Prop} (h : f H) : tYes σ H fun b H3 => if b = true then f H3 else g H3 :=
  show (if true = true then f H else g H) from iteT h
theorem prK_map (ps : List (Str × Int)) : ps.map (fun p => p.1) = ps.map (·.1) := rfl
theorem pkK_keys {ns : List Str} {as : List Addr} (h : ns.length = as.length) : (pkK ns as).map (·.1) = ns.map Sum.inr := kvT_keys (by rw [List.length_map]; exact h)
theorem ok_plan (T : Tx K mg) : Mak P w K mg base 4 "Plan" (CL K) (spPlanInit K) := by
  refine Mak.of T.L T.iL sc_plan (fun _ _ _ _ _ _ us hl => match us, hl with | [_, _, _, _], _ => rfl) (fun vs H Q E h => ?_) (fun f cdv A outer s H vs Q E hr h => ?_)
  · obtain ⟨x, dx, pr, d, prices, days, ns, as, ps, rfl, _⟩ := h
    rfl
  · obtain ⟨x, dx, pr, d, prices, days, ns, as, ps, rfl, hx, hpr, hd, ok, inn, k⟩ := h
    have hu := hu_of hr
    have nd := sc_plan.nd
    have n4 := ok.n4
    refine ⟨_, pss_cons (ps_if (pt_not (pt_val (pcl (ok_are_prices T) hr (pa1 (pv 1))))) pss_never pss_nil) <|
      pss_cons (ps_if (pt_not (pt_val (pcl (ok_is_within T) hr (pa3 (pv 2) pe_int (pcon (T.i ("MOST_DAYS", 4))))))) pss_never pss_nil) <|
      pss_cons (ps_if (pt_not (pt_val (pcl (ok_are_packs T) hr (pa1 (pv 3))))) pss_never pss_nil) <|
      pss_cons (ps_for PassesOwn.never rfl (pi_list (pcb "sorted" (call_sortedD rfl) (T.z "sorted") (pv 3))) (pgn 4 nd) (pss_one (ps_if (pt_not (pt_val (pcl (ok_does_fit T) hr (pa4 (pv 1) (pv 2) (pv 3) (pv 4))))) pss_never pss_nil))) <|
      pss_cons (ps_if (pt_cmpR op_gt (pcb "sum" (cr_sum rfl) (T.z "sum") (pe_lock (pe_lc (own := [("name", 4)]) (g := gName 4) (tt := tYes) rfl nd (pi_keys (pv 3)) (blkOk_by (N := ["self", "prices", "days", "packs", "name", "cell"]) (sc := defScope (inClass (top 35) 0)) (by decide +kernel)) (fun _ _ _ _ _ => pgn 4 nd) (fun _ _ _ _ _ => pts_nil)
        (fun _ _ _ _ _ => pflK K (pe_dget hu (pv 3) (pv 4) (fun _ _ => rfl)))))) (pcon (T.i ("MOST_UNITS", 6))) (nomark _)) pss_never pss_nil) <|
      pss_cons (ps_fld (pv 0) (pe_dc (own := [("cell", 5)]) (g := gName 5) (tt := tYes) rfl nd (pi_list (pcb "sorted" (call_sortedD rfl) (T.z "sorted") (pv 1))) (blkOk_by (N := ["self", "prices", "days", "packs", "name", "cell"]) (sc := defScope (inClass (top 35) 0)) (by decide +kernel)) (fun _ _ _ _ _ => pgn 5 nd) (fun _ _ _ _ _ => pts_nil)
        (fun _ _ _ _ _ => pv 5) (fun _ _ _ _ _ => pe_dget hu (pv 1) (pv 5) (fun _ _ => rfl))) rfl) <|
      pss_cons (ps_fld (pv 0) (pv 2) rfl) <|
      pss_cons (ps_fld (pv 0) (pct "tuple" call_tupF (T.z "tuple") (pcb "sorted" (call_sortedD rfl) (T.z "sorted") (pv 3))) rfl) <|
      pss_one (ps_fld (pv 0) (pe_callTy call_tuple_of rfl (T.z "tuple") (by decide +kernel) (pa1 (pe_lc (own := [("name", 4)]) (g := gName 4) (tt := tYes) rfl nd (pi_tup (pfl (pv 0))) (blkOk_by (N := ["self", "prices", "days", "packs", "name", "cell"]) (sc := defScope (inClass (top 35) 0)) (by decide +kernel)) (fun _ _ _ _ _ => pgn 4 nd) (fun _ _ _ _ _ => pts_nil)
        (fun _ _ _ _ _ => pe_dget hu (pv 3) (pv 4) (fun _ _ => rfl))))) rfl), ?_⟩
    refine ⟨_, rfl, pr, prices, rfl, hpr, inn.pr, fun H1 s1 => ⟨true, rfl, iteF ?_⟩⟩
    refine ⟨_, rfl, days, 1, 4, rfl, inn.da.1, inn.da.2, true, rfl, iteF ?_⟩
    refine ⟨_, rfl, d, ns, as, ps, rfl, s1 _ _ hd, ok.keep (FK.of s1), fun H2 s2 => ⟨true, rfl, iteF ?_⟩⟩
    have s02 := s1.trans s2
    have hd2 := s02 _ _ hd
    refine ⟨_, rfl, d, _, ns, rfl, .inl hd2, pkK_keys ok.l, by omega, fun ys l hys hsrt hl => ?_⟩
    refine ⟨l, rfl, ⟨_, SqL.of upd_same⟩, ?_⟩
    have hyl : ys.length = ns.length := hys.length_eq
    refine for_it walk_list (fun i σ H' => Same (upd H2 l (.lst (ys.map V.str))) H' ∧ (∃ z, σ = [some (.ref x), some (.ref pr), some (.int days), some (.ref d), z, none])) ⟨Same.refl _, none, rfl⟩ (fun i σ H' _ h => SqL.of (h.1 _ _ upd_same)) (fun i v σ H3 H4 hi h y => ?_) (fun σ H3 h => ?_)
    · obtain ⟨sm, z, rfl⟩ := h
      obtain ⟨rfl, hv⟩ := y
      rw [List.length_map] at hi
      have s03 : Same H H4 := (sup s02 hl).trans sm
      rw [List.getElem?_map, List.getElem?_eq_getElem hi] at hv
      obtain rfl := Option.some.inj hv
      have hm : ys[i] ∈ ns := hys.mem_iff.mp (List.getElem_mem hi)
      obtain ⟨j, hj, ej⟩ := List.getElem_of_mem hm
      obtain ⟨c, a, p, q1, q2, q3, q4, q5, q6, q7⟩ := ok.i hj
      rw [List.getElem?_eq_getElem hj, ej] at q1
      cases q1
      refine ⟨_, rfl, _, rfl, _, rfl, _, rfl, pr, d, prices, days, ns, as, ps, j, _, p, rfl, s03 _ _ hpr, s03 _ _ hd, ok.keep (FK.of s03), inn.pk, (List.getElem?_eq_getElem hj).trans (congrArg some ej), q3, inn.fit _ (List.mem_of_getElem? q3), fun H5 s5 => ⟨true, rfl, iteF ⟨sm.trans s5, _, rfl⟩⟩⟩
    · obtain ⟨sm, z, rfl⟩ := h
      have s03 : Same H H3 := (sup s02 hl).trans sm
      have hd3 := s03 _ _ hd
      refine ⟨d, _, hd3, trivial, fun od => ⟨_, rfl, d, od, rfl, .inl ⟨_, upd_same, fun D hD => ?_⟩⟩⟩
      have hDd : D ≠ d := fun e => by
        rw [e, upd_same] at hD
        cases hD
      have hpl : ps.length = ns.length := by rw [ok.l, ok.at_.len]
      refine lc_go walk_keys hD (fun i acc _ => acc = (ps.take i).map fun p => V.int p.amount) (fun _ _ _ _ _ h => h) rfl (fun H1 s => s _ _ upd_same) (by rw [ok.len]; exact Nat.lt_of_le_of_lt n4 (by decide)) (fun i v acc H4 H5 Fy Fn hi sd e y ky kn => ?_) (fun H4 acc sd hd' e => ?_)
      · obtain ⟨rfl, kk, v, hkv, rfl⟩ := y
        rw [ok.len] at hi
        obtain ⟨c, a, p, h1, h2, h3, h4, h5, h6, h7⟩ := ok.i hi
        rw [hkv] at h4
        cases h4
        have h8 : PackAt K H5 a p := h6.keep ((FK.of s03).trans ((lock_FK hd3).trans (FK.of sd)))
        obtain ⟨dxp, t, r, ha, _, _⟩ := h8
        refine ⟨rfl, lcY ⟨_, rfl, _, rfl, d, _, rfl, .inl ⟨_, _, .inr ⟨od, sd _ _ upd_same⟩, rfl, h5.symm⟩, a, _, dxp, _, _, rfl, ha, T.P.cl, T.P.no _ (by decide +kernel), pkF_amount _ _ _ _, ?_⟩⟩
        refine ky _ _ (Same.refl _) ?_
        rw [e, take_snoc h3, List.map_append]
        rfl
      have s04 : Same H (upd H4 d (.dK (pkK ns as))) := s03.trans (lock_same hd3 sd)
      refine ⟨sd _ _ upd_same, D, ps.map (·.amount), rfl, SqL.of ?_, _, 6, rfl, rfl, _, rfl, iteDF (by have := inn.six; omega) ?_⟩
      · rw [upd_ne hDd, hd', e, ok.len, ← hpl, take_all (Nat.le_refl _), List.map_map]
        rfl
      refine ⟨_, rfl, pr, _, prices.map (·.1), rfl, .inl (s04 _ _ hpr), prK_keys prices, (by rw [List.length_map]; exact Nat.lt_of_le_of_lt inn.pr.2.1 (by decide)), fun cs l2 hcs hcsrt hl2 => ?_⟩
      obtain ⟨pr', hp1, hp2⟩ := perm_lift hcs (l := prices) rfl
      refine ⟨l2, rfl, ⟨_, SqL.of upd_same⟩, fun D2 hD2 => ?_⟩
      have s05 := sup (o := .lst (cs.map V.str)) s04 hl2
      have hnd : (pr'.map (·.1)).Nodup := by
        rw [hp2]
        exact hcs.nodup_iff.mpr inn.pr.2.2.1
      have hcl : cs.length = pr'.length := by rw [← hp2, List.length_map]
      refine dc_go walk_list hD2 (fun i acc => acc = prK (pr'.take i)) rfl (fun H5 s => SqL.of (s _ _ upd_same)) (by rw [List.length_map, hcl, hp1.length_eq]; exact Nat.lt_of_le_of_lt inn.pr.2.1 (by decide)) (fun i v acc H5 H6 Fy Fn hi sd e y ky kn => ?_) (fun H5 acc sd hd' e => ?_)
      · obtain ⟨rfl, hv⟩ := y
        rw [List.length_map, hcl] at hi
        have hq := List.getElem?_eq_getElem hi
        rw [List.getElem?_map, ← hp2, List.getElem?_map, hq] at hv
        obtain rfl := Option.some.inj hv
        obtain ⟨j, hj, ej⟩ := List.getElem_of_mem (hp1.mem_iff.mp (List.getElem_mem hi))
        have hv2 : valV (prK prices) (Sum.inr (pr'[i]).1) = some (V.int (pr'[i]).2) := valV_at (prK_nd inn.pr.2.2.1) (prK_at (i := j) (by rw [List.getElem?_eq_getElem hj, ej]))
        refine ⟨rfl, lcY2 ⟨_, rfl, _, rfl, _, rfl, pr, _, rfl, .inl ⟨_, Sum.inr (pr'[i]).1, .inl ((s05.trans sd) _ _ hpr), rfl, hv2.symm⟩, ky (Sum.inr (pr'[i]).1) _ _ (Same.refl _) ?_⟩⟩
        have hnew : valV (prK (pr'.take i)) (Sum.inr (pr'[i]).1) = none := by
          refine valV_none' ?_
          rw [prK_keys]
          intro hm
          obtain ⟨z, hz1, hz2⟩ := List.mem_map.mp hm
          rw [List.map_take] at hz1
          rw [Sum.inr.inj hz2] at hz1
          exact nd_take hnd (i := i) (by rw [List.getElem?_map, hq]; rfl) hz1
        rw [e, putK_new _ hnew, take_snoc hq]
        unfold prK
        rw [List.map_append]
        rfl
      have s06 : Same H H5 := s05.trans sd
      have hx5 := s06 _ _ hx
      have nL := T.L.no
      have nL1 : NoAttr K (CL K) "own_prices" := nL _ (by decide +kernel)
      have nL2 : NoAttr K (CL K) "own_days" := nL _ (by decide +kernel)
      have nL3 : NoAttr K (CL K) "own_names" := nL _ (by decide +kernel)
      have nL4 : NoAttr K (CL K) "own_rows" := nL _ (by decide +kernel)
      have l0 : ([] : List (Str × V)).length = 0 := rfl
      have l1 := length_putF "own_prices" (.ref D2) []
      have l2' := length_putF "own_days" (.int days) (putF "own_prices" (.ref D2) [])
      have hD5 : H5 D2 = some (.dK (prK pr')) := by rw [hd', e, List.length_map, hcl, take_all (Nat.le_refl _)]
      have hDx : D2 ≠ x := ne_of hD5 hx5 (by intro z; cases z)
      refine ⟨_, rfl, x, _, dx, [], rfl, hx5, T.L.cl, nL1, by omega, ?_⟩
      refine ⟨_, rfl, _, rfl, x, _, dx, _, rfl, upd_same, T.L.cl, nL2, by omega, ?_⟩
      have b7 : But x H (upd (upd H5 x (.ins (CL K) dx (putF "own_prices" (.ref D2) []))) x (.ins (CL K) dx (putF "own_days" (.int days) (putF "own_prices" (.ref D2) [])))) := (But.of s06).wr.wr
      have hdx : d ≠ x := ne_of hd hx (by intro z; cases z)
      refine ⟨_, rfl, d, _, ns, rfl, .inl (b7 _ _ hd hdx), pkK_keys ok.l, by omega, fun ms l3 hms hmsrt hl3 => ?_⟩
      refine ⟨l3, ms.map V.str, rfl, SqL.of upd_same, fun t od2 od2c od2d ht => ?_⟩
      have b8 := (b7.sup (o := .lst (ms.map V.str)) hl3).sup (o := .frz od2 (.tup (ms.map V.str))) ht
      have hl3x : l3 ≠ x := fun q => by
        rw [q, upd_same] at hl3
        cases hl3
      have htl3 : t ≠ l3 := fun q => by
        rw [q, upd_same] at ht
        cases ht
      have htx : t ≠ x := fun q => by
        rw [q, upd_ne (fun z => hl3x z.symm), upd_same] at ht
        cases ht
      have l3' := length_putF "own_names" (.ref t) (putF "own_days" (.int days) (putF "own_prices" (.ref D2) []))
      refine ⟨_, rfl, x, _, dx, _, rfl, (upd_ne (fun z => htx z.symm)).trans ((upd_ne (fun z => hl3x z.symm)).trans upd_same), T.L.cl, nL3, by omega, ?_⟩
      have b9 := b8.wr (o := .ins (CL K) dx (putF "own_names" (.ref t) (putF "own_days" (.int days) (putF "own_prices" (.ref D2) []))))
      obtain ⟨es, hp3, hp4⟩ := perm_lift hms (l := ns.zip (as.zip ps)) (List.map_fst_zip (by rw [List.length_zip, ← ok.at_.len, Nat.min_self]; exact Nat.le_of_eq ok.l))
      have hml : ms.length = es.length := by rw [← hp4, List.length_map]
      have hmn : ms.length = ns.length := hms.length_eq
      refine ⟨_, rfl, x, _, dx, _, _, rfl, upd_same, T.L.cl, nL3, (by rw [lookup_putF, if_pos rfl]), t, rfl, ⟨ms.map V.str, .inl (.inr ⟨od2, (upd_ne htx).trans upd_same⟩)⟩, fun D4 hD4 => ?_⟩
      refine lc_go walk_tup hD4 (fun i acc _ => acc = (es.take i).map fun q => V.ref q.2.1) (fun _ _ _ _ _ h => h) rfl (fun H1 s => .inl (.inr ⟨od2, s _ _ ((upd_ne htx).trans upd_same)⟩)) (by rw [List.length_map, hmn]; exact Nat.lt_of_le_of_lt n4 (by decide)) (fun i v acc H6 H7 Fy Fn hi s7 e7 y ky kn => ?_) (fun H6 acc s7 hd7 e7 => ?_)
      · obtain ⟨rfl, hv⟩ := y
        rw [List.length_map, hml] at hi
        have hq := List.getElem?_eq_getElem hi
        rw [List.getElem?_map, ← hp4, List.getElem?_map, hq] at hv
        obtain rfl := Option.some.inj hv
        obtain ⟨j, j1, j2⟩ := mem_zip.mp (show ((es[i]).1, (es[i]).2) ∈ _ from hp3.mem_iff.mp (List.getElem_mem hi))
        have j3 := (List.getElem?_zip_eq_some (z := (es[i]).2)).mp j2
        obtain ⟨c, a, p, q1, q2, q3, q4, q5, q6, q7⟩ := ok.i (List.getElem?_eq_some_iff.mp j1).1
        rw [j1] at q1
        cases q1
        rw [j3.1] at q2
        cases q2
        refine ⟨rfl, lcY ⟨_, rfl, _, rfl, d, _, rfl, .inl ⟨_, _, .inl ((b9.trans (But.of s7)) _ _ hd hdx), rfl, q5.symm⟩, ?_⟩⟩
        refine ky _ _ (Same.refl _) ?_
        rw [e7, take_snoc hq, List.map_append]
        rfl
      refine ⟨D4, _, rfl, .inl ⟨SqL.of hd7, fun t2 ht2 => ?_⟩⟩
      have b10 := (b9.trans (But.of s7)).sup (o := .tup acc) ht2
      have hx7 := s7 _ _ upd_same
      have ht2x : t2 ≠ x := fun q => by
        rw [q, hx7] at ht2
        cases ht2
      have l4' := length_putF "own_rows" (.ref t2) (putF "own_names" (.ref t) (putF "own_days" (.int days) (putF "own_prices" (.ref D2) [])))
      refine ⟨_, rfl, x, _, dx, _, rfl, (upd_ne (fun z => ht2x z.symm)).trans hx7, T.L.cl, nL4, by omega, ?_⟩
      have b11 := b10.wr (o := .ins (CL K) dx (plF (.ref D2) (.ref t) (.ref t2) days))
      have hacc : acc = (es.map fun q => q.2.1).map V.ref := by rw [e7, List.length_map, hml, take_all (Nat.le_refl _), List.map_map]; rfl
      have hzz : (ms.zip (es.map fun q => q.2.2)).Perm (ns.zip ps) := by
        have h1 : (es.map fun q => (q.1, q.2.2)).Perm ((ns.zip (as.zip ps)).map fun q => (q.1, q.2.2)) := hp3.map _
        have h2 : (ns.zip (as.zip ps)).map (fun q => (q.1, q.2.2)) = ns.zip ps := by
          have : (as.zip ps).map Prod.snd = ps := List.map_snd_zip (Nat.le_of_eq ok.at_.len.symm)
          conv => rhs; rw [← this]
          rw [List.zip_map_right]
          rfl
        have h3 : ms.zip (es.map fun q => q.2.2) = es.map fun q => (q.1, q.2.2) := by
          rw [← hp4, List.zip_map', ]
        rw [h3, ← h2]
        exact h1
      have c11 : But x H5 _ := ((((((But.of (Same.refl H5)).wr.wr).sup hl3).sup (o := .frz od2 (.tup (ms.map V.str))) ht).wr.trans (But.of s7)).sup (o := .tup acc) ht2).wr (o := .ins (CL K) dx (plF (.ref D2) (.ref t) (.ref t2) days))
      have htt : t ≠ t2 := fun q => by
        rw [← q, s7 _ _ ((upd_ne htx).trans upd_same)] at ht2
        cases ht2
      have hps : (es.map fun q => q.2.2).Perm ps := by
        have h1 := hp3.map fun q => q.2.2
        have h2 : (ns.zip (as.zip ps)).map (fun q => q.2.2) = ps := by
          have e1 : (ns.zip (as.zip ps)).map (fun q => q.2) = as.zip ps := List.map_snd_zip (by rw [List.length_zip, ← ok.at_.len, Nat.min_self]; exact Nat.le_of_eq ok.l.symm)
          have e2 : (as.zip ps).map Prod.snd = ps := List.map_snd_zip (Nat.le_of_eq ok.at_.len.symm)
          rw [← e2]
          conv => rhs; rw [← e1]
          rw [List.map_map, e2]
          rfl
        rw [h2] at h1
        exact h1
      refine k _ ⟨pr', days, ms, es.map fun q => q.2.2⟩ b11 ⟨D2, t, t2, es.map fun q => q.2.1, ⟨⟨dx, upd_same⟩, c11 _ _ hD5 hDx, ?_, ?_, ?_⟩⟩ ⟨hp1, rfl, hzz, ?_⟩
      · exact ⟨od2, od2c, od2d, (upd_ne htx).trans ((upd_ne htt).trans (s7 _ _ ((upd_ne htx).trans upd_same)))⟩
      · rw [hacc]
        exact (upd_ne ht2x).trans upd_same
      · have h0 : ∀ q ∈ es.map (fun q => q.2), PackAt K H q.1 q.2 := fun q hq => by
          obtain ⟨z, hz, rfl⟩ := List.mem_map.mp hq
          obtain ⟨j, j1, j2⟩ := mem_zip.mp (show (z.1, z.2) ∈ _ from hp3.mem_iff.mp hz)
          have j3 := (List.getElem?_zip_eq_some (z := z.2)).mp j2
          obtain ⟨p, a1, a2⟩ := ok.at_.at_ j3.1
          rw [j3.2] at a1
          cases a1
          exact a2
        have h1 := PacksAt.of_all fun q hq => b11.pack hx (h0 q hq)
        rw [List.map_map, List.map_map] at h1
        exact h1
      · exact {
          days := inn.da
          pne := by
            rw [hp1.length_eq]
            exact ⟨inn.pr.1, inn.pr.2.1⟩
          pnd := hnd
          pok := fun z hz => inn.pr.2.2.2 z (hp1.mem_iff.mp hz)
          len := by rw [List.length_map]; exact hml
          four := by
            rw [hmn]
            exact n4
          nd := hms.nodup_iff.mpr ok.nd
          srt := hmsrt
          nok := fun z hz => ok.nok z (hms.mem_iff.mp hz)
          fit := fun p hp => (inn.fit p (hps.mem_iff.mp hp)).perm hp1 hzz
          six := by
            exact Int.le_trans (Int.le_of_eq (perm_sum (hps.map PackD.amount))) inn.six }
end
end Nd
set_option Elab.async false
set_option linter.all false
set_option maxRecDepth 100000
set_option maxHeartbeats 2000000
namespace Nd
open PySem PySem.Spec PyProof.Rows L2
section
variable {P : Program} {w : World} {K : PySem.W.Frag} {mg : Str → Option Value} {base : Heap}
/-! ### the properties of a plan -/
def spPrices (K : PySem.W.Frag) : Sp := fun vs H Q _ => ∃ (x : Addr) (pl : PlanD), vs = [.ref x] ∧ PlanAt K H x pl ∧ ∀ p, H p = none → Q (.ref p) (upd H p (.dK (prK pl.prices)))
def spDays (K : PySem.W.Frag) : Sp := fun vs H Q _ => ∃ (x : Addr) (pl : PlanD), vs = [.ref x] ∧ PlanAt K H x pl ∧ Q (.int pl.days) H
def spNames (K : PySem.W.Frag) : Sp := fun vs H Q _ => ∃ (x : Addr) (pl : PlanD), vs = [.ref x] ∧ PlanAt K H x pl ∧ ∀ n, TupF H n (pl.names.map V.str) → Q (.ref n) H
def spPacks (K : PySem.W.Frag) : Sp := fun vs H Q _ => ∃ (x : Addr) (pl : PlanD), vs = [.ref x] ∧ PlanAt K H x pl ∧ PlanOk pl ∧ ∀ p as, PacksAt K H as pl.rows → H p = none → Q (.ref p) (upd H p (.dK (pkK pl.names as)))
theorem sc_prices : FnScope ["self"] ["self"] (defScope (inClass (top 35) 1)) := ⟨rfl, rfl, rfl, by decide +kernel, rfl, by decide +kernel, by decide +kernel⟩
theorem sc_days : FnScope ["self"] ["self"] (defScope (inClass (top 35) 2)) := ⟨rfl, rfl, rfl, by decide +kernel, rfl, by decide +kernel, by decide +kernel⟩
theorem sc_packs : FnScope ["self"] ["self"] (defScope (inClass (top 35) 3)) := ⟨rfl, rfl, rfl, by decide +kernel, rfl, by decide +kernel, by decide +kernel⟩
theorem sc_names : FnScope ["self"] ["self"] (defScope (inClass (top 35) 5)) := ⟨rfl, rfl, rfl, by decide +kernel, rfl, by decide +kernel, by decide +kernel⟩
theorem ok_prices (T : Tx K mg) : Pro P w K mg base 1 (CL K) "prices" (spPrices K) := by
  refine Pro.of T.L.cl T.pPrices sc_prices (fun _ _ _ _ _ _ us hl => match us, hl with | [_], _ => rfl) (fun vs H Q E h => ?_) (fun f cdv A outer s H vs Q E hr h => ?_)
  · obtain ⟨x, pl, rfl, _⟩ := h
    rfl
  · obtain ⟨x, pl, rfl, ⟨r, n, m, as, ⟨dx, hx⟩, hr_, hn, hm, hp⟩, k⟩ := h
    refine ⟨_, pss_one <| ps_ret <| pct "dict" call_dictD (T.z "dict") (pfl (pv 0)), ?_⟩
    exact ⟨_, rfl, x, _, dx, _, _, rfl, hx, T.L.cl, T.L.no _ (by decide +kernel), plF_prices _ _ _ _, r, _, rfl, .inl hr_, k⟩
theorem ok_days (T : Tx K mg) : Pro P w K mg base 1 (CL K) "days" (spDays K) := by
  refine Pro.of T.L.cl T.pDays sc_days (fun _ _ _ _ _ _ us hl => match us, hl with | [_], _ => rfl) (fun vs H Q E h => ?_) (fun f cdv A outer s H vs Q E hr h => ?_)
  · obtain ⟨x, pl, rfl, _⟩ := h
    rfl
  · obtain ⟨x, pl, rfl, ⟨r, n, m, as, ⟨dx, hx⟩, hr_, hn, hm, hp⟩, k⟩ := h
    refine ⟨_, pss_one <| ps_ret <| pfl (pv 0), ?_⟩
    exact ⟨_, rfl, x, _, dx, _, _, rfl, hx, T.L.cl, T.L.no _ (by decide +kernel), plF_days _ _ _ _, k⟩
theorem ok_names (T : Tx K mg) : Pro P w K mg base 1 (CL K) "names" (spNames K) := by
  refine Pro.of T.L.cl T.pNames sc_names (fun _ _ _ _ _ _ us hl => match us, hl with | [_], _ => rfl) (fun vs H Q E h => ?_) (fun f cdv A outer s H vs Q E hr h => ?_)
  · obtain ⟨x, pl, rfl, _⟩ := h
    rfl
  · obtain ⟨x, pl, rfl, ⟨r, n, m, as, ⟨dx, hx⟩, hr_, hn, hm, hp⟩, k⟩ := h
    refine ⟨_, pss_one <| ps_ret <| pfl (pv 0), ?_⟩
    exact ⟨_, rfl, x, _, dx, _, _, rfl, hx, T.L.cl, T.L.no _ (by decide +kernel), plF_names _ _ _ _, k n hn⟩
theorem ok_packs (T : Tx K mg) : Pro P w K mg base 1 (CL K) "packs" (spPacks K) := by
  refine Pro.of T.L.cl T.pPacks sc_packs (fun _ _ _ _ _ _ us hl => match us, hl with | [_], _ => rfl) (fun vs H Q E h => ?_) (fun f cdv A outer s H vs Q E hr h => ?_)
  · obtain ⟨x, pl, rfl, _⟩ := h
    rfl
  · obtain ⟨x, pl, rfl, ⟨r, n, m, as, ⟨dx, hx⟩, hr_, hn, hm, hp⟩, ok, k⟩ := h
    refine ⟨_, pss_one <| ps_ret <| pe_dictZip (T.z "dict") (T.z "zip") rfl (pa2 (pfl (pv 0)) (pfl (pv 0))), ?_⟩
    refine ⟨_, rfl, x, _, dx, _, _, rfl, hx, T.L.cl, T.L.no _ (by decide +kernel), plF_names _ _ _ _, ?_⟩
    refine ⟨_, rfl, x, _, dx, _, _, rfl, hx, T.L.cl, T.L.no _ (by decide +kernel), plF_rows _ _ _ _, ?_⟩
    refine ⟨n, m, pl.names, as.map V.ref, rfl, hn.sq, SqT.of hm, (by rw [List.length_map, hp.len]; exact ok.len), ok.nd, fun p hp' => k p as hp hp'⟩
end
end Nd
set_option Elab.async false
set_option linter.all false
set_option maxRecDepth 100000
set_option maxHeartbeats 2000000
/-! the model: states, choices, deeds, what an order does; no program here. -/
namespace Nd
open PySem PySem.Spec PyProof.Rows L2
abbrev State := Int × List Int
def stateD (s : State) : PyData := .tuple [.int s.1, .tuple (s.2.map PyData.int)]
def noPack : PackD := ⟨[], 0, none, none⟩
/-- row i, name i, rest i -/
def rowN (pl : PlanD) (i : Nat) : PackD := (pl.rows[i]?).getD noPack
def nameN (pl : PlanD) (i : Nat) : Str := (pl.names[i]?).getD ""
def restN (rs : List Int) (i : Nat) : Int := (rs[i]?).getD 0
theorem rowN_at {pl : PlanD} {i : Nat} {p : PackD} (h : pl.rows[i]? = some p) : rowN pl i = p := by
  unfold rowN
  rw [h]
  rfl
theorem nameN_at {pl : PlanD} {i : Nat} {p : Str} (h : pl.names[i]? = some p) : nameN pl i = p := by
  unfold nameN
  rw [h]
  rfl
theorem restN_at {rs : List Int} {i : Nat} {p : Int} (h : rs[i]? = some p) : restN rs i = p := by
  unfold restN
  rw [h]
  rfl
theorem at_rowN {pl : PlanD} {i : Nat} (h : i < pl.rows.length) : pl.rows[i]? = some (rowN pl i) := by
  rw [rowN_at (List.getElem?_eq_getElem h), List.getElem?_eq_getElem h]
theorem at_nameN {pl : PlanD} {i : Nat} (h : i < pl.names.length) : pl.names[i]? = some (nameN pl i) := by
  rw [nameN_at (List.getElem?_eq_getElem h), List.getElem?_eq_getElem h]
theorem at_restN {rs : List Int} {i : Nat} (h : i < rs.length) : rs[i]? = some (restN rs i) := by
  rw [restN_at (List.getElem?_eq_getElem h), List.getElem?_eq_getElem h]
def posOf (ns : List Str) (z : Str) : Nat := ns.findIdx fun y => decide (y = z)
theorem posOf_at {ns : List Str} {z : Str} {j : Nat} (hn : ns.Nodup) (h : ns[j]? = some z) : posOf ns z = j := by
  obtain ⟨hj, e⟩ := List.getElem?_eq_some_iff.mp h
  unfold posOf
  refine (List.findIdx_eq hj).mpr ⟨decide_eq_true e, fun m hm => decide_eq_false fun q => ?_⟩
  have h1 : ns[m]? = some z := by rw [List.getElem?_eq_getElem (by omega), q]
  have := nd_ix hn h1 h
  omega
/-! ### states -/
structure StOk (pl : PlanD) (s : State) : Prop where
  day : 0 ≤ s.1 ∧ s.1 ≤ pl.days - 1
  len : s.2.length = pl.rows.length
  pos : ∀ r ∈ s.2, 0 ≤ r
  gone : ∀ i, i < pl.rows.length → lastD (rowN pl i) < s.1 → restN s.2 i = 0
def startM (pl : PlanD) : State := (0, pl.rows.map (·.amount))
def rolledM (p : PackD) (r : Int) : Int := match p.roll with
  | none => 0
  | some z => if z.2 < r then z.2 else r
def nightStep (pl : PlanD) (s : State) (i : Nat) (f : List Int) : List Int :=
  if lastD (rowN pl i) = s.1 then
    match (rowN pl i).roll with
    | none => f.set i 0
    | some z => (f.set i 0).set (posOf pl.names z.1) (restN (f.set i 0) (posOf pl.names z.1) + rolledM (rowN pl i) (restN s.2 i))
  else f
def nightK (pl : PlanD) (s : State) : Nat → List Int
  | 0 => s.2
  | i + 1 => nightStep pl s i (nightK pl s i)
def nightM (pl : PlanD) (s : State) : State := (s.1 + 1, nightK pl s pl.rows.length)
def unitsN (pl : PlanD) (s : State) (i : Nat) : Int := restN s.2 i - rolledM (rowN pl i) (restN s.2 i)
def lostK (pl : PlanD) (s : State) : Nat → List (Str × Int)
  | 0 => []
  | i + 1 => lostK pl s i ++ if lastD (rowN pl i) = s.1 ∧ 0 < unitsN pl s i then [(nameN pl i, unitsN pl s i)] else []
def lostM (pl : PlanD) (s : State) : List (Str × Int) := lostK pl s pl.rows.length
theorem lostK_names {pl : PlanD} {s : State} : ∀ (i : Nat) {z : Str × Int}, z ∈ lostK pl s i → ∃ j, j < i ∧ z.1 = nameN pl j
  | 0, z, h => by cases h
  | i + 1, z, h => by
    rcases List.mem_append.mp h with h | h
    · obtain ⟨j, h1, h2⟩ := lostK_names i h
      exact ⟨j, by omega, h2⟩
    · split at h
      · rw [List.mem_singleton.mp h]
        exact ⟨i, by omega, rfl⟩
      · cases h
/-! ### choices -/
inductive Ch
  | pay
  | draw (i : Nat)
  | buy (i : Nat)
def chD (pl : PlanD) : Ch → PyData
  | .pay => .tuple [.str "pay"]
  | .draw i => .tuple [.str "draw", .str (nameN pl i)]
  | .buy i => .tuple [.str "buy", .str (nameN pl i)]
def ochD (pl : PlanD) : Option Ch → PyData
  | none => .none
  | some c => chD pl c
def coverM (pl : PlanD) (d : Int) (c : Str) : List Nat := (List.range pl.rows.length).filter fun i => (rowN pl i).slots.any fun z => PyData.eqv (slotD z) (slotD (c, d))
def canBuyM (pl : PlanD) (s : State) (i : Nat) : Bool := decide (restN s.2 i = 0) && ((rowN pl i).cost.isSome && decide (0 < (rowN pl i).amount))
def choicesM (pl : PlanD) (s : State) (c : Str) : List Ch :=
  ((coverM pl s.1 c).filter fun i => decide (0 < restN s.2 i)).map Ch.draw ++ ((coverM pl s.1 c).filter fun i => canBuyM pl s i).map Ch.buy ++ [Ch.pay]
def priceN (pl : PlanD) (c : Str) : Int := ((pl.prices.find? fun z => decide (z.1 = c)).map (·.2)).getD 0
def drawable (pl : PlanD) (s : State) (c : Str) (word n : Str) : Bool := ((choicesM pl s c).map (chD pl)).any fun z => PyData.eqv z (.tuple [.str word, .str n])
def choiceM (pl : PlanD) (ord : List Str) (s : State) (c : Str) : Ch :=
  match ord.find? (fun n => drawable pl s c "draw" n) with
  | some n => .draw (posOf pl.names n)
  | none => match ord.find? (fun n => drawable pl s c "buy" n) with
    | some n => .buy (posOf pl.names n)
    | none => .pay
def takenM (pl : PlanD) (s : State) (c : Str) : Ch → Int × State
  | .pay => (priceN pl c, s)
  | .draw i => (0, (s.1, s.2.set i (restN s.2 i - 1)))
  | .buy i => (((rowN pl i).cost).getD 0, (s.1, s.2.set i ((rowN pl i).amount - 1)))
/-! ### deeds: none is a night -/
abbrev Deed := Option Str
def deedD : Deed → PyData
  | none => .tuple [.str "night"]
  | some c => .tuple [.str "use", .str c]
/-- deeds that can be done from a day on -/
def DeedsOk (pl : PlanD) : Int → List Deed → Prop
  | _, [] => True
  | d, none :: r => d < pl.days - 1 ∧ DeedsOk pl (d + 1) r
  | d, some c :: r => c ∈ pl.prices.map (·.1) ∧ DeedsOk pl d r
structure Run where
  made : List (Option Ch)
  sums : List Int
  gone : List (Int × Str × Int)
  now : State
def goneD (g : Int × Str × Int) : PyData := .tuple [.int g.1, .str g.2.1, .int g.2.2]
def stepM (pl : PlanD) (ord : List Str) (r : Run) : Deed → Run
  | none => ⟨r.made ++ [none], r.sums ++ [0], r.gone ++ (lostM pl r.now).map fun q => (r.now.1, q.1, q.2), nightM pl r.now⟩
  | some c => ⟨r.made ++ [some (choiceM pl ord r.now c)], r.sums ++ [(takenM pl r.now c (choiceM pl ord r.now c)).1], r.gone, (takenM pl r.now c (choiceM pl ord r.now c)).2⟩
def run0 (pl : PlanD) : Run := ⟨[], [], [], startM pl⟩
def runM (pl : PlanD) (ord : List Str) (ds : List Deed) : Run := ds.foldl (stepM pl ord) (run0 pl)
end Nd
set_option Elab.async false
set_option linter.all false
set_option maxRecDepth 100000
set_option maxHeartbeats 2000000
namespace Nd
open PySem PySem.Spec PyProof.Rows L2
section
variable {P : Program} {w : World} {K : PySem.W.Frag} {mg : Str → Option Value} {base : Heap}
/-! ### the attributes of a pack, of a plan, read off a name -/
theorem _root_.L2.PE.conv {X : Cx} {e : Expr} {t t' : TE} (h : PE X e t) (f : ∀ σ H Q, t' σ H Q → t σ H Q) : PE X e t' := ⟨fun pins s σ H Q I q => h.run pins s σ H Q I (f σ H Q q)⟩
def FR (K : PySem.W.Frag) (H : Hp) (x : V) (f : Str) (u : V) : Prop := ∃ (a C dx : Addr) (fs : List (Str × V)), x = .ref a ∧ H a = some (.ins C dx fs) ∧ Cls K C ∧ NoAttr K C f ∧ fs.lookup f = some u
def tA (K : PySem.W.Frag) (i : Nat) (f : Str) : TE := fun σ H Q => ∃ v u, σ[i]? = some (some v) ∧ FR K H v f u ∧ Q u H
/-- x.f, x in slot i -/
theorem pav (K : PySem.W.Frag) {i : Nat} {X : Cx} {e : Expr} {f : Str} {pos : Pos} (he : PE X e (tVar i)) (hK : X.K = K := by rfl) (hb : attributeBase e f X.env (eval e X.env) = eval e X.env := by rfl) : PE X (.Attribute e f pos) (tA K i f) :=
  (pflK K he hK hb).conv fun σ H Q ⟨v, u, h1, ⟨a, C, dx, fs, h2, h3, h4, h5, h6⟩, q⟩ => ⟨v, h1, a, C, dx, fs, u, h2, h3, h4, h5, h6, q⟩
section
variable {H : Hp} {a : Addr} {p : PackD}
theorem PackAt.fSlots (T : Tx K mg) (h : PackAt K H a p) : ∃ s, FR K H (.ref a) "own_slots" (.ref s) ∧ Td K H (.ref s) (.tuple (p.slots.map slotD)) := by
  obtain ⟨dx, s, r, h1, h2, h3⟩ := h
  exact ⟨s, ⟨a, _, dx, _, rfl, h1, T.P.cl, T.P.no _ (by decide +kernel), pkF_slots _ _ _ _⟩, h2⟩
theorem PackAt.fAmount (T : Tx K mg) (h : PackAt K H a p) : FR K H (.ref a) "own_amount" (.int p.amount) := by
  obtain ⟨dx, s, r, h1, h2, h3⟩ := h
  exact ⟨a, _, dx, _, rfl, h1, T.P.cl, T.P.no _ (by decide +kernel), pkF_amount _ _ _ _⟩
theorem PackAt.fCost (T : Tx K mg) (h : PackAt K H a p) : FR K H (.ref a) "own_cost" (costV p.cost) := by
  obtain ⟨dx, s, r, h1, h2, h3⟩ := h
  exact ⟨a, _, dx, _, rfl, h1, T.P.cl, T.P.no _ (by decide +kernel), pkF_cost _ _ _ _⟩
theorem PackAt.fRoll (T : Tx K mg) (h : PackAt K H a p) : ∃ r, FR K H (.ref a) "own_roll" r ∧ Td K H r (rollD p.roll) := by
  obtain ⟨dx, s, r, h1, h2, h3⟩ := h
  exact ⟨r, ⟨a, _, dx, _, rfl, h1, T.P.cl, T.P.no _ (by decide +kernel), pkF_roll _ _ _ _⟩, h3⟩
end
/-- x.last, x a pack in slot i -/
def tLast (K : PySem.W.Frag) (i : Nat) : TE := fun σ H Q => ∃ a p, σ[i]? = some (some (.ref a)) ∧ PackAt K H a p ∧ PackOk p ∧ ∀ H', Same H H' → Q (.int (lastD p)) H'
theorem plv {i : Nat} {X : Cx} {e : Expr} {pos : Pos} {k j : Nat} (c : Pro X.prog X.w X.K X.mg X.base k (CP K) "last" (spLast K)) (hr : Room j X.A) (he : PE X e (tVar i)) (hk : k + 1 ≤ j := by decide) (hb : attributeBase e "last" X.env (eval e X.env) = eval e X.env := by rfl) : PE X (.Attribute e "last" pos) (tLast K i) :=
  (ppr c hr he hk hb).conv fun σ H Q ⟨a, p, h1, h2, h3, q⟩ => by
    have h0 := h2
    obtain ⟨dx, s, r, g1, _⟩ := h0
    exact ⟨_, h1, a, dx, _, rfl, g1, a, p, rfl, h2, h3, q⟩
section
variable {H : Hp} {x r n m : Addr} {as : List Addr} {pl : PlanD}
theorem PlanAt0.fPrices (T : Tx K mg) (h : PlanAt0 K H x r n m as pl) : FR K H (.ref x) "own_prices" (.ref r) := by
  obtain ⟨dx, h1⟩ := h.ob
  exact ⟨x, _, dx, _, rfl, h1, T.L.cl, T.L.no _ (by decide +kernel), plF_prices _ _ _ _⟩
theorem PlanAt0.fDays (T : Tx K mg) (h : PlanAt0 K H x r n m as pl) : FR K H (.ref x) "own_days" (.int pl.days) := by
  obtain ⟨dx, h1⟩ := h.ob
  exact ⟨x, _, dx, _, rfl, h1, T.L.cl, T.L.no _ (by decide +kernel), plF_days _ _ _ _⟩
theorem PlanAt0.fNames (T : Tx K mg) (h : PlanAt0 K H x r n m as pl) : FR K H (.ref x) "own_names" (.ref n) := by
  obtain ⟨dx, h1⟩ := h.ob
  exact ⟨x, _, dx, _, rfl, h1, T.L.cl, T.L.no _ (by decide +kernel), plF_names _ _ _ _⟩
theorem PlanAt0.fRows (T : Tx K mg) (h : PlanAt0 K H x r n m as pl) : FR K H (.ref x) "own_rows" (.ref m) := by
  obtain ⟨dx, h1⟩ := h.ob
  exact ⟨x, _, dx, _, rfl, h1, T.L.cl, T.L.no _ (by decide +kernel), plF_rows _ _ _ _⟩
theorem PlanAt0.keep {H' : Hp} (h : PlanAt0 K H x r n m as pl) (s : Same H H') : PlanAt0 K H' x r n m as pl := by
  obtain ⟨⟨dx, h1⟩, h2, h3, h4, h5⟩ := h
  exact ⟨⟨dx, s _ _ h1⟩, s _ _ h2, h3.keep s, s _ _ h4, h5.keep (FK.of s)⟩
/-- row i -/
theorem PlanAt0.row (h : PlanAt0 K H x r n m as pl) {i : Nat} (hi : i < pl.rows.length) : ∃ a, as[i]? = some a ∧ (as.map V.ref)[i]? = some (V.ref a) ∧ PackAt K H a (rowN pl i) := by
  obtain ⟨a, h1, h2⟩ := h.pk.of_at (at_rowN hi)
  refine ⟨a, h1, ?_, h2⟩
  rw [List.getElem?_map, h1]
  rfl
theorem PlanAt0.rlen (h : PlanAt0 K H x r n m as pl) : (as.map V.ref).length = pl.rows.length := by rw [List.length_map, h.pk.len]
end
theorem PlanOk.row {pl : PlanD} (ok : PlanOk pl) {i : Nat} (hi : i < pl.rows.length) : FitOk pl.prices pl.days pl.names pl.rows (rowN pl i) := ok.fit _ (List.mem_of_getElem? (at_rowN hi))
theorem PlanOk.r4 {pl : PlanD} (ok : PlanOk pl) : pl.rows.length ≤ 4 := by
  rw [← ok.len]
  exact ok.four
theorem four_lt {n : Nat} (h : n ≤ 4) : n < sizeLine := Nat.lt_of_le_of_lt h (by decide)
/-- an item that is a row -/
theorem row_inv {H : Hp} {x r n m : Addr} {as : List Addr} {pl : PlanD} (h : PlanAt0 K H x r n m as pl) {i : Nat} {v : V} (e : (as.map V.ref)[i]? = some v) : i < pl.rows.length ∧ ∃ a, v = .ref a ∧ PackAt K H a (rowN pl i) := by
  have hi : i < pl.rows.length := by
    rw [← h.rlen]
    exact (List.getElem?_eq_some_iff.mp e).1
  obtain ⟨a, h1, h2, h3⟩ := h.row hi
  rw [h2] at e
  exact ⟨hi, a, (Option.some.inj e).symm, h3⟩
theorem ints_at {rs : List Int} {i : Nat} {v : V} (e : (rs.map V.int)[i]? = some v) : i < rs.length ∧ v = .int (restN rs i) := by
  have hi : i < rs.length := by
    have := (List.getElem?_eq_some_iff.mp e).1
    rw [List.length_map] at this
    exact this
  rw [List.getElem?_map, at_restN hi] at e
  exact ⟨hi, (Option.some.inj e).symm⟩
/-! ### states -/
theorem state_inv {H : Hp} {v : V} {s : State} (h : Td K H v (stateD s)) : ∃ (a b : Addr), v = .ref a ∧ TupAt K H a [.int s.1, .ref b] ∧ TupAt K H b (s.2.map V.int) := by
  obtain ⟨a, xs, rfl, ha, hx⟩ := h.tup_inv
  cases hx with
  | cons h1 hx =>
    cases hx with
    | cons h2 hx =>
      cases hx
      cases h1
      obtain ⟨b, ys, rfl, hb, hy⟩ := h2.tup_inv
      rw [hy.ints_inv] at hb
      exact ⟨a, b, rfl, ha, hb⟩
theorem Td.state {H : Hp} {a b : Addr} {s : State} (h1 : TupAt K H a [.int s.1, .ref b]) (h2 : TupAt K H b (s.2.map V.int)) : Td K H (.ref a) (stateD s) := .tup h1 (.cons (.int _) (.cons (.tup h2 TdAll.ints) .nil))
/-! ### need_plan -/
def spNeedPlan (K : PySem.W.Frag) : Sp := fun vs H Q _ => ∃ (x : Addr) (pl : PlanD), vs = [.ref x] ∧ PlanAt K H x pl ∧ Q .non H
theorem sc_need_plan : FnScope ["plan"] ["plan"] (defScope (top 36)) := ⟨rfl, rfl, rfl, by decide +kernel, rfl, by decide +kernel, by decide +kernel⟩
theorem ok_need_plan (T : Tx K mg) : Cal P w K mg base 1 "need_plan" (spNeedPlan K) := by
  refine Cal.of (T.f ("need_plan", 36)) sc_need_plan (fun _ _ _ _ _ _ us hl => match us, hl with | [_], _ => rfl) (fun vs H Q E h => ?_) (fun f cdv A outer s H vs Q E hr h => ?_)
  · obtain ⟨x, pl, rfl, _⟩ := h
    rfl
  · obtain ⟨x, pl, rfl, ⟨r, n, m, as, ⟨dx, hx⟩, _⟩, k⟩ := h
    refine ⟨_, pss_one <| ps_if (pt_not (pt_val (pisc (T.z "isinstance") T.L.mgC (pv 0)))) pss_never pss_nil, ?_⟩
    exact ⟨_, rfl, _, _, _, _, true, rfl, .own _, .base (T.L.ty _ _ _ _ hx), if_pos (beq_self_eq_true _), true, rfl, iteF k⟩
/-! ### start_of, start -/
def spStart (K : PySem.W.Frag) : Sp := fun vs H Q _ => ∃ (x : Addr) (pl : PlanD), vs = [.ref x] ∧ PlanAt K H x pl ∧ PlanOk pl ∧ ∀ v H', Same H H' → Td K H' v (stateD (startM pl)) → Q v H'
theorem sc_start_of : FnScope ["plan", "pack"] ["plan"] (defScope (top 37)) := ⟨rfl, rfl, rfl, by decide +kernel, rfl, by decide +kernel, by decide +kernel⟩
theorem ok_start_of (T : Tx K mg) : Cal P w K mg base 1 "start_of" (spStart K) := by
  refine Cal.of (T.f ("start_of", 37)) sc_start_of (fun _ _ _ _ _ _ us hl => match us, hl with | [_], _ => rfl) (fun vs H Q E h => ?_) (fun f cdv A outer s H vs Q E hr h => ?_)
  · obtain ⟨x, pl, rfl, _⟩ := h
    rfl
  · obtain ⟨x, pl, rfl, ⟨r, n, m, as, hp⟩, ok, k⟩ := h
    have nd := sc_start_of.nd
    refine ⟨_, pss_one <| ps_ret <| pe_tup (pa2 pe_int (pe_callTy call_tuple_of rfl (T.z "tuple") (by decide +kernel) (pa1 (pe_lc (own := [("pack", 1)]) (g := gName 1) (tt := tYes) rfl nd (pi_tup (pav K (pv 0))) (blkOk_by (N := ["plan", "pack"]) (sc := defScope (top 37)) (by decide +kernel)) (fun _ _ _ _ _ => pgn 1 nd) (fun _ _ _ _ _ => pts_nil)
        (fun _ _ _ _ _ => pav K (pv 1)))))), ?_⟩
    refine ⟨_, _, rfl, hp.fRows T, m, rfl, ⟨_, SqT.of hp.rw_⟩, fun D hD => ?_⟩
    refine lc_go walk_tup hD (fun i acc _ => acc = (pl.rows.take i).map fun p => V.int p.amount) (fun _ _ _ _ _ h => h) rfl (fun H1 s => SqT.of (s _ _ hp.rw_)) (by rw [hp.rlen]; exact four_lt ok.r4) (fun i x acc H1 H2 Fy Fn hi s e y ky kn => ?_) (fun H1 acc s hd e => ?_)
    · obtain ⟨rfl, hv⟩ := y
      obtain ⟨hi, a, rfl, ha⟩ := row_inv (hp.keep s) hv
      refine ⟨rfl, lcY ⟨_, _, rfl, ha.fAmount T, ky _ _ (Same.refl _) ?_⟩⟩
      rw [e, take_snoc (at_rowN hi), List.map_append]
      rfl
    · refine ⟨D, _, rfl, .inl ⟨SqL.of hd, fun t ht => ⟨by show 2 ≤ sizeLine; decide, fun u hu => ?_⟩⟩⟩
      have e2 : acc = (startM pl).2.map V.int := by
        rw [e, hp.rlen, take_all (Nat.le_refl _)]
        show _ = (pl.rows.map _).map V.int
        rw [List.map_map]
        rfl
      refine k _ _ ((sup (sup s ht) hu)) (Td.state (b := t) (.inl upd_same) (.inl ?_))
      rw [upd_ne (ne_of_none upd_same hu), upd_same, e2]
theorem sc_start : FnScope ["plan"] ["plan"] (defScope (top 38)) := ⟨rfl, rfl, rfl, by decide +kernel, rfl, by decide +kernel, by decide +kernel⟩
theorem ok_start (T : Tx K mg) : Cal P w K mg base 2 "start" (spStart K) := by
  refine Cal.of (T.f ("start", 38)) sc_start (fun _ _ _ _ _ _ us hl => match us, hl with | [_], _ => rfl) (fun vs H Q E h => ?_) (fun f cdv A outer s H vs Q E hr h => ?_)
  · obtain ⟨x, pl, rfl, _⟩ := h
    rfl
  · obtain ⟨x, pl, rfl, hp, ok, k⟩ := h
    refine ⟨_, pss_cons (ps_expr (pcl (ok_need_plan T) hr (pa1 (pv 0)))) <| pss_one <| ps_ret <| pcl (ok_start_of T) hr (pa1 (pv 0)), ?_⟩
    exact ⟨_, rfl, x, pl, rfl, hp, _, rfl, x, pl, rfl, hp, ok, k⟩
/-! ### are_rests -/
def spAreRests (K : PySem.W.Frag) : Sp := fun vs H Q _ => ∃ (x b : Addr) (pl : PlanD) (s : State), vs = [.ref x, .int s.1, .ref b] ∧ PlanAt K H x pl ∧ PlanOk pl ∧ StOk pl s ∧ TupAt K H b (s.2.map V.int) ∧ ∀ H', Same H H' → Q (.bl true) H'
theorem sc_are_rests : FnScope ["plan", "day", "thing", "rest", "pack"] ["plan", "day", "thing"] (defScope (top 39)) := ⟨rfl, rfl, rfl, by decide +kernel, rfl, by decide +kernel, by decide +kernel⟩
theorem bools_snoc {acc : List V} {bs : List Bool} (h : acc = bs.map V.bl ∧ ∀ b ∈ bs, b = true) : ∃ bs' : List Bool, acc ++ [V.bl true] = bs'.map V.bl ∧ ∀ b ∈ bs', b = true := by
  refine ⟨bs ++ [true], by rw [h.1, List.map_append]; rfl, fun b hb => ?_⟩
  rcases List.mem_append.mp hb with hb | hb
  · exact h.2 b hb
  · exact List.mem_singleton.mp hb
theorem all_true {bs : List Bool} (h : ∀ b ∈ bs, b = true) : bs.all id = true := List.all_eq_true.mpr h
theorem ok_are_rests (T : Tx K mg) : Cal P w K mg base 3 "are_rests" (spAreRests K) := by
  refine Cal.of (T.f ("are_rests", 39)) sc_are_rests (fun _ _ _ _ _ _ us hl => match us, hl with | [_, _, _], _ => rfl) (fun vs H Q E h => ?_) (fun f cdv A outer s H vs Q E hr h => ?_)
  · obtain ⟨x, b, pl, st, rfl, _⟩ := h
    rfl
  · obtain ⟨x, b, pl, st, rfl, ⟨r, n, m, as, hp⟩, ok, so, hb, k⟩ := h
    have nd := sc_are_rests.nd
    refine ⟨_, pss_cons (ps_if (pw_or (pt_not (pt_val (pisi "tuple" (T.z "isinstance") (T.z "tuple") (pv 2)))) <| pw_or1 <| pt_cmpR op_ne (plen (T.z "len") (pv 2)) (plen (T.z "len") (pav K (pv 0))) (nomark _)).pt pss_never pss_nil) <|
      pss_cons (ps_if (pt_not (pt_val (pall (T.z "all") rfl (pe_lc (own := [("rest", 3)]) (g := gName 3) (tt := tYes) rfl nd (pi_tup (pv 2)) (blkOk_by (N := ["plan", "day", "thing", "rest", "pack"]) (sc := defScope (top 39)) (by decide +kernel)) (fun _ _ _ _ _ => pgn 3 nd) (fun _ _ _ _ _ => pts_nil)
        (fun _ _ _ _ _ => pe_and (pcl (ok_is_number T) hr (pa1 (pv 3))) (pe_one (pe_cmpR op_ge (pv 3) pe_int (nomark _)))))))) pss_never pss_nil) <|
      pss_one <| ps_ret <| pall (T.z "all") rfl (pe_lc (own := [("rest", 3), ("pack", 4)]) (g := gTup K 2 (gCons (gName 3) (gCons (gName 4) gNil))) (tt := _) rfl nd (RZ.pi_zipA rfl (T.z "zip") (pa2 (pv 2) (pav K (pv 0)))) (blkOk_by (N := ["plan", "day", "thing", "rest", "pack"]) (sc := defScope (top 39)) (by decide +kernel))
        (fun _ _ _ _ _ => pg_tup rfl (pgs_cons (pgn 3 nd) (pgs_cons (pgn 4 nd) pgs_nil))) (fun _ _ _ _ _ => pts_one (pt_cmpR op_lt (plv (ok_last T) hr (pv 4)) (pv 1) (nomark _))) (fun _ _ _ _ _ => pe_cmpR op_eq (pv 3) pe_int (nomark _))), ?_⟩
    have hsl : (st.2.map V.int).length = pl.rows.length := by rw [List.length_map, so.len]
    refine ⟨_, rfl, _, _, _, _, true, rfl, .ty _, Td.ty hb, kit_ty (by decide +kernel), true, rfl, iteF ?_⟩
    refine ⟨_, rfl, _, _, rfl, .inr ⟨_, hb.sq, rfl⟩, _, _, rfl, hp.fRows T, _, _, rfl, .inr ⟨_, SqT.of hp.rw_, rfl⟩, rfl, _, rfl, ?_⟩
    refine iteBF (by rw [hsl, hp.rlen]; simp) ?_
    refine ⟨_, rfl, b, rfl, ⟨_, hb.sq⟩, fun D hD => ?_⟩
    refine lc_go walk_tup hD (fun i acc _ => ∃ bs : List Bool, acc = bs.map V.bl ∧ ∀ b ∈ bs, b = true) (fun _ _ _ _ _ h => h) ⟨[], rfl, fun _ h => by cases h⟩ (fun H1 s => (hb.keep (TK.of s)).sq) (by rw [hsl]; exact four_lt ok.r4) (fun i v acc H1 H2 Fy Fn hi sm e y ky kn => ?_) (fun H1 acc s1 hd e => ?_)
    · obtain ⟨rfl, hv⟩ := y
      obtain ⟨bs, e⟩ := e
      rw [hsl, ← so.len] at hi
      have hq := at_restN hi
      rw [List.getElem?_map, hq] at hv
      obtain rfl := Option.some.inj hv
      refine ⟨rfl, lcY ⟨_, rfl, _, rfl, true, rfl, iteT ⟨_, rfl, _, 0, rfl, rfl, ky _ _ (Same.refl _) ?_⟩⟩⟩
      rw [show (fun i j : Int => V.bl (decide (j ≤ i))) (restN st.2 i) 0 = V.bl true from congrArg V.bl (decide_eq_true (so.pos _ (List.mem_of_getElem? hq)))]
      exact bools_snoc e
    obtain ⟨bs, e⟩ := e
    refine ⟨D, bs, rfl, SqL.of (by rw [hd, e.1]), true, (by rw [all_true e.2]), iteF ?_⟩
    refine ⟨_, rfl, _, _, rfl, (hp.keep s1).fRows T, b, m, _, _, rfl, .inr ⟨(hb.keep (TK.of s1)).sq, SqT.of (hp.keep s1).rw_, fun D2 hD2 => ?_⟩⟩
    refine lc_go (walk_zipT (n := pl.rows.length) (by rw [hsl, hp.rlen, Nat.min_self])) hD2 (fun i acc _ => ∃ bs : List Bool, acc = bs.map V.bl ∧ ∀ b ∈ bs, b = true) (fun _ _ _ _ _ h => h) ⟨[], rfl, fun _ h => by cases h⟩ (fun H2 s => ⟨(hb.keep (TK.of (s1.trans s))).sq, SqT.of (hp.keep (s1.trans s)).rw_⟩) (four_lt ok.r4) (fun i v acc H2 H3 Fy Fn hi sm e y ky kn => ?_) (fun H2 acc s2 hd e => ?_)
    · obtain ⟨t, v1, v2, rfl, ht, rfl, hv1, hv2⟩ := y
      obtain ⟨bs, e⟩ := e
      obtain ⟨_, a, rfl, ha⟩ := row_inv (hp.keep (s1.trans sm)) hv2
      obtain ⟨_, rfl⟩ := ints_at hv1
      refine ⟨t, _, rfl, SqT.of upd_same, rfl, _, _, rfl, _, _, rfl, rfl, rfl, a, _, rfl, ha.keep (FK.of (same_upd ht)), (ok.row hi).ok, fun H4 s4 => ⟨_, rfl, _, _, rfl, rfl, _, rfl, ?_⟩⟩
      have s5 : Same H2 H4 := (same_upd ht).trans s4
      by_cases hlt : lastD (rowN pl i) < st.1
      · refine iteD hlt ⟨_, rfl, rfl, ky _ _ s5 ?_⟩
        rw [so.gone i hi hlt]
        exact bools_snoc e
      · exact iteDF hlt (kn _ s5 ⟨bs, e⟩)
    · obtain ⟨bs, e⟩ := e
      refine ⟨D2, bs, rfl, SqL.of (by rw [hd, e.1]), ?_⟩
      rw [all_true e.2]
      exact k _ (s1.trans s2)
end
end Nd
set_option Elab.async false
set_option linter.all false
set_option maxRecDepth 100000
set_option maxHeartbeats 2000000
namespace Nd
open PySem PySem.Spec PyProof.Rows L2
theorem ixN_nat {n j : Nat} (h : j < n) : ixN n (j : Int) = some j := by
  unfold ixN
  rw [if_pos (by omega), if_pos (by omega)]
  rfl
/-- xs[j] of a list, as an augmented store reads it -/
def rGetN (K : PySem.W.Frag) : V → V → Hp → VK → Prop := fun o i H Q => ∃ (p : Addr) (xs : List V) (j : Nat) (v : V), o = .ref p ∧ i = .int (j : Int) ∧ SqL K H p xs ∧ xs[j]? = some v ∧ Q v H
theorem get_listN {X : Cx} : PGet X (rGetN X.K) := by
  intro pins st σ H o i ov iv Q J ro ri h
  obtain ⟨p, xs, j, v, rfl, rfl, hq, hj, q⟩ := h
  cases ro
  obtain ⟨t, rfl⟩ := ri
  obtain ⟨its, rv, isl, hz⟩ := J.list hq
  obtain ⟨u, hu, ru⟩ := rv.get hj
  have hl := rv.length
  have hlt := (List.getElem?_eq_some_iff.mp hj).1
  have h63 := line63
  refine wpAny_getItem_list (x := u) isl.isList (by omega) (by omega) ?_ ⟨v, H, J, ru, q⟩
  rw [Int.toNat_natCast]
  simpa using hu
/-- a store to what the start did not track -/
theorem swr {H H' : Hp} {f : Addr} {o : HO} (s : Same H H') (h : H f = none) : Same H (upd H' f o) := fun b u e => by
  rw [upd_ne (ne_of_none e h)]
  exact s b u e
theorem iteNS' {c A B : Prop} [Decidable c] (hc : ¬ c) (h : A) : if (!decide c) = true then A else B := by
  rw [decide_eq_false hc]
  exact iteT h
theorem restN_set {rs : List Int} {i j : Nat} {x : Int} (h : i < rs.length) : restN (rs.set i x) j = if j = i then x else restN rs j := by
  unfold restN
  by_cases e : j = i
  · rw [if_pos e, e, List.getElem?_set_self h]
    rfl
  · rw [if_neg e, List.getElem?_set_ne (fun z => e z.symm)]
theorem nightStep_len (pl : PlanD) (s : State) (i : Nat) (f : List Int) : (nightStep pl s i f).length = f.length := by
  unfold nightStep
  split
  · split
    · rw [List.length_set]
    · rw [List.length_set, List.length_set]
  · rfl
theorem nightK_len (pl : PlanD) (s : State) : ∀ i, (nightK pl s i).length = s.2.length
  | 0 => rfl
  | i + 1 => by
    show (nightStep pl s i (nightK pl s i)).length = _
    rw [nightStep_len, nightK_len pl s i]
section
variable {P : Program} {w : World} {K : PySem.W.Frag} {mg : Str → Option Value} {base : Heap}
/-! ### is_state, need_state -/
structure StAt (K : PySem.W.Frag) (H : Hp) (x : Addr) (v : V) (pl : PlanD) (s : State) : Prop where
  plan : PlanAt K H x pl
  ok : PlanOk pl
  so : StOk pl s
  at_ : Td K H v (stateD s)
theorem StAt.keep {H H' : Hp} {x : Addr} {v : V} {pl : PlanD} {s : State} (h : StAt K H x v pl s) (k : Same H H') : StAt K H' x v pl s := ⟨h.plan.keep k, h.ok, h.so, h.at_.keep (TK.of k)⟩
def spIsState (K : PySem.W.Frag) : Sp := fun vs H Q _ => ∃ (x : Addr) (v : V) (pl : PlanD) (s : State), vs = [.ref x, v] ∧ StAt K H x v pl s ∧ ∀ H', Same H H' → Q (.bl true) H'
theorem sc_is_state : FnScope ["plan", "thing"] ["plan", "thing"] (defScope (top 40)) := ⟨rfl, rfl, rfl, by decide +kernel, rfl, by decide +kernel, by decide +kernel⟩
theorem ok_is_state (T : Tx K mg) : Cal P w K mg base 4 "is_state" (spIsState K) := by
  refine Cal.of (T.f ("is_state", 40)) sc_is_state (fun _ _ _ _ _ _ us hl => match us, hl with | [_, _], _ => rfl) (fun vs H Q E h => ?_) (fun f cdv A outer s H vs Q E hr h => ?_)
  · obtain ⟨x, v, pl, st, rfl, _⟩ := h
    rfl
  · obtain ⟨x, v, pl, st, rfl, sa, k⟩ := h
    refine ⟨_, pss_cons (ps_expr (pcl (ok_need_plan T) hr (pa1 (pv 0)))) <|
      pss_cons (ps_if (pw_or (pt_not (pt_val (pisi "tuple" (T.z "isinstance") (T.z "tuple") (pv 1)))) <| pw_or (pt_cmpR op_ne (plen (T.z "len") (pv 1)) pe_int (nomark _)) <| pw_or1 <| pt_not <| pt_val <|
        pcl (ok_is_within T) hr (pa3 (pe_ix ix_tup (pv 1) pe_int (fun _ _ => rfl)) pe_int (pe_op op_sub (pav K (pv 0)) pe_int))).pt pss_never pss_nil) <|
      pss_one <| ps_ret <| pcl (ok_are_rests T) hr (pa3 (pv 0) (pe_ix ix_tup (pv 1) pe_int (fun _ _ => rfl)) (pe_ix ix_tup (pv 1) pe_int (fun _ _ => rfl))), ?_⟩
    obtain ⟨a, b, rfl, ha, hb⟩ := state_inv sa.at_
    have hpl := sa.plan
    obtain ⟨r, n, m, as, hp⟩ := hpl
    refine ⟨_, rfl, x, pl, rfl, sa.plan, ?_⟩
    refine ⟨_, rfl, _, _, _, _, true, rfl, .ty _, Td.ty ha, kit_ty (by decide +kernel), true, rfl, iteF ?_⟩
    refine ⟨_, rfl, _, _, rfl, .inr ⟨_, ha.sq, rfl⟩, rfl, _, rfl, iteF ?_⟩
    refine ⟨_, rfl, a, _, 0, _, rfl, rfl, ha.sq, rfl, _, _, rfl, hp.fDays T, _, 1, rfl, rfl, _, _, _, rfl, sa.so.day.1, sa.so.day.2, true, rfl, iteF ?_⟩
    exact ⟨_, rfl, _, rfl, a, _, 0, _, rfl, rfl, ha.sq, rfl, _, rfl, a, _, 1, _, rfl, rfl, ha.sq, rfl, x, b, pl, st, rfl, sa.plan, sa.ok, sa.so, hb, k⟩
def spNeedState (K : PySem.W.Frag) : Sp := fun vs H Q _ => ∃ (x : Addr) (v : V) (pl : PlanD) (s : State), vs = [.ref x, v] ∧ StAt K H x v pl s ∧ ∀ H', Same H H' → Q .non H'
theorem sc_need_state : FnScope ["plan", "state"] ["plan", "state"] (defScope (top 41)) := ⟨rfl, rfl, rfl, by decide +kernel, rfl, by decide +kernel, by decide +kernel⟩
theorem ok_need_state (T : Tx K mg) : Cal P w K mg base 5 "need_state" (spNeedState K) := by
  refine Cal.of (T.f ("need_state", 41)) sc_need_state (fun _ _ _ _ _ _ us hl => match us, hl with | [_, _], _ => rfl) (fun vs H Q E h => ?_) (fun f cdv A outer s H vs Q E hr h => ?_)
  · obtain ⟨x, v, pl, st, rfl, _⟩ := h
    rfl
  · obtain ⟨x, v, pl, st, rfl, sa, k⟩ := h
    refine ⟨_, pss_one <| ps_if (pt_not (pt_val (pcl (ok_is_state T) hr (pa2 (pv 0) (pv 1))))) pss_never pss_nil, ?_⟩
    exact ⟨_, rfl, _, rfl, x, v, pl, st, rfl, sa, fun H1 s1 => ⟨true, rfl, iteF (k _ s1)⟩⟩
/-! ### rolled -/
def spRolled (K : PySem.W.Frag) : Sp := fun vs H Q _ => ∃ (a : Addr) (p : PackD) (r : Int), vs = [.ref a, .int r] ∧ PackAt K H a p ∧ Q (.int (rolledM p r)) H
theorem sc_rolled : FnScope ["pack", "rest"] ["pack", "rest"] (defScope (top 42)) := ⟨rfl, rfl, rfl, by decide +kernel, rfl, by decide +kernel, by decide +kernel⟩
theorem ok_rolled (T : Tx K mg) : Cal P w K mg base 1 "rolled" (spRolled K) := by
  refine Cal.of (T.f ("rolled", 42)) sc_rolled (fun _ _ _ _ _ _ us hl => match us, hl with | [_, _], _ => rfl) (fun vs H Q E h => ?_) (fun f cdv A outer s H vs Q E hr h => ?_)
  · obtain ⟨x, v, pl, rfl, _⟩ := h
    rfl
  · obtain ⟨a, p, r, rfl, ha, k⟩ := h
    refine ⟨_, pss_one <| ps_ret <| pe_ifExp (pt_cmpR op_isN (pav K (pv 0)) pe_non (nomark _)) pe_int (pcb2 "min" (call_min2 rfl) (T.z "min") (pv 1) (pe_ix ix_tup (pav K (pv 0)) pe_int (fun _ _ => rfl))), ?_⟩
    obtain ⟨v, fv, tv⟩ := ha.fRoll T
    refine ⟨_, _, rfl, fv, rfl, _, rfl, ?_⟩
    unfold rolledM at k
    cases e : p.roll with
    | none =>
      rw [e] at k tv
      cases tv
      exact iteT k
    | some z =>
      rw [e] at k tv
      obtain ⟨b, rfl, hb⟩ := Td.roll_inv tv
      refine iteDF (by intro z; cases z) ?_
      exact ⟨_, rfl, _, _, rfl, fv, b, _, 1, _, rfl, rfl, hb.sq, rfl, _, _, rfl, k⟩
/-! ### night_behind -/
def spNightB (K : PySem.W.Frag) : Sp := fun vs H Q _ => ∃ (x : Addr) (v : V) (pl : PlanD) (s : State), vs = [.ref x, v] ∧ StAt K H x v pl s ∧ ∀ v' H', Same H H' → Td K H' v' (stateD (nightM pl s)) → Q v' H'
theorem sc_night_behind : FnScope ["plan", "state", "day", "rests", "found", "at", "pack"] ["plan", "state"] (defScope (top 43)) := ⟨rfl, rfl, rfl, by decide +kernel, rfl, by decide +kernel, by decide +kernel⟩
theorem ok_night_behind (T : Tx K mg) : Cal P w K mg base 3 "night_behind" (spNightB K) := by
  refine Cal.of (T.f ("night_behind", 43)) sc_night_behind (fun _ _ _ _ _ _ us hl => match us, hl with | [_, _], _ => rfl) (fun vs H Q E h => ?_) (fun f cdv A outer s H vs Q E hr h => ?_)
  · obtain ⟨x, v, pl, st, rfl, _⟩ := h
    rfl
  · obtain ⟨x, v, pl, st, rfl, sa, k⟩ := h
    have nd := sc_night_behind.nd
    refine ⟨_, pss_cons (ps_asg (pv 1) (pg_tup rfl (pgs_cons (pgn 2 nd) (pgs_cons (pgn 3 nd) pgs_nil)))) <|
      pss_cons (pst 4 nd (pct "list" call_list_of (T.z "list") (pv 3))) <|
      pss_cons (ps_for PassesOwn.never rfl (pi_enumT (T.z "enumerate") (pa1 (pav K (pv 0)))) (pg_tup rfl (pgs_cons (pgn 5 nd) (pgs_cons (pgn 6 nd) pgs_nil))) <|
        pss_one <| ps_if (pt_cmpR op_eq (plv (ok_last T) hr (pv 6)) (pv 2) (nomark _))
          (pss_cons (ps_asg pe_int (pg_sub (pv 4) (pv 5) set_list)) <|
            pss_one <| ps_if (pt_cmpR op_notN (pav K (pv 6)) pe_non (nomark _))
              (pss_one <| ps_augS (pv 4) (pe_tupIx (pav K (pv 0)) (pa1 (pe_ix ix_tup (pav K (pv 6)) pe_int (fun _ _ => rfl)))) get_listN (pcl (ok_rolled T) hr (pa2 (pv 6) (pe_ix ix_tup (pv 3) (pv 5) (fun _ _ => rfl)))) ip_add set_list)
              pss_nil)
          pss_nil) <|
      pss_one <| ps_ret <| pe_tup (pa2 (pe_op op_add (pv 2) pe_int) (pe_callTy call_tuple_of rfl (T.z "tuple") (by decide +kernel) (pa1 (pv 4)))), ?_⟩
    obtain ⟨a, b, rfl, ha, hb⟩ := state_inv sa.at_
    have hpl := sa.plan
    have ok := sa.ok
    have so := sa.so
    obtain ⟨r, n, m, as, hp⟩ := hpl
    refine ⟨_, rfl, a, _, rfl, ha.sq, rfl, _, _, rfl, _, _, rfl, rfl, ?_⟩
    refine ⟨_, rfl, b, _, rfl, .inr hb.sq, fun f hf => ?_⟩
    refine ⟨_, _, rfl, (hp.keep (same_upd hf)).fRows T, m, _, rfl, SqT.of ((same_upd hf) _ _ hp.rw_), ?_⟩
    refine for_it walk_enumT (fun i σ H' => Same H H' ∧ H' f = some (.lst ((nightK pl st i).map V.int)) ∧ (∃ z1 z2, σ = [some (.ref x), some (.ref a), some (.int st.1), some (.ref b), some (.ref f), z1, z2])) ⟨same_upd hf, upd_same, none, none, rfl⟩ (fun i σ H' _ h => SqT.of (h.1 _ _ hp.rw_)) (fun i v σ H3 H4 hi h y => ?_) (fun σ H3 h => ?_)
    · obtain ⟨sm, hf3, z1, z2, rfl⟩ := h
      obtain ⟨t, v1, v2, rfl, ht, rfl, hv1, hv2⟩ := y
      rw [hp.rlen] at hi
      have e1 : v1 = .int (i : Nat) := (Option.some.inj hv1).symm
      subst e1
      obtain ⟨_, pa, rfl, hpa⟩ := row_inv (hp.keep sm) hv2
      have s4 : Same H3 (upd H3 t (.tup [.int (i : Nat), .ref pa])) := same_upd ht
      refine ⟨t, _, rfl, SqT.of upd_same, rfl, _, _, rfl, _, _, rfl, rfl, pa, _, rfl, hpa.keep (FK.of s4), (ok.row hi).ok, fun H5 s5 => ⟨_, rfl, rfl, _, rfl, ?_⟩⟩
      have s35 := s4.trans s5
      have s05 := sm.trans s35
      have hf5 := s35 _ _ hf3
      have hlen := nightK_len pl st i
      have hsl : st.2.length = pl.rows.length := so.len
      have est : nightK pl st (i + 1) = nightStep pl st i (nightK pl st i) := rfl
      by_cases hd : lastD (rowN pl i) = st.1
      · refine iteD (by rw [hd]) ?_
        refine ⟨_, rfl, _, rfl, f, _, _, i, rfl, rfl, hf5, ixN_nat (by rw [List.length_map, hlen, hsl]; exact hi), ?_⟩
        have s6 : Same H (upd H5 f (.lst (((nightK pl st i).map V.int).set i (.int 0)))) := swr s05 hf
        have hpa6 : PackAt K (upd H5 f (.lst (((nightK pl st i).map V.int).set i (.int 0)))) pa (rowN pl i) := (hpa.keep (FK.of s35)).keep (FK.updL hf5)
        obtain ⟨rv, frv, trv⟩ := hpa6.fRoll T
        refine ⟨_, _, rfl, frv, rfl, _, rfl, ?_⟩
        have eset : ((nightK pl st i).map V.int).set i (.int 0) = ((nightK pl st i).set i 0).map V.int := by rw [List.map_set]
        cases er : (rowN pl i).roll with
        | none =>
          rw [er] at trv
          cases trv
          refine iteF ⟨s6, ?_, _, _, rfl⟩
          rw [est]
          unfold nightStep
          rw [if_pos hd, er, ← eset]
          exact upd_same
        | some z =>
          rw [er] at trv
          obtain ⟨rb, rfl, hrb⟩ := Td.roll_inv trv
          obtain ⟨j, q, hj, hq, hlt⟩ := (ok.row hi).roll z er
          have hjr : j < pl.rows.length := (List.getElem?_eq_some_iff.mp hq).1
          have hpos : posOf pl.names z.1 = j := posOf_at ok.nd hj
          refine iteNS' (by intro z; cases z) ?_
          refine ⟨_, rfl, _, _, rfl, (hp.keep s6).fNames T, n, pl.names, rfl, hp.nm.keep s6, _, _, rfl, frv, rb, _, 0, _, rfl, rfl, hrb.sq, rfl, z.1, j, rfl, hp.nm.keep s6, hj, (fun m hm e => by have := nd_ix ok.nd e hj; omega), ?_⟩
          refine ⟨f, _, j, .int (restN ((nightK pl st i).set i 0) j), rfl, rfl, SqL.of upd_same, ?_, ?_⟩
          · rw [eset, List.getElem?_map, at_restN (by rw [List.length_set, hlen, hsl]; exact hjr)]
            rfl
          refine ⟨_, rfl, _, rfl, _, rfl, b, _, _, _, rfl, rfl, (hb.keep (TK.of s6)).sq, atI_nat (by rw [List.getElem?_map, at_restN (by rw [hsl]; exact hi)]; rfl), pa, _, _, rfl, hpa6, ?_⟩
          refine ⟨_, _, rfl, rfl, f, _, _, j, rfl, rfl, upd_same, ixN_nat (by rw [List.length_set, List.length_map, hlen, hsl]; exact hjr), swr s6 hf, ?_, _, _, rfl⟩
          rw [est]
          unfold nightStep
          rw [if_pos hd, er, eset]
          show upd _ f _ f = _
          rw [upd_same]
          dsimp only
          rw [hpos]
          simp only [List.map_set]
      · refine iteDF (by intro e; injection e with e; exact hd e) ⟨s05, ?_, _, _, rfl⟩
        rw [est]
        unfold nightStep
        rw [if_neg hd]
        exact hf5
    · obtain ⟨sm, hf3, z1, z2, rfl⟩ := h
      rw [hp.rlen] at hf3
      refine ⟨_, rfl, _, _, rfl, rfl, _, rfl, f, _, rfl, .inl ⟨SqL.of hf3, fun t ht => ⟨by show 2 ≤ sizeLine; decide, fun u hu => ?_⟩⟩⟩
      refine k _ _ (sup (sup sm ht) hu) (Td.state (s := nightM pl st) (b := t) (.inl upd_same) (.inl ?_))
      rw [upd_ne (ne_of_none upd_same hu), upd_same]
      rfl
end
end Nd
set_option Elab.async false
set_option linter.all false
set_option maxRecDepth 100000
set_option maxHeartbeats 2000000
namespace Nd
open PySem PySem.Spec PyProof.Rows L2
theorem prK_none {l : List (Str × Int)} {c : Str} (h : c ∉ l.map (·.1)) : valV (prK l) (Sum.inr c) = none := valV_none' (by
  rw [prK_keys]
  intro hm
  obtain ⟨z, hz, e⟩ := List.mem_map.mp hm
  rw [Sum.inr.inj e] at hz
  exact h hz)
theorem prK_put {l : List (Str × Int)} {c : Str} {n : Int} (h : c ∉ l.map (·.1)) : putK (prK l) (Sum.inr c) (V.int n) = prK (l ++ [(c, n)]) := by
  rw [putK_new _ (prK_none h)]
  unfold prK
  rw [List.map_append]
  rfl
theorem lostK_len (pl : PlanD) (s : State) : ∀ i, (lostK pl s i).length ≤ i
  | 0 => Nat.le_refl _
  | i + 1 => by
    have := lostK_len pl s i
    show (lostK pl s i ++ _).length ≤ _
    rw [List.length_append]
    split
    · rw [List.length_singleton]
      omega
    · rw [List.length_nil]
      omega
theorem lostK_new {pl : PlanD} (ok : PlanOk pl) (s : State) {i : Nat} (hi : i < pl.rows.length) : nameN pl i ∉ (lostK pl s i).map (·.1) := by
  intro hm
  obtain ⟨z, hz, e⟩ := List.mem_map.mp hm
  obtain ⟨j, hj, e2⟩ := lostK_names i hz
  have h1 : pl.names[j]? = some (nameN pl i) := by
    rw [at_nameN (by rw [ok.len]; omega), ← e2, e]
  have := nd_ix ok.nd h1 (at_nameN (by rw [ok.len]; exact hi))
  omega
section
variable {P : Program} {w : World} {K : PySem.W.Frag} {mg : Str → Option Value} {base : Heap}
/-! ### night -/
def spNight (K : PySem.W.Frag) : Sp := fun vs H Q _ => ∃ (x : Addr) (v : V) (pl : PlanD) (s : State), vs = [.ref x, v] ∧ StAt K H x v pl s ∧ s.1 < pl.days - 1 ∧ ∀ v' H', Same H H' → Td K H' v' (stateD (nightM pl s)) → Q v' H'
theorem sc_night : FnScope ["plan", "state"] ["plan", "state"] (defScope (top 44)) := ⟨rfl, rfl, rfl, by decide +kernel, rfl, by decide +kernel, by decide +kernel⟩
theorem ok_night (T : Tx K mg) : Cal P w K mg base 6 "night" (spNight K) := by
  refine Cal.of (T.f ("night", 44)) sc_night (fun _ _ _ _ _ _ us hl => match us, hl with | [_, _], _ => rfl) (fun vs H Q E h => ?_) (fun f cdv A outer s H vs Q E hr h => ?_)
  · obtain ⟨x, v, pl, st, rfl, _⟩ := h
    rfl
  · obtain ⟨x, v, pl, st, rfl, sa, hlt, k⟩ := h
    refine ⟨_, pss_cons (ps_expr (pcl (ok_need_plan T) hr (pa1 (pv 0)))) <| pss_cons (ps_expr (pcl (ok_need_state T) hr (pa2 (pv 0) (pv 1)))) <|
      pss_cons (ps_if (pt_cmpR op_eq (pe_ix ix_tup (pv 1) pe_int (fun _ _ => rfl)) (pe_op op_sub (pav K (pv 0)) pe_int) (nomark _)) pss_never pss_nil) <|
      pss_one <| ps_ret <| pcl (ok_night_behind T) hr (pa2 (pv 0) (pv 1)), ?_⟩
    refine ⟨_, rfl, x, pl, rfl, sa.plan, ?_⟩
    refine ⟨_, rfl, _, rfl, x, v, pl, st, rfl, sa, fun H1 s1 => ?_⟩
    have sa1 := sa.keep s1
    obtain ⟨a, b, rfl, ha, hb⟩ := state_inv sa1.at_
    have hpl := sa1.plan
    obtain ⟨r, n, m, as, hp⟩ := hpl
    refine ⟨_, rfl, a, _, 0, _, rfl, rfl, ha.sq, rfl, _, _, rfl, hp.fDays T, _, 1, rfl, rfl, rfl, _, rfl, iteDF (by intro e; injection e with e; omega) ?_⟩
    exact ⟨_, rfl, _, rfl, x, _, pl, st, rfl, sa1, fun v' H' s' => k v' H' (s1.trans s')⟩
/-! ### lost_at, lost -/
def spLost (K : PySem.W.Frag) : Sp := fun vs H Q _ => ∃ (x : Addr) (v : V) (pl : PlanD) (s : State), vs = [.ref x, v] ∧ StAt K H x v pl s ∧ ∀ d H', Same H H' → H d = none → H' d = some (.dK (prK (lostM pl s))) → Q (.ref d) H'
theorem sc_lost_at : FnScope ["plan", "state", "day", "rests", "found", "at", "pack", "units"] ["plan", "state"] (defScope (top 45)) := ⟨rfl, rfl, rfl, by decide +kernel, rfl, by decide +kernel, by decide +kernel⟩
theorem ok_lost_at (T : Tx K mg) : Cal P w K mg base 3 "lost_at" (spLost K) := by
  refine Cal.of (T.f ("lost_at", 45)) sc_lost_at (fun _ _ _ _ _ _ us hl => match us, hl with | [_, _], _ => rfl) (fun vs H Q E h => ?_) (fun f cdv A outer s H vs Q E hr h => ?_)
  · obtain ⟨x, v, pl, st, rfl, _⟩ := h
    rfl
  · obtain ⟨x, v, pl, st, rfl, sa, k⟩ := h
    have nd := sc_lost_at.nd
    have hu := hu_of hr
    refine ⟨_, pss_cons (ps_asg (pv 1) (pg_tup rfl (pgs_cons (pgn 2 nd) (pgs_cons (pgn 3 nd) pgs_nil)))) <|
      pss_cons (pst 4 nd pe_dnewK) <|
      pss_cons (ps_for PassesOwn.never rfl (pi_enumT (T.z "enumerate") (pa1 (pav K (pv 0)))) (pg_tup rfl (pgs_cons (pgn 5 nd) (pgs_cons (pgn 6 nd) pgs_nil))) <|
        pss_cons (pst 7 nd (pe_op op_sub (pe_ix ix_tup (pv 3) (pv 5) (fun _ _ => rfl)) (pcl (ok_rolled T) hr (pa2 (pv 6) (pe_ix ix_tup (pv 3) (pv 5) (fun _ _ => rfl)))))) <|
        pss_one <| ps_if (pw_and (pt_cmpR op_eq (plv (ok_last T) hr (pv 6)) (pv 2) (nomark _)) <| pw_and1 <| pt_cmpR op_gt (pv 7) pe_int (nomark _)).pt
          (pss_one <| ps_dput hu (pv 4) (pe_ix ix_tup (pav K (pv 0)) (pv 5) (fun _ _ => rfl)) (pv 7) rfl) pss_nil) <|
      pss_one <| ps_ret <| pv 4, ?_⟩
    obtain ⟨a, b, rfl, ha, hb⟩ := state_inv sa.at_
    have hpl := sa.plan
    have ok := sa.ok
    have so := sa.so
    obtain ⟨r, n, m, as, hp⟩ := hpl
    refine ⟨_, rfl, a, _, rfl, ha.sq, rfl, _, _, rfl, _, _, rfl, rfl, fun f hf => ?_⟩
    refine ⟨_, _, rfl, (hp.keep (same_upd hf)).fRows T, m, _, rfl, SqT.of ((same_upd hf) _ _ hp.rw_), ?_⟩
    refine for_it walk_enumT (fun i σ H' => Same H H' ∧ H' f = some (.dK (prK (lostK pl st i))) ∧ (∃ z1 z2 z3, σ = [some (.ref x), some (.ref a), some (.int st.1), some (.ref b), some (.ref f), z1, z2, z3])) ⟨same_upd hf, upd_same, none, none, none, rfl⟩ (fun i σ H' _ h => SqT.of (h.1 _ _ hp.rw_)) (fun i v σ H3 H4 hi h y => ?_) (fun σ H3 h => ?_)
    · obtain ⟨sm, hf3, z1, z2, z3, rfl⟩ := h
      obtain ⟨t, v1, v2, rfl, ht, rfl, hv1, hv2⟩ := y
      rw [hp.rlen] at hi
      have e1 : v1 = .int (i : Nat) := (Option.some.inj hv1).symm
      subst e1
      obtain ⟨_, pa, rfl, hpa⟩ := row_inv (hp.keep sm) hv2
      have s4 : Same H3 (upd H3 t (.tup [.int (i : Nat), .ref pa])) := same_upd ht
      have s04 := sm.trans s4
      have hsl : st.2.length = pl.rows.length := so.len
      have hat : atI (st.2.map V.int) ((i : Nat) : Int) = some (V.int (restN st.2 i)) := atI_nat (by rw [List.getElem?_map, at_restN (by rw [hsl]; exact hi)]; rfl)
      refine ⟨t, _, rfl, SqT.of upd_same, rfl, _, _, rfl, _, _, rfl, rfl, ?_⟩
      refine ⟨_, rfl, _, rfl, b, _, _, _, rfl, rfl, (hb.keep (TK.of s04)).sq, hat, _, rfl, _, rfl, _, rfl, b, _, _, _, rfl, rfl, (hb.keep (TK.of s04)).sq, hat, pa, _, _, rfl, hpa.keep (FK.of s4), _, _, rfl, rfl, ?_⟩
      refine ⟨pa, _, rfl, hpa.keep (FK.of s4), (ok.row hi).ok, fun H5 s5 => ⟨_, rfl, rfl, _, rfl, ?_⟩⟩
      have s35 := s4.trans s5
      have s05 := sm.trans s35
      have hf5 := s35 _ _ hf3
      have est : lostK pl st (i + 1) = lostK pl st i ++ if lastD (rowN pl i) = st.1 ∧ 0 < unitsN pl st i then [(nameN pl i, unitsN pl st i)] else [] := rfl
      by_cases hd : lastD (rowN pl i) = st.1
      · refine iteD (by rw [hd]) ⟨_, rfl, _, 0, rfl, rfl, _, rfl, ?_⟩
        by_cases hu0 : 0 < unitsN pl st i
        · refine iteD hu0 ?_
          refine ⟨_, rfl, _, rfl, _, _, rfl, (hp.keep s05).fNames T, _, rfl, n, _, _, _, rfl, rfl, (hp.nm.keep s05).sq, atI_nat (by rw [List.getElem?_map, at_nameN (by rw [ok.len]; exact hi)]; rfl), f, _, rfl, DPut.k (k := Sum.inr (nameN pl i)) hf5 (Nat.lt_of_le_of_lt (by rw [prK_len]; exact lostK_len pl st i) (four_lt (by have := ok.r4; omega))), ?_⟩
          refine ⟨swr s05 hf, ?_, _, _, _, rfl⟩
          rw [upd_same, est, if_pos ⟨hd, hu0⟩]
          exact congrArg (fun z => some (HO.dK z)) (prK_put (lostK_new ok st hi))
        · refine iteDF hu0 ⟨s05, ?_, _, _, _, rfl⟩
          rw [est, if_neg (fun z => hu0 z.2), List.append_nil]
          exact hf5
      · refine iteDF (by intro e; injection e with e; exact hd e) (iteF ⟨s05, ?_, _, _, _, rfl⟩)
        rw [est, if_neg (fun z => hd z.1), List.append_nil]
        exact hf5
    · obtain ⟨sm, hf3, z1, z2, z3, rfl⟩ := h
      rw [hp.rlen] at hf3
      exact ⟨_, rfl, k _ _ sm hf hf3⟩
theorem sc_lost : FnScope ["plan", "state"] ["plan", "state"] (defScope (top 46)) := ⟨rfl, rfl, rfl, by decide +kernel, rfl, by decide +kernel, by decide +kernel⟩
theorem ok_lost (T : Tx K mg) : Cal P w K mg base 6 "lost" (spLost K) := by
  refine Cal.of (T.f ("lost", 46)) sc_lost (fun _ _ _ _ _ _ us hl => match us, hl with | [_, _], _ => rfl) (fun vs H Q E h => ?_) (fun f cdv A outer s H vs Q E hr h => ?_)
  · obtain ⟨x, v, pl, st, rfl, _⟩ := h
    rfl
  · obtain ⟨x, v, pl, st, rfl, sa, k⟩ := h
    refine ⟨_, pss_cons (ps_expr (pcl (ok_need_plan T) hr (pa1 (pv 0)))) <| pss_cons (ps_expr (pcl (ok_need_state T) hr (pa2 (pv 0) (pv 1)))) <|
      pss_one <| ps_ret <| pcl (ok_lost_at T) hr (pa2 (pv 0) (pv 1)), ?_⟩
    refine ⟨_, rfl, x, pl, rfl, sa.plan, ?_⟩
    refine ⟨_, rfl, _, rfl, x, v, pl, st, rfl, sa, fun H1 s1 => ?_⟩
    exact ⟨_, rfl, _, rfl, x, v, pl, st, rfl, sa.keep s1, fun d H' s' hd h => k d H' (s1.trans s') (s1.free hd) h⟩
end
end Nd
set_option Elab.async false
set_option linter.all false
set_option maxRecDepth 100000
set_option maxHeartbeats 2000000
/-! plain facts: orders of texts, data compared. -/
namespace Nd
open PySem PySem.Spec PyProof.Rows L2
def leS (a b : Str) : Prop := a.cps.toList ≤ b.cps.toList
theorem leS_of {a b : Str} : (!ltCps b.cps.toList a.cps.toList) = true ↔ leS a b := by
  rw [ltCps_eq]
  unfold leS
  rw [← List.not_lt]
  simp
theorem leS_anti {a b : Str} (h : leS a b) (h2 : leS b a) : a = b := by
  have h3 := List.le_antisymm h h2
  obtain ⟨⟨x⟩⟩ := a
  obtain ⟨⟨y⟩⟩ := b
  have h4 : x = y := h3
  rw [h4]
theorem leS_trans {a b c : Str} (h : leS a b) (h2 : leS b c) : leS a c := List.le_trans h h2
theorem risingS_pw : ∀ {l : List Str} {p : Str}, risingS p l = true → (p :: l).Pairwise leS
  | [], p, _ => List.pairwise_singleton _ _
  | x :: r, p, h => by
    have h' : (!ltCps x.cps.toList p.cps.toList) = true ∧ risingS x r = true := by
      have e : risingS p (x :: r) = (!ltCps x.cps.toList p.cps.toList && risingS x r) := rfl
      rw [e] at h
      exact Bool.and_eq_true_iff.mp h
    have ih := risingS_pw h'.2
    have hpx := leS_of.mp h'.1
    refine List.pairwise_cons.mpr ⟨fun y hy => ?_, ih⟩
    rcases List.mem_cons.mp hy with e | hy
    · rw [e]
      exact hpx
    · exact leS_trans hpx (List.rel_of_pairwise_cons ih hy)
theorem sortedS_pw {l : List Str} (h : sortedS l = true) : l.Pairwise leS := by
  cases l with
  | nil => exact List.Pairwise.nil
  | cons p l => exact risingS_pw h
theorem sorted_same {l m : List Str} (h : l.Perm m) (hl : sortedS l = true) (hm : sortedS m = true) : l = m :=
  List.Perm.eq_of_pairwise (fun _ _ _ _ a b => leS_anti a b) (sortedS_pw hl) (sortedS_pw hm) h
theorem pw_sortedS : ∀ {l : List Str}, l.Pairwise leS → sortedS l = true := fun {l} h => sortedS_of_pairwise l (h.imp fun q => by
  have := leS_of.mpr q
  simpa using this)
/-! ### data -/
theorem nameOk_str {z : Str} (h : nameOk z) : PyData.strOk z = true := by
  unfold PyData.strOk
  rw [← Array.all_toList]
  refine List.all_eq_true.mpr fun c hc => decide_eq_true ?_
  exact letters_len c (h.2.2 c hc)
theorem canAll_strs : ∀ {ns : List Str}, (∀ z ∈ ns, PyData.strOk z = true) → PyData.canLayAll0 (ns.map PyData.str) = true
  | [], _ => rfl
  | x :: r, h => by
    show (PyData.strOk x && PyData.canLayAll0 (r.map PyData.str)) = true
    rw [h x (List.mem_cons_self ..), canAll_strs fun z hz => h z (List.mem_cons_of_mem _ hz)]
    rfl
theorem canAll_ints : ∀ {ns : List Int}, PyData.canLayAll0 (ns.map PyData.int) = true
  | [] => rfl
  | x :: r => by
    show (true && PyData.canLayAll0 (r.map PyData.int)) = true
    rw [canAll_ints]
    rfl
theorem canAll_map {β : Type} {f : β → PyData} : ∀ {l : List β}, (∀ b ∈ l, (f b).canLay0 = true) → PyData.canLayAll0 (l.map f) = true
  | [], _ => rfl
  | x :: r, h => by
    show ((f x).canLay0 && PyData.canLayAll0 (r.map f)) = true
    rw [h x (List.mem_cons_self ..), canAll_map fun z hz => h z (List.mem_cons_of_mem _ hz)]
    rfl
theorem depthAll_map {β : Type} {f : β → PyData} {n : Nat} : ∀ {l : List β}, (∀ b ∈ l, (f b).depth ≤ n) → PyData.depthAll (l.map f) ≤ n
  | [], _ => by simp [PyData.depthAll]
  | x :: r, h => by
    have h1 := h x (List.mem_cons_self ..)
    have h2 := depthAll_map (f := f) (l := r) fun z hz => h z (List.mem_cons_of_mem _ hz)
    rw [List.map_cons, PyData.depthAll]
    omega
theorem shaped_of {d : PyData} (h : d.canLay0 = true) (hd : d.depth ≤ 64) : SeqAt.shaped d = true := by
  unfold SeqAt.shaped
  rw [h, decide_eq_true hd]
  rfl
theorem shaped_listM {β : Type} {f : β → PyData} {l : List β} (h : ∀ b ∈ l, (f b).canLay0 = true) (hd : ∀ b ∈ l, (f b).depth ≤ 10) : SeqAt.shaped (.list (l.map f)) = true := by
  refine shaped_of (canAll_map h) ?_
  have := depthAll_map (f := f) hd
  rw [PyData.depth]
  omega
theorem shaped_tupM {β : Type} {f : β → PyData} {l : List β} (h : ∀ b ∈ l, (f b).canLay0 = true) (hd : ∀ b ∈ l, (f b).depth ≤ 10) : SeqAt.shaped (.tuple (l.map f)) = true := by
  refine shaped_of (canAll_map h) ?_
  have := depthAll_map (f := f) hd
  rw [PyData.depth]
  omega
/-- two texts -/
def pairSS (a b : Str) : PyData := .tuple [.str a, .str b]
theorem eqv_pairSS (a b c d : Str) : PyData.eqv (pairSS a b) (pairSS c d) = (a == c && b == d) := by simp [pairSS, PyData.eqv, PyData.eqvAll]
theorem eqv_slot (a b : Slot) : PyData.eqv (slotD a) (slotD b) = decide (a = b) := by
  obtain ⟨a1, a2⟩ := a
  obtain ⟨b1, b2⟩ := b
  simp [slotD, PyData.eqv, PyData.eqvAll]
  by_cases h : a1 = b1 <;> by_cases h2 : a2 = b2 <;> simp [h, h2]
theorem eqvAll_strs : ∀ {ns ms : List Str}, PyData.eqvAll (ns.map PyData.str) (ms.map PyData.str) = decide (ns = ms)
  | [], [] => rfl
  | [], _ :: _ => by simp [PyData.eqvAll]
  | _ :: _, [] => by simp [PyData.eqvAll]
  | x :: r, y :: q => by
    rw [List.map_cons, List.map_cons, PyData.eqvAll, eqvAll_strs, PyData.eqv]
    by_cases h : x = y <;> by_cases h2 : r = q <;> simp [h, h2]
theorem eqvAll_ints : ∀ {ns ms : List Int}, PyData.eqvAll (ns.map PyData.int) (ms.map PyData.int) = decide (ns = ms)
  | [], [] => rfl
  | [], _ :: _ => by simp [PyData.eqvAll]
  | _ :: _, [] => by simp [PyData.eqvAll]
  | x :: r, y :: q => by
    rw [List.map_cons, List.map_cons, PyData.eqvAll, eqvAll_ints, PyData.eqv]
    by_cases h : x = y <;> by_cases h2 : r = q <;> simp [h, h2]
theorem slot_can {z : Slot} (h : PyData.strOk z.1 = true) : (slotD z).canLay0 = true := by
  show (PyData.strOk z.1 && (true && true)) = true
  rw [h]
  rfl
theorem pair_can {a b : Str} (h : PyData.strOk a = true) (h2 : PyData.strOk b = true) : (pairSS a b).canLay0 = true := by
  show (PyData.strOk a && (PyData.strOk b && true)) = true
  rw [h, h2]
  rfl
theorem pair_depth (a b : Str) : (pairSS a b).depth = 1 := by simp [pairSS, PyData.depth, PyData.depthAll]
theorem one_depth (a : Str) : (PyData.tuple [.str a]).depth = 1 := by simp [PyData.depth, PyData.depthAll]
end Nd
set_option Elab.async false
set_option linter.all false
set_option maxRecDepth 100000
set_option maxHeartbeats 2000000
namespace Nd
open PySem PySem.Spec PyProof.Rows L2
theorem op_inDTK (K : PySem.W.Frag) {X : Cx} (hu : X.A.units + 65 < cLine) (hK : X.K = K := by rfl) : OpR X (compareOp .In) (rInDT K) := hK ▸ op_inDT hu
theorem _root_.L2.Room.units65 {k : Nat} {A : Around} (r : Room k A) : A.units + 65 < cLine := by
  have := r.un
  omega
theorem filter_take {α : Type} {l : List α} {p : α → Bool} {i : Nat} {a : α} (h : l[i]? = some a) : (l.take (i + 1)).filter p = (l.take i).filter p ++ if p a = true then [a] else [] := by
  rw [take_snoc h, List.filter_append]
  congr 1
  rw [List.filter_cons, List.filter_nil]
theorem filter_range {p : Nat → Bool} {i : Nat} : (List.range (i + 1)).filter p = (List.range i).filter p ++ if p i = true then [i] else [] := by
  rw [List.range_succ, List.filter_append, List.filter_cons, List.filter_nil]
theorem cover_lt {pl : PlanD} {d : Int} {c : Str} {i : Nat} (h : i ∈ coverM pl d c) : i < pl.rows.length := List.mem_range.mp (List.mem_filter.mp h).1
theorem filter_len {α : Type} {l : List α} {p : α → Bool} {n : Nat} (h : l.length ≤ n) : (l.filter p).length ≤ n := Nat.le_trans (List.length_filter_le _ _) h
theorem cover_len {pl : PlanD} (ok : PlanOk pl) {d : Int} {c : Str} : (coverM pl d c).length ≤ 4 := filter_len (by rw [List.length_range]; exact ok.r4)
section
variable {P : Program} {w : World} {K : PySem.W.Frag} {mg : Str → Option Value} {base : Heap}
/-! ### is_order, need_order, need_cell -/
structure OrdAt (K : PySem.W.Frag) (H : Hp) (x t : Addr) (pl : PlanD) (ord : List Str) : Prop where
  plan : PlanAt K H x pl
  ok : PlanOk pl
  at_ : TupAt K H t (ord.map V.str)
  perm : ord.Perm pl.names
theorem OrdAt.keep {H H' : Hp} {x t : Addr} {pl : PlanD} {ord : List Str} (h : OrdAt K H x t pl ord) (k : Same H H') : OrdAt K H' x t pl ord := ⟨h.plan.keep k, h.ok, h.at_.keep (TK.of k), h.perm⟩
def spIsOrder (K : PySem.W.Frag) : Sp := fun vs H Q _ => ∃ (x t : Addr) (pl : PlanD) (ord : List Str), vs = [.ref x, .ref t] ∧ OrdAt K H x t pl ord ∧ ∀ H', Same H H' → Q (.bl true) H'
theorem sc_is_order : FnScope ["plan", "thing", "name"] ["plan", "thing"] (defScope (top 50)) := ⟨rfl, rfl, rfl, by decide +kernel, rfl, by decide +kernel, by decide +kernel⟩
theorem ok_is_order (T : Tx K mg) : Cal P w K mg base 2 "is_order" (spIsOrder K) := by
  refine Cal.of (T.f ("is_order", 50)) sc_is_order (fun _ _ _ _ _ _ us hl => match us, hl with | [_, _], _ => rfl) (fun vs H Q E h => ?_) (fun f cdv A outer s H vs Q E hr h => ?_)
  · obtain ⟨x, v, pl, st, rfl, _⟩ := h
    rfl
  · obtain ⟨x, t, pl, ord, rfl, oa, k⟩ := h
    have nd := sc_is_order.nd
    refine ⟨_, pss_cons (ps_expr (pcl (ok_need_plan T) hr (pa1 (pv 0)))) <|
      pss_cons (ps_if (pw_or (pt_not (pt_val (pisi "tuple" (T.z "isinstance") (T.z "tuple") (pv 1)))) <| pw_or1 <| pt_cmpR op_ne (plen (T.z "len") (pv 1)) (plen (T.z "len") (pav K (pv 0))) (nomark _)).pt pss_never pss_nil) <|
      pss_one <| ps_ret <| pe_and (pall (T.z "all") rfl (pe_lc (own := [("name", 2)]) (g := gName 2) (tt := tYes) rfl nd (pi_tup (pv 1)) (blkOk_by (N := ["plan", "thing", "name"]) (sc := defScope (top 50)) (by decide +kernel)) (fun _ _ _ _ _ => pgn 2 nd) (fun _ _ _ _ _ => pts_nil)
        (fun _ _ _ _ _ => pisiK K "str" (T.z "isinstance") (T.z "str") (pv 2)))) <|
        pe_one <| pe_cmpR (op_eqD hr.units) (pcb "sorted" cr_sortTS (T.z "sorted") (pv 1)) (pct "list" call_list_of (T.z "list") (pav K (pv 0))) (nomark _), ?_⟩
    have hpl := oa.plan
    obtain ⟨r, n, m, as, hp⟩ := hpl
    have ok := oa.ok
    have hol : ord.length = pl.names.length := oa.perm.length_eq
    have ho4 : ord.length ≤ 4 := by
      rw [hol]
      exact ok.four
    refine ⟨_, rfl, x, pl, rfl, oa.plan, ?_⟩
    refine ⟨_, rfl, _, _, _, _, true, rfl, .ty _, Td.ty oa.at_, kit_ty (by decide +kernel), true, rfl, iteF ?_⟩
    refine ⟨_, rfl, _, _, rfl, .inr ⟨_, oa.at_.sq, rfl⟩, _, _, rfl, hp.fNames T, _, _, rfl, .inr ⟨_, hp.nm.sq, rfl⟩, rfl, _, rfl, ?_⟩
    refine iteBF (by rw [List.length_map, List.length_map, hol]; simp) ?_
    refine ⟨_, rfl, t, rfl, ⟨_, oa.at_.sq⟩, fun D hD => ?_⟩
    refine lc_go walk_tup hD (fun i acc _ => ∃ bs : List Bool, acc = bs.map V.bl ∧ ∀ b ∈ bs, b = true) (fun _ _ _ _ _ h => h) ⟨[], rfl, fun _ h => by cases h⟩ (fun H1 s => (oa.keep s).at_.sq) (by rw [List.length_map]; exact four_lt ho4) (fun i v acc H1 H2 Fy Fn hi sm e y ky kn => ?_) (fun H1 acc s1 hd e => ?_)
    · obtain ⟨rfl, hv⟩ := y
      obtain ⟨bs, e⟩ := e
      rw [List.getElem?_map] at hv
      obtain ⟨z, hz, rfl⟩ := Option.map_eq_some_iff.mp hv
      exact ⟨rfl, lcY ⟨_, rfl, _, _, _, _, true, rfl, .ty _, .base (.str z), kit_ty (by decide +kernel), ky _ _ (Same.refl _) (bools_snoc e)⟩⟩
    obtain ⟨bs, e⟩ := e
    refine ⟨D, bs, rfl, SqL.of (by rw [hd, e.1]), _, rfl, ?_⟩
    rw [all_true e.2]
    refine iteT ?_
    refine ⟨_, rfl, t, ord, rfl, (oa.keep s1).at_.sq, by omega, fun ys l hys hsrt hl => ?_⟩
    have s2 : Same H _ := sup (o := .lst (ys.map V.str)) s1 hl
    refine ⟨_, _, rfl, (hp.keep s2).fNames T, n, _, rfl, .inr (hp.nm.keep s2).sq, fun l2 hl2 => ?_⟩
    have ey : ys = pl.names := sorted_same (hys.trans oa.perm) hsrt ok.srt
    have hstr : ∀ z ∈ pl.names, PyData.strOk z = true := fun z hz => nameOk_str (ok.nok z hz)
    refine ⟨.list (ys.map .str), .list (pl.names.map .str), .lst (SqL.of ?_) (TdAll.strs (K := K)).dp, .lst (SqL.of upd_same) (TdAll.strs (K := K)).dp, ?_, ?_, ?_⟩
    · rw [upd_ne (ne_of_none upd_same hl2), upd_same]
    · rw [ey]
      exact shaped_listM (f := PyData.str) (fun b hb => hstr b hb) fun b hb => by simp [PyData.depth]
    · exact shaped_listM (f := PyData.str) (fun b hb => hstr b hb) fun b hb => by simp [PyData.depth]
    · rw [PyData.eqv, eqvAll_strs, decide_eq_true ey]
      exact k _ (sup s2 hl2)
def spNeedOrder (K : PySem.W.Frag) : Sp := fun vs H Q _ => ∃ (x t : Addr) (pl : PlanD) (ord : List Str), vs = [.ref x, .ref t] ∧ OrdAt K H x t pl ord ∧ ∀ H', Same H H' → Q .non H'
theorem sc_need_order : FnScope ["plan", "order"] ["plan", "order"] (defScope (top 51)) := ⟨rfl, rfl, rfl, by decide +kernel, rfl, by decide +kernel, by decide +kernel⟩
theorem ok_need_order (T : Tx K mg) : Cal P w K mg base 3 "need_order" (spNeedOrder K) := by
  refine Cal.of (T.f ("need_order", 51)) sc_need_order (fun _ _ _ _ _ _ us hl => match us, hl with | [_, _], _ => rfl) (fun vs H Q E h => ?_) (fun f cdv A outer s H vs Q E hr h => ?_)
  · obtain ⟨x, v, pl, st, rfl, _⟩ := h
    rfl
  · obtain ⟨x, t, pl, ord, rfl, oa, k⟩ := h
    refine ⟨_, pss_one <| ps_if (pt_not (pt_val (pcl (ok_is_order T) hr (pa2 (pv 0) (pv 1))))) pss_never pss_nil, ?_⟩
    exact ⟨_, rfl, _, rfl, x, t, pl, ord, rfl, oa, fun H1 s1 => ⟨true, rfl, iteF (k _ s1)⟩⟩
def spNeedCell (K : PySem.W.Frag) : Sp := fun vs H Q _ => ∃ (x : Addr) (pl : PlanD) (c : Str), vs = [.ref x, .str c] ∧ PlanAt K H x pl ∧ c ∈ pl.prices.map (·.1) ∧ Q .non H
theorem sc_need_cell : FnScope ["plan", "cell"] ["plan", "cell"] (defScope (top 52)) := ⟨rfl, rfl, rfl, by decide +kernel, rfl, by decide +kernel, by decide +kernel⟩
theorem ok_need_cell (T : Tx K mg) : Cal P w K mg base 1 "need_cell" (spNeedCell K) := by
  refine Cal.of (T.f ("need_cell", 52)) sc_need_cell (fun _ _ _ _ _ _ us hl => match us, hl with | [_, _], _ => rfl) (fun vs H Q E h => ?_) (fun f cdv A outer s H vs Q E hr h => ?_)
  · obtain ⟨x, v, pl, rfl, _⟩ := h
    rfl
  · obtain ⟨x, pl, c, rfl, ⟨r, n, m, as, hp⟩, hc, k⟩ := h
    refine ⟨_, pss_one <| ps_if (pw_or (pt_not (pt_val (pisi "str" (T.z "isinstance") (T.z "str") (pv 1)))) <| pw_or1 <| pt_cmp (pc_dnotin (hu_of hr) (pv 1) (pav K (pv 0)))).pt pss_never pss_nil, ?_⟩
    refine ⟨_, rfl, _, _, _, _, true, rfl, .ty _, .base (.str c), kit_ty (by decide +kernel), true, rfl, iteF ?_⟩
    refine ⟨_, rfl, _, _, rfl, hp.fPrices T, r, _, rfl, .inl ⟨_, Sum.inr c, .inl hp.pr, rfl, rfl⟩, _, rfl, ?_⟩
    rw [prK_in hc]
    exact iteF k
/-! ### covering -/
def spCovering (K : PySem.W.Frag) : Sp := fun vs H Q _ => ∃ (x : Addr) (pl : PlanD) (d : Int) (c : Str), vs = [.ref x, .int d, .str c] ∧ PlanAt K H x pl ∧ PlanOk pl ∧ PyData.strOk c = true ∧ ∀ l H', Same H H' → H' l = some (.lst ((coverM pl d c).map fun i : Nat => V.int i)) → Q (.ref l) H'
theorem sc_covering : FnScope ["plan", "day", "cell", "at", "pack"] ["plan", "day", "cell"] (defScope (top 53)) := ⟨rfl, rfl, rfl, by decide +kernel, rfl, by decide +kernel, by decide +kernel⟩
theorem ok_covering (T : Tx K mg) : Cal P w K mg base 1 "covering" (spCovering K) := by
  refine Cal.of (T.f ("covering", 53)) sc_covering (fun _ _ _ _ _ _ us hl => match us, hl with | [_, _, _], _ => rfl) (fun vs H Q E h => ?_) (fun f cdv A outer s H vs Q E hr h => ?_)
  · obtain ⟨x, v, pl, d, rfl, _⟩ := h
    rfl
  · obtain ⟨x, pl, d, c, rfl, ⟨r, n, m, as, hp⟩, ok, hc, k⟩ := h
    have nd := sc_covering.nd
    refine ⟨_, pss_one <| ps_ret <| pe_lc (own := [("at", 3), ("pack", 4)]) (g := gTup K 2 (gCons (gName 3) (gCons (gName 4) gNil))) (tt := _) rfl nd (pi_enumT (T.z "enumerate") (pa1 (pav K (pv 0)))) (blkOk_by (N := ["plan", "day", "cell", "at", "pack"]) (sc := defScope (top 53)) (by decide +kernel))
        (fun _ _ _ _ _ => pg_tup rfl (pgs_cons (pgn 3 nd) (pgs_cons (pgn 4 nd) pgs_nil))) (fun _ _ _ _ _ => pts_one (pt_cmpR (op_inDTK K hr.units65) (pe_tup (pa2 (pv 2) (pv 1))) (pav K (pv 4)) rfl)) (fun _ _ _ _ _ => pv 3), ?_⟩
    refine ⟨_, _, rfl, hp.fRows T, m, _, rfl, SqT.of hp.rw_, fun D hD => ?_⟩
    refine lc_go walk_enumT hD (fun i acc _ => acc = ((List.range i).filter fun i => (rowN pl i).slots.any fun z => PyData.eqv (slotD z) (slotD (c, d))).map fun i : Nat => V.int i) (fun _ _ _ _ _ h => h) rfl (fun H1 s => SqT.of (hp.keep s).rw_) (by rw [hp.rlen]; exact four_lt ok.r4) (fun i v acc H2 H3 Fy Fn hi sm e y ky kn => ?_) (fun H2 acc s2 hd e => ?_)
    · obtain ⟨t, v1, v2, rfl, ht, rfl, hv1, hv2⟩ := y
      rw [hp.rlen] at hi
      have e1 : v1 = .int (i : Nat) := (Option.some.inj hv1).symm
      subst e1
      obtain ⟨_, a, rfl, ha⟩ := row_inv (hp.keep sm) hv2
      refine ⟨t, _, rfl, SqT.of upd_same, rfl, _, _, rfl, _, _, rfl, rfl, rfl, ?_⟩
      refine ⟨_, rfl, _, rfl, by show 2 ≤ sizeLine; decide, fun u hu => ?_⟩
      have s3 := same_upd (o := .tup [.int (i : Nat), .ref a]) ht
      have s4 := sup (o := .tup [.str c, .int d]) s3 hu
      have ha4 := ha.keep (FK.of s4)
      obtain ⟨sv, fs, ts⟩ := ha4.fSlots T
      have pok := (ok.row hi).ok
      refine ⟨_, _, rfl, fs, slotD (c, d), _, .tup (SqT.of upd_same) (.cons (.str c) (.cons (.int d) .nil)), ts.dp, shaped_of (slot_can hc) (by rw [slot_depth]; decide), canAll_map fun z hz => slot_can (nameOk_str (pok.sl z hz).1), _, rfl, ?_⟩
      rw [List.any_map]
      have est := filter_range (p := fun i => (rowN pl i).slots.any fun z => PyData.eqv (slotD z) (slotD (c, d))) (i := i)
      refine ite2 (fun hb => ⟨_, rfl, ky _ _ s4 ?_⟩) fun hb => kn _ s4 ?_
      · have hb' : ((rowN pl i).slots.any fun z => PyData.eqv (slotD z) (slotD (c, d))) = true := hb
        rw [est, e, if_pos hb', List.map_append]
        rfl
      · have hb' : ¬ ((rowN pl i).slots.any fun z => PyData.eqv (slotD z) (slotD (c, d))) = true := hb
        rw [est, e, if_neg hb', List.append_nil]
    · refine k _ _ s2 ?_
      rw [hd, e, hp.rlen]
      rfl
/-! ### can_buy, choices_of -/
def spCanBuy (K : PySem.W.Frag) : Sp := fun vs H Q _ => ∃ (x : Addr) (v : V) (pl : PlanD) (s : State) (i : Nat), vs = [.ref x, v, .int (i : Nat)] ∧ StAt K H x v pl s ∧ i < pl.rows.length ∧ Q (.bl (canBuyM pl s i)) H
theorem sc_can_buy : FnScope ["plan", "state", "at", "pack"] ["plan", "state", "at"] (defScope (top 54)) := ⟨rfl, rfl, rfl, by decide +kernel, rfl, by decide +kernel, by decide +kernel⟩
theorem ok_can_buy (T : Tx K mg) : Cal P w K mg base 1 "can_buy" (spCanBuy K) := by
  refine Cal.of (T.f ("can_buy", 54)) sc_can_buy (fun _ _ _ _ _ _ us hl => match us, hl with | [_, _, _], _ => rfl) (fun vs H Q E h => ?_) (fun f cdv A outer s H vs Q E hr h => ?_)
  · obtain ⟨x, v, pl, d, i, rfl, _⟩ := h
    rfl
  · obtain ⟨x, v, pl, st, i, rfl, sa, hi, k⟩ := h
    have nd := sc_can_buy.nd
    refine ⟨_, pss_cons (pst 3 nd (pe_ix ix_tup (pav K (pv 0)) (pv 2) (fun _ _ => rfl))) <|
      pss_one <| ps_ret <| pe_and (pe_cmpR op_eq (pe_ix ix_tup (pe_ix ix_tup (pv 1) pe_int (fun _ _ => rfl)) (pv 2) (fun _ _ => rfl)) pe_int (nomark _)) <|
        pe_and (pe_cmpR op_notN (pav K (pv 3)) pe_non (nomark _)) <| pe_one <| pe_cmpR op_gt (pav K (pv 3)) pe_int (nomark _), ?_⟩
    obtain ⟨a, b, rfl, ha, hb⟩ := state_inv sa.at_
    have hpl := sa.plan
    obtain ⟨r, n, m, as, hp⟩ := hpl
    obtain ⟨pa, h1, h2, hpa⟩ := hp.row hi
    refine ⟨_, _, rfl, hp.fRows T, _, rfl, m, _, _, _, rfl, rfl, SqT.of hp.rw_, atI_nat h2, ?_⟩
    refine ⟨_, rfl, a, _, 1, _, rfl, rfl, ha.sq, rfl, _, rfl, b, _, _, _, rfl, rfl, hb.sq, atI_nat (by rw [List.getElem?_map, at_restN (by rw [sa.so.len]; exact hi)]; rfl), rfl, _, rfl, ?_⟩
    have ek : canBuyM pl st i = (decide (restN st.2 i = 0) && ((rowN pl i).cost.isSome && decide (0 < (rowN pl i).amount))) := rfl
    rw [ek] at k
    by_cases h0 : restN st.2 i = 0
    · refine iteD (by rw [h0]) ⟨_, _, rfl, hpa.fCost T, rfl, _, rfl, ?_⟩
      rw [decide_eq_true h0, Bool.true_and] at k
      cases ec : (rowN pl i).cost with
      | none =>
        rw [ec] at k
        exact iteF k
      | some z =>
        rw [ec] at k
        exact iteNS' (by intro e; cases e) ⟨_, _, rfl, hpa.fAmount T, _, 0, rfl, rfl, k⟩
    · rw [decide_eq_false h0, Bool.false_and] at k
      exact iteDF (by intro e; injection e with e; exact h0 e) k
end
end Nd
set_option Elab.async false
set_option linter.all false
set_option maxRecDepth 100000
set_option maxHeartbeats 2000000
namespace Nd
open PySem PySem.Spec PyProof.Rows L2
/-! ### slices of tuples that stay -/
def rSlK (K : PySem.W.Frag) : V → Option Int → Option Int → Hp → VK → Prop := fun x lo hi H Q => ∃ (a : Addr) (xs : List V), x = .ref a ∧ TupAt K H a xs ∧ ∀ (p : Addr) (H' : Hp), Same H H' → TupAt K H' p (cutV xs lo hi) → Q (.ref p) H'
theorem sl_tupK (K : PySem.W.Frag) {X : Cx} (hK : X.K = K := by rfl) : SlR X (rSlK K) := by
  subst hK
  intro pins st σ H x v vl vu lo hi sl Q J rx hs pl pu ⟨a, xs, ex, ha, q⟩
  refine sl_tupA pins st σ H x v vl vu lo hi sl Q J rx hs pl pu ⟨a, xs, ex, ha.sq, fun hw => q _ _ (Same.refl _) ?_, fun _ p hp => q _ _ (same_upd hp) (.inl upd_same)⟩
  have e : cutV xs lo hi = xs := by
    unfold cutV
    rw [hw.1, hw.2, List.drop_zero, Nat.sub_zero, List.take_length]
  rw [e]
  exact ha
theorem cut_to {xs : List V} {i : Nat} (h : i ≤ xs.length) : cutV xs none (some (i : Int)) = xs.take i := by
  unfold cutV
  rw [HT.sIx_none, HT.sIx_nat, List.drop_zero, Nat.sub_zero, Nat.min_eq_left h]
theorem cut_from {xs : List V} {i : Nat} (h : i ≤ xs.length) : cutV xs (some (i : Int)) none = xs.drop i := by
  unfold cutV
  rw [HT.sIx_none, HT.sIx_nat, Nat.min_eq_left h]
  exact take_all (by rw [List.length_drop]; exact Nat.le_refl _)
/-! ### choices -/
theorem ch_can {pl : PlanD} (ok : PlanOk pl) {s : State} {c : Str} {ch : Ch} (h : ch ∈ choicesM pl s c) : (chD pl ch).canLay0 = true := by
  have hn : ∀ i, i ∈ coverM pl s.1 c → PyData.strOk (nameN pl i) = true := fun i hi => nameOk_str (ok.nok _ (List.mem_of_getElem? (at_nameN (by rw [ok.len]; exact cover_lt hi))))
  have hd : PyData.strOk "draw" = true := by decide +kernel
  have hb : PyData.strOk "buy" = true := by decide +kernel
  have hp : PyData.strOk "pay" = true := by decide +kernel
  rcases List.mem_append.mp h with h | h
  · rcases List.mem_append.mp h with h | h
    · obtain ⟨i, hi, rfl⟩ := List.mem_map.mp h
      exact pair_can hd (hn i (List.mem_filter.mp hi).1)
    · obtain ⟨i, hi, rfl⟩ := List.mem_map.mp h
      exact pair_can hb (hn i (List.mem_filter.mp hi).1)
  · rw [List.mem_singleton.mp h]
    show (PyData.strOk "pay" && true) = true
    rw [hp]
    rfl
theorem ch_depth (pl : PlanD) (ch : Ch) : (chD pl ch).depth = 1 := by
  cases ch with
  | pay => exact one_depth _
  | draw i => exact pair_depth _ _
  | buy i => exact pair_depth _ _
theorem ch_shaped {pl : PlanD} (ok : PlanOk pl) {s : State} {c : Str} {ch : Ch} (h : ch ∈ choicesM pl s c) : SeqAt.shaped (chD pl ch) = true := shaped_of (ch_can ok h) (by rw [ch_depth]; decide)
theorem chs_shaped {pl : PlanD} (ok : PlanOk pl) {s : State} {c : Str} : SeqAt.shaped (.list ((choicesM pl s c).map (chD pl))) = true := shaped_listM (fun b hb => ch_can ok hb) fun b hb => by rw [ch_depth]; decide
theorem chs_len {pl : PlanD} (ok : PlanOk pl) {s : State} {c : Str} : (choicesM pl s c).length ≤ 9 := by
  unfold choicesM
  have h1 := filter_len (p := fun i => decide (0 < restN s.2 i)) (cover_len ok (d := s.1) (c := c))
  have h2 := filter_len (p := fun i => canBuyM pl s i) (cover_len ok (d := s.1) (c := c))
  rw [List.length_append, List.length_append, List.length_map, List.length_map, List.length_singleton]
  omega
/-- a pair that stands among the choices -/
theorem drawable_of {pl : PlanD} {s : State} {c word n : Str} (h : drawable pl s c word n = true) : ∃ i, i ∈ coverM pl s.1 c ∧ nameN pl i = n ∧ ((word = "draw" ∧ Ch.draw i ∈ choicesM pl s c) ∨ (word = "buy" ∧ Ch.buy i ∈ choicesM pl s c)) := by
  obtain ⟨z, hz, e⟩ := List.any_eq_true.mp h
  obtain ⟨ch, hch, rfl⟩ := List.mem_map.mp hz
  have hch0 := hch
  rcases List.mem_append.mp hch with h | h
  · rcases List.mem_append.mp h with h | h
    · obtain ⟨i, hi, rfl⟩ := List.mem_map.mp h
      have e' : PyData.eqv (pairSS "draw" (nameN pl i)) (pairSS word n) = true := e
      rw [eqv_pairSS, Bool.and_eq_true_iff] at e'
      exact ⟨i, (List.mem_filter.mp hi).1, eq_of_beq e'.2, .inl ⟨(eq_of_beq e'.1).symm, hch0⟩⟩
    · obtain ⟨i, hi, rfl⟩ := List.mem_map.mp h
      have e' : PyData.eqv (pairSS "buy" (nameN pl i)) (pairSS word n) = true := e
      rw [eqv_pairSS, Bool.and_eq_true_iff] at e'
      exact ⟨i, (List.mem_filter.mp hi).1, eq_of_beq e'.2, .inr ⟨(eq_of_beq e'.1).symm, hch0⟩⟩
  · rw [List.mem_singleton.mp h] at e
    have e' : PyData.eqv (.tuple [.str "pay"]) (.tuple [.str word, .str n]) = true := e
    simp [PyData.eqv, PyData.eqvAll] at e'
theorem posOf_name {pl : PlanD} (ok : PlanOk pl) {i : Nat} (h : i < pl.rows.length) : posOf pl.names (nameN pl i) = i := posOf_at ok.nd (at_nameN (by rw [ok.len]; exact h))
theorem choiceM_mem {pl : PlanD} (ok : PlanOk pl) (ord : List Str) (s : State) (c : Str) : choiceM pl ord s c ∈ choicesM pl s c := by
  unfold choiceM
  split
  · rename_i n hn
    obtain ⟨i, h1, h2, h3 | h3⟩ := drawable_of (List.find?_some hn)
    · rw [← h2, posOf_name ok (cover_lt h1)]
      exact h3.2
    · exact absurd h3.1 (by decide +kernel)
  · split
    · rename_i n hn
      obtain ⟨i, h1, h2, h3 | h3⟩ := drawable_of (List.find?_some hn)
      · exact absurd h3.1 (by decide +kernel)
      · rw [← h2, posOf_name ok (cover_lt h1)]
        exact h3.2
    · exact List.mem_append_right _ (List.mem_singleton.mpr rfl)
theorem find_at {α : Type} {l : List α} {p : α → Bool} {i : Nat} {a : α} (h : (l.take i).find? p = none) (e : l[i]? = some a) (hp : p a = true) : l.find? p = some a := by
  have hl : l = l.take i ++ a :: l.drop (i + 1) := by
    obtain ⟨hi, e'⟩ := List.getElem?_eq_some_iff.mp e
    rw [← e', ← List.drop_eq_getElem_cons hi, List.take_append_drop]
  rw [hl, List.find?_append, h, List.find?_cons, hp]
  rfl
theorem find_step {α : Type} {l : List α} {p : α → Bool} {i : Nat} {a : α} (h : (l.take i).find? p = none) (e : l[i]? = some a) (hp : p a = false) : (l.take (i + 1)).find? p = none := by
  rw [take_snoc e, List.find?_append, h, List.find?_cons, hp]
  rfl
section
variable {P : Program} {w : World} {K : PySem.W.Frag} {mg : Str → Option Value} {base : Heap}
theorem Td.pair {H : Hp} {p : Addr} {a b : Str} (h : H p = some (.tup [.str a, .str b])) : Td K H (.ref p) (pairSS a b) := .tup (.inl h) (.cons (.str a) (.cons (.str b) .nil))
/-! ### choices_of -/
def spChoices (K : PySem.W.Frag) : Sp := fun vs H Q _ => ∃ (x : Addr) (v : V) (pl : PlanD) (s : State) (c : Str), vs = [.ref x, v, .str c] ∧ StAt K H x v pl s ∧ PyData.strOk c = true ∧ ∀ l xs H', Same H H' → H' l = some (.lst xs) → TdAll K H' xs ((choicesM pl s c).map (chD pl)) → Q (.ref l) H'
theorem sc_choices_of : FnScope ["plan", "state", "cell", "places", "draws", "buys", "at"] ["plan", "state", "cell"] (defScope (top 55)) := ⟨rfl, rfl, rfl, by decide +kernel, rfl, by decide +kernel, by decide +kernel⟩
theorem ok_choices_of (T : Tx K mg) : Cal P w K mg base 2 "choices_of" (spChoices K) := by
  refine Cal.of (T.f ("choices_of", 55)) sc_choices_of (fun _ _ _ _ _ _ us hl => match us, hl with | [_, _, _], _ => rfl) (fun vs H Q E h => ?_) (fun f cdv A outer s H vs Q E hr h => ?_)
  · obtain ⟨x, v, pl, d, c, rfl, _⟩ := h
    rfl
  · obtain ⟨x, v, pl, st, c, rfl, sa, hc, k⟩ := h
    obtain ⟨pay, mpay, hpay⟩ := T.pay
    have nd := sc_choices_of.nd
    refine ⟨_, pss_cons (pst 3 nd (pcl (ok_covering T) hr (pa3 (pv 0) (pe_ix ix_tup (pv 1) pe_int (fun _ _ => rfl)) (pv 2)))) <|
      pss_cons (ps_setLc (i := 4) (own := [("at", 6)]) (g := gName 6) rfl nd rfl rfl rfl (pi_list (pv 3)) (blkOk_by (N := ["plan", "state", "cell", "places", "draws", "buys", "at"]) (sc := defScope (top 55)) (by decide +kernel)) (fun _ _ _ _ _ => pgn 6 nd)
        (fun _ _ _ _ _ => pts_one (pt_cmpR op_gt (pixK K (pixK K (pv 1) pe_int (fun _ _ => rfl)) (pv 6) (fun _ _ => rfl)) pe_int (nomark _))) (fun _ _ _ _ _ => pe_tup (pa2 pe_str (pixK K (pav K (pv 0)) (pv 6) (fun _ _ => rfl))))) <|
      pss_cons (ps_setLc (i := 5) (own := [("at", 6)]) (g := gName 6) rfl nd rfl rfl rfl (pi_list (pv 3)) (blkOk_by (N := ["plan", "state", "cell", "places", "draws", "buys", "at"]) (sc := defScope (top 55)) (by decide +kernel)) (fun _ _ _ _ _ => pgn 6 nd)
        (fun _ _ _ _ _ => pts_one (pt_val (pcl (ok_can_buy T) hr (pa3 (pv 0) (pv 1) (pv 6))))) (fun _ _ _ _ _ => pe_tup (pa2 pe_str (pixK K (pav K (pv 0)) (pv 6) (fun _ _ => rfl))))) <|
      pss_one <| ps_ret <| pe_lst (StX.pa_star (pv 4) (StX.pa_star (pv 5) (pa1 (pcon (v := .ref pay) ⟨_, mpay, rfl⟩)))), ?_⟩
    obtain ⟨a, b, rfl, ha, hb⟩ := state_inv sa.at_
    have hpl := sa.plan
    have ok := sa.ok
    obtain ⟨r, n, m, as, hp⟩ := hpl
    have hcl := cover_len ok (d := st.1) (c := c)
    refine ⟨_, rfl, _, rfl, a, _, 0, _, rfl, rfl, ha.sq, rfl, _, rfl, x, pl, st.1, c, rfl, sa.plan, ok, hc, fun l H1 s1 hl => ?_⟩
    refine ⟨_, rfl, l, rfl, ⟨_, SqL.of hl⟩, fun D hD => ?_⟩
    refine lc_go walk_list hD (fun i acc H => TdAll K H acc ((((coverM pl st.1 c).take i).filter fun i => decide (0 < restN st.2 i)).map fun i => chD pl (.draw i))) (fun _ _ _ _ k h => h.keep k) .nil (fun H2 s => SqL.of (s _ _ hl)) (by rw [List.length_map]; exact four_lt hcl) (fun i v acc H2 H3 Fy Fn hi sm e y ky kn => ?_) (fun H2 acc s2 hd e => ?_)
    · obtain ⟨rfl, hv⟩ := y
      rw [List.getElem?_map] at hv
      obtain ⟨at_, hat, rfl⟩ := Option.map_eq_some_iff.mp hv
      have hir := cover_lt (List.mem_of_getElem? hat)
      have s02 := s1.trans sm
      refine ⟨rfl, _, rfl, a, _, 1, _, rfl, rfl, (ha.keep (TK.of s02)).sq, rfl, _, rfl, b, _, _, _, rfl, rfl, (hb.keep (TK.of s02)).sq, atI_nat (by rw [List.getElem?_map, at_restN (by rw [sa.so.len]; exact hir)]; rfl), _, _, rfl, rfl, _, rfl, ?_⟩
      rw [filter_take hat] at ky kn
      refine ite2 (fun hb => ?_) fun hb => kn _ (Same.refl _) ?_
      · refine ⟨_, _, rfl, (hp.keep s02).fNames T, _, rfl, n, _, _, _, rfl, rfl, (hp.nm.keep s02).sq, atI_nat (by rw [List.getElem?_map, at_nameN (by rw [ok.len]; exact hir)]; rfl), by show 2 ≤ sizeLine; decide, fun u hu => ky _ _ (same_upd hu) ?_⟩
        rw [if_pos hb, List.map_append]
        exact (e.keep (TK.updN hu)).snoc (Td.pair upd_same)
      · rw [if_neg hb, List.append_nil]
        exact e
    have s02 := s1.trans s2
    have hl2 := s2 _ _ hl
    refine ⟨_, rfl, l, rfl, ⟨_, SqL.of hl2⟩, fun D2 hD2 => ?_⟩
    refine lc_go walk_list hD2 (fun i acc H => TdAll K H acc ((((coverM pl st.1 c).take i).filter fun i => canBuyM pl st i).map fun i => chD pl (.buy i))) (fun _ _ _ _ k h => h.keep k) .nil (fun H2 s => SqL.of (s _ _ hl2)) (by rw [List.length_map]; exact four_lt hcl) (fun i v acc2 H3 H4 Fy Fn hi sm e2 y ky kn => ?_) (fun H3 acc2 s3 hd3 e3 => ?_)
    · obtain ⟨rfl, hv⟩ := y
      rw [List.getElem?_map] at hv
      obtain ⟨at_, hat, rfl⟩ := Option.map_eq_some_iff.mp hv
      have hir := cover_lt (List.mem_of_getElem? hat)
      have s03 := s02.trans sm
      refine ⟨rfl, _, rfl, _, rfl, _, rfl, x, _, pl, st, at_, rfl, sa.keep s03, hir, _, rfl, ?_⟩
      rw [filter_take hat] at ky kn
      refine ite2 (fun hb => ?_) fun hb => kn _ (Same.refl _) ?_
      · refine ⟨_, _, rfl, (hp.keep s03).fNames T, _, rfl, n, _, _, _, rfl, rfl, (hp.nm.keep s03).sq, atI_nat (by rw [List.getElem?_map, at_nameN (by rw [ok.len]; exact hir)]; rfl), by show 2 ≤ sizeLine; decide, fun u hu => ky _ _ (same_upd hu) ?_⟩
        rw [if_pos hb, List.map_append]
        exact (e2.keep (TK.updN hu)).snoc (Td.pair upd_same)
      · rw [if_neg hb, List.append_nil]
        exact e2
    rw [List.length_map, take_all (Nat.le_refl _)] at e e3
    have hall : TdAll K H3 (acc ++ (acc2 ++ [.ref pay])) ((choicesM pl st c).map (chD pl)) := by
      have h1 := (e.keep (TK.of s3)).app (e3.app (.cons (.tup (.inr hpay) (.cons (.str "pay") .nil)) .nil))
      unfold choicesM
      rw [List.map_append, List.map_append, List.map_map, List.map_map, List.append_assoc]
      exact h1
    refine ⟨_, rfl, D, acc, rfl, .inr (SqL.of (s3 _ _ hd)), _, rfl, D2, acc2, rfl, .inr (SqL.of hd3), ?_, fun p hp' => k _ _ _ (sup (s02.trans s3) hp') upd_same (hall.keep (TK.updN hp'))⟩
    have h1 := hall.len
    rw [List.length_map] at h1
    have h2 := chs_len ok (s := st) (c := c)
    exact Nat.le_trans (Nat.le_of_eq h1) (Nat.le_trans h2 (by decide))
end
end Nd
set_option Elab.async false
set_option linter.all false
set_option maxRecDepth 100000
set_option maxHeartbeats 2000000
namespace Nd
open PySem PySem.Spec PyProof.Rows L2
theorem priceN_val {pl : PlanD} (ok : PlanOk pl) {c : Str} (h : c ∈ pl.prices.map (·.1)) : valV (prK pl.prices) (Sum.inr c) = some (V.int (priceN pl c)) := by
  obtain ⟨z, hz, rfl⟩ := List.mem_map.mp h
  obtain ⟨i, hi, e⟩ := List.getElem_of_mem hz
  have h1 : pl.prices[i]? = some (z.1, z.2) := by rw [List.getElem?_eq_getElem hi, e]
  have h2 := valV_at (prK_nd ok.pnd) (prK_at h1)
  have h3 : pl.prices.find? (fun y => decide (y.1 = z.1)) = some z := by
    cases hf : pl.prices.find? (fun y => decide (y.1 = z.1)) with
    | none =>
      have := List.find?_eq_none.mp hf z hz
      simp at this
    | some y =>
      have hy : y.1 = z.1 := by
        have h9 := List.find?_some hf
        simpa using h9
      obtain ⟨j, hj, e2⟩ := List.getElem_of_mem (List.mem_of_find?_eq_some hf)
      have k1 : (pl.prices.map (·.1))[i]? = some z.1 := by rw [List.getElem?_map, List.getElem?_eq_getElem hi, e]; rfl
      have k2 : (pl.prices.map (·.1))[j]? = some z.1 := by rw [List.getElem?_map, List.getElem?_eq_getElem hj, e2, ← hy]; rfl
      have := nd_ix ok.pnd k1 k2
      subst this
      rw [← e2, e]
  unfold priceN
  rw [h3, h2]
  rfl
theorem eqv_pay {pl : PlanD} (ch : Ch) : PyData.eqv (chD pl ch) (.tuple [.str "pay"]) = (match ch with | .pay => true | _ => false) := by
  cases ch <;> simp [chD, PyData.eqv, PyData.eqvAll]
theorem any_self {pl : PlanD} (ok : PlanOk pl) {s : State} {c : Str} {ch : Ch} (h : ch ∈ choicesM pl s c) : (((choicesM pl s c).map (chD pl)).any fun z => PyData.eqv z (chD pl ch)) = true :=
  List.any_eq_true.mpr ⟨_, List.mem_map.mpr ⟨ch, h, rfl⟩, SeqAt.eqv_refl _ (ch_can ok h)⟩
theorem mem_draw {pl : PlanD} {s : State} {c : Str} {i : Nat} (h : Ch.draw i ∈ choicesM pl s c) : i ∈ coverM pl s.1 c ∧ 0 < restN s.2 i := by
  rcases List.mem_append.mp h with h | h
  · rcases List.mem_append.mp h with h | h
    · obtain ⟨j, hj, e⟩ := List.mem_map.mp h
      injection e with e
      rw [← e]
      exact ⟨(List.mem_filter.mp hj).1, of_decide_eq_true (List.mem_filter.mp hj).2⟩
    · obtain ⟨j, hj, e⟩ := List.mem_map.mp h
      cases e
  · cases List.mem_singleton.mp h
theorem mem_buy {pl : PlanD} {s : State} {c : Str} {i : Nat} (h : Ch.buy i ∈ choicesM pl s c) : i ∈ coverM pl s.1 c ∧ restN s.2 i = 0 ∧ (∃ z, (rowN pl i).cost = some z) ∧ 0 < (rowN pl i).amount := by
  rcases List.mem_append.mp h with h | h
  · rcases List.mem_append.mp h with h | h
    · obtain ⟨j, hj, e⟩ := List.mem_map.mp h
      cases e
    · obtain ⟨j, hj, e⟩ := List.mem_map.mp h
      injection e with e
      rw [← e]
      obtain ⟨h1, h2⟩ := List.mem_filter.mp hj
      unfold canBuyM at h2
      rw [Bool.and_eq_true_iff, Bool.and_eq_true_iff] at h2
      exact ⟨h1, of_decide_eq_true h2.1, Option.isSome_iff_exists.mp h2.2.1, of_decide_eq_true h2.2.2⟩
  · cases List.mem_singleton.mp h
def takenD (r : Int × State) : PyData := .tuple [.int r.1, stateD r.2]
section
variable {P : Program} {w : World} {K : PySem.W.Frag} {mg : Str → Option Value} {base : Heap}
/-! ### choice_of -/
def spChoiceOf (K : PySem.W.Frag) : Sp := fun vs H Q _ => ∃ (x t : Addr) (v : V) (pl : PlanD) (ord : List Str) (s : State) (c : Str), vs = [.ref x, .ref t, v, .str c] ∧ OrdAt K H x t pl ord ∧ StAt K H x v pl s ∧ PyData.strOk c = true ∧ ∀ v' H', Same H H' → Td K H' v' (chD pl (choiceM pl ord s c)) → Q v' H'
theorem sc_choice_of : FnScope ["plan", "order", "state", "cell", "found", "word", "name"] ["plan", "order", "state", "cell"] (defScope (top 56)) := ⟨rfl, rfl, rfl, by decide +kernel, rfl, by decide +kernel, by decide +kernel⟩
def wordN : Nat → Str
  | 0 => "draw"
  | _ => "buy"
theorem ok_choice_of (T : Tx K mg) : Cal P w K mg base 3 "choice_of" (spChoiceOf K) := by
  refine Cal.of (T.f ("choice_of", 56)) sc_choice_of (fun _ _ _ _ _ _ us hl => match us, hl with | [_, _, _, _], _ => rfl) (fun vs H Q E h => ?_) (fun f cdv A outer s H vs Q E hr h => ?_)
  · obtain ⟨x, t, v, pl, ord, st, c, rfl, _⟩ := h
    rfl
  · obtain ⟨x, t, v, pl, ord, st, c, rfl, oa, sa, hc, k⟩ := h
    obtain ⟨pay, mpay, hpay⟩ := T.pay
    have nd := sc_choice_of.nd
    refine ⟨_, pss_cons (pst 4 nd (pcl (ok_choices_of T) hr (pa3 (pv 0) (pv 2) (pv 3)))) <|
      pss_cons (ps_for PassesOwn.never rfl (pi_tup (pe_tup (pa2 pe_str pe_str))) (pgn 5 nd) <|
        pss_one <| ps_for PassesOwn.never rfl (pi_tup (pv 1)) (pgn 6 nd) <|
          pss_one <| ps_if (pt_cmpR (op_inD hr.units65) (pe_tup (pa2 (pv 5) (pv 6))) (pv 4) rfl) (pss_one <| ps_ret <| pe_tup (pa2 (pv 5) (pv 6))) pss_nil) <|
      pss_one <| ps_ret <| pcon (v := .ref pay) ⟨_, mpay, rfl⟩, ?_⟩
    have ok := sa.ok
    have ho4 : ord.length ≤ 4 := by
      rw [oa.perm.length_eq]
      exact ok.four
    refine ⟨_, rfl, _, rfl, _, rfl, x, v, pl, st, c, rfl, sa, hc, fun l xs H1 s1 hl htd => ?_⟩
    refine ⟨by show 2 ≤ sizeLine; decide, fun tw htw => ⟨tw, rfl, ⟨_, SqT.of upd_same⟩, ?_⟩⟩
    let T0 : List V := [.str "draw", .str "buy"]
    let dr : Nat → Str → Bool := fun i n => drawable pl st c (wordN i) n
    refine for_it (walk_tup (xs := T0)) (fun i σ H' => Same (upd H1 tw (.tup T0)) H' ∧ (∃ z1 z2, σ = [some (.ref x), some (.ref t), some v, some (.str c), some (.ref l), z1, z2]) ∧ (0 < i → ord.find? (dr 0) = none) ∧ (1 < i → ord.find? (dr 1) = none)) ⟨Same.refl _, ⟨none, none, rfl⟩, fun h => absurd h (by omega), fun h => absurd h (by omega)⟩ (fun i σ H' _ h => SqT.of (h.1 _ _ upd_same)) (fun i v1 σ H3 H4 hi h y => ?_) (fun σ H3 h => ?_)
    · obtain ⟨sm, ⟨z1, z2, rfl⟩, f1, f2⟩ := h
      obtain ⟨rfl, hv⟩ := y
      have hi2 : i < 2 := hi
      have ev : v1 = .str (wordN i) := by
        match i, hi2, hv with
        | 0, _, hv => exact (Option.some.inj hv).symm
        | 1, _, hv => exact (Option.some.inj hv).symm
      subst ev
      have s14 : Same H1 H4 := (same_upd htw).trans sm
      refine ⟨_, rfl, t, rfl, ⟨_, (oa.keep (s1.trans s14)).at_.sq⟩, ?_⟩
      refine for_it walk_tup (fun j σ H' => Same H4 H' ∧ (∃ z2, σ = [some (.ref x), some (.ref t), some v, some (.str c), some (.ref l), some (.str (wordN i)), z2]) ∧ (ord.take j).find? (dr i) = none) ⟨Same.refl _, ⟨_, rfl⟩, rfl⟩ (fun j σ H' _ h => (oa.keep ((s1.trans s14).trans h.1)).at_.sq) (fun j v2 σ H5 H6 hj h y => ?_) (fun σ H5 h => ?_)
      · obtain ⟨sm2, ⟨z2, rfl⟩, fj⟩ := h
        obtain ⟨rfl, hv2⟩ := y
        rw [List.getElem?_map] at hv2
        obtain ⟨n, hn, rfl⟩ := Option.map_eq_some_iff.mp hv2
        have s16 := s14.trans sm2
        refine ⟨_, rfl, _, rfl, by show 2 ≤ sizeLine; decide, fun u hu => ?_⟩
        have s7 := sup (o := .tup [.str (wordN i), .str n]) s16 hu
        have hnm : n ∈ pl.names := oa.perm.mem_iff.mp (List.mem_of_getElem? hn)
        have hnok := nameOk_str (ok.nok n hnm)
        have hwok : PyData.strOk (wordN i) = true := by
          unfold wordN
          split <;> decide +kernel
        refine ⟨_, rfl, pairSS (wordN i) n, (choicesM pl st c).map (chD pl), .tup (SqT.of upd_same) (.cons (.str _) (.cons (.str _) .nil)), .lst (SqL.of (s7 _ _ hl)) (htd.keep (TK.of s7)).dp, shaped_of (pair_can hwok hnok) (by rw [pair_depth]; decide), chs_shaped ok, _, rfl, ?_⟩
        refine ite2 (fun hb => ?_) fun hb => ⟨sm2.trans (same_upd hu), ⟨_, rfl⟩, find_step fj hn (Bool.eq_false_iff.mpr hb)⟩
        have hb' : dr i n = true := hb
        have hfi : ord.find? (dr i) = some n := find_at fj hn hb'
        refine ⟨_, rfl, _, rfl, by show 2 ≤ sizeLine; decide, fun u2 hu2 => ?_⟩
        refine k _ _ (s1.trans (sup s7 hu2)) ?_
        have hpos : nameN pl (posOf pl.names n) = n := by
          obtain ⟨q, hq, eq⟩ := List.getElem_of_mem hnm
          have h1 : pl.names[q]? = some n := by rw [List.getElem?_eq_getElem hq, eq]
          rw [posOf_at ok.nd h1, nameN_at h1]
        have hcm : chD pl (choiceM pl ord st c) = pairSS (wordN i) n := by
          unfold choiceM
          match i, hi2, hfi, f1 with
          | 0, _, hfi, _ =>
            have e1 : ord.find? (fun n => drawable pl st c "draw" n) = some n := hfi
            rw [e1]
            show pairSS "draw" (nameN pl (posOf pl.names n)) = _
            rw [hpos]
            rfl
          | 1, _, hfi, f1 =>
            have e0 : ord.find? (fun n => drawable pl st c "draw" n) = none := f1 (by omega)
            have e1 : ord.find? (fun n => drawable pl st c "buy" n) = some n := hfi
            rw [e0]
            dsimp only
            rw [e1]
            show pairSS "buy" (nameN pl (posOf pl.names n)) = _
            rw [hpos]
            rfl
        rw [hcm]
        exact Td.pair upd_same
      · obtain ⟨sm2, ⟨z2, rfl⟩, fj⟩ := h
        rw [List.length_map, take_all (Nat.le_refl _)] at fj
        refine ⟨sm.trans sm2, ⟨_, _, rfl⟩, fun h0 => ?_, fun h1 => ?_⟩
        · by_cases e0 : i = 0
          · subst e0
            exact fj
          · exact f1 (by omega)
        · have e1 : i = 1 := by omega
          subst e1
          exact fj
    · obtain ⟨sm, ⟨z1, z2, rfl⟩, f1, f2⟩ := h
      have e0 : ord.find? (fun n => drawable pl st c "draw" n) = none := f1 (by show 0 < 2; omega)
      have e1 : ord.find? (fun n => drawable pl st c "buy" n) = none := f2 (by show 1 < 2; omega)
      refine k _ _ (s1.trans ((same_upd htw).trans sm)) ?_
      unfold choiceM
      rw [e0]
      dsimp only
      rw [e1]
      exact .tup (.inr hpay) (.cons (.str "pay") .nil)
end
end Nd
set_option Elab.async false
set_option linter.all false
set_option maxRecDepth 100000
set_option maxHeartbeats 2000000
namespace Nd
open PySem PySem.Spec PyProof.Rows L2
section
variable {P : Program} {w : World} {K : PySem.W.Frag} {mg : Str → Option Value} {base : Heap}
theorem pairSS_inv {H : Hp} {v : V} {a b : Str} (h : Td K H v (pairSS a b)) : ∃ p, v = .ref p ∧ TupAt K H p [.str a, .str b] := by
  obtain ⟨p, xs, rfl, hp, hx⟩ := Td.tup_inv (ds := [.str a, .str b]) h
  cases hx with
  | cons h1 hx =>
    cases hx with
    | cons h2 hx =>
      cases hx
      cases h1
      cases h2
      exact ⟨p, rfl, hp⟩
theorem one_inv {H : Hp} {v : V} {a : Str} (h : Td K H v (.tuple [.str a])) : ∃ p, v = .ref p ∧ TupAt K H p [.str a] := by
  obtain ⟨p, xs, rfl, hp, hx⟩ := Td.tup_inv h
  cases hx with
  | cons h1 hx =>
    cases hx
    cases h1
    exact ⟨p, rfl, hp⟩
theorem Td.isTup {H : Hp} {v : V} {ds : List PyData} (h : Td K H v (.tuple ds)) : TyX K H v (.type "tuple") := by
  obtain ⟨p, xs, rfl, hp, hx⟩ := h.tup_inv
  exact Td.ty hp
theorem chD_tup (pl : PlanD) (ch : Ch) : ∃ ds, chD pl ch = .tuple ds := by
  cases ch <;> exact ⟨_, rfl⟩
theorem restV {rs : List Int} {i : Nat} (h : i < rs.length) : atI (rs.map V.int) ((i : Nat) : Int) = some (V.int (restN rs i)) := atI_nat (by
  rw [List.getElem?_map, at_restN h]
  rfl)
theorem cut_set {rs : List Int} {i : Nat} {z : Int} (h : i < rs.length) : cutV (rs.map V.int) none (some (i : Int)) ++ (V.int z :: (cutV (rs.map V.int) (some ((i : Int) + 1)) none ++ [])) = (rs.set i z).map V.int := by
  have e1 : ((i : Int) + 1) = ((i + 1 : Nat) : Int) := rfl
  rw [cut_to (by rw [List.length_map]; omega), e1, cut_from (by rw [List.length_map]; omega), List.append_nil, List.set_eq_take_append_cons_drop, if_pos h, List.map_append, List.map_cons, List.map_take, List.map_drop]
/-! ### taken_of -/
def spTakenOf (K : PySem.W.Frag) : Sp := fun vs H Q _ => ∃ (x : Addr) (v u : V) (pl : PlanD) (s : State) (c : Str) (ch : Ch), vs = [.ref x, v, .str c, u] ∧ StAt K H x v pl s ∧ c ∈ pl.prices.map (·.1) ∧ ch ∈ choicesM pl s c ∧ Td K H u (chD pl ch) ∧ ∀ v' H', Same H H' → Td K H' v' (takenD (takenM pl s c ch)) → Q v' H'
theorem sc_taken_of : FnScope ["plan", "state", "cell", "choice", "day", "rests", "at", "pack", "is_bought", "rest"] ["plan", "state", "cell", "choice"] (defScope (top 57)) := ⟨rfl, rfl, rfl, by decide +kernel, rfl, by decide +kernel, by decide +kernel⟩
/-- a choice is PAY, or takes a unit of row i -/
theorem ch_cases {pl : PlanD} {st : State} {c : Str} {ch : Ch} (hch : ch ∈ choicesM pl st c) : ch = .pay ∨ (PyData.eqv (chD pl ch) (.tuple [.str "pay"]) = false ∧ ∃ (i : Nat) (bt : Bool) (due z : Int), i < pl.rows.length ∧ chD pl ch = pairSS (if bt = true then "buy" else "draw") (nameN pl i) ∧
    z = (if bt = true then (rowN pl i).amount else restN st.2 i) - 1 ∧ (bt = true → (rowN pl i).cost = some due) ∧ (bt = false → due = 0) ∧ takenM pl st c ch = (due, (st.1, st.2.set i z))) := by
  cases ch with
  | pay => exact .inl rfl
  | draw i =>
    obtain ⟨h1, h2⟩ := mem_draw hch
    exact .inr ⟨by rw [eqv_pay], i, false, 0, _, cover_lt h1, rfl, rfl, (fun e => by cases e), fun _ => rfl, rfl⟩
  | buy i =>
    obtain ⟨h1, h2, ⟨z, hz⟩, h3⟩ := mem_buy hch
    refine .inr ⟨by rw [eqv_pay], i, true, z, _, cover_lt h1, rfl, rfl, fun _ => hz, (fun e => by cases e), ?_⟩
    show (((rowN pl i).cost).getD 0, _) = _
    rw [hz]
    rfl
theorem ok_taken_of (T : Tx K mg) : Cal P w K mg base 1 "taken_of" (spTakenOf K) := by
  refine Cal.of (T.f ("taken_of", 57)) sc_taken_of (fun _ _ _ _ _ _ us hl => match us, hl with | [_, _, _, _], _ => rfl) (fun vs H Q E h => ?_) (fun f cdv A outer s H vs Q E hr h => ?_)
  · obtain ⟨x, v, u, pl, st, c, ch, rfl, _⟩ := h
    rfl
  · obtain ⟨x, v, u, pl, st, c, ch, rfl, sa, hc, hch, hu, k⟩ := h
    obtain ⟨pay, mpay, hpay⟩ := T.pay
    have nd := sc_taken_of.nd
    refine ⟨_, pss_cons (ps_if (pt_cmpR (op_eqD hr.units) (pv 3) (pcon (v := .ref pay) ⟨_, mpay, rfl⟩) (nomark _)) (pss_one <| ps_ret <| pe_tup (pa2 (pe_dget (hu_of hr) (pav K (pv 0)) (pv 2) (fun _ _ => rfl)) (pv 1))) pss_nil) <|
      pss_cons (ps_asg (pv 1) (pg_tup rfl (pgs_cons (pgn 4 nd) (pgs_cons (pgn 5 nd) pgs_nil)))) <|
      pss_cons (pst 6 nd (pe_tupIx (pav K (pv 0)) (pa1 (pe_ix ix_tup (pv 3) pe_int (fun _ _ => rfl))))) <|
      pss_cons (pst 7 nd (pe_ix ix_tup (pav K (pv 0)) (pv 6) (fun _ _ => rfl))) <|
      pss_cons (pst 8 nd (pe_cmpR op_eq (pe_ix ix_tup (pv 3) pe_int (fun _ _ => rfl)) pe_str (nomark _))) <|
      pss_cons (pst 9 nd (pe_op op_sub (pe_ifExp (pt_val (pv 8)) (pav K (pv 7)) (pe_ix ix_tup (pv 5) (pv 6) (fun _ _ => rfl))) pe_int)) <|
      pss_one <| ps_ret <| pe_tup (pa2 (pe_ifExp (pt_val (pv 8)) (pav K (pv 7)) pe_int) (pe_tup (pa2 (pv 4) (pe_tup (StX.pa_star (pe_slice (sl_tupK K) (pv 5) po_none (po_some (pv 6))) (pa_cons (pv 9) (StX.pa_star (pe_slice (sl_tupK K) (pv 5) (po_some (pe_op op_add (pv 6) pe_int)) po_none) pa_nil) rfl)))))), ?_⟩
    have ok := sa.ok
    have hpl := sa.plan
    obtain ⟨r, n, m, as, hp⟩ := hpl
    obtain ⟨a, b, rfl, ha, hb⟩ := state_inv sa.at_
    refine ⟨_, rfl, chD pl ch, .tuple [.str "pay"], hu.dp, .tup (hpay _) (.cons (.str "pay") .nil), ch_shaped ok hch, by decide +kernel, _, rfl, ?_⟩
    rcases ch_cases hch with rfl | ⟨hnp, i, bt, due, z, hi, hcd, hz, hdue, hdue0, htm⟩
    · rw [eqv_pay]
      exact iteT ⟨_, _, rfl, hp.fPrices T, _, rfl, r, _, rfl, .inl ⟨_, Sum.inr c, .inl hp.pr, rfl, (priceN_val ok hc).symm⟩, _, rfl, by show 2 ≤ sizeLine; decide, fun q hq => k _ _ (same_upd hq) (Td.new hq (.cons (.int _) (.cons (sa.at_.keep (TK.refl _)) .nil)))⟩
    rw [hnp]
    rw [hcd] at hu
    refine iteF ?_
    obtain ⟨p, rfl, hpp⟩ := pairSS_inv hu
    have hir : i < st.2.length := by
      rw [sa.so.len]
      exact hi
    have hni := at_nameN (pl := pl) (i := i) (by rw [ok.len]; exact hi)
    obtain ⟨pa, h1, h2, hpa⟩ := hp.row hi
    refine ⟨_, rfl, a, _, rfl, ha.sq, rfl, _, _, rfl, _, _, rfl, rfl, ?_⟩
    refine ⟨_, _, rfl, hp.fNames T, n, pl.names, rfl, hp.nm, _, rfl, p, _, 1, _, rfl, rfl, hpp.sq, rfl, nameN pl i, i, rfl, hp.nm, hni, (fun m hm e => by have := nd_ix ok.nd e hni; omega), ?_⟩
    refine ⟨_, _, rfl, hp.fRows T, _, rfl, m, _, _, _, rfl, rfl, SqT.of hp.rw_, atI_nat h2, ?_⟩
    refine ⟨_, rfl, p, _, 0, _, rfl, rfl, hpp.sq, rfl, rfl, ?_⟩
    have fin : ∀ (b8 : Bool) (cv : V) (σ : L2.St), σ = [some (.ref x), some (.ref a), some (.str c), some (.ref p), some (.int st.1), some (.ref b), some (.int (i : Nat)), some (.ref pa), some (.bl b8), some (.int z)] → cv = .int due →
        tCons (tTup (tCons (tVar 4) (tCons (tTup (StX.tStar K (tSl (rSlK K) (tVar 5) tNoPart (tPart (tVar 6))) (tCons (tVar 9) (StX.tStar K (tSl (rSlK K) (tVar 5) (tPart (tOp (rI0 fun i j => .int (i + j)) (tVar 6) (tC (.int 1)))) tNoPart) tNil)))) tNil))) tNil σ H
          fun xs H2 => (cv :: xs).length ≤ sizeLine ∧ ∀ p, H2 p = none → Q (.ref p) (upd H2 p (.tup (cv :: xs))) := fun b8 cv σ eσ ec => by
      subst ec
      subst eσ
      refine ⟨_, rfl, _, rfl, _, rfl, _, rfl, b, _, rfl, hb, fun p1 H2 s2 hc1 => ⟨p1, _, rfl, .inl hc1.sq, _, rfl, _, rfl, _, rfl, _, _, rfl, rfl, _, rfl, b, _, rfl, hb.keep (TK.of s2), fun p2 H3 s3 hc2 => ⟨p2, _, rfl, .inl hc2.sq, ?_⟩⟩⟩
      dsimp only [tNil]
      rw [cut_set hir]
      have hl4 : (st.2.set i z).length ≤ 4 := by
        rw [List.length_set, sa.so.len]
        exact ok.r4
      refine ⟨by rw [List.length_map]; exact Nat.le_of_lt (four_lt hl4), fun t ht => ⟨by show 2 ≤ sizeLine; decide, fun t2 ht2 => ⟨by show 2 ≤ sizeLine; decide, fun t3 ht3 => ?_⟩⟩⟩
      refine k _ _ ((sup (sup (sup (s2.trans s3) ht) ht2) ht3)) ?_
      rw [htm]
      have g1 : Td K (upd H3 t (.tup ((st.2.set i z).map V.int))) (.ref t) (.tuple ((st.2.set i z).map PyData.int)) := .tup (.inl upd_same) TdAll.ints
      have g2 := Td.new ht2 (.cons (.int st.1) (.cons g1 .nil))
      exact Td.new ht3 (.cons (.int due) (.cons g2 .nil))
    cases bt with
    | true =>
      refine ⟨_, rfl, _, rfl, iteD (by decide +kernel) ⟨_, _, rfl, hpa.fAmount T, _, 1, rfl, rfl, ?_⟩⟩
      refine ⟨_, rfl, _, rfl, iteD (by decide +kernel) ⟨_, _, rfl, hpa.fCost T, ?_⟩⟩
      refine fin (decide (V.str (if true = true then ("buy" : Str) else "draw") = V.str "buy")) _ _ ?_ (by rw [hdue rfl]; rfl)
      rw [hz]
      rfl
    | false =>
      refine ⟨_, rfl, _, rfl, iteDF (by decide +kernel) ⟨_, rfl, _, rfl, b, _, _, _, rfl, rfl, hb.sq, restV hir, _, 1, rfl, rfl, ?_⟩⟩
      refine ⟨_, rfl, _, rfl, iteDF (by decide +kernel) ?_⟩
      refine fin (decide (V.str (if false = true then ("buy" : Str) else "draw") = V.str "buy")) _ _ ?_ (by rw [hdue0 rfl])
      rw [hz]
      rfl
/-! ### is_choice, taken -/
def spIsChoice (K : PySem.W.Frag) : Sp := fun vs H Q _ => ∃ (x : Addr) (v u : V) (pl : PlanD) (s : State) (c : Str) (ch : Ch), vs = [.ref x, v, .str c, u] ∧ StAt K H x v pl s ∧ c ∈ pl.prices.map (·.1) ∧ ch ∈ choicesM pl s c ∧ Td K H u (chD pl ch) ∧ ∀ H', Same H H' → Q (.bl true) H'
theorem sc_is_choice : FnScope ["plan", "state", "cell", "thing"] ["plan", "state", "cell", "thing"] (defScope (top 58)) := ⟨rfl, rfl, rfl, by decide +kernel, rfl, by decide +kernel, by decide +kernel⟩
theorem PlanOk.cell {pl : PlanD} (ok : PlanOk pl) {c : Str} (h : c ∈ pl.prices.map (·.1)) : PyData.strOk c = true := by
  obtain ⟨z, hz, rfl⟩ := List.mem_map.mp h
  exact nameOk_str (ok.pok z hz).1
theorem ok_is_choice (T : Tx K mg) : Cal P w K mg base 3 "is_choice" (spIsChoice K) := by
  refine Cal.of (T.f ("is_choice", 58)) sc_is_choice (fun _ _ _ _ _ _ us hl => match us, hl with | [_, _, _, _], _ => rfl) (fun vs H Q E h => ?_) (fun f cdv A outer s H vs Q E hr h => ?_)
  · obtain ⟨x, v, u, pl, st, c, ch, rfl, _⟩ := h
    rfl
  · obtain ⟨x, v, u, pl, st, c, ch, rfl, sa, hc, hch, hu, k⟩ := h
    refine ⟨_, pss_one <| ps_ret <| pe_and (pisi "tuple" (T.z "isinstance") (T.z "tuple") (pv 3)) <| pe_one <| pe_cmpR (op_inD hr.units65) (pv 3) (pcl (ok_choices_of T) hr (pa3 (pv 0) (pv 1) (pv 2))) rfl, ?_⟩
    have hty : TyX K H u (.type "tuple") := by
      obtain ⟨ds, e⟩ := chD_tup pl ch
      rw [e] at hu
      exact hu.isTup
    refine ⟨_, rfl, _, _, _, _, true, rfl, .ty _, hty, kit_ty (by decide +kernel), true, rfl, iteT ?_⟩
    refine ⟨_, rfl, _, rfl, _, rfl, _, rfl, x, v, pl, st, c, rfl, sa, sa.ok.cell hc, fun l xs H1 s1 hl htd => ?_⟩
    refine ⟨_, _, (hu.keep (TK.of s1)).dp, .lst (SqL.of hl) htd.dp, ch_shaped sa.ok hch, chs_shaped sa.ok, ?_⟩
    rw [any_self sa.ok hch]
    exact k _ s1
theorem sc_taken : FnScope ["plan", "state", "cell", "choice"] ["plan", "state", "cell", "choice"] (defScope (top 59)) := ⟨rfl, rfl, rfl, by decide +kernel, rfl, by decide +kernel, by decide +kernel⟩
theorem ok_taken (T : Tx K mg) : Cal P w K mg base 6 "taken" (spTakenOf K) := by
  refine Cal.of (T.f ("taken", 59)) sc_taken (fun _ _ _ _ _ _ us hl => match us, hl with | [_, _, _, _], _ => rfl) (fun vs H Q E h => ?_) (fun f cdv A outer s H vs Q E hr h => ?_)
  · obtain ⟨x, v, u, pl, st, c, ch, rfl, _⟩ := h
    rfl
  · obtain ⟨x, v, u, pl, st, c, ch, rfl, sa, hc, hch, hu, k⟩ := h
    refine ⟨_, pss_cons (ps_expr (pcl (ok_need_plan T) hr (pa1 (pv 0)))) <| pss_cons (ps_expr (pcl (ok_need_state T) hr (pa2 (pv 0) (pv 1)))) <| pss_cons (ps_expr (pcl (ok_need_cell T) hr (pa2 (pv 0) (pv 2)))) <|
      pss_cons (ps_if (pt_not (pt_val (pcl (ok_is_choice T) hr (pa4 (pv 0) (pv 1) (pv 2) (pv 3))))) pss_never pss_nil) <|
      pss_one <| ps_ret <| pcl (ok_taken_of T) hr (pa4 (pv 0) (pv 1) (pv 2) (pv 3)), ?_⟩
    refine ⟨_, rfl, x, pl, rfl, sa.plan, ?_⟩
    refine ⟨_, rfl, _, rfl, x, v, pl, st, rfl, sa, fun H1 s1 => ?_⟩
    refine ⟨_, rfl, _, rfl, x, pl, c, rfl, (sa.keep s1).plan, hc, ?_⟩
    refine ⟨_, rfl, _, rfl, _, rfl, _, rfl, x, v, u, pl, st, c, ch, rfl, sa.keep s1, hc, hch, hu.keep (TK.of s1), fun H2 s2 => ⟨true, rfl, iteF ?_⟩⟩
    have s02 := s1.trans s2
    exact ⟨_, rfl, _, rfl, _, rfl, _, rfl, x, v, u, pl, st, c, ch, rfl, sa.keep s02, hc, hch, hu.keep (TK.of s02), fun v' H' s' t' => k v' H' (s02.trans s') t'⟩
end
end Nd
set_option Elab.async false
set_option linter.all false
set_option maxRecDepth 100000
set_option maxHeartbeats 2000000
/-! the plain law: what the deeds keep. -/
namespace Nd
open PySem PySem.Spec PyProof.Rows L2
theorem sum_setN {l : List Int} {j : Nat} {y : Int} (h : j < l.length) : (l.set j y).sum = l.sum - restN l j + y := sum_set (at_restN h)
theorem restN_pos {l : List Int} (h : ∀ r ∈ l, 0 ≤ r) (j : Nat) : 0 ≤ restN l j := by
  unfold restN
  cases e : l[j]? with
  | none => exact Int.le_refl 0
  | some r => exact h r (List.mem_of_getElem? e)
theorem pos_of_restN {l : List Int} (h : ∀ j, 0 ≤ restN l j) : ∀ r ∈ l, 0 ≤ r := fun r hr => by
  obtain ⟨j, hj, e⟩ := List.getElem_of_mem hr
  have := h j
  rw [restN_at (List.getElem?_eq_getElem hj), e] at this
  exact this
theorem rolledM_le {pl : PlanD} (ok : PlanOk pl) {i : Nat} (hi : i < pl.rows.length) {r : Int} (h : 0 ≤ r) : 0 ≤ rolledM (rowN pl i) r ∧ rolledM (rowN pl i) r ≤ r := by
  unfold rolledM
  cases e : (rowN pl i).roll with
  | none => exact ⟨Int.le_refl 0, h⟩
  | some z =>
    have := ((ok.row hi).ok.ro z e).2
    dsimp only
    split <;> constructor <;> omega
/-- where a row rolls to -/
theorem roll_to {pl : PlanD} (ok : PlanOk pl) {i : Nat} (hi : i < pl.rows.length) {z : Str × Int} (e : (rowN pl i).roll = some z) : posOf pl.names z.1 < pl.rows.length ∧ lastD (rowN pl i) < lastD (rowN pl (posOf pl.names z.1)) := by
  obtain ⟨j, q, h1, h2, h3⟩ := (ok.row hi).roll z e
  rw [posOf_at ok.nd h1, rowN_at h2]
  exact ⟨(List.getElem?_eq_some_iff.mp h2).1, h3⟩
structure NightI (pl : PlanD) (s : State) (i : Nat) : Prop where
  today : ∀ j, j < pl.rows.length → lastD (rowN pl j) = s.1 → restN (nightK pl s i) j = if j < i then 0 else restN s.2 j
  past : ∀ j, j < pl.rows.length → lastD (rowN pl j) < s.1 → restN (nightK pl s i) j = restN s.2 j
  pos : ∀ j, 0 ≤ restN (nightK pl s i) j
  sum : (nightK pl s i).sum + ((lostK pl s i).map (·.2)).sum = s.2.sum
theorem lost_sum {pl : PlanD} (ok : PlanOk pl) {s : State} (so : StOk pl s) {i : Nat} (hi : i < pl.rows.length) : ((lostK pl s (i + 1)).map (·.2)).sum = ((lostK pl s i).map (·.2)).sum + if lastD (rowN pl i) = s.1 then unitsN pl s i else 0 := by
  have h0 := restN_pos so.pos i
  have h1 := rolledM_le ok hi h0
  have hu : 0 ≤ unitsN pl s i := by
    unfold unitsN
    omega
  show ((lostK pl s i ++ _).map (·.2)).sum = _
  rw [List.map_append, List.sum_append]
  congr 1
  by_cases hd : lastD (rowN pl i) = s.1
  · rw [if_pos hd]
    by_cases h : 0 < unitsN pl s i
    · rw [if_pos ⟨hd, h⟩]
      simp
    · rw [if_neg (fun z => h z.2)]
      have : unitsN pl s i = 0 := by omega
      rw [this]
      rfl
  · rw [if_neg hd, if_neg (fun z => hd z.1)]
    rfl
theorem nightI {pl : PlanD} (ok : PlanOk pl) {s : State} (so : StOk pl s) : ∀ i, i ≤ pl.rows.length → NightI pl s i
  | 0, _ => ⟨fun j _ _ => by rw [if_neg (by omega)]; rfl, fun _ _ _ => rfl, fun j => restN_pos so.pos j, by
      show s.2.sum + 0 = s.2.sum
      omega⟩
  | i + 1, hi1 => by
    have hi : i < pl.rows.length := by omega
    have ih := nightI ok so i (by omega)
    have hlen : (nightK pl s i).length = pl.rows.length := by rw [nightK_len, so.len]
    have hls := lost_sum ok so hi
    have est : nightK pl s (i + 1) = nightStep pl s i (nightK pl s i) := rfl
    unfold nightStep at est
    by_cases hd : lastD (rowN pl i) = s.1
    · rw [if_pos hd] at est hls
      have hfi : restN (nightK pl s i) i = restN s.2 i := by
        rw [ih.today i hi hd, if_neg (by omega)]
      have hsum := ih.sum
      cases er : (rowN pl i).roll with
      | none =>
        rw [er] at est
        have eu : unitsN pl s i = restN s.2 i := by
          unfold unitsN rolledM
          rw [er]
          dsimp only
          omega
        have e1 : ∀ j, restN (nightK pl s (i + 1)) j = if j = i then 0 else restN (nightK pl s i) j := fun j => by
          rw [est, restN_set (by rw [hlen]; exact hi)]
        refine ⟨fun j hj hd' => ?_, fun j hj hd' => ?_, fun j => ?_, ?_⟩
        · rw [e1]
          by_cases e : j = i
          · rw [if_pos e, if_pos (by omega)]
          · rw [if_neg e, ih.today j hj hd']
            by_cases h : j < i
            · rw [if_pos h, if_pos (by omega)]
            · rw [if_neg h, if_neg (by omega)]
        · rw [e1, if_neg (fun e => by subst e; omega)]
          exact ih.past j hj hd'
        · rw [e1]
          split
          · exact Int.le_refl 0
          · exact ih.pos j
        · rw [hls, est, sum_setN (by rw [hlen]; exact hi), hfi, eu]
          omega
      | some z =>
        rw [er] at est
        obtain ⟨hp1, hp2⟩ := roll_to ok hi er
        have hr := rolledM_le ok hi (restN_pos so.pos i)
        have l1 : i < (nightK pl s i).length := by rw [hlen]; exact hi
        have l2 : posOf pl.names z.1 < ((nightK pl s i).set i 0).length := by rw [List.length_set, hlen]; exact hp1
        have e2 : ∀ j, restN ((nightK pl s i).set i 0) j = if j = i then 0 else restN (nightK pl s i) j := fun j => restN_set l1
        have e1 : ∀ j, restN (nightK pl s (i + 1)) j = if j = posOf pl.names z.1 then restN ((nightK pl s i).set i 0) (posOf pl.names z.1) + rolledM (rowN pl i) (restN s.2 i) else if j = i then 0 else restN (nightK pl s i) j := fun j => by
          rw [est]
          dsimp only
          rw [restN_set l2, e2 j]
        have npi : posOf pl.names z.1 ≠ i := fun e => by
          rw [e] at hp2
          omega
        refine ⟨fun j hj hd' => ?_, fun j hj hd' => ?_, fun j => ?_, ?_⟩
        · rw [e1, if_neg (fun e => by rw [← e] at hp2; omega)]
          by_cases e : j = i
          · rw [if_pos e, if_pos (by omega)]
          · rw [if_neg e, ih.today j hj hd']
            by_cases h : j < i
            · rw [if_pos h, if_pos (by omega)]
            · rw [if_neg h, if_neg (by omega)]
        · rw [e1, if_neg (fun e => by rw [← e] at hp2; omega), if_neg (fun e => by subst e; omega)]
          exact ih.past j hj hd'
        · rw [e1]
          split
          · rw [e2, if_neg npi]
            have := ih.pos (posOf pl.names z.1)
            omega
          · split
            · exact Int.le_refl 0
            · exact ih.pos j
        · rw [hls, est, sum_setN l2, sum_setN l1, hfi]
          unfold unitsN
          omega
    · rw [if_neg hd] at est hls
      refine ⟨fun j hj hd' => ?_, fun j hj hd' => ?_, fun j => ?_, ?_⟩
      · rw [est, ih.today j hj hd']
        by_cases h : j < i
        · rw [if_pos h, if_pos (by omega)]
        · rw [if_neg h, if_neg (fun z => by
            have : j = i := by omega
            subst this
            exact hd hd')]
      · rw [est]
        exact ih.past j hj hd'
      · rw [est]
        exact ih.pos j
      · rw [est, hls, Int.add_zero]
        exact ih.sum
theorem st_start {pl : PlanD} (ok : PlanOk pl) : StOk pl (startM pl) where
  day := ⟨Int.le_refl 0, by have := ok.days.1; show (0 : Int) ≤ _; omega⟩
  len := by
    show (pl.rows.map _).length = _
    rw [List.length_map]
  pos := fun r hr => by
    obtain ⟨p, hp, rfl⟩ := List.mem_map.mp hr
    exact (ok.fit p hp).ok.am.1
  gone := fun i hi h => by
    have := (ok.row hi).ok.last0
    have h2 : lastD (rowN pl i) < 0 := h
    omega
theorem st_night {pl : PlanD} (ok : PlanOk pl) {s : State} (so : StOk pl s) (hd : s.1 < pl.days - 1) : StOk pl (nightM pl s) where
  day := ⟨by have := so.day.1; show 0 ≤ s.1 + 1; omega, by show s.1 + 1 ≤ _; omega⟩
  len := by
    show (nightK pl s _).length = _
    rw [nightK_len, so.len]
  pos := pos_of_restN (nightI ok so _ (Nat.le_refl _)).pos
  gone := fun i hi h => by
    have h1 := nightI ok so _ (Nat.le_refl pl.rows.length)
    have h' : lastD (rowN pl i) < s.1 + 1 := h
    show restN (nightK pl s pl.rows.length) i = 0
    by_cases e : lastD (rowN pl i) = s.1
    · rw [h1.today i hi e, if_pos hi]
    · rw [h1.past i hi (by omega)]
      exact so.gone i hi (by omega)
/-- a row that covers a day does not end ahead of it -/
theorem cover_last {pl : PlanD} {d : Int} {c : Str} {i : Nat} (h : i ∈ coverM pl d c) : d ≤ lastD (rowN pl i) := by
  obtain ⟨z, hz, e⟩ := List.any_eq_true.mp (List.mem_filter.mp h).2
  rw [eqv_slot] at e
  have e' : z = (c, d) := of_decide_eq_true e
  have := (foldl_max_ge ((rowN pl i).slots.map (·.2)) 0).2 d (List.mem_map.mpr ⟨z, hz, by rw [e']⟩)
  exact this
theorem st_set {pl : PlanD} {s : State} (so : StOk pl s) {i : Nat} {z : Int} {c : Str} (hc : i ∈ coverM pl s.1 c) (hz : 0 ≤ z) : StOk pl (s.1, s.2.set i z) where
  day := so.day
  len := by
    show (s.2.set i z).length = _
    rw [List.length_set, so.len]
  pos := pos_of_restN fun j => by
    rw [restN_set (by rw [so.len]; exact cover_lt hc)]
    split
    · exact hz
    · exact restN_pos so.pos j
  gone := fun j hj h => by
    show restN (s.2.set i z) j = 0
    have h' : lastD (rowN pl j) < s.1 := h
    rw [restN_set (by rw [so.len]; exact cover_lt hc), if_neg (fun e => by
      subst e
      have := cover_last hc
      omega)]
    exact so.gone j hj h'
theorem st_taken {pl : PlanD} {s : State} (so : StOk pl s) {c : Str} {ch : Ch} (h : ch ∈ choicesM pl s c) : StOk pl (takenM pl s c ch).2 := by
  cases ch with
  | pay => exact so
  | draw i =>
    obtain ⟨h1, h2⟩ := mem_draw h
    exact st_set so h1 (by omega)
  | buy i =>
    obtain ⟨h1, h2, _, h3⟩ := mem_buy h
    exact st_set so h1 (by omega)
/-! ### runs -/
theorem run_snoc (pl : PlanD) (ord : List Str) (ds : List Deed) (d : Deed) : runM pl ord (ds ++ [d]) = stepM pl ord (runM pl ord ds) d := by
  unfold runM
  rw [List.foldl_append]
  rfl
def dayOf (ds : List Deed) : Int := (ds.countP fun d => d.isNone : Nat)
theorem deeds_app {pl : PlanD} : ∀ {a b : List Deed} {d : Int}, DeedsOk pl d (a ++ b) → DeedsOk pl d a ∧ DeedsOk pl (d + dayOf a) b
  | [], b, d, h => ⟨trivial, by
      have e : d + dayOf [] = d := Int.add_zero d
      rw [e]
      exact h⟩
  | none :: a, b, d, h => by
    obtain ⟨h1, h2⟩ := h
    obtain ⟨h3, h4⟩ := deeds_app (a := a) h2
    refine ⟨⟨h1, h3⟩, ?_⟩
    have e : d + dayOf (none :: a) = d + 1 + dayOf a := by
      unfold dayOf
      rw [List.countP_cons_of_pos (by rfl)]
      omega
    rw [e]
    exact h4
  | some c :: a, b, d, h => by
    obtain ⟨h1, h2⟩ := h
    obtain ⟨h3, h4⟩ := deeds_app (a := a) h2
    refine ⟨⟨h1, h3⟩, ?_⟩
    have e : d + dayOf (some c :: a) = d + dayOf a := by
      unfold dayOf
      rw [List.countP_cons_of_neg (by simp)]
    rw [e]
    exact h4
/-- units used, units bought -/
def usedN (m : List (Option Ch)) : Int := (m.countP fun o => match o with | some .pay => false | some _ => true | none => false : Nat)
def boughtN (pl : PlanD) (m : List (Option Ch)) : Int := (m.map fun o => match o with | some (.buy i) => (rowN pl i).amount | _ => 0).sum
structure RunI (pl : PlanD) (ds : List Deed) (r : Run) : Prop where
  so : StOk pl r.now
  day : r.now.1 = dayOf ds
  len : r.made.length = ds.length
  lens : r.sums.length = ds.length
  dues : ∀ z ∈ r.sums, 0 ≤ z
  kept : (pl.rows.map (·.amount)).sum + boughtN pl r.made = usedN r.made + (r.gone.map (·.2.2)).sum + r.now.2.sum
theorem usedN_snoc (m : List (Option Ch)) (o : Option Ch) : usedN (m ++ [o]) = usedN m + usedN [o] := by
  unfold usedN
  rw [List.countP_append]
  omega
theorem boughtN_snoc (pl : PlanD) (m : List (Option Ch)) (o : Option Ch) : boughtN pl (m ++ [o]) = boughtN pl m + boughtN pl [o] := by
  unfold boughtN
  rw [List.map_append, List.sum_append]
theorem dayOf_snoc (ds : List Deed) (d : Deed) : dayOf (ds ++ [d]) = dayOf ds + dayOf [d] := by
  unfold dayOf
  rw [List.countP_append]
  omega
theorem due_pos {pl : PlanD} (ok : PlanOk pl) {s : State} {c : Str} {ch : Ch} (hc : c ∈ pl.prices.map (·.1)) (h : ch ∈ choicesM pl s c) : 0 ≤ (takenM pl s c ch).1 := by
  cases ch with
  | pay =>
    show 0 ≤ priceN pl c
    unfold priceN
    cases e : pl.prices.find? (fun z => decide (z.1 = c)) with
    | none => exact Int.le_refl 0
    | some z => exact (ok.pok z (List.mem_of_find?_eq_some e)).2.1
  | draw i => exact Int.le_refl 0
  | buy i =>
    obtain ⟨h1, h2, ⟨z, hz⟩, h3⟩ := mem_buy h
    show 0 ≤ ((rowN pl i).cost).getD 0
    rw [hz]
    exact ((ok.row (cover_lt h1)).ok.co z hz).1
theorem runI {pl : PlanD} (ok : PlanOk pl) (ord : List Str) : ∀ {n : Nat} {ds : List Deed}, ds.length = n → DeedsOk pl 0 ds → RunI pl ds (runM pl ord ds)
  | 0, ds, hn, _ => by
    have e : ds = [] := List.eq_nil_of_length_eq_zero hn
    subst e
    refine ⟨st_start ok, rfl, rfl, rfl, (fun z h => by cases h), ?_⟩
    show (pl.rows.map (·.amount)).sum + 0 = 0 + 0 + (pl.rows.map _).sum
    omega
  | n + 1, ds, hn, hd => by
    have hne : ds ≠ [] := fun e => by
      subst e
      cases hn
    obtain ⟨a, d, rfl⟩ : ∃ a d, ds = a ++ [d] := ⟨ds.dropLast, ds.getLast hne, (List.dropLast_concat_getLast hne).symm⟩
    obtain ⟨h1, h2⟩ := deeds_app hd
    have ih := runI ok ord (n := n) (ds := a) (by rw [List.length_append] at hn; simpa using hn) h1
    rw [run_snoc]
    have hday := ih.day
    rw [Int.zero_add] at h2
    cases d with
    | none =>
      obtain ⟨h3, _⟩ := h2
      refine ⟨st_night ok ih.so (by rw [hday]; exact h3), ?_, ?_, ?_, ?_, ?_⟩
      · show (runM pl ord a).now.1 + 1 = _
        rw [dayOf_snoc, hday]
        rfl
      · show ((runM pl ord a).made ++ [none]).length = _
        rw [List.length_append, List.length_append, ih.len]
        rfl
      · show ((runM pl ord a).sums ++ [0]).length = _
        rw [List.length_append, List.length_append, ih.lens]
        rfl
      · intro z hz
        have hz' : z ∈ (runM pl ord a).sums ++ [0] := hz
        rcases List.mem_append.mp hz' with hz | hz
        · exact ih.dues z hz
        · rw [List.mem_singleton.mp hz]
          exact Int.le_refl 0
      · show _ + boughtN pl ((runM pl ord a).made ++ [none]) = usedN ((runM pl ord a).made ++ [none]) + (((runM pl ord a).gone ++ (lostM pl (runM pl ord a).now).map fun q => ((runM pl ord a).now.1, q.1, q.2)).map (·.2.2)).sum + (nightK pl (runM pl ord a).now pl.rows.length).sum
        rw [boughtN_snoc, usedN_snoc, List.map_append, List.sum_append, List.map_map]
        have hk := ih.kept
        have hs := (nightI ok ih.so _ (Nat.le_refl _)).sum
        have e0 : boughtN pl [none] = 0 := rfl
        have e1 : usedN [none] = 0 := rfl
        have e2 : ((lostM pl (runM pl ord a).now).map ((fun x : Int × Str × Int => x.2.2) ∘ fun q => ((runM pl ord a).now.1, q.1, q.2))).sum = ((lostK pl (runM pl ord a).now pl.rows.length).map (·.2)).sum := rfl
        rw [e0, e1, e2]
        omega
    | some c =>
      obtain ⟨h3, _⟩ := h2
      have hmem := choiceM_mem ok ord (runM pl ord a).now c
      refine ⟨st_taken ih.so hmem, ?_, ?_, ?_, ?_, ?_⟩
      · show (takenM pl (runM pl ord a).now c _).2.1 = _
        have e : ∀ ch, (takenM pl (runM pl ord a).now c ch).2.1 = (runM pl ord a).now.1 := fun ch => by cases ch <;> rfl
        rw [e, dayOf_snoc, hday]
        show _ = _ + 0
        omega
      · show ((runM pl ord a).made ++ [_]).length = _
        rw [List.length_append, List.length_append, ih.len]
        rfl
      · show ((runM pl ord a).sums ++ [_]).length = _
        rw [List.length_append, List.length_append, ih.lens]
        rfl
      · intro z hz
        have hz' : z ∈ (runM pl ord a).sums ++ [_] := hz
        rcases List.mem_append.mp hz' with hz | hz
        · exact ih.dues z hz
        · rw [List.mem_singleton.mp hz]
          exact due_pos ok h3 hmem
      · show _ + boughtN pl ((runM pl ord a).made ++ [some _]) = usedN ((runM pl ord a).made ++ [some _]) + ((runM pl ord a).gone.map (·.2.2)).sum + (takenM pl (runM pl ord a).now c _).2.2.sum
        rw [boughtN_snoc, usedN_snoc]
        have hk := ih.kept
        generalize choiceM pl ord (runM pl ord a).now c = ch at hmem
        cases ch with
        | pay =>
          have e0 : boughtN pl [some .pay] = 0 := rfl
          have e1 : usedN [some .pay] = 0 := rfl
          rw [e0, e1]
          show _ = _ + _ + (runM pl ord a).now.2.sum
          omega
        | draw i =>
          obtain ⟨g1, g2⟩ := mem_draw hmem
          have e0 : boughtN pl [some (.draw i)] = 0 := rfl
          have e1 : usedN [some (.draw i)] = 1 := rfl
          rw [e0, e1]
          show _ = _ + _ + ((runM pl ord a).now.2.set i _).sum
          rw [sum_setN (by rw [ih.so.len]; exact cover_lt g1)]
          omega
        | buy i =>
          obtain ⟨g1, g2, _, g3⟩ := mem_buy hmem
          have e0 : boughtN pl [some (.buy i)] = (rowN pl i).amount := by
            unfold boughtN
            simp
          have e1 : usedN [some (.buy i)] = 1 := rfl
          rw [e0, e1]
          show _ = _ + _ + ((runM pl ord a).now.2.set i _).sum
          rw [sum_setN (by rw [ih.so.len]; exact cover_lt g1), g2]
          omega
end Nd
set_option Elab.async false
set_option linter.all false
set_option maxRecDepth 100000
set_option maxHeartbeats 2000000
namespace Nd
open PySem PySem.Spec PyProof.Rows L2
def deedV : Deed → List V
  | none => [.str "night"]
  | some c => [.str "use", .str c]
theorem eqv_night (d : Deed) : PyData.eqv (deedD d) (.tuple [.str "night"]) = d.isNone := by
  cases d with
  | none => decide +kernel
  | some c => simp [deedD, PyData.eqv, PyData.eqvAll]
theorem deed_shaped {pl : PlanD} (ok : PlanOk pl) {d : Deed} (h : ∀ c, d = some c → c ∈ pl.prices.map (·.1)) : SeqAt.shaped (deedD d) = true := by
  cases d with
  | none => decide +kernel
  | some c => exact shaped_of (pair_can (by decide +kernel) (ok.cell (h c rfl))) (by show (pairSS "use" c).depth ≤ 64; rw [pair_depth]; decide)
section
variable {P : Program} {w : World} {K : PySem.W.Frag} {mg : Str → Option Value} {base : Heap}
theorem deed_inv {H : Hp} {u : V} {d : Deed} (h : Td K H u (deedD d)) : ∃ p, u = .ref p ∧ TupAt K H p (deedV d) := by
  cases d with
  | none => exact one_inv h
  | some c => exact pairSS_inv h
/-! ### is_deed, can_do, need_deeds -/
def spIsDeed (K : PySem.W.Frag) : Sp := fun vs H Q _ => ∃ (x : Addr) (u : V) (pl : PlanD) (d : Deed), vs = [.ref x, u] ∧ PlanAt K H x pl ∧ PlanOk pl ∧ Td K H u (deedD d) ∧ (∀ c, d = some c → c ∈ pl.prices.map (·.1)) ∧ Q (.bl true) H
theorem sc_is_deed : FnScope ["plan", "thing"] ["plan", "thing"] (defScope (top 60)) := ⟨rfl, rfl, rfl, by decide +kernel, rfl, by decide +kernel, by decide +kernel⟩
theorem ok_is_deed (T : Tx K mg) : Cal P w K mg base 1 "is_deed" (spIsDeed K) := by
  refine Cal.of (T.f ("is_deed", 60)) sc_is_deed (fun _ _ _ _ _ _ us hl => match us, hl with | [_, _], _ => rfl) (fun vs H Q E h => ?_) (fun f cdv A outer s H vs Q E hr h => ?_)
  · obtain ⟨x, u, pl, d, rfl, _⟩ := h
    rfl
  · obtain ⟨x, u, pl, d, rfl, ⟨r, n, m, as, hp⟩, ok, hu, hc, k⟩ := h
    obtain ⟨ni, mni, hni⟩ := T.night
    refine ⟨_, pss_cons (ps_if (pw_or (pt_not (pt_val (pisi "tuple" (T.z "isinstance") (T.z "tuple") (pv 1)))) <| pw_or (pt_cmpR op_eq (plen (T.z "len") (pv 1)) pe_int (nomark _)) <| pw_or1 <| pt_not <| pt_val <| pisi "str" (T.z "isinstance") (T.z "str") (pe_ix ix_tup (pv 1) pe_int (fun _ _ => rfl))).pt pss_never pss_nil) <|
      pss_cons (ps_if (pt_cmpR op_eq (plen (T.z "len") (pv 1)) pe_int (nomark _)) (pss_one <| ps_ret <| pe_cmpR (op_eqD hr.units) (pv 1) (pcon (v := .ref ni) ⟨_, mni, rfl⟩) (nomark _)) pss_nil) <|
      pss_one <| ps_ret <| pe_and (pe_cmpR op_eq (plen (T.z "len") (pv 1)) pe_int (nomark _)) <| pe_and (pe_cmpR op_eq (pe_ix ix_tup (pv 1) pe_int (fun _ _ => rfl)) pe_str (nomark _)) <|
        pe_and (pisi "str" (T.z "isinstance") (T.z "str") (pe_ix ix_tup (pv 1) pe_int (fun _ _ => rfl))) <| pe_one <| pe_cmp (pc_din (hu_of hr) (pe_ix ix_tup (pv 1) pe_int (fun _ _ => rfl)) (pav K (pv 0))), ?_⟩
    obtain ⟨p, rfl, hpp⟩ := deed_inv hu
    refine ⟨_, rfl, _, _, _, _, true, rfl, .ty _, Td.ty hpp, kit_ty (by decide +kernel), true, rfl, iteF ?_⟩
    cases d with
    | none =>
      refine ⟨_, rfl, _, 1, rfl, .inr ⟨_, hpp.sq, rfl⟩, rfl, _, rfl, iteF ?_⟩
      refine ⟨_, rfl, p, _, 0, _, rfl, rfl, hpp.sq, rfl, _, _, _, _, true, rfl, .ty _, .base (.str _), kit_ty (by decide +kernel), true, rfl, iteF ?_⟩
      refine ⟨_, rfl, _, 1, rfl, .inr ⟨_, hpp.sq, rfl⟩, rfl, _, rfl, iteT ?_⟩
      refine ⟨_, rfl, _, .tuple [.str "night"], hu.dp, .tup (hni _) (.cons (.str _) .nil), by decide +kernel, by decide +kernel, ?_⟩
      rw [eqv_night]
      exact k
    | some c =>
      refine ⟨_, rfl, _, 2, rfl, .inr ⟨_, hpp.sq, rfl⟩, rfl, _, rfl, iteF ?_⟩
      refine ⟨_, rfl, p, _, 0, _, rfl, rfl, hpp.sq, rfl, _, _, _, _, true, rfl, .ty _, .base (.str _), kit_ty (by decide +kernel), true, rfl, iteF ?_⟩
      refine ⟨_, rfl, _, 2, rfl, .inr ⟨_, hpp.sq, rfl⟩, rfl, _, rfl, iteF ?_⟩
      refine ⟨_, rfl, _, 2, rfl, .inr ⟨_, hpp.sq, rfl⟩, rfl, _, rfl, iteT ?_⟩
      refine ⟨_, rfl, p, _, 0, _, rfl, rfl, hpp.sq, rfl, rfl, _, rfl, iteD (by rfl) ?_⟩
      refine ⟨_, rfl, p, _, 1, _, rfl, rfl, hpp.sq, rfl, _, _, _, _, true, rfl, .ty _, .base (.str _), kit_ty (by decide +kernel), true, rfl, iteT ?_⟩
      refine ⟨_, rfl, p, _, 1, _, rfl, rfl, hpp.sq, rfl, _, _, rfl, hp.fPrices T, r, _, rfl, .inl ⟨_, Sum.inr c, .inl hp.pr, rfl, rfl⟩, ?_⟩
      rw [prK_in (hc c rfl)]
      exact k
def spCanDo (K : PySem.W.Frag) : Sp := fun vs H Q _ => ∃ (x : Addr) (u : V) (pl : PlanD) (dy : Int) (d : Deed), vs = [.ref x, .int dy, u] ∧ PlanAt K H x pl ∧ PlanOk pl ∧ Td K H u (deedD d) ∧ (∀ c, d = some c → c ∈ pl.prices.map (·.1)) ∧ (d = none → dy < pl.days - 1) ∧ Q (.bl true) H
theorem sc_can_do : FnScope ["plan", "day", "thing"] ["plan", "day", "thing"] (defScope (top 61)) := ⟨rfl, rfl, rfl, by decide +kernel, rfl, by decide +kernel, by decide +kernel⟩
theorem ok_can_do (T : Tx K mg) : Cal P w K mg base 2 "can_do" (spCanDo K) := by
  refine Cal.of (T.f ("can_do", 61)) sc_can_do (fun _ _ _ _ _ _ us hl => match us, hl with | [_, _, _], _ => rfl) (fun vs H Q E h => ?_) (fun f cdv A outer s H vs Q E hr h => ?_)
  · obtain ⟨x, u, pl, dy, d, rfl, _⟩ := h
    rfl
  · obtain ⟨x, u, pl, dy, d, rfl, hpl, ok, hu, hc, hd, k⟩ := h
    obtain ⟨ni, mni, hni⟩ := T.night
    refine ⟨_, pss_one <| ps_ret <| pe_and (pcl (ok_is_deed T) hr (pa2 (pv 0) (pv 2))) <| pe_one <| pe_or (pe_cmpR (op_neD hr.units) (pv 2) (pcon (v := .ref ni) ⟨_, mni, rfl⟩) (nomark _)) <| pe_one <| pe_cmpR op_lt (pv 1) (pe_op op_sub (pav K (pv 0)) pe_int) (nomark _), ?_⟩
    refine ⟨_, rfl, _, rfl, x, u, pl, d, rfl, hpl, ok, hu, hc, true, rfl, iteT ?_⟩
    refine ⟨_, rfl, _, .tuple [.str "night"], hu.dp, .tup (hni _) (.cons (.str _) .nil), deed_shaped ok hc, by decide +kernel, _, rfl, ?_⟩
    rw [eqv_night]
    obtain ⟨r, n, m, as, hp⟩ := hpl
    cases d with
    | some c => exact iteT k
    | none => exact iteF ⟨_, rfl, _, _, rfl, hp.fDays T, _, 1, rfl, rfl, _, _, rfl, rfl, ebl (decide_eq_true (hd rfl)) k⟩
structure DeedAt (K : PySem.W.Frag) (H : Hp) (l : Addr) (ds : List Deed) : Prop where
  at_ : ∃ xs, H l = some (.lst xs) ∧ TdAll K H xs (ds.map deedD)
  len : ds.length ≤ 100
theorem DeedAt.keep {H H' : Hp} {l : Addr} {ds : List Deed} (h : DeedAt K H l ds) (k : Same H H') : DeedAt K H' l ds := by
  obtain ⟨xs, h1, h2⟩ := h.at_
  exact ⟨⟨xs, k _ _ h1, h2.keep (TK.of k)⟩, h.len⟩
def spNeedDeeds (K : PySem.W.Frag) : Sp := fun vs H Q _ => ∃ (x l : Addr) (pl : PlanD) (ds : List Deed), vs = [.ref x, .ref l] ∧ PlanAt K H x pl ∧ PlanOk pl ∧ DeedAt K H l ds ∧ DeedsOk pl 0 ds ∧ ∀ H', Same H H' → Q .non H'
theorem sc_need_deeds : FnScope ["plan", "deeds", "day", "at", "deed"] ["plan", "deeds"] (defScope (top 62)) := ⟨rfl, rfl, rfl, by decide +kernel, rfl, by decide +kernel, by decide +kernel⟩
theorem drop_at {α : Type} {l : List α} {i : Nat} {a : α} (h : l[i]? = some a) : l.drop i = a :: l.drop (i + 1) := by
  obtain ⟨hi, e⟩ := List.getElem?_eq_some_iff.mp h
  rw [List.drop_eq_getElem_cons hi, e]
theorem ok_need_deeds (T : Tx K mg) : Cal P w K mg base 3 "need_deeds" (spNeedDeeds K) := by
  refine Cal.of (T.f ("need_deeds", 62)) sc_need_deeds (fun _ _ _ _ _ _ us hl => match us, hl with | [_, _], _ => rfl) (fun vs H Q E h => ?_) (fun f cdv A outer s H vs Q E hr h => ?_)
  · obtain ⟨x, l, pl, ds, rfl, _⟩ := h
    rfl
  · obtain ⟨x, l, pl, ds, rfl, hpl, ok, da, hds, k⟩ := h
    obtain ⟨ni, mni, hni⟩ := T.night
    have nd := sc_need_deeds.nd
    refine ⟨_, pss_cons (ps_if (pt_not (pt_val (pcl (ok_is_list T) hr (pa1 (pv 1))))) pss_never pss_nil) <|
      pss_cons (pst 2 nd pe_int) <|
      pss_one <| ps_for PassesOwn.never rfl (pi_enum rfl (T.z "enumerate") (pa1 (pv 1))) (pg_tup rfl (pgs_cons (pgn 3 nd) (pgs_cons (pgn 4 nd) pgs_nil))) <|
        pss_cons (ps_if (pt_not (pt_val (pcl (ok_can_do T) hr (pa3 (pv 0) (pv 2) (pv 4))))) pss_never pss_nil) <|
        pss_one <| ps_if (pt_cmpR (op_eqD hr.units) (pv 4) (pcon (v := .ref ni) ⟨_, mni, rfl⟩) (nomark _)) (pss_one <| ps_aug (i := 2) nd rfl (Or.inl rfl) pe_int ip_add) pss_nil, ?_⟩
    obtain ⟨⟨xs, hl, htd⟩, hlen⟩ := da
    have hxl : xs.length = ds.length := by rw [htd.len, List.length_map]
    refine ⟨_, rfl, l, xs, rfl, hl, fun H1 s1 => ⟨true, rfl, iteF ?_⟩⟩
    refine ⟨_, rfl, l, xs, rfl, SqL.of (s1 _ _ hl), ?_⟩
    refine for_it walk_enum (fun i σ H' => Same H H' ∧ ∃ (dy : Int) (z1 z2 : Option V), σ = [some (.ref x), some (.ref l), some (.int dy), z1, z2] ∧ DeedsOk pl dy (ds.drop i)) ⟨s1, 0, none, none, rfl, hds⟩ (fun i σ H' _ h => SqL.of (h.1 _ _ hl)) (fun i v σ H3 H4 hi h y => ?_) (fun σ H3 h => ?_)
    · obtain ⟨sm, dy, z1, z2, rfl, hdo⟩ := h
      obtain ⟨t, v1, v2, rfl, ht, rfl, hv1, hv2⟩ := y
      have e1 : v1 = .int (i : Nat) := (Option.some.inj hv1).symm
      subst e1
      obtain ⟨d, hd, td⟩ := htd.map_at hv2
      rw [drop_at hd] at hdo
      have s4 := sup (o := .tup [.int (i : Nat), v2]) sm ht
      have td4 := td.keep (TK.of s4)
      have hcell : ∀ c, d = some c → c ∈ pl.prices.map (·.1) := fun c e => by
        subst e
        exact hdo.1
      refine ⟨t, _, rfl, SqT.of upd_same, rfl, _, _, rfl, _, _, rfl, rfl, ?_⟩
      refine ⟨_, rfl, _, rfl, _, rfl, x, v2, pl, dy, d, rfl, hpl.keep s4, ok, td4, hcell, (fun e => by subst e; exact hdo.1), true, rfl, iteF ?_⟩
      refine ⟨_, rfl, _, .tuple [.str "night"], td4.dp, .tup (hni _) (.cons (.str _) .nil), deed_shaped ok hcell, by decide +kernel, _, rfl, ?_⟩
      rw [eqv_night]
      cases d with
      | none => exact iteT ⟨_, rfl, _, _, rfl, rfl, s4, dy + 1, _, _, rfl, hdo.2⟩
      | some c => exact iteF ⟨s4, dy, _, _, rfl, hdo.2⟩
    · exact k _ h.1
end
end Nd
set_option Elab.async false
set_option linter.all false
set_option maxRecDepth 100000
set_option maxHeartbeats 2000000
namespace Nd
open PySem PySem.Spec PyProof.Rows L2
def drF (m su g now : V) : List (Str × V) := [("made", m), ("sums", su), ("gone", g), ("now", now)]
theorem drF_made (m su g now : V) : (drF m su g now).lookup ("made" : Str) = some m := rfl
theorem drF_sums (m su g now : V) : (drF m su g now).lookup ("sums" : Str) = some su := rfl
theorem drF_gone (m su g now : V) : (drF m su g now).lookup ("gone" : Str) = some g := rfl
theorem drF_now (m su g now : V) : (drF m su g now).lookup ("now" : Str) = some now := rfl
theorem drF_set (m su g now v : V) : putF "now" v (drF m su g now) = drF m su g v := rfl
theorem drF_new (m su g now : V) : putF "now" now (putF "gone" g (putF "sums" su (putF "made" m []))) = drF m su g now := rfl
theorem But.swr {x m : Addr} {H H' : Hp} {o : HO} (a : But x H H') (hm : H m = none) : But x H (upd H' m o) := fun b u e n => by
  rw [upd_ne (ne_of_none e hm)]
  exact a b u e n
theorem But.plan {K : PySem.W.Frag} {x C dx : Addr} {H H' : Hp} {q : Addr} {pl : PlanD} (a : But x H H') (hx : H x = some (.ins C dx [])) (h : PlanAt K H q pl) : PlanAt K H' q pl := by
  obtain ⟨r, n, m, as, ⟨dx2, h1⟩, h2, ⟨od, o1, o2, h3⟩, h4, h5⟩ := h
  have n1 : q ≠ x := ne_of h1 hx (by
    intro e
    injection e with _ _ e3
    have := congrArg (List.lookup ("own_prices" : Str)) e3
    rw [plF_prices] at this
    cases this)
  refine ⟨r, n, m, as, ⟨dx2, a _ _ h1 n1⟩, a _ _ h2 (ne_of h2 hx (by intro e; cases e)), ⟨od, o1, o2, a _ _ h3 (ne_of h3 hx (by intro e; cases e))⟩, a _ _ h4 (ne_of h4 hx (by intro e; cases e)), ?_⟩
  have go : ∀ {as : List Addr} {ps : List PackD}, PacksAt K H as ps → PacksAt K H' as ps := fun {as ps} h => by
    induction h with
    | nil => exact .nil
    | cons h _ ih => exact .cons (a.pack hx h) ih
  exact go h5
/-- what a Drawn holds -/
structure DrAt (K : PySem.W.Frag) (pl : PlanD) (x m su g : Addr) (H : Hp) (r : Run) : Prop where
  ob : ∃ dx nv, H x = some (.ins (CD K) dx (drF (.ref m) (.ref su) (.ref g) nv)) ∧ Td K H nv (stateD r.now)
  mm : ∃ ms, H m = some (.lst ms) ∧ TdAll K H ms (r.made.map (ochD pl))
  ss : H su = some (.lst (r.sums.map V.int))
  gg : ∃ gs, H g = some (.lst gs) ∧ TdAll K H gs (r.gone.map goneD)
  n1 : m ≠ su
  n2 : m ≠ g
  n3 : su ≠ g
section
variable {K : PySem.W.Frag} {pl : PlanD} {x m su g : Addr} {H H' : Hp} {r : Run}
theorem DrAt.keep (h : DrAt K pl x m su g H r) (s : Same H H') : DrAt K pl x m su g H' r := by
  obtain ⟨⟨dx, nv, a1, a2⟩, ⟨ms, b1, b2⟩, c, ⟨gs, d1, d2⟩, n1, n2, n3⟩ := h
  exact ⟨⟨dx, nv, s _ _ a1, a2.keep (TK.of s)⟩, ⟨ms, s _ _ b1, b2.keep (TK.of s)⟩, s _ _ c, ⟨gs, s _ _ d1, d2.keep (TK.of s)⟩, n1, n2, n3⟩
theorem DrAt.fMade {mg : Str → Option Value} (T : Tx K mg) (h : DrAt K pl x m su g H r) : FR K H (.ref x) "made" (.ref m) := by
  obtain ⟨dx, nv, a1, _⟩ := h.ob
  exact ⟨x, _, dx, _, rfl, a1, T.D.cl, T.D.no _ (by decide +kernel), drF_made _ _ _ _⟩
theorem DrAt.fSums {mg : Str → Option Value} (T : Tx K mg) (h : DrAt K pl x m su g H r) : FR K H (.ref x) "sums" (.ref su) := by
  obtain ⟨dx, nv, a1, _⟩ := h.ob
  exact ⟨x, _, dx, _, rfl, a1, T.D.cl, T.D.no _ (by decide +kernel), drF_sums _ _ _ _⟩
theorem DrAt.fGone {mg : Str → Option Value} (T : Tx K mg) (h : DrAt K pl x m su g H r) : FR K H (.ref x) "gone" (.ref g) := by
  obtain ⟨dx, nv, a1, _⟩ := h.ob
  exact ⟨x, _, dx, _, rfl, a1, T.D.cl, T.D.no _ (by decide +kernel), drF_gone _ _ _ _⟩
theorem DrAt.fNow {mg : Str → Option Value} (T : Tx K mg) (h : DrAt K pl x m su g H r) : ∃ nv, FR K H (.ref x) "now" nv ∧ Td K H nv (stateD r.now) := by
  obtain ⟨dx, nv, a1, a2⟩ := h.ob
  exact ⟨nv, ⟨x, _, dx, _, rfl, a1, T.D.cl, T.D.no _ (by decide +kernel), drF_now _ _ _ _⟩, a2⟩
theorem DrAt.addMade {ms : List V} {v : V} {o : Option Ch} (h : DrAt K pl x m su g H r) (e : H m = some (.lst ms)) (tv : Td K H v (ochD pl o)) : DrAt K pl x m su g (upd H m (.lst (ms ++ [v]))) { r with made := r.made ++ [o] } := by
  obtain ⟨⟨dx, nv, a1, a2⟩, ⟨ms', b1, b2⟩, c, ⟨gs, d1, d2⟩, n1, n2, n3⟩ := h
  rw [e] at b1
  cases b1
  have tk : TK H (upd H m (.lst (ms ++ [v]))) := TK.updL e
  refine ⟨⟨dx, nv, (upd_ne (ne_of a1 e (by intro z; cases z))).trans a1, a2.keep tk⟩, ⟨_, upd_same, ?_⟩, (upd_ne (Ne.symm n1)).trans c, ⟨gs, (upd_ne (Ne.symm n2)).trans d1, d2.keep tk⟩, n1, n2, n3⟩
  show TdAll K _ _ ((r.made ++ [o]).map _)
  rw [List.map_append]
  exact (b2.keep tk).snoc (tv.keep tk)
theorem DrAt.addSum {z : Int} (h : DrAt K pl x m su g H r) : DrAt K pl x m su g (upd H su (.lst (r.sums.map V.int ++ [.int z]))) { r with sums := r.sums ++ [z] } := by
  obtain ⟨⟨dx, nv, a1, a2⟩, ⟨ms', b1, b2⟩, c, ⟨gs, d1, d2⟩, n1, n2, n3⟩ := h
  have tk : TK H (upd H su (.lst (r.sums.map V.int ++ [.int z]))) := TK.updL c
  refine ⟨⟨dx, nv, (upd_ne (ne_of a1 c (by intro z; cases z))).trans a1, a2.keep tk⟩, ⟨_, (upd_ne n1).trans b1, b2.keep tk⟩, ?_, ⟨gs, (upd_ne (Ne.symm n3)).trans d1, d2.keep tk⟩, n1, n2, n3⟩
  rw [upd_same, List.map_append]
  rfl
theorem DrAt.addGone {gs zs : List V} {q : List (Int × Str × Int)} (h : DrAt K pl x m su g H r) (e : H g = some (.lst gs)) (tz : TdAll K H zs (q.map goneD)) : DrAt K pl x m su g (upd H g (.lst (gs ++ zs))) { r with gone := r.gone ++ q } := by
  obtain ⟨⟨dx, nv, a1, a2⟩, ⟨ms', b1, b2⟩, c, ⟨gs', d1, d2⟩, n1, n2, n3⟩ := h
  rw [e] at d1
  cases d1
  have tk : TK H (upd H g (.lst (gs ++ zs))) := TK.updL e
  refine ⟨⟨dx, nv, (upd_ne (ne_of a1 e (by intro z; cases z))).trans a1, a2.keep tk⟩, ⟨_, (upd_ne n2).trans b1, b2.keep tk⟩, (upd_ne n3).trans c, ⟨_, upd_same, ?_⟩, n1, n2, n3⟩
  show TdAll K _ _ ((r.gone ++ q).map _)
  rw [List.map_append]
  exact (d2.keep tk).app (tz.keep tk)
theorem DrAt.setNow {dx : Addr} {fs : List (Str × V)} {v : V} {s : State} (h : DrAt K pl x m su g H r) (e : H x = some (.ins (CD K) dx fs)) (tv : Td K H v (stateD s)) : DrAt K pl x m su g (upd H x (.ins (CD K) dx (putF "now" v fs))) { r with now := s } := by
  obtain ⟨⟨dx', nv, a1, a2⟩, ⟨ms', b1, b2⟩, c, ⟨gs', d1, d2⟩, n1, n2, n3⟩ := h
  rw [e] at a1
  cases a1
  have tk : TK H (upd H x (.ins (CD K) dx (putF "now" v (drF (.ref m) (.ref su) (.ref g) nv)))) := TK.wr fun xs z => by
    rw [e] at z
    cases z
  exact ⟨⟨dx, v, upd_same, tv.keep tk⟩, ⟨_, (upd_ne (ne_of b1 e (by intro z; cases z))).trans b1, b2.keep tk⟩, (upd_ne (ne_of c e (by intro z; cases z))).trans c, ⟨_, (upd_ne (ne_of d1 e (by intro z; cases z))).trans d1, d2.keep tk⟩, n1, n2, n3⟩
end
theorem gone_len {pl : PlanD} (ok : PlanOk pl) (ord : List Str) : ∀ (ds : List Deed) (r : Run), (ds.foldl (stepM pl ord) r).gone.length ≤ r.gone.length + 4 * ds.length
  | [], r => by simp
  | d :: ds, r => by
    have h1 := gone_len ok ord ds (stepM pl ord r d)
    have h2 : (stepM pl ord r d).gone.length ≤ r.gone.length + 4 := by
      cases d with
      | none =>
        show (r.gone ++ _).length ≤ _
        rw [List.length_append, List.length_map]
        have := lostK_len pl r.now pl.rows.length
        have := ok.r4
        unfold lostM
        omega
      | some c =>
        show r.gone.length ≤ _
        omega
    rw [List.foldl_cons, List.length_cons]
    omega
end Nd
set_option Elab.async false
set_option linter.all false
set_option maxRecDepth 100000
set_option maxHeartbeats 2000000
namespace Nd
open PySem PySem.Spec PyProof.Rows L2
theorem deed_take {pl : PlanD} {ds : List Deed} (h : DeedsOk pl 0 ds) (i : Nat) : DeedsOk pl 0 (ds.take i) := (deeds_app (a := ds.take i) (b := ds.drop i) (by rw [List.take_append_drop]; exact h)).1
/-- a deed that comes next can be done -/
theorem deed_next {pl : PlanD} {ds : List Deed} (h : DeedsOk pl 0 ds) {i : Nat} {d : Deed} (e : ds[i]? = some d) : DeedsOk pl (dayOf (ds.take i)) [d] := by
  have h1 := (deeds_app (a := ds.take i) (b := ds.drop i) (by rw [List.take_append_drop]; exact h)).2
  rw [drop_at e, Int.zero_add] at h1
  exact (deeds_app (a := [d]) h1).1
theorem lost_nd {pl : PlanD} (ok : PlanOk pl) (s : State) : ∀ i, i ≤ pl.rows.length → ((lostK pl s i).map (·.1)).Nodup
  | 0, _ => List.nodup_nil
  | i + 1, h => by
    have ih := lost_nd ok s i (by omega)
    show ((lostK pl s i ++ _).map (·.1)).Nodup
    split
    · rw [List.map_append]
      exact nd_snoc ih (lostK_new ok s (by omega))
    · rw [List.append_nil]
      exact ih
section
variable {P : Program} {w : World} {K : PySem.W.Frag} {mg : Str → Option Value} {base : Heap}
theorem Td.gone {H : Hp} {p : Addr} {g : Int × Str × Int} (hp : H p = some (.tup [.int g.1, .str g.2.1, .int g.2.2])) : Td K H (.ref p) (goneD g) := .tup (.inl hp) (.cons (.int _) (.cons (.str _) (.cons (.int _) .nil)))
/-! ### Drawn.__init__ -/
def spDrawnInit (K : PySem.W.Frag) : Sp := fun vs H Q _ => ∃ (x dx p t l : Addr) (pl : PlanD) (ord : List Str) (ds : List Deed), vs = [.ref x, .ref p, .ref t, .ref l] ∧ H x = some (.ins (CD K) dx []) ∧ OrdAt K H p t pl ord ∧ DeedAt K H l ds ∧ DeedsOk pl 0 ds ∧
  ∀ m su g H', H m = none → H g = none → But x H H' → DrAt K pl x m su g H' (runM pl ord ds) → Q .non H'
theorem sc_drawn0 : FnScope ["self", "plan", "order", "deeds", "deed", "losses", "due", "name"] ["self", "plan", "order", "deeds"] (defScope (inClass (top 63) 0)) := ⟨rfl, rfl, rfl, by decide +kernel, rfl, by decide +kernel, by decide +kernel⟩
theorem ok_drawn0 (T : Tx K mg) : Mak P w K mg base 4 "Drawn" (CD K) (spDrawnInit K) := by
  refine Mak.of T.D T.iD sc_drawn0 (fun _ _ _ _ _ _ us hl => match us, hl with | [_, _, _, _], _ => rfl) (fun vs H Q E h => ?_) (fun f cdv A outer s H vs Q E hr h => ?_)
  · obtain ⟨x, dx, p, t, l, pl, ord, ds, rfl, _⟩ := h
    rfl
  · obtain ⟨x, dx, p, t, l, pl, ord, ds, rfl, hx, oa, da, dok, k⟩ := h
    obtain ⟨ni, mni, hni⟩ := T.night
    have hu := hu_of hr
    have nd := sc_drawn0.nd
    refine ⟨_, pss_cons (ps_fld (pv 0) (pe_lst pa_nil) rfl) <| pss_cons (ps_fld (pv 0) (pe_lst pa_nil) rfl) <| pss_cons (ps_fld (pv 0) (pe_lst pa_nil) rfl) <|
      pss_cons (ps_fld (pv 0) (pcl (ok_start_of T) hr (pa1 (pv 1))) rfl) <|
      pss_one <| ps_for PassesOwn.never rfl (pi_list (pv 3)) (pgn 4 nd) <|
        pss_one <| ps_if (pt_cmpR (op_eqD hr.units) (pv 4) (pcon (v := .ref ni) ⟨_, mni, rfl⟩) (nomark _))
          (pss_cons (pst 5 nd (pcl (ok_lost_at T) hr (pa2 (pv 1) (pav K (pv 0))))) <|
            pss_cons (ps_expr (pe_bm PySem.F.plainAttrs_list PySem.F.slot_list_extend PySem.F.type_list_extend mt_extend (pav K (pv 0)) (pa1 (pe_lock (pe_lc (own := [("name", 7)]) (g := gName 7) (tt := tYes) rfl nd (pi_keys (pv 5)) (blkOk_by (N := ["self", "plan", "order", "deeds", "deed", "losses", "due", "name"]) (sc := defScope (inClass (top 63) 0)) (by decide +kernel)) (fun _ _ _ _ _ => pgn 7 nd) (fun _ _ _ _ _ => pts_nil)
              (fun _ _ _ _ _ => pe_tup (pa3 (pixK K (pav K (pv 0)) pe_int (fun _ _ => rfl)) (pv 7) (pe_dget hu (pv 5) (pv 7) (fun _ _ => rfl))))))))) <|
            pss_cons (ps_fld (pv 0) (pcl (ok_night_behind T) hr (pa2 (pv 1) (pav K (pv 0)))) rfl) <|
            pss_cons (ps_expr (pe_bm PySem.F.plainAttrs_list PySem.F.slot_list_append PySem.F.type_list_append mt_append (pav K (pv 0)) (pa1 pe_non))) <|
            pss_one <| ps_expr (pe_bm PySem.F.plainAttrs_list PySem.F.slot_list_append PySem.F.type_list_append mt_append (pav K (pv 0)) (pa1 pe_int)))
          (pss_cons (ps_expr (pe_bm PySem.F.plainAttrs_list PySem.F.slot_list_append PySem.F.type_list_append mt_append (pav K (pv 0)) (pa1 (pcl (ok_choice_of T) hr (pa4 (pv 1) (pv 2) (pav K (pv 0)) (pe_ix ix_tup (pv 4) pe_int (fun _ _ => rfl))))))) <|
            pss_cons (ps_asg (pcl (ok_taken_of T) hr (pa4 (pv 1) (pav K (pv 0)) (pe_ix ix_tup (pv 4) pe_int (fun _ _ => rfl)) (pe_ix ix_list (pav K (pv 0)) (pe_un un_neg pe_int) (fun _ _ => rfl)))) (pg_tup rfl (pgs_cons (pgn 6 nd) (pgs_cons (pg_fld (pv 0)) pgs_nil)))) <|
            pss_one <| ps_expr (pe_bm PySem.F.plainAttrs_list PySem.F.slot_list_append PySem.F.type_list_append mt_append (pav K (pv 0)) (pa1 (pv 6)))), ?_⟩
    have ok := oa.ok
    have hlen := da.len
    obtain ⟨⟨xs, hl, htd⟩, _⟩ := id da
    have hxl : xs.length = ds.length := by rw [htd.len, List.length_map]
    have nM : NoAttr K (CD K) "made" := T.D.no _ (by decide +kernel)
    have nS : NoAttr K (CD K) "sums" := T.D.no _ (by decide +kernel)
    have nG : NoAttr K (CD K) "gone" := T.D.no _ (by decide +kernel)
    have nW : NoAttr K (CD K) "now" := T.D.no _ (by decide +kernel)
    have p1 : (putF "made" (.ref 0) ([] : List (Str × V))).length = 1 := rfl
    -- the four fields
    refine ⟨by show 0 ≤ sizeLine; exact Nat.zero_le _, fun m hm => ?_⟩
    have hmx : m ≠ x := fun e => by
      rw [e, hx] at hm
      cases hm
    refine ⟨_, rfl, x, _, dx, [], rfl, (upd_ne (Ne.symm hmx)).trans hx, T.D.cl, nM, by show 0 < 1000; omega, ?_⟩
    refine ⟨by show 0 ≤ sizeLine; exact Nat.zero_le _, fun su hsu => ?_⟩
    have hsx : su ≠ x := fun e => by
      rw [e, upd_same] at hsu
      cases hsu
    have hsm : su ≠ m := fun e => by
      rw [e, upd_ne hmx, upd_same] at hsu
      cases hsu
    refine ⟨_, rfl, x, _, dx, _, rfl, (upd_ne (Ne.symm hsx)).trans upd_same, T.D.cl, nS, by show 1 < 1000; omega, ?_⟩
    refine ⟨by show 0 ≤ sizeLine; exact Nat.zero_le _, fun g hg => ?_⟩
    have hgx : g ≠ x := fun e => by
      rw [e, upd_same] at hg
      cases hg
    have hgs : g ≠ su := fun e => by
      rw [e, upd_ne hsx, upd_same] at hg
      cases hg
    have hgm : g ≠ m := fun e => by
      rw [e, upd_ne hmx, upd_ne (Ne.symm hsm), upd_ne hmx, upd_same] at hg
      cases hg
    refine ⟨_, rfl, x, _, dx, _, rfl, (upd_ne (Ne.symm hgx)).trans upd_same, T.D.cl, nG, by show 2 < 1000; omega, ?_⟩
    have hsu0 : H su = none := by
      rw [upd_ne hsx, upd_ne hsm] at hsu
      exact hsu
    have hg0 : H g = none := by
      rw [upd_ne hgx, upd_ne hgs, upd_ne hgx, upd_ne hgm] at hg
      exact hg
    have b3 : But x H (upd (upd (upd (upd (upd (upd H m (.lst [])) x (.ins (CD K) dx (putF "made" (.ref m) []))) su (.lst [])) x (.ins (CD K) dx (putF "sums" (.ref su) (putF "made" (.ref m) [])))) g (.lst [])) x (.ins (CD K) dx (putF "gone" (.ref g) (putF "sums" (.ref su) (putF "made" (.ref m) []))))) :=
      ((((((But.of (Same.refl H)).swr hm).wr).swr hsu0).wr).swr hg0).wr
    refine ⟨_, rfl, p, pl, rfl, b3.plan hx oa.plan, ok, fun nv H4 s4 tnv => ?_⟩
    have b4 := b3.trans (But.of s4)
    have hx4 := s4 _ _ upd_same
    refine ⟨_, rfl, x, _, dx, _, rfl, hx4, T.D.cl, nW, by show 3 < 1000; omega, ?_⟩
    have hm4 : H4 m = some (.lst []) := s4 _ _ (by rw [upd_ne hmx, upd_ne (Ne.symm hgm), upd_ne hmx, upd_ne (Ne.symm hsm), upd_ne hmx, upd_same])
    have hs4 : H4 su = some (.lst []) := s4 _ _ (by rw [upd_ne hsx, upd_ne (Ne.symm hgs), upd_ne hsx, upd_same])
    have hg4 : H4 g = some (.lst []) := s4 _ _ (by rw [upd_ne hgx, upd_same])
    have tk4 : TK H4 (upd H4 x (.ins (CD K) dx (putF "now" nv (putF "gone" (.ref g) (putF "sums" (.ref su) (putF "made" (.ref m) [])))))) := TK.wr fun xs z => by
      rw [hx4] at z
      cases z
    have d0 : DrAt K pl x m su g (upd H4 x (.ins (CD K) dx (putF "now" nv (putF "gone" (.ref g) (putF "sums" (.ref su) (putF "made" (.ref m) [])))))) (run0 pl) :=
      ⟨⟨dx, nv, upd_same, tnv.keep tk4⟩, ⟨[], (upd_ne hmx).trans hm4, .nil⟩, (upd_ne hsx).trans hs4, ⟨[], (upd_ne hgx).trans hg4, .nil⟩, Ne.symm hsm, Ne.symm hgm, Ne.symm hgs⟩
    have b5 := b4.wr (o := .ins (CD K) dx (putF "now" nv (putF "gone" (.ref g) (putF "sums" (.ref su) (putF "made" (.ref m) [])))))
    have hlx : l ≠ x := ne_of hl hx (by intro z; cases z)
    -- the deeds
    refine ⟨_, rfl, l, rfl, ⟨_, SqL.of (b5 _ _ hl hlx)⟩, ?_⟩
    refine for_it walk_list (fun i σ H' => But x H H' ∧ DrAt K pl x m su g H' (runM pl ord (ds.take i)) ∧ ∃ z1 z2 z3 z4, σ = [some (.ref x), some (.ref p), some (.ref t), some (.ref l), z1, z2, z3, z4]) ⟨b5, d0, none, none, none, none, rfl⟩ (fun i σ H' _ h => SqL.of (h.1 _ _ hl hlx)) (fun i v σ H6 H7 hi h y => ?_) (fun σ H6 h => ?_)
    · obtain ⟨b6, d6, z1, z2, z3, z4, rfl⟩ := h
      obtain ⟨rfl, hv⟩ := y
      obtain ⟨d, hd, td⟩ := htd.map_at hv
      rw [hxl] at hi
      have hrun := runI ok ord rfl (deed_take dok i)
      have hnext := deed_next dok hd
      have hcell : ∀ c, d = some c → c ∈ pl.prices.map (·.1) := fun c e => by
        subst e
        exact hnext.1
      have td6 := td.keep (b6.tk hx)
      have est : runM pl ord (ds.take (i + 1)) = stepM pl ord (runM pl ord (ds.take i)) d := by rw [take_snoc hd, run_snoc]
      have lm : (runM pl ord (ds.take i)).made.length = i := by
        rw [hrun.len, List.length_take]
        omega
      have ls : (runM pl ord (ds.take i)).sums.length = i := by
        rw [hrun.lens, List.length_take]
        omega
      have lg : (runM pl ord (ds.take i)).gone.length ≤ 4 * i := by
        have h1 := gone_len ok ord (ds.take i) (run0 pl)
        have h2 : (run0 pl).gone.length = 0 := rfl
        have h3 : (ds.take i).length ≤ i := by
          rw [List.length_take]
          omega
        show ((ds.take i).foldl (stepM pl ord) (run0 pl)).gone.length ≤ _
        omega
      generalize runM pl ord (ds.take i) = r at *
      refine ⟨_, rfl, _, .tuple [.str "night"], td6.dp, .tup (hni _) (.cons (.str _) .nil), deed_shaped ok hcell, by decide +kernel, _, rfl, ?_⟩
      rw [eqv_night]
      rw [est]
      cases d with
      | none =>
        refine iteT ?_
        obtain ⟨nv6, f6, t6⟩ := d6.fNow T
        refine ⟨_, rfl, _, _, rfl, f6, p, nv6, pl, r.now, rfl, ⟨b6.plan hx oa.plan, ok, hrun.so, t6⟩, fun e H7 s7 he6 he7 => ?_⟩
        have d7 := d6.keep s7
        obtain ⟨gs, hg7, tg7⟩ := d7.gg
        refine ⟨_, _, rfl, d7.fGone T, .inl ⟨rfl, _, SqL.of hg7⟩, e, _, he7, trivial, fun od => ⟨_, rfl, e, od, rfl, .inl ⟨_, upd_same, fun D hD => ?_⟩⟩⟩
        have hDe : D ≠ e := fun z => by
          rw [z, upd_same] at hD
          cases hD
        have d7L : DrAt K pl x m su g (upd H7 e (.frz od (.dK (prK (lostM pl r.now))))) r := d6.keep (swr s7 he6)
        have hll := lostK_len pl r.now pl.rows.length
        have hr4 := ok.r4
        refine lc_go walk_keys hD (fun i acc H => TdAll K H acc (((lostM pl r.now).take i).map fun q : Str × Int => goneD (r.now.1, q.1, q.2))) (fun _ _ _ _ k h => h.keep k) .nil (fun H1 s => s _ _ upd_same) (by rw [prK_len]; exact four_lt (Nat.le_trans hll hr4)) (fun j v2 acc H8 H9 Fy Fn hj s8 ea y ky kn => ?_) (fun H8 acc s8 hD8 e8 => ?_)
        · obtain ⟨rfl, kk, v3, hkv, rfl⟩ := y
          rw [prK_len] at hj
          have hq := List.getElem?_eq_getElem hj
          have hp2 := prK_at (c := ((lostM pl r.now)[j]).1) (n := ((lostM pl r.now)[j]).2) hq
          have hvv := valV_at (prK_nd (lost_nd ok r.now pl.rows.length (Nat.le_refl _))) hp2
          rw [hkv] at hp2
          cases hp2
          obtain ⟨nv8, f8, t8⟩ := (d7L.keep s8).fNow T
          obtain ⟨a8, b8, rfl, ha8, hb8⟩ := state_inv t8
          refine ⟨rfl, lcY ⟨_, _, rfl, f8, a8, _, 0, _, rfl, rfl, ha8.sq, rfl, _, rfl, _, rfl, _, rfl, e, _, rfl, .inl ⟨_, Sum.inr ((lostM pl r.now)[j]).1, .inr ⟨od, s8 _ _ upd_same⟩, rfl, hvv.symm⟩, by show 3 ≤ sizeLine; decide, fun u hu => ky _ _ (same_upd hu) ?_⟩⟩
          rw [take_snoc hq, List.map_append]
          exact (ea.keep (TK.updN hu)).snoc (Td.gone (g := (r.now.1, ((lostM pl r.now)[j]).1, ((lostM pl r.now)[j]).2)) upd_same)
        have he8 := s8 _ _ upd_same
        have s79 := lock_same he7 s8
        have d9 := d7.keep s79
        have tk89 : TK H8 (upd H8 e (.dK (prK (lostM pl r.now)))) := TK.wr fun xs z => by
          rw [he8] at z
          cases z
        have tacc : TdAll K (upd H8 e (.dK (prK (lostM pl r.now)))) acc (((lostM pl r.now).map fun q => (r.now.1, q.1, q.2)).map goneD) := by
          rw [List.map_map]
          rw [prK_len, take_all (Nat.le_refl _)] at e8
          exact e8.keep tk89
        have hD9 : upd H8 e (.dK (prK (lostM pl r.now))) D = some (.lst acc) := (upd_ne hDe).trans hD8
        have hal := tacc.len
        rw [List.length_map, List.length_map] at hal
        have hgl := tg7.len
        rw [List.length_map] at hgl
        refine ⟨he8, g, D, gs, acc, rfl, rfl, s79 _ _ hg7, hD9, ?_, ?_⟩
        · have h1 : (lostM pl r.now).length ≤ 4 := Nat.le_trans hll hr4
          exact Nat.le_trans (show gs.length + acc.length ≤ 500 by omega) (by decide)
        have d10 := d9.addGone (s79 _ _ hg7) tacc
        have b10 := ((b6.trans (But.of (s7.trans s79))).swr (o := .lst (gs ++ acc)) hg0)
        obtain ⟨nv10, f10, t10⟩ := d10.fNow T
        refine ⟨_, rfl, _, _, rfl, f10, p, nv10, pl, r.now, rfl, ⟨b10.plan hx oa.plan, ok, hrun.so, t10⟩, fun v11 H11 s11 t11 => ?_⟩
        have d11 := d10.keep s11
        obtain ⟨dx11, nv11, hx11, _⟩ := d11.ob
        refine ⟨_, rfl, x, _, dx11, _, rfl, hx11, T.D.cl, nW, by show 4 < 1000; omega, ?_⟩
        have d12 := d11.setNow hx11 t11
        have b12 := (b10.trans (But.of s11)).wr (o := .ins (CD K) dx11 (putF "now" v11 (drF (.ref m) (.ref su) (.ref g) nv11)))
        obtain ⟨ms, hm12, tm12⟩ := d12.mm
        have hml := tm12.len
        rw [List.length_map] at hml
        have hml' : ms.length = i := hml.trans lm
        refine ⟨_, _, rfl, d12.fMade T, .inl ⟨rfl, _, SqL.of hm12⟩, m, ms, _, rfl, rfl, hm12, small1000 (by omega), ?_⟩
        have d13 := d12.addMade (o := none) hm12 .non
        have hs13 := d13.ss
        refine ⟨_, _, rfl, d13.fSums T, .inl ⟨rfl, _, SqL.of hs13⟩, su, _, _, rfl, rfl, hs13, small1000 (by rw [List.length_map]; show r.sums.length ≤ 1000; omega), ?_⟩
        exact ⟨(b12.swr hm).swr hsu0, d13.addSum, _, _, _, _, rfl⟩
      | some c =>
        refine iteF ?_
        obtain ⟨nv6, f6, t6⟩ := d6.fNow T
        obtain ⟨pd, rfl, hpd⟩ := deed_inv td6
        obtain ⟨ms, hm6, tm6⟩ := d6.mm
        have hml := tm6.len
        rw [List.length_map] at hml
        have hml' : ms.length = i := hml.trans lm
        have hc := hcell c rfl
        refine ⟨_, _, rfl, d6.fMade T, .inl ⟨rfl, _, SqL.of hm6⟩, _, rfl, _, rfl, _, _, rfl, f6, _, rfl, pd, _, 1, _, rfl, rfl, hpd.sq, rfl, p, t, nv6, pl, ord, r.now, c, rfl, ⟨b6.plan hx oa.plan, ok, oa.at_.keep (b6.tk hx), oa.perm⟩, ⟨b6.plan hx oa.plan, ok, hrun.so, t6⟩, ok.cell hc, fun v7 H7 s7 t7 => ?_⟩
        have hm7 := s7 _ _ hm6
        refine ⟨m, ms, v7, rfl, rfl, hm7, small1000 (by omega), ?_⟩
        have hch := choiceM_mem ok ord r.now c
        have d8 := (d6.keep s7).addMade (o := some (choiceM pl ord r.now c)) hm7 t7
        have b8 := (b6.trans (But.of s7)).swr (o := .lst (ms ++ [v7])) hm
        have tk8 : TK H7 (upd H7 m (.lst (ms ++ [v7]))) := TK.updL hm7
        obtain ⟨nv8, f8, t8⟩ := d8.fNow T
        refine ⟨_, rfl, _, _, rfl, f8, _, rfl, pd, _, 1, _, rfl, rfl, ((hpd.keep (TK.of s7)).keep tk8).sq, rfl, _, _, rfl, d8.fMade T, 1, rfl, m, _, _, _, rfl, rfl, SqL.of upd_same, atI_last _ _, p, nv8, v7, pl, r.now, c, choiceM pl ord r.now c, rfl, ⟨b8.plan hx oa.plan, ok, hrun.so, t8⟩, hc, hch, t7.keep tk8, fun v9 H9 s9 t9 => ?_⟩
        obtain ⟨q, ws, rfl, hq, hws⟩ := t9.tup_inv
        cases hws with
        | cons w1 hws =>
          cases hws with
          | cons w2 hws =>
            cases hws
            cases w1
            have d9 := d8.keep s9
            obtain ⟨dx9, nv9, hx9, _⟩ := d9.ob
            refine ⟨q, _, rfl, hq.sq, rfl, _, _, rfl, _, _, rfl, _, rfl, x, _, dx9, _, rfl, hx9, T.D.cl, nW, by show 4 < 1000; omega, rfl, ?_⟩
            have d10 := d9.setNow hx9 w2
            have hs10 := d10.ss
            refine ⟨_, _, rfl, d10.fSums T, .inl ⟨rfl, _, SqL.of hs10⟩, _, rfl, su, _, _, rfl, rfl, hs10, small1000 (by rw [List.length_map]; show r.sums.length ≤ 1000; omega), ?_⟩
            exact ⟨((b8.trans (But.of s9)).wr).swr hsu0, d10.addSum, _, _, _, _, rfl⟩
    · obtain ⟨b6, d6, _⟩ := h
      rw [hxl, take_all (Nat.le_refl _)] at d6
      exact k m su g _ hm hg0 b6 d6
end
end Nd
set_option Elab.async false
set_option linter.all false
set_option maxRecDepth 100000
set_option maxHeartbeats 2000000
namespace Nd
open PySem PySem.Spec PyProof.Rows L2
section
variable {P : Program} {w : World} {K : PySem.W.Frag} {mg : Str → Option Value} {base : Heap}
/-! ### drawn, along, paid, behind, wasted -/
structure RunAt (K : PySem.W.Frag) (H : Hp) (p t l : Addr) (pl : PlanD) (ord : List Str) (ds : List Deed) : Prop where
  oa : OrdAt K H p t pl ord
  da : DeedAt K H l ds
  ok : DeedsOk pl 0 ds
theorem RunAt.keep {H H' : Hp} {p t l : Addr} {pl : PlanD} {ord : List Str} {ds : List Deed} (h : RunAt K H p t l pl ord ds) (s : Same H H') : RunAt K H' p t l pl ord ds := ⟨h.oa.keep s, h.da.keep s, h.ok⟩
def spDrawn (K : PySem.W.Frag) : Sp := fun vs H Q _ => ∃ (p t l : Addr) (pl : PlanD) (ord : List Str) (ds : List Deed), vs = [.ref p, .ref t, .ref l] ∧ RunAt K H p t l pl ord ds ∧ ∀ x m su g H', Same H H' → H m = none → H g = none → DrAt K pl x m su g H' (runM pl ord ds) → Q (.ref x) H'
theorem sc_drawn : FnScope ["plan", "order", "deeds"] ["plan", "order", "deeds"] (defScope (top 64)) := ⟨rfl, rfl, rfl, by decide +kernel, rfl, by decide +kernel, by decide +kernel⟩
theorem ok_drawn (T : Tx K mg) : Cal P w K mg base 6 "drawn" (spDrawn K) := by
  refine Cal.of (T.f ("drawn", 64)) sc_drawn (fun _ _ _ _ _ _ us hl => match us, hl with | [_, _, _], _ => rfl) (fun vs H Q E h => ?_) (fun f cdv A outer s H vs Q E hr h => ?_)
  · obtain ⟨p, t, l, pl, ord, ds, rfl, _⟩ := h
    rfl
  · obtain ⟨p, t, l, pl, ord, ds, rfl, ra, k⟩ := h
    refine ⟨_, pss_cons (ps_expr (pcl (ok_need_plan T) hr (pa1 (pv 0)))) <| pss_cons (ps_expr (pcl (ok_need_order T) hr (pa2 (pv 0) (pv 1)))) <| pss_cons (ps_expr (pcl (ok_need_deeds T) hr (pa2 (pv 0) (pv 2)))) <|
      pss_one <| ps_ret <| pmk (ok_drawn0 T) hr (pa3 (pv 0) (pv 1) (pv 2)), ?_⟩
    refine ⟨_, rfl, p, pl, rfl, ra.oa.plan, ?_⟩
    refine ⟨_, rfl, _, rfl, p, t, pl, ord, rfl, ra.oa, fun H1 s1 => ?_⟩
    have r1 := ra.keep s1
    refine ⟨_, rfl, _, rfl, p, l, pl, ds, rfl, r1.oa.plan, r1.oa.ok, r1.da, r1.ok, fun H2 s2 => ?_⟩
    have r2 := r1.keep s2
    refine ⟨_, rfl, _, rfl, _, rfl, fun x dx hx hdx hne => ?_⟩
    have b0 : Same H2 (upd (upd H2 dx (.own x)) x (.ins (CD K) dx [])) := sup (same_upd hdx) (by rw [upd_ne (Ne.symm hne)]; exact hx)
    have r3 := r2.keep b0
    refine ⟨x, dx, p, t, l, pl, ord, ds, rfl, upd_same, r3.oa, r3.da, r3.ok, fun m su g H3 hm hg b3 d3 => ⟨rfl, k x m su g H3 ((s1.trans s2).trans (Same.made hx hdx b3)) ((s1.trans s2).free (b0.free hm)) ((s1.trans s2).free (b0.free hg)) d3⟩⟩
/-- what each of the four reads off it -/
def spAlong (K : PySem.W.Frag) : Sp := fun vs H Q _ => ∃ (p t l : Addr) (pl : PlanD) (ord : List Str) (ds : List Deed), vs = [.ref p, .ref t, .ref l] ∧ RunAt K H p t l pl ord ds ∧ ∀ m ms H', Same H H' → H m = none → H' m = some (.lst ms) → TdAll K H' ms ((runM pl ord ds).made.map (ochD pl)) → Q (.ref m) H'
def spPaid (K : PySem.W.Frag) : Sp := fun vs H Q _ => ∃ (p t l : Addr) (pl : PlanD) (ord : List Str) (ds : List Deed), vs = [.ref p, .ref t, .ref l] ∧ RunAt K H p t l pl ord ds ∧ ∀ H', Same H H' → Q (.int (runM pl ord ds).sums.sum) H'
def spBehind (K : PySem.W.Frag) : Sp := fun vs H Q _ => ∃ (p t l : Addr) (pl : PlanD) (ord : List Str) (ds : List Deed), vs = [.ref p, .ref t, .ref l] ∧ RunAt K H p t l pl ord ds ∧ ∀ v H', Same H H' → Td K H' v (stateD (runM pl ord ds).now) → Q v H'
def spWasted (K : PySem.W.Frag) : Sp := fun vs H Q _ => ∃ (p t l : Addr) (pl : PlanD) (ord : List Str) (ds : List Deed), vs = [.ref p, .ref t, .ref l] ∧ RunAt K H p t l pl ord ds ∧ ∀ m ms H', Same H H' → H m = none → H' m = some (.lst ms) → TdAll K H' ms ((runM pl ord ds).gone.map goneD) → Q (.ref m) H'
theorem sc_along : FnScope ["plan", "order", "deeds"] ["plan", "order", "deeds"] (defScope (top 65)) := ⟨rfl, rfl, rfl, by decide +kernel, rfl, by decide +kernel, by decide +kernel⟩
theorem sc_paid : FnScope ["plan", "order", "deeds"] ["plan", "order", "deeds"] (defScope (top 66)) := ⟨rfl, rfl, rfl, by decide +kernel, rfl, by decide +kernel, by decide +kernel⟩
theorem sc_behind : FnScope ["plan", "order", "deeds"] ["plan", "order", "deeds"] (defScope (top 67)) := ⟨rfl, rfl, rfl, by decide +kernel, rfl, by decide +kernel, by decide +kernel⟩
theorem sc_wasted : FnScope ["plan", "order", "deeds"] ["plan", "order", "deeds"] (defScope (top 68)) := ⟨rfl, rfl, rfl, by decide +kernel, rfl, by decide +kernel, by decide +kernel⟩
theorem ok_along (T : Tx K mg) : Cal P w K mg base 7 "along" (spAlong K) := by
  refine Cal.of (T.f ("along", 65)) sc_along (fun _ _ _ _ _ _ us hl => match us, hl with | [_, _, _], _ => rfl) (fun vs H Q E h => ?_) (fun f cdv A outer s H vs Q E hr h => ?_)
  · obtain ⟨p, t, l, pl, ord, ds, rfl, _⟩ := h
    rfl
  · obtain ⟨p, t, l, pl, ord, ds, rfl, ra, k⟩ := h
    refine ⟨_, pss_one <| ps_ret <| pfl (pcl (ok_drawn T) hr (pa3 (pv 0) (pv 1) (pv 2))), ?_⟩
    refine ⟨_, rfl, _, rfl, _, rfl, p, t, l, pl, ord, ds, rfl, ra, fun x m su g H' s' hm hg d => ?_⟩
    obtain ⟨a, C, dx, fs, h1, h2, h3, h4, h5⟩ := d.fMade T
    obtain ⟨ms, h6, h7⟩ := d.mm
    exact ⟨a, C, dx, fs, _, h1, h2, h3, h4, h5, k m ms H' s' hm h6 h7⟩
theorem ok_paid (T : Tx K mg) : Cal P w K mg base 7 "paid" (spPaid K) := by
  refine Cal.of (T.f ("paid", 66)) sc_paid (fun _ _ _ _ _ _ us hl => match us, hl with | [_, _, _], _ => rfl) (fun vs H Q E h => ?_) (fun f cdv A outer s H vs Q E hr h => ?_)
  · obtain ⟨p, t, l, pl, ord, ds, rfl, _⟩ := h
    rfl
  · obtain ⟨p, t, l, pl, ord, ds, rfl, ra, k⟩ := h
    refine ⟨_, pss_one <| ps_ret <| pcb "sum" (cr_sum rfl) (T.z "sum") (pfl (pcl (ok_drawn T) hr (pa3 (pv 0) (pv 1) (pv 2)))), ?_⟩
    refine ⟨_, rfl, _, rfl, _, rfl, p, t, l, pl, ord, ds, rfl, ra, fun x m su g H' s' hm hg d => ?_⟩
    obtain ⟨a, C, dx, fs, h1, h2, h3, h4, h5⟩ := d.fSums T
    exact ⟨a, C, dx, fs, _, h1, h2, h3, h4, h5, su, _, rfl, SqL.of d.ss, k H' s'⟩
theorem ok_behind (T : Tx K mg) : Cal P w K mg base 7 "behind" (spBehind K) := by
  refine Cal.of (T.f ("behind", 67)) sc_behind (fun _ _ _ _ _ _ us hl => match us, hl with | [_, _, _], _ => rfl) (fun vs H Q E h => ?_) (fun f cdv A outer s H vs Q E hr h => ?_)
  · obtain ⟨p, t, l, pl, ord, ds, rfl, _⟩ := h
    rfl
  · obtain ⟨p, t, l, pl, ord, ds, rfl, ra, k⟩ := h
    refine ⟨_, pss_one <| ps_ret <| pfl (pcl (ok_drawn T) hr (pa3 (pv 0) (pv 1) (pv 2))), ?_⟩
    refine ⟨_, rfl, _, rfl, _, rfl, p, t, l, pl, ord, ds, rfl, ra, fun x m su g H' s' hm hg d => ?_⟩
    obtain ⟨nv, ⟨a, C, dx, fs, h1, h2, h3, h4, h5⟩, h6⟩ := d.fNow T
    exact ⟨a, C, dx, fs, _, h1, h2, h3, h4, h5, k nv H' s' h6⟩
theorem ok_wasted (T : Tx K mg) : Cal P w K mg base 7 "wasted" (spWasted K) := by
  refine Cal.of (T.f ("wasted", 68)) sc_wasted (fun _ _ _ _ _ _ us hl => match us, hl with | [_, _, _], _ => rfl) (fun vs H Q E h => ?_) (fun f cdv A outer s H vs Q E hr h => ?_)
  · obtain ⟨p, t, l, pl, ord, ds, rfl, _⟩ := h
    rfl
  · obtain ⟨p, t, l, pl, ord, ds, rfl, ra, k⟩ := h
    refine ⟨_, pss_one <| ps_ret <| pfl (pcl (ok_drawn T) hr (pa3 (pv 0) (pv 1) (pv 2))), ?_⟩
    refine ⟨_, rfl, _, rfl, _, rfl, p, t, l, pl, ord, ds, rfl, ra, fun x m su g H' s' hm hg d => ?_⟩
    obtain ⟨a, C, dx, fs, h1, h2, h3, h4, h5⟩ := d.fGone T
    obtain ⟨ms, h6, h7⟩ := d.gg
    exact ⟨a, C, dx, fs, _, h1, h2, h3, h4, h5, k g ms H' s' hg h6 h7⟩
end
end Nd
set_option Elab.async false
set_option linter.all false
set_option maxRecDepth 100000
set_option maxHeartbeats 2000000
/-! the draw: a dict at d, its wide list at w, its cells at c; what stays through a draw. -/
namespace Nd
open PySem PySem.Spec PyProof.Rows L2
def drawK (w c : Addr) (r t : Int) : List (Key × V) := [(Sum.inr "wide", .ref w), (Sum.inr "cells", .ref c), (Sum.inr "rest", .int r), (Sum.inr "turn", .int t)]
/-- the draw with room for f turns more -/
structure Dr (d w c : Addr) (f : Nat) (H : Hp) : Prop where
  d_ : ∃ r t : Int, H d = some (.dK (drawK w c r t)) ∧ 0 ≤ t ∧ t + f ≤ 1000000000
  w_ : ∃ ns : List Int, H w = some (.lst (ns.map V.int))
  c_ : ∃ ns : List Int, H c = some (.lst (ns.map V.int))
  wc : w ≠ c
/-- all but the draw's dict and its wide list stay -/
def Kw (d w : Addr) (H H' : Hp) : Prop := ∀ b o, H b = some o → b ≠ d → b ≠ w → H' b = some o
section
variable {d w c : Addr} {f : Nat} {H H' H1 : Hp}
theorem Kw.refl (H : Hp) : Kw d w H H := fun _ _ h _ _ => h
theorem Kw.of (s : Same H H') : Kw d w H H' := fun b o h _ _ => s b o h
theorem Kw.trans (a : Kw d w H H1) (b : Kw d w H1 H') : Kw d w H H' := fun x o h n m => b x o (a x o h n m) n m
theorem Dr.dd (h : Dr d w c f H) : ∃ kvs, H d = some (.dK kvs) := by
  obtain ⟨r, t, h, _⟩ := h.d_
  exact ⟨_, h⟩
theorem Dr.dw (h : Dr d w c f H) : d ≠ w := by
  obtain ⟨r, t, h1, _⟩ := h.d_
  obtain ⟨ns, h2⟩ := h.w_
  exact ne_of h1 h2 (by intro e; cases e)
theorem Dr.dc (h : Dr d w c f H) : d ≠ c := by
  obtain ⟨r, t, h1, _⟩ := h.d_
  obtain ⟨ns, h2⟩ := h.c_
  exact ne_of h1 h2 (by intro e; cases e)
theorem Dr.less {f' : Nat} (h : Dr d w c f H) (hf : f' ≤ f) : Dr d w c f' H := by
  obtain ⟨⟨r, t, h1, h2, h3⟩, h4, h5, h6⟩ := h
  exact ⟨⟨r, t, h1, h2, by omega⟩, h4, h5, h6⟩
theorem Dr.same (h : Dr d w c f H) (s : Same H H') : Dr d w c f H' := by
  obtain ⟨⟨r, t, h1, h2, h3⟩, ⟨ns, h4⟩, ⟨ms, h5⟩, h6⟩ := h
  exact ⟨⟨r, t, s _ _ h1, h2, h3⟩, ⟨ns, s _ _ h4⟩, ⟨ms, s _ _ h5⟩, h6⟩
/-- a store at another place -/
theorem Dr.at3 {p : Addr} {o : HO} (h : Dr d w c f H) (n1 : p ≠ d) (n2 : p ≠ w) (n3 : p ≠ c) : Dr d w c f (upd H p o) := by
  obtain ⟨⟨r, t, h1, h2, h3⟩, ⟨ns, h4⟩, ⟨ms, h5⟩, h6⟩ := h
  exact ⟨⟨r, t, (upd_ne (Ne.symm n1)).trans h1, h2, h3⟩, ⟨ns, (upd_ne (Ne.symm n2)).trans h4⟩, ⟨ms, (upd_ne (Ne.symm n3)).trans h5⟩, h6⟩
theorem Kw.tk (h : Dr d w c f H) (k : Kw d w H H') : TK H H' := fun b xs e => by
  obtain ⟨r, t, h1, _⟩ := h.d_
  obtain ⟨ns, h2⟩ := h.w_
  exact k b _ e (ne_of e h1 (by intro z; cases z)) (ne_of e h2 (by intro z; cases z))
theorem Kw.fk (h : Dr d w c f H) (k : Kw d w H H') : FK H H' := ⟨k.tk h, fun b C dx fs e => by
  obtain ⟨r, t, h1, _⟩ := h.d_
  obtain ⟨ns, h2⟩ := h.w_
  exact k b _ e (ne_of e h1 (by intro z; cases z)) (ne_of e h2 (by intro z; cases z))⟩
end
/-- a thing of one's own: no part of the draw -/
structure Own (d w c : Addr) (H : Hp) (a : Addr) (o : HO) : Prop where
  at_ : H a = some o
  nd : a ≠ d
  nw : a ≠ w
  nc : a ≠ c
section
variable {d w c : Addr} {f : Nat} {H H' H1 : Hp} {a : Addr} {o : HO}
theorem Own.kw (h : Own d w c H a o) (k : Kw d w H H') : Own d w c H' a o := ⟨k _ _ h.at_ h.nd h.nw, h.nd, h.nw, h.nc⟩
theorem Own.keep (h : Own d w c H a o) (s : Same H H') : Own d w c H' a o := ⟨s _ _ h.at_, h.nd, h.nw, h.nc⟩
theorem Dr.fresh (h : Dr d w c f H) (e : H a = none) : a ≠ d ∧ a ≠ w ∧ a ≠ c := by
  obtain ⟨r, t, h1, _⟩ := h.d_
  obtain ⟨ns, h2⟩ := h.w_
  obtain ⟨ms, h3⟩ := h.c_
  refine ⟨fun z => ?_, fun z => ?_, fun z => ?_⟩
  · rw [z, h1] at e
    cases e
  · rw [z, h2] at e
    cases e
  · rw [z, h3] at e
    cases e
theorem Own.new (h : Dr d w c f H) (e : H a = none) : Own d w c (upd H a o) a o := ⟨upd_same, (h.fresh e).1, (h.fresh e).2.1, (h.fresh e).2.2⟩
/-- made by what keeps all -/
theorem Own.made (h : Dr d w c f H) (e : H a = none) (h' : H' a = some o) : Own d w c H' a o := ⟨h', (h.fresh e).1, (h.fresh e).2.1, (h.fresh e).2.2⟩
theorem Own.wr {u : HO} (h : Own d w c H a o) : Own d w c (upd H a u) a u := ⟨upd_same, h.nd, h.nw, h.nc⟩
theorem Own.other {b : Addr} {u : HO} (h : Own d w c H a o) (n : a ≠ b) : Own d w c (upd H b u) a o := ⟨(upd_ne n).trans h.at_, h.nd, h.nw, h.nc⟩
theorem Dr.wr {u : HO} (h : Dr d w c f H) (k : Own d w c H a o) : Dr d w c f (upd H a u) := h.at3 k.nd k.nw k.nc
theorem Dr.new {u : HO} (h : Dr d w c f H) (e : H a = none) : Dr d w c f (upd H a u) := h.same (same_upd e)
theorem kwp {u : HO} (k : Kw d w H H') (e : H a = none) : Kw d w H (upd H' a u) := fun b v h n m => by
  rw [upd_ne (ne_of_none h e)]
  exact k b v h n m
/-- a list being made, or none yet -/
def LstOr (H : Hp) (D : Addr) : Prop := H D = none ∨ ∃ ys, H D = some (.lst ys)
theorem LstOr.tk {D : Addr} {u : HO} (h : LstOr H D) : TK H (upd H D u) := by
  rcases h with h | ⟨ys, h⟩
  · exact TK.updN h
  · exact TK.updL h
/-- a comprehension that draws -/
theorem lc_goK {J : It} {n : Nat} {G : Hp → Prop} {Y : Nat → Hp → V → Hp → Prop} (wk : Walk J n G Y) {g : TG} {tt : TT} {te : TE} {vs : List Nat} {σ : L2.St} {H1 : Hp} {D : Addr} {Qd : Hp → Prop} (hD : H1 D = none) (nD : D ≠ d ∧ D ≠ w) (R : Nat → List V → Hp → Prop)
    (hR : ∀ i acc H u, LstOr H D → R i acc H → R i acc (upd H D u)) (h0 : R 0 [] H1) (hG : ∀ H, Kw d w H1 H → G H) (hn : n < sizeLine)
    (hs : ∀ i x acc H H' (Fy : V → Hp → Prop) (Fn : Hp → Prop), i < n → Kw d w H1 H → R i acc H → Y i H x H' → (∀ y H4, Kw d w H H4 → R (i + 1) (acc ++ [y]) H4 → Fy y H4) → (∀ H3, Kw d w H H3 → R (i + 1) acc H3 → Fn H3) →
      g x (wipe σ vs) H' fun σ2 H2 => wipe σ2 vs = wipe σ vs ∧ tt σ2 H2 fun b H3 => if b = true then te σ2 H3 Fy else Fn H3)
    (hd : ∀ H acc, Kw d w H1 H → H D = some (.lst acc) → R n acc H → Qd H) :
    ∃ W : Nat → Nat → Hp → Prop, (∃ m, W 0 m (upd H1 D (.lst []))) ∧ ∀ i m H, W i m H →
      (J.stop i H ∧ Qd H) ∨ (J.go i H ∧ ∃ Nx : Hp → Prop, (∀ H', Nx H' → ∃ m', m' < m ∧ W (i + 1) m' H') ∧ ∀ x H', J.yld i H x H' → g x (wipe σ vs) H' fun σ2 H2 => wipe σ2 vs = wipe σ vs ∧ tt σ2 H2 fun b H3 =>
        if b = true then te σ2 H3 fun y H4 => ∃ acc, H4 D = some (.lst acc) ∧ acc.length < sizeLine ∧ Nx (upd H4 D (.lst (acc ++ [y]))) else Nx H3) := by
  refine lc_it wk (fun i H => Kw d w H1 H ∧ ∃ acc, H D = some (.lst acc) ∧ acc.length ≤ i ∧ R i acc H) ⟨Kw.of (same_upd hD), [], upd_same, Nat.le_refl _, hR _ _ _ _ (.inl hD) h0⟩ (fun i H _ h => hG H h.1) (fun i x H H' hi h y => ?_) fun H ⟨s, acc, a1, _, a3⟩ => hd H acc s a1 a3
  obtain ⟨s, acc, a1, a2, a3⟩ := h
  refine hs i x acc H H' _ _ hi s a3 y (fun v H4 z1 z2 => ?_) fun H3 z1 z2 => ⟨s.trans z1, acc, z1 _ _ a1 nD.1 nD.2, by omega, z2⟩
  have e4 : H4 D = some (.lst acc) := z1 _ _ a1 nD.1 nD.2
  exact ⟨acc, e4, by omega, kwp (s.trans z1) hD, acc ++ [v], upd_same, by rw [List.length_append, List.length_singleton]; omega, hR _ _ _ _ (.inr ⟨_, e4⟩) z2⟩
end
/-- names stored side by side -/
theorem ppar (i j : Nat) {X : Cx} {pos : Pos} {x y : Str} {a b : Expr} {ta : TA} {px py pt : Pos} {kt k2 : Nat} {pt2 : Pos} (nd : X.N.Nodup) (ha : PA X [a, b] ta) (hc : X.calm = true := by rfl) (hi : X.N[i]? = some x := by rfl) (hj : X.N[j]? = some y := by rfl) (hij : i ≠ j := by decide)
    (hx : X.env.scope.names.lookup x = some .local := by rfl) (hy : X.env.scope.names.lookup y = some .local := by rfl) (hw : swappedStores [.Tuple [.Name x px, .Name y py] kt pt] (.Tuple [a, b] k2 pt2) X.env = pure (some [x, y]) := by rfl)
    (hs : swapsWithSole [.Tuple [.Name x px, .Name y py] kt pt] (.Tuple [a, b] k2 pt2) pos.line X.env = pure false := by rfl) : PS X (.Assign [.Tuple [.Name x px, .Name y py] kt pt] (.Tuple [a, b] k2 pt2) pos) (tPar i j ta) := ps_par hc nd hi hj hij hx hy ha hw hs
theorem ppar3 (i j l : Nat) {X : Cx} {pos : Pos} {x y z : Str} {a b c : Expr} {ta : TA} {px py pz pt : Pos} {kt k2 : Nat} {pt2 : Pos} (nd : X.N.Nodup) (ha : PA X [a, b, c] ta) (hc : X.calm = true := by rfl) (hi : X.N[i]? = some x := by rfl) (hj : X.N[j]? = some y := by rfl) (hl : X.N[l]? = some z := by rfl) (hij : i ≠ j := by decide) (hil : i ≠ l := by decide) (hjl : j ≠ l := by decide)
    (hx : X.env.scope.names.lookup x = some .local := by rfl) (hy : X.env.scope.names.lookup y = some .local := by rfl) (hz : X.env.scope.names.lookup z = some .local := by rfl) (hw : swappedStores [.Tuple [.Name x px, .Name y py, .Name z pz] kt pt] (.Tuple [a, b, c] k2 pt2) X.env = pure (some [x, y, z]) := by rfl)
    (hs : swapsWithSole [.Tuple [.Name x px, .Name y py, .Name z pz] kt pt] (.Tuple [a, b, c] k2 pt2) pos.line X.env = pure false := by rfl) : PS X (.Assign [.Tuple [.Name x px, .Name y py, .Name z pz] kt pt] (.Tuple [a, b, c] k2 pt2) pos) (tPar3 i j l ta) := ps_par3 hc nd hi hj hl hij hil hjl hx hy hz ha hw hs
/-! ### the draw's keys -/
section
variable {w c : Addr} {r t : Int}
theorem drawK_wide : valV (drawK w c r t) (Sum.inr "wide") = some (.ref w) := rfl
theorem drawK_cells : valV (drawK w c r t) (Sum.inr "cells") = some (.ref c) := rfl
theorem drawK_rest : valV (drawK w c r t) (Sum.inr "rest") = some (.int r) := rfl
theorem drawK_turn : valV (drawK w c r t) (Sum.inr "turn") = some (.int t) := rfl
theorem drawK_putR (n : Int) : putK (drawK w c r t) (Sum.inr "rest") (.int n) = drawK w c n t := rfl
theorem drawK_putT (n : Int) : putK (drawK w c r t) (Sum.inr "turn") (.int n) = drawK w c r n := rfl
end
end Nd
set_option Elab.async false
set_option linter.all false
set_option maxRecDepth 100000
set_option maxHeartbeats 2000000
namespace Nd
open PySem PySem.Spec PyProof.Rows L2
section
variable {P : Program} {w0 : World} {K : PySem.W.Frag} {mg : Str → Option Value} {base : Heap}
/-! ### _law_begun -/
def spBegun (K : PySem.W.Frag) : Sp := fun vs H Q _ => ∃ (a : Addr) (ns : List Int), vs = [.ref a] ∧ SqL K H a (ns.map V.int) ∧ ns.length ≤ 1000 ∧ ∀ d w c H', Same H H' → Dr d w c 900000000 H' → Q (.ref d) H'
theorem sc_begun : FnScope ["_law_script", "_law_wide", "_law_grain"] ["_law_script"] (defScope (top 70)) := ⟨rfl, rfl, rfl, by decide +kernel, rfl, by decide +kernel, by decide +kernel⟩
theorem ok_begun (T : Tx K mg) : Cal P w0 K mg base 1 "_law_begun" (spBegun K) := by
  refine Cal.of (T.f ("_law_begun", 70)) sc_begun (fun _ _ _ _ _ _ us hl => match us, hl with | [_], _ => rfl) (fun vs H Q E h => ?_) (fun f cdv A outer s H vs Q E hr h => ?_)
  · obtain ⟨a, ns, rfl, _⟩ := h
    rfl
  · obtain ⟨a, ns, rfl, ha, hn, k⟩ := h
    have nd := sc_begun.nd
    refine ⟨_, pss_cons (ps_setLc (i := 1) (own := [("_law_grain", 2)]) (g := gName 2) rfl nd rfl rfl rfl (pi_list (pv 0)) (blkOk_by (N := ["_law_script", "_law_wide", "_law_grain"]) (sc := defScope (top 70)) (by decide +kernel)) (fun _ _ _ _ _ => pgn 2 nd)
        (fun _ _ _ _ _ => pts_one (pt_cmpR op_ge (pcb "abs" call_abs (T.z "abs") (pv 2)) (pe_op op_pow pe_int pe_int) (nomark _))) (fun _ _ _ _ _ => pe_op op_sub (pcb "abs" call_abs (T.z "abs") (pv 2)) (pe_op op_pow pe_int pe_int))) <|
      pss_one <| ps_ret <| pe_disp (pps_cons pe_str (pv 1) <| pps_cons pe_str (pe_lc (own := [("_law_grain", 2)]) (g := gName 2) (tt := tYes) rfl nd (pi_list (pv 0)) (blkOk_by (N := ["_law_script", "_law_wide", "_law_grain"]) (sc := defScope (top 70)) (by decide +kernel)) (fun _ _ _ _ _ => pgn 2 nd) (fun _ _ _ _ _ => pts_nil)
        (fun _ _ _ _ _ => pe_op op_mod (pct "int" call_int1 (T.z "int") (pcb "abs" call_abs (T.z "abs") (pv 2))) pe_int)) <| pps_cons pe_str pe_int <| pps_cons pe_str pe_int <| pps_nil) rfl rfl (by simp) (by decide), ?_⟩
    have hz : ∀ i : Int, CPow i 18 → True := fun _ _ => trivial
    have hp : CPow 10 18 := by
      unfold CPow
      decide
    refine ⟨_, rfl, a, rfl, ⟨_, ha⟩, fun D hD => ?_⟩
    refine lc_go walk_list hD (fun i acc _ => ∃ ms : List Int, acc = ms.map V.int) (fun _ _ _ _ _ h => h) ⟨[], rfl⟩ (fun H1 s => s.seq ha) (by rw [List.length_map]; exact small1000 hn) (fun i v acc H2 H3 Fy Fn hi sm e y ky kn => ?_) (fun H2 acc s2 hd e => ?_)
    · obtain ⟨rfl, hv⟩ := y
      obtain ⟨ms, rfl⟩ := e
      rw [List.getElem?_map] at hv
      obtain ⟨z, hz, rfl⟩ := Option.map_eq_some_iff.mp hv
      refine ⟨rfl, _, rfl, z, rfl, 10, 18, rfl, rfl, hp, _, _, rfl, rfl, _, rfl, ite2 (fun hb => ?_) fun hb => kn _ (Same.refl _) ⟨ms, rfl⟩⟩
      exact ⟨_, rfl, z, rfl, 10, 18, rfl, rfl, hp, _, _, rfl, rfl, ky _ _ (Same.refl _) ⟨ms ++ [_], by rw [List.map_append]; rfl⟩⟩
    obtain ⟨wide, rfl⟩ := e
    intro p hp0
    refine ⟨_, rfl, _, rfl, a, rfl, ⟨_, (s2.trans (same_upd hp0)).seq ha⟩, fun D2 hD2 => ?_⟩
    have hpn := upd_same (H := H2) (a := p) (o := .dK [])
    refine lc_go walk_list hD2 (fun i acc _ => ∃ ms : List Int, acc = ms.map V.int) (fun _ _ _ _ _ h => h) ⟨[], rfl⟩ (fun H1 s => ((s2.trans (same_upd hp0)).trans s).seq ha) (by rw [List.length_map]; exact small1000 hn) (fun i v acc H3 H4 Fy Fn hi sm e y ky kn => ?_) (fun H3 acc s3 hd3 e => ?_)
    · obtain ⟨rfl, hv⟩ := y
      obtain ⟨ms, rfl⟩ := e
      rw [List.getElem?_map] at hv
      obtain ⟨z, hz, rfl⟩ := Option.map_eq_some_iff.mp hv
      exact ⟨rfl, lcY ⟨_, rfl, z, rfl, .inl ⟨_, rfl, _, 2147483629, rfl, rfl, (show (0 : Int) < 2147483629 by decide), ky _ _ (Same.refl _) ⟨ms ++ [_], by rw [List.map_append]; rfl⟩⟩⟩⟩
    obtain ⟨cells, rfl⟩ := e
    have hp3 := s3 _ _ hpn
    have hD3 : H3 D = some (.lst (wide.map V.int)) := s3 _ _ (by rw [upd_ne (ne_of_none hd hp0)]; exact hd)
    have hDp : D ≠ p := ne_of_none hd hp0
    have hD2p : D2 ≠ p := fun e => by
      rw [e, upd_same] at hD2
      cases hD2
    have hDD : D ≠ D2 := fun e => by
      rw [← e, upd_ne hDp, hd] at hD2
      cases hD2
    refine ⟨hp3, [(Sum.inr "wide", .ref D), (Sum.inr "cells", .ref D2), (Sum.inr "rest", .int 0), (Sum.inr "turn", .int 0)], rfl, by show 4 ≤ 15; decide, ?_⟩
    refine k p D D2 _ ?_ ⟨⟨0, 0, upd_same, by decide, by decide⟩, ⟨wide, (upd_ne hDp).trans hD3⟩, ⟨cells, (upd_ne hD2p).trans hd3⟩, hDD⟩
    exact swr (s2.trans ((same_upd hp0).trans s3)) (s2.free hp0)
/-! ### _law_mixed -/
def spMixed : Sp := fun vs H Q _ => ∃ (d w c : Addr) (f : Nat), vs = [.ref d] ∧ Dr d w c (f + 1) H ∧ ∀ (n : Int) H', Kw d w H H' → Dr d w c f H' → Q (.int n) H'
theorem sc_mixed : FnScope ["_law_draw", "_law_turn", "_law_found", "_law_prime", "_law_blend", "_law_grain"] ["_law_draw"] (defScope (top 71)) := ⟨rfl, rfl, rfl, by decide +kernel, rfl, by decide +kernel, by decide +kernel⟩
theorem ok_mixed (T : Tx K mg) : Cal P w0 K mg base 1 "_law_mixed" spMixed := by
  refine Cal.of (T.f ("_law_mixed", 71)) sc_mixed (fun _ _ _ _ _ _ us hl => match us, hl with | [_], _ => rfl) (fun vs H Q E h => ?_) (fun f cdv A outer s H vs Q E hr h => ?_)
  · obtain ⟨d, w, c, f, rfl, _⟩ := h
    rfl
  · obtain ⟨d, w, c, f0, rfl, hd, k⟩ := h
    have nd := sc_mixed.nd
    have hu := hu_of hr
    refine ⟨_, pss_cons (ppar 1 2 nd (pa2 (pe_op op_add (pe_dget hu (pv 0) pe_str (fun _ _ => rfl)) pe_int) pe_int)) <|
      pss_cons (ps_dput hu (pv 0) pe_str (pv 1) rfl) <|
      pss_cons (ps_for PassesOwn.never rfl (pi_list (pe_lst (pa4 pe_int pe_int pe_int pe_int))) (pgn 3 nd) <|
        pss_cons (pst 4 nd (pe_op op_add (pe_op op_mul pe_int (pv 1)) (pe_op op_fdiv (pv 3) pe_int))) <|
        pss_cons (ps_for PassesOwn.never rfl (pi_list (pe_dget hu (pv 0) pe_str (fun _ _ => rfl))) (pgn 5 nd) <|
          pss_one <| pst 4 nd (pe_op op_mod (pct "int" call_int1 (T.z "int") (pe_op op_add (pe_op op_add (pe_op op_mul (pv 4) pe_int) (pv 5)) (pv 1))) (pv 3))) <|
        pss_one <| pst 2 nd (pe_op op_add (pe_op op_mul (pv 2) pe_int) (pe_op op_mod (pct "int" call_int1 (T.z "int") (pe_op op_pow (pv 4) pe_int)) (pv 3)))) <|
      pss_one <| ps_ret <| pv 2, ?_⟩
    obtain ⟨⟨r, t, hdd, ht0, htf⟩, ⟨ns, hw⟩, ⟨cs, hc⟩, hwc⟩ := id hd
    refine ⟨_, rfl, d, _, rfl, .inl ⟨_, Sum.inr "turn", .inl hdd, rfl, drawK_turn.symm⟩, t, 1, rfl, rfl, _, _, rfl, ?_⟩
    refine ⟨_, rfl, _, rfl, d, _, rfl, DPut.k (k := Sum.inr "turn") hdd (by show 4 < sizeLine; decide), ?_⟩
    rw [drawK_putT]
    have hd1 : Dr d w c f0 (upd H d (.dK (drawK w c r (t + 1)))) := ⟨⟨r, t + 1, upd_same, by omega, by omega⟩, ⟨ns, (upd_ne (Ne.symm hd.dw)).trans hw⟩, ⟨cs, (upd_ne (Ne.symm hd.dc)).trans hc⟩, hwc⟩
    have k1 : Kw d w H (upd H d (.dK (drawK w c r (t + 1)))) := fun b o e n1 _ => by
      rw [upd_ne n1]
      exact e
    have hc1 : (upd H d (.dK (drawK w c r (t + 1)))) c = some (.lst (cs.map V.int)) := (upd_ne (Ne.symm hd.dc)).trans hc
    have hdd1 : (upd H d (.dK (drawK w c r (t + 1)))) d = some (.dK (drawK w c r (t + 1))) := upd_same
    generalize upd H d (.dK (drawK w c r (t + 1))) = H1 at *
    refine ⟨by show 4 ≤ sizeLine; decide, fun l hl => ⟨l, rfl, ⟨_, SqL.of upd_same⟩, ?_⟩⟩
    let ps : List Int := [2147483647, 2147483629, 2147483587, 2147483579]
    have hps : ∀ p ∈ ps, 0 < p ∧ p ≤ 2147483647 := by decide
    refine for_it (walk_list (xs := ps.map V.int)) (fun i σ H' => Same (upd H1 l (.lst (ps.map V.int))) H' ∧ ∃ (z : Int) (z1 z2 z3 : Option V), σ = [some (.ref d), some (.int (t + 1)), some (.int z), z1, z2, z3]) ⟨Same.refl _, 0, none, none, none, rfl⟩ (fun i σ H' _ h => SqL.of (h.1 _ _ upd_same)) (fun i v σ H3 H4 hi h y => ?_) (fun σ H3 h => ?_)
    · obtain ⟨sm, z, z1, z2, z3, rfl⟩ := h
      obtain ⟨rfl, hv⟩ := y
      rw [List.getElem?_map] at hv
      obtain ⟨p, hp, rfl⟩ := Option.map_eq_some_iff.mp hv
      obtain ⟨p1, p2⟩ := hps p (List.mem_of_getElem? hp)
      have s1 : Same H1 H4 := (same_upd hl).trans sm
      refine ⟨_, rfl, 69621, t + 1, rfl, rfl, .inl ⟨by decide, by decide⟩, _, rfl, p, 23, rfl, rfl, ⟨by decide, by decide⟩, _, _, rfl, rfl, ?_⟩
      refine ⟨_, rfl, d, _, rfl, .inl ⟨_, Sum.inr "cells", .inl (s1 _ _ hdd1), rfl, drawK_cells.symm⟩, c, rfl, ⟨_, SqL.of (s1 _ _ hc1)⟩, ?_⟩
      have hdiv : 0 ≤ p / 23 ∧ p / 23 ≤ 2147483647 := by omega
      refine for_it (walk_list (xs := cs.map V.int)) (fun j σ H' => Same H4 H' ∧ ∃ (b : Int) (z3 : Option V), σ = [some (.ref d), some (.int (t + 1)), some (.int z), some (.int p), some (.int b), z3] ∧ 0 ≤ b ∧ b < 2 ^ 60) ⟨Same.refl _, _, _, rfl, by omega, by omega⟩ (fun j σ H' _ h => SqL.of ((s1.trans h.1) _ _ hc1)) (fun j v σ H5 H6 hj h y => ?_) (fun σ H5 h => ?_)
      · obtain ⟨sm2, b, z3, rfl, b1, b2⟩ := h
        obtain ⟨rfl, hv⟩ := y
        rw [List.getElem?_map] at hv
        obtain ⟨q, hq, rfl⟩ := Option.map_eq_some_iff.mp hv
        refine ⟨_, rfl, b, 48271, rfl, rfl, .inr ⟨by decide, by decide⟩, _, rfl, _, _, rfl, rfl, _, rfl, _, _, rfl, rfl, .inl ⟨_, rfl, _, rfl, _, p, rfl, rfl, p1, ?_⟩⟩
        refine ⟨sm2, _, _, rfl, Int.emod_nonneg _ (by omega), ?_⟩
        have := Int.emod_lt_of_pos (b * 48271 + q + (t + 1)) p1
        omega
      · obtain ⟨sm2, b, z3, rfl, b1, b2⟩ := h
        refine ⟨_, rfl, z, 2147483647, rfl, rfl, .inr ⟨by decide, by decide⟩, _, rfl, b, 5, rfl, rfl, ⟨by decide, by decide, by omega⟩, .inl ⟨_, rfl, _, rfl, _, p, rfl, rfl, p1, _, _, rfl, rfl, ?_⟩⟩
        exact ⟨sm.trans sm2, _, _, _, _, rfl⟩
    · obtain ⟨sm, z, z1, z2, z3, rfl⟩ := h
      have s1 := (same_upd hl).trans sm
      exact ⟨_, rfl, k z _ (k1.trans (Kw.of s1)) (hd1.same s1)⟩
end
end Nd
set_option Elab.async false
set_option linter.all false
set_option maxRecDepth 100000
set_option maxHeartbeats 2000000
namespace Nd
open PySem PySem.Spec PyProof.Rows L2
section
variable {P : Program} {w0 : World} {K : PySem.W.Frag} {mg : Str → Option Value} {base : Heap}
/-! ### _law_take -/
def spTake : Sp := fun vs H Q _ => ∃ (d w c : Addr) (f : Nat) (n : Int), vs = [.ref d, .int n] ∧ 0 < n ∧ n < 1000000 ∧ Dr d w c (f + 1) H ∧ ∀ (m : Int) H', 0 ≤ m → m < n → Kw d w H H' → Dr d w c f H' → Q (.int m) H'
theorem sc_take : FnScope ["_law_draw", "_law_size", "_law_found"] ["_law_draw", "_law_size"] (defScope (top 72)) := ⟨rfl, rfl, rfl, by decide +kernel, rfl, by decide +kernel, by decide +kernel⟩
theorem ok_take (T : Tx K mg) : Cal P w0 K mg base 2 "_law_take" spTake := by
  refine Cal.of (T.f ("_law_take", 72)) sc_take (fun _ _ _ _ _ _ us hl => match us, hl with | [_, _], _ => rfl) (fun vs H Q E h => ?_) (fun f cdv A outer s H vs Q E hr h => ?_)
  · obtain ⟨d, w, c, f, n, rfl, _⟩ := h
    rfl
  · obtain ⟨d, w, c, f0, n, rfl, hn0, hn1, hd, k⟩ := h
    have nd := sc_take.nd
    have hu := hu_of hr
    refine ⟨_, pss_cons (ps_if (pt_cmpR op_eq (pe_dget hu (pv 0) pe_str (fun _ _ => rfl)) pe_int (nomark _)) (pss_one <| ps_dput hu (pv 0) pe_str (pe_ifExp (pt_cmpR (op_neD hr.units) (pe_dget hu (pv 0) pe_str (fun _ _ => rfl)) (pe_lst pa_nil) (nomark _))
        (pe_bm PySem.F.plainAttrs_list PySem.F.slot_list_pop PySem.F.type_list_pop mt_popAt (pe_dget hu (pv 0) pe_str (fun _ _ => rfl)) (pa1 pe_int)) (pcl (ok_mixed T) hr (pa1 (pv 0)))) rfl) pss_nil) <|
      pss_cons (pst 2 nd (pe_op op_mod (pct "int" call_int1 (T.z "int") (pe_dget hu (pv 0) pe_str (fun _ _ => rfl))) (pv 1))) <|
      pss_cons (ps_dput hu (pv 0) pe_str (pe_op op_fdiv (pe_dget hu (pv 0) pe_str (fun _ _ => rfl)) (pv 1)) rfl) <|
      pss_one <| ps_ret <| pv 2, ?_⟩
    -- what follows the test
    have rest : ∀ (H1 : Hp), Kw d w H H1 → Dr d w c f0 H1 → tSeq (tAsg (tOp (rI (fun _ j => 0 < j) fun i j => .int (i % j)) (tCB (fun xs H Q => (∃ i, xs = [.int i] ∧ Q (.int i) H) ∨ ∃ k, xs = [.bl k] ∧ Q (.int (if k then 1 else 0)) H) (tCons (tDGet (tVar 0) (tC (.str "rest"))) tNil)) (tVar 1)) (gName 2))
        (tSeq (sDPut (tVar 0) (tC (.str "rest")) (tOp (rI CDiv fun i j => .int (i / j)) (tDGet (tVar 0) (tC (.str "rest"))) (tVar 1))) (tRet (tVar 2))) { nx := fun _ H' => Q .non H', rt := Q } (start ["_law_draw", "_law_size", "_law_found"] [.ref d, .int n]) H1 := fun H1 k1 d1 => by
      obtain ⟨⟨r, t, hdd, ht0, htf⟩, ⟨ns, hw⟩, ⟨cs, hc⟩, hwc⟩ := id d1
      refine ⟨_, rfl, d, _, rfl, .inl ⟨_, Sum.inr "rest", .inl hdd, rfl, drawK_rest.symm⟩, .inl ⟨r, rfl, _, rfl, r, n, rfl, rfl, hn0, ?_⟩⟩
      refine ⟨_, rfl, d, _, rfl, .inl ⟨_, Sum.inr "rest", .inl hdd, rfl, drawK_rest.symm⟩, _, rfl, r, n, rfl, rfl, ⟨hn0, by omega⟩, ?_⟩
      refine ⟨_, rfl, d, _, rfl, DPut.k (k := Sum.inr "rest") hdd (by show 4 < sizeLine; decide), ?_⟩
      rw [drawK_putR]
      refine ⟨_, rfl, k _ _ (Int.emod_nonneg _ (by omega)) (Int.emod_lt_of_pos _ hn0) (fun b o e n1 n2 => ?_) ⟨⟨_, t, upd_same, ht0, htf⟩, ⟨ns, (upd_ne (Ne.symm d1.dw)).trans hw⟩, ⟨cs, (upd_ne (Ne.symm d1.dc)).trans hc⟩, hwc⟩⟩
      rw [upd_ne n1]
      exact k1 b o e n1 n2
    obtain ⟨⟨r, t, hdd, ht0, htf⟩, ⟨ns, hw⟩, ⟨cs, hc⟩, hwc⟩ := id hd
    refine ⟨_, rfl, d, _, rfl, .inl ⟨_, Sum.inr "rest", .inl hdd, rfl, drawK_rest.symm⟩, rfl, _, rfl, ?_⟩
    by_cases hr0 : r = 0
    · refine iteD (by rw [hr0]) ?_
      refine ⟨_, rfl, d, _, rfl, .inl ⟨_, Sum.inr "wide", .inl hdd, rfl, drawK_wide.symm⟩, by show 0 ≤ sizeLine; exact Nat.zero_le _, fun p hp => ?_⟩
      have s1 : Same H (upd H p (.lst [])) := same_upd hp
      have hd1 := hd.same s1
      have hw1 := s1 _ _ hw
      have hdd1 := s1 _ _ hdd
      have hc1 := s1 _ _ hc
      have e0 : (upd H p (.lst [])) p = some (.lst []) := upd_same
      generalize upd H p (.lst []) = H1 at *
      refine ⟨.list (ns.map .int), .list [], .lst (SqL.of hw1) (TdAll.ints (K := K)).dp, .lst (SqL.of e0) .nil, shaped_listM (f := PyData.int) (fun b hb => rfl) (fun b hb => by simp [PyData.depth]), by decide +kernel, _, rfl, ?_⟩
      have ee : PyData.eqv (.list (ns.map .int)) (.list []) = decide (ns = []) := by
        rw [PyData.eqv]
        exact eqvAll_ints (ms := [])
      rw [ee]
      refine ite2 (fun hb => ?_) fun hb => ?_
      · -- from the wide list
        have hne : ns ≠ [] := fun e => by
          rw [e] at hb
          cases hb
        obtain ⟨z, zs, rfl⟩ : ∃ z zs, ns = z :: zs := by
          cases ns with
          | nil => exact absurd rfl hne
          | cons z zs => exact ⟨z, zs, rfl⟩
        refine ⟨_, rfl, d, _, rfl, .inl ⟨_, Sum.inr "wide", .inl hdd1, rfl, drawK_wide.symm⟩, .inl ⟨rfl, _, SqL.of hw1⟩, w, _, 0, 0, .int z, rfl, rfl, hw1, by decide, by decide, seqIndex_of (k := 0) (Int.le_refl 0) (by rw [List.map_cons, List.length_cons]; omega), rfl, ?_⟩
        have hw2 : (upd H1 w (.lst (((z :: zs).map V.int).eraseIdx 0))) w = some (.lst (zs.map V.int)) := upd_same
        have hdd2 : (upd H1 w (.lst (((z :: zs).map V.int).eraseIdx 0))) d = some (.dK (drawK w c r t)) := (upd_ne hd.dw).trans hdd1
        refine ⟨_, rfl, d, _, rfl, DPut.k (k := Sum.inr "rest") hdd2 (by show 4 < sizeLine; decide), ?_⟩
        rw [drawK_putR]
        refine rest _ (fun b o e n1 n2 => ?_) ⟨⟨z, t, upd_same, ht0, by omega⟩, ⟨zs, (upd_ne (Ne.symm hd.dw)).trans hw2⟩, ⟨cs, (upd_ne (Ne.symm hd.dc)).trans ((upd_ne (Ne.symm hwc)).trans hc1)⟩, hwc⟩
        rw [upd_ne n1, upd_ne n2]
        exact s1 b o e
      · -- from the cells
        refine ⟨_, rfl, d, w, c, f0, rfl, hd1, fun z H2 k2 d2 => ?_⟩
        obtain ⟨⟨r2, t2, hdd2, ht2, htf2⟩, ⟨ns2, hw2⟩, ⟨cs2, hc2⟩, _⟩ := id d2
        refine ⟨_, rfl, d, _, rfl, DPut.k (k := Sum.inr "rest") hdd2 (by show 4 < sizeLine; decide), ?_⟩
        rw [drawK_putR]
        refine rest _ (fun b o e n1 n2 => ?_) ⟨⟨z, t2, upd_same, ht2, htf2⟩, ⟨ns2, (upd_ne (Ne.symm hd.dw)).trans hw2⟩, ⟨cs2, (upd_ne (Ne.symm hd.dc)).trans hc2⟩, hwc⟩
        rw [upd_ne n1]
        exact k2 b o (s1 b o e) n1 n2
    · exact iteDF (by intro e; injection e with e; exact hr0 e) (rest H (Kw.refl H) (hd.less (by omega)))
/-! ### _law_pick -/
def spPick : Sp := fun vs H Q _ => ∃ (d w c : Addr) (f : Nat) (v : V), vs = [.ref d, v] ∧ Dr d w c (f + 1) H ∧
  ((∃ l xs, v = .ref l ∧ Own d w c H l (.lst xs) ∧ 0 < xs.length ∧ xs.length ≤ 1000 ∧ ∀ x H', x ∈ xs → Kw d w H H' → Dr d w c f H' → Q x H') ∨
   (∃ z : Str, v = .str z ∧ 0 < z.length ∧ z.length ≤ 1000 ∧ ∀ ch H', ch ∈ z.cps.toList → Kw d w H H' → Dr d w c f H' → Q (.str ⟨#[ch]⟩) H'))
theorem sc_pick : FnScope ["_law_draw", "_law_some"] ["_law_draw", "_law_some"] (defScope (top 73)) := ⟨rfl, rfl, rfl, by decide +kernel, rfl, by decide +kernel, by decide +kernel⟩
theorem ok_pick (T : Tx K mg) : Cal P w0 K mg base 3 "_law_pick" spPick := by
  refine Cal.of (T.f ("_law_pick", 73)) sc_pick (fun _ _ _ _ _ _ us hl => match us, hl with | [_, _], _ => rfl) (fun vs H Q E h => ?_) (fun f cdv A outer s H vs Q E hr h => ?_)
  · obtain ⟨d, w, c, f, v, rfl, _⟩ := h
    rfl
  · obtain ⟨d, w, c, f0, v, rfl, hd, h⟩ := h
    refine ⟨_, pss_one <| ps_ret <| pe_ix ix_seq (pv 1) (pcl (ok_take T) hr (pa2 (pv 0) (plen (T.z "len") (pv 1)))) (fun _ _ => rfl), ?_⟩
    rcases h with ⟨l, xs, rfl, ol, h0, h1, k⟩ | ⟨z, rfl, h0, h1, k⟩
    · refine ⟨_, rfl, _, rfl, _, rfl, _, xs.length, rfl, .inl ⟨_, SqL.of ol.at_, rfl⟩, d, w, c, f0, _, rfl, by omega, by omega, hd, fun m H' m0 m1 kw dr => ?_⟩
      obtain ⟨j, rfl⟩ : ∃ j : Nat, m = (j : Int) := ⟨m.toNat, by omega⟩
      have hj : j < xs.length := by omega
      exact .inl ⟨l, xs, _, xs[j], rfl, rfl, SqL.of (ol.kw kw).at_, atI_nat (List.getElem?_eq_getElem hj), k _ _ (List.getElem_mem hj) kw dr⟩
    · have hz : z.length ≤ sizeLine := Nat.le_trans h1 (by decide)
      refine ⟨_, rfl, _, rfl, _, rfl, _, z.length, rfl, ⟨hz, rfl⟩, d, w, c, f0, _, rfl, by omega, by omega, hd, fun m H' m0 m1 kw dr => ?_⟩
      obtain ⟨j, rfl⟩ : ∃ j : Nat, m = (j : Int) := ⟨m.toNat, by omega⟩
      have hj : j < z.cps.toList.length := by
        have : z.length = z.cps.toList.length := rfl
        omega
      exact .inr (.inr ⟨z, _, z.cps.toList[j], rfl, rfl, hz, atI_nat (List.getElem?_eq_getElem hj), k _ _ (List.getElem_mem hj) kw dr⟩)
end
end Nd
set_option Elab.async false
set_option linter.all false
set_option maxRecDepth 100000
set_option maxHeartbeats 2000000
namespace Nd
open PySem PySem.Spec PyProof.Rows L2
instance (z : Str) : Decidable (nameOk z) := by
  unfold nameOk
  infer_instance
theorem nodup_le {α : Type} [DecidableEq α] : ∀ {l m : List α}, l.Nodup → (∀ a ∈ l, a ∈ m) → l.length ≤ m.length
  | [], m, _, _ => Nat.zero_le _
  | a :: l, m, h, hs => by
    obtain ⟨h1, h2⟩ := List.nodup_cons.mp h
    have hm := hs a (List.mem_cons_self ..)
    have ih := nodup_le (l := l) (m := m.erase a) h2 fun x hx => (List.mem_erase_of_ne (fun e : x = a => h1 (by rw [← e]; exact hx))).mpr (hs x (List.mem_cons_of_mem _ hx))
    rw [List.length_erase_of_mem hm] at ih
    have := List.length_pos_of_mem hm
    rw [List.length_cons]
    omega
theorem erase_map {α β : Type} {f : α → β} : ∀ {l : List α} {i : Nat}, (l.map f).eraseIdx i = (l.eraseIdx i).map f
  | [], _ => rfl
  | _ :: _, 0 => rfl
  | a :: l, i + 1 => by
    show f a :: (l.map f).eraseIdx i = f a :: (l.eraseIdx i).map f
    rw [erase_map]
theorem erase_perm {α : Type} {l : List α} {j : Nat} (h : j < l.length) : (l[j] :: l.eraseIdx j).Perm l := by
  rw [List.eraseIdx_eq_take_drop_succ]
  have e : l = l.take j ++ l[j] :: l.drop (j + 1) := by rw [← List.drop_eq_getElem_cons h, List.take_append_drop]
  conv => rhs; rw [e]
  exact List.perm_middle.symm
def one (c : Nat) : Str := ⟨#[c]⟩
theorem join_ones : ∀ cs : List Nat, (Str.join "" (cs.map one)).cps.toList = cs
  | [] => rfl
  | [c] => rfl
  | c :: c2 :: cs => by
    have ih := join_ones (c2 :: cs)
    show (((one c).cps ++ ("" : Str).cps) ++ (Str.join "" ((c2 :: cs).map one)).cps).toList = _
    rw [Array.toList_append, ih]
    rfl
theorem txt_join (cs : List Nat) : (Txt.join "" (cs.map one)).cps.toList = cs := by
  have h := eq_of_beq (join_closes (ys := cs.map one) (rfl : ("" : Str) = ""))
  rw [h, join_ones]
theorem nameOk_join {cs : List Nat} (h1 : 1 ≤ cs.length) (h6 : cs.length ≤ 6) (h : ∀ c ∈ cs, c ∈ letters.cps.toList) : nameOk (Txt.join "" (cs.map one)) := by
  have e : (Txt.join "" (cs.map one)).length = cs.length := by
    show (Txt.join "" (cs.map one)).cps.size = _
    rw [← Array.length_toList, txt_join]
  refine ⟨by omega, by omega, fun c hc => ?_⟩
  rw [txt_join] at hc
  exact h c hc
theorem cut5 (z : Str) : (cutS z none (some 5)).cps.toList = z.cps.toList.take 5 := by
  have h : HT.sIx z.length z.length (some ((5 : Nat) : Int)) = min 5 z.length := HT.sIx_nat _ _ _
  unfold cutS
  have h2 : HT.sIx z.length z.length (some 5) = min 5 z.length := h
  rw [HT.sIx_none, h2, List.drop_zero, Nat.sub_zero]
  show (z.cps.toList.take (min 5 z.length)) = _
  have : z.length = z.cps.toList.length := rfl
  rw [this]
  rcases Nat.le_total 5 z.cps.toList.length with h | h
  · rw [Nat.min_eq_left h]
  · rw [Nat.min_eq_right h, List.take_length, List.take_of_length_le h]
def near (z : Str) (c : Nat) : Str := cutS z none (some 5) ++ one c
theorem near_cps (z : Str) (c : Nat) : (near z c).cps.toList = z.cps.toList.take 5 ++ [c] := by
  show ((cutS z none (some 5)).cps ++ (one c).cps).toList = _
  rw [Array.toList_append, cut5]
  rfl
theorem near_ok {z : Str} (h : nameOk z) {c : Nat} (hc : c ∈ letters.cps.toList) : nameOk (near z c) := by
  have e : (near z c).length = min 5 z.length + 1 := by
    show (near z c).cps.size = _
    rw [← Array.length_toList, near_cps, List.length_append, List.length_take]
    rfl
  obtain ⟨h1, h2, h3⟩ := h
  refine ⟨by omega, by omega, fun x hx => ?_⟩
  rw [near_cps] at hx
  rcases List.mem_append.mp hx with hx | hx
  · exact h3 x (List.mem_of_mem_take hx)
  · rw [List.mem_singleton.mp hx]
    exact hc
theorem near_inj {z : Str} {a b : Nat} (h : near z a = near z b) : a = b := by
  have h2 := congrArg (fun s : Str => s.cps.toList) h
  simp only [near_cps] at h2
  have h3 := List.append_cancel_left h2
  injection h3
def letterL : List Nat := letters.cps.toList
theorem letter_nd : letterL.Nodup := by decide +kernel
theorem letter_len : letterL.length = 26 := by decide +kernel
/-- one of them is new -/
theorem near_new (z : Str) {found : List Str} (h : found.length ≤ 25) : ∃ x ∈ letterL.map (near z), x ∉ found := by
  refine Classical.byContradiction fun hn => ?_
  have hall : ∀ x ∈ letterL.map (near z), x ∈ found := fun x hx => Classical.byContradiction fun q => hn ⟨x, hx, q⟩
  have hnd : (letterL.map (near z)).Nodup := List.Pairwise.map _ (fun a b hab e => hab (near_inj e)) letter_nd
  have := nodup_le hnd hall
  rw [List.length_map, letter_len] at this
  omega
theorem inV_strs (z : Str) (ys : List Str) : inV (.str z) (ys.map V.str) = decide (z ∈ ys) := by
  unfold inV
  rw [List.any_map]
  rw [show (ys.any ((fun y => eqV y (.str z)) ∘ V.str)) = ys.any (fun y => y == z) from rfl]
  rw [Bool.eq_iff_iff]
  simp
theorem op_notInK (K : PySem.W.Frag) {X : Cx} (hK : X.K = K := by rfl) : OpR X (compareOp .NotIn) (rIn K true) := hK ▸ op_notIn_seq
section
variable {P : Program} {w0 : World} {K : PySem.W.Frag} {mg : Str → Option Value} {base : Heap}
/-! ### _law_any_of -/
def spAnyOf : Sp := fun vs H Q _ => ∃ (d w c l : Addr) (f : Nat) (n : Int) (xs : List V), vs = [.ref d, .ref l, .int n] ∧ 0 < n ∧ n < 1000000 ∧ Own d w c H l (.lst xs) ∧ xs.length ≤ 1000 ∧ Dr d w c (f + xs.length) H ∧
  ∀ (l' : Addr) (ys : List V) (H' : Hp), ys.Sublist xs → Kw d w H H' → Dr d w c f H' → Own d w c H' l' (.lst ys) → Q (.ref l') H'
theorem sc_any_of : FnScope ["_law_draw", "_law_words", "_law_size", "_law_item"] ["_law_draw", "_law_words", "_law_size"] (defScope (top 74)) := ⟨rfl, rfl, rfl, by decide +kernel, rfl, by decide +kernel, by decide +kernel⟩
theorem ok_any_of (T : Tx K mg) : Cal P w0 K mg base 3 "_law_any_of" spAnyOf := by
  refine Cal.of (T.f ("_law_any_of", 74)) sc_any_of (fun _ _ _ _ _ _ us hl => match us, hl with | [_, _, _], _ => rfl) (fun vs H Q E h => ?_) (fun f cdv A outer s H vs Q E hr h => ?_)
  · obtain ⟨d, w, c, l, f, n, xs, rfl, _⟩ := h
    rfl
  · obtain ⟨d, w, c, l, f0, n, xs, rfl, hn0, hn1, ol, hlen, hd, k⟩ := h
    have nd := sc_any_of.nd
    refine ⟨_, pss_one <| ps_ret <| pe_lc (own := [("_law_item", 3)]) (g := gName 3) (tt := _) rfl nd (pi_list (pv 1)) (blkOk_by (N := ["_law_draw", "_law_words", "_law_size", "_law_item"]) (sc := defScope (top 74)) (by decide +kernel)) (fun _ _ _ _ _ => pgn 3 nd)
        (fun _ _ _ _ _ => pts_one (pt_cmpR op_gt (pcl (ok_take T) hr (pa2 (pv 0) (pv 2))) pe_int (nomark _))) (fun _ _ _ _ _ => pv 3), ?_⟩
    refine ⟨_, rfl, l, rfl, ⟨_, SqL.of ol.at_⟩, fun D hD => ?_⟩
    have nD := hd.fresh hD
    refine lc_goK walk_list hD ⟨nD.1, nD.2.1⟩ (fun i acc H => acc.Sublist (xs.take i) ∧ Dr d w c (f0 + (xs.length - i)) H) (fun i acc H u _ h => ⟨h.1, h.2.at3 nD.1 nD.2.1 nD.2.2⟩) ⟨List.Sublist.refl _, hd⟩ (fun H1 s => SqL.of (ol.kw s).at_) (small1000 hlen) (fun i v acc H2 H3 Fy Fn hi sm e y ky kn => ?_) (fun H2 acc s2 hd2 e => ?_)
    · obtain ⟨rfl, hv⟩ := y
      obtain ⟨e1, e2⟩ := e
      refine ⟨rfl, _, rfl, _, rfl, d, w, c, f0 + (xs.length - (i + 1)), n, rfl, hn0, hn1, e2.less (by omega), fun m H4 m0 m1 kw dr => ?_⟩
      refine ⟨_, 0, rfl, rfl, _, rfl, ite2 (fun _ => ⟨_, rfl, ky _ _ kw ⟨?_, dr⟩⟩) fun _ => kn _ kw ⟨?_, dr⟩⟩
      · rw [take_snoc hv]
        exact e1.append (List.Sublist.refl _)
      · rw [take_snoc hv]
        exact e1.trans (List.sublist_append_left _ _)
    · obtain ⟨e1, e2⟩ := e
      rw [take_all (Nat.le_refl _)] at e1
      exact k D acc _ e1 s2 (e2.less (by omega)) ⟨hd2, nD.1, nD.2.1, nD.2.2⟩
/-! ### _law_shuffled -/
def spShuf : Sp := fun vs H Q _ => ∃ (d w c l : Addr) (f : Nat) (xs : List Str), vs = [.ref d, .ref l] ∧ Own d w c H l (.lst (xs.map V.str)) ∧ xs.length ≤ 1000 ∧ (∀ z ∈ xs, PyData.strOk z = true) ∧ Dr d w c (f + xs.length) H ∧
  ∀ (l' : Addr) (ys : List Str) (H' : Hp), ys.Perm xs → Kw d w H H' → Dr d w c f H' → Own d w c H' l' (.lst (ys.map V.str)) → Q (.ref l') H'
theorem sc_shuf : FnScope ["_law_draw", "_law_some", "_law_left", "_law_found"] ["_law_draw", "_law_some"] (defScope (top 75)) := ⟨rfl, rfl, rfl, by decide +kernel, rfl, by decide +kernel, by decide +kernel⟩
theorem ok_shuf (T : Tx K mg) : Cal P w0 K mg base 3 "_law_shuffled" spShuf := by
  refine Cal.of (T.f ("_law_shuffled", 75)) sc_shuf (fun _ _ _ _ _ _ us hl => match us, hl with | [_, _], _ => rfl) (fun vs H Q E h => ?_) (fun f cdv A outer s H vs Q E hr h => ?_)
  · obtain ⟨d, w, c, l, f, xs, rfl, _⟩ := h
    rfl
  · obtain ⟨d, w, c, l, f0, xs, rfl, ol, hlen, hstr, hd, k⟩ := h
    have nd := sc_shuf.nd
    refine ⟨_, pss_cons (ppar 2 3 nd (pa2 (pct "list" call_list_of (T.z "list") (pv 1)) (pe_lst pa_nil))) <|
      pss_cons (ps_while PassesOwn.never (pt_cmpR (op_neD hr.units) (pv 2) (pe_lst pa_nil) (nomark _)) <|
        pss_one <| ps_expr (pe_bm PySem.F.plainAttrs_list PySem.F.slot_list_append PySem.F.type_list_append mt_append (pv 3) (pa1 (pe_bm PySem.F.plainAttrs_list PySem.F.slot_list_pop PySem.F.type_list_pop mt_popAt (pv 2) (pa1 (pcl (ok_take T) hr (pa2 (pv 0) (plen (T.z "len") (pv 2))))))))) <|
      pss_one <| ps_ret <| pv 3, ?_⟩
    refine ⟨_, rfl, l, _, rfl, .inl (SqL.of ol.at_), fun a ha => ?_⟩
    refine ⟨by show 0 ≤ sizeLine; exact Nat.zero_le _, fun b hb => ⟨_, _, rfl, ?_⟩⟩
    have oa := Own.new (o := .lst (xs.map V.str)) hd ha
    have hd1 := hd.new (u := .lst (xs.map V.str)) ha
    have k1 : Kw d w H (upd H a (.lst (xs.map V.str))) := Kw.of (same_upd ha)
    have ha0 : H a = none := ha
    have hb0 : H b = none := by
      by_cases e : b = a
      · rw [e]
        exact ha
      · rw [upd_ne e] at hb
        exact hb
    have hab : a ≠ b := ne_of_none oa.at_ hb
    have ob := Own.new (o := .lst ([] : List V)) hd1 hb
    have oa2 : Own d w c (upd (upd H a (.lst (xs.map V.str))) b (.lst [])) a (.lst (xs.map V.str)) := oa.other hab
    have hd2 := hd1.new (u := .lst ([] : List V)) hb
    have k2 := kwp (u := .lst ([] : List V)) k1 hb0
    refine while_by (fun σ H' => σ = [some (.ref d), some (.ref l), some (.ref a), some (.ref b)] ∧ Kw d w H H' ∧ ∃ ys zs : List Str, Own d w c H' a (.lst (ys.map V.str)) ∧ Own d w c H' b (.lst (zs.map V.str)) ∧ (zs ++ ys).Perm xs ∧ Dr d w c (f0 + ys.length) H')
      (fun σ H' => match H' a with | some (.lst ys) => ys.length | _ => 0) ⟨rfl, k2, xs, [], oa2, ob, List.Perm.refl _, hd2⟩ (fun σ H3 h => ?_) (fun σ H Q Q' hQ h => ?_)
    · obtain ⟨rfl, k3, ys, zs, oa3, ob3, hp, hd3⟩ := h
      refine ⟨_, rfl, by show 0 ≤ sizeLine; exact Nat.zero_le _, fun p hp3 => ?_⟩
      have hys : ∀ z ∈ ys, PyData.strOk z = true := fun z hz => hstr z (hp.mem_iff.mp (List.mem_append_right _ hz))
      have oa4 := oa3.keep (same_upd (o := .lst ([] : List V)) hp3)
      have ob4 := ob3.keep (same_upd (o := .lst ([] : List V)) hp3)
      have hd4 := hd3.new (u := .lst ([] : List V)) hp3
      have k4 : Kw d w H (upd H3 p (.lst [])) := k3.trans (Kw.of (same_upd hp3))
      have hμ : (match H3 a with | some (.lst ys) => ys.length | _ => 0) = ys.length := by
        rw [oa3.at_]
        exact List.length_map _
      refine ⟨.list (ys.map .str), .list [], .lst (SqL.of oa4.at_) (TdAll.strs (K := K)).dp, .lst (SqL.of upd_same) .nil, shaped_listM (f := PyData.str) (fun z hz => hys z hz) (fun z hz => by simp [PyData.depth]), by decide +kernel, _, rfl, ?_⟩
      have ee : PyData.eqv (.list (ys.map .str)) (.list []) = decide (ys = []) := by
        rw [PyData.eqv]
        exact eqvAll_strs (ms := [])
      rw [ee]
      generalize upd H3 p (.lst []) = H5 at *
      refine ite2 (fun hne => ?_) fun he => ?_
      · have hy0 : 0 < ys.length := by
          cases ys with
          | nil => cases hne
          | cons y ys => exact Nat.succ_pos _
        have hyl : ys.length ≤ 1000 := by
          have := hp.length_eq
          rw [List.length_append] at this
          omega
        have hzl : zs.length ≤ 1000 := by
          have := hp.length_eq
          rw [List.length_append] at this
          omega
        refine ⟨_, rfl, .inl ⟨rfl, _, SqL.of ob4.at_⟩, _, rfl, .inl ⟨rfl, _, SqL.of oa4.at_⟩, _, rfl, _, rfl, _, (ys.map V.str).length, rfl, .inl ⟨_, SqL.of oa4.at_, rfl⟩, d, w, c, f0 + (ys.length - 1), _, rfl, by rw [List.length_map]; omega, by rw [List.length_map]; omega, hd4.less (by omega), fun m H6 m0 m1 kw dr => ?_⟩
        obtain ⟨j, rfl⟩ : ∃ j : Nat, m = (j : Int) := ⟨m.toNat, by omega⟩
        rw [List.length_map] at m1
        have hj : j < ys.length := by omega
        have oa6 := oa4.kw kw
        have ob6 := ob4.kw kw
        refine ⟨a, _, j, j, .str ys[j], rfl, rfl, oa6.at_, by omega, by omega, by
          rw [seqIndex_of m0 (by rw [List.length_map]; omega)]
          rfl, by rw [List.getElem?_map, List.getElem?_eq_getElem hj]; rfl, ?_⟩
        have ob7 := ob6.other (u := .lst ((ys.map V.str).eraseIdx j)) (Ne.symm hab)
        refine ⟨b, _, _, rfl, rfl, ob7.at_, small1000 (by rw [List.length_map]; exact hzl), ?_⟩
        have oa8 : Own d w c (upd (upd H6 a (.lst ((ys.map V.str).eraseIdx j))) b (.lst (zs.map V.str ++ [.str ys[j]]))) a (.lst ((ys.eraseIdx j).map V.str)) := by
          have := (oa6.wr (u := .lst ((ys.map V.str).eraseIdx j))).other (u := .lst (zs.map V.str ++ [.str ys[j]])) hab
          rw [← erase_map]
          exact this
        have ob8 : Own d w c (upd (upd H6 a (.lst ((ys.map V.str).eraseIdx j))) b (.lst (zs.map V.str ++ [.str ys[j]]))) b (.lst ((zs ++ [ys[j]]).map V.str)) := by
          have := ob7.wr (u := .lst (zs.map V.str ++ [.str ys[j]]))
          rw [List.map_append]
          exact this
        refine ⟨⟨rfl, ?_, ys.eraseIdx j, zs ++ [ys[j]], oa8, ob8, ?_, ?_⟩, ?_⟩
        · exact kwp (kwp (k4.trans kw) ha0) hb0
        · rw [List.append_assoc]
          exact ((erase_perm hj).append_left zs).trans hp
        · rw [List.length_eraseIdx_of_lt hj]
          exact (dr.wr oa6).wr ob7
        · rw [hμ]
          rw [oa8.at_]
          show ((ys.eraseIdx j).map V.str).length < ys.length
          rw [List.length_map, List.length_eraseIdx_of_lt hj]
          omega
      · have hnil : ys = [] := by
          cases ys with
          | nil => rfl
          | cons y ys => exact absurd rfl he
        subst hnil
        rw [List.append_nil] at hp
        exact ⟨_, rfl, k b zs _ hp k4 (hd4.less (by omega)) ob4⟩
    · obtain ⟨v, e, hl, h⟩ := h
      refine ⟨v, e, hl, fun p hp => ?_⟩
      obtain ⟨d1, d2, g1, g2, g3, g4, k0, g5, q⟩ := h p hp
      exact ⟨d1, d2, g1, g2, g3, g4, k0, g5, hQ _ _ q⟩
end
end Nd
set_option Elab.async false
set_option linter.all false
set_option maxRecDepth 100000
set_option maxHeartbeats 2000000
namespace Nd
open PySem PySem.Spec PyProof.Rows L2
theorem sum_ones : ∀ cs : List Nat, ((cs.map one).map (·.length)).sum = cs.length
  | [] => rfl
  | c :: cs => by
    rw [List.map_cons, List.map_cons, List.sum_cons, sum_ones cs, List.length_cons]
    show 1 + cs.length = _
    omega
def tenW : List Str := ["a", "b", "x", "use", "night", "pack", "cost", "roll", "zzzzzz", "best"]
theorem tenW_ok : ∀ z ∈ tenW, nameOk z := by decide +kernel
/-- the candidates: the word, then the word with another sign at its end -/
def cands (z : Str) : List Str := z :: letterL.map (near z)
theorem cands_ok {z : Str} (h : nameOk z) : ∀ x ∈ cands z, nameOk x := fun x hx => by
  rcases List.mem_cons.mp hx with e | hx
  · rw [e]
    exact h
  · obtain ⟨c, hc, rfl⟩ := List.mem_map.mp hx
    exact near_ok h hc
theorem cands_new (z : Str) {found : List Str} (h : found.length ≤ 25) : (cands z).filter (fun x => decide (x ∉ found)) ≠ [] := by
  obtain ⟨x, hx, hn⟩ := near_new z h
  have : x ∈ (cands z).filter (fun x => decide (x ∉ found)) := List.mem_filter.mpr ⟨List.mem_cons_of_mem _ hx, decide_eq_true hn⟩
  intro e
  rw [e] at this
  cases this
theorem cands_len (z : Str) : (cands z).length = 27 := by
  unfold cands
  rw [List.length_cons, List.length_map, letter_len]
section
variable {P : Program} {w0 : World} {K : PySem.W.Frag} {mg : Str → Option Value} {base : Heap}
/-! ### _law_names -/
def spNamesL : Sp := fun vs H Q _ => ∃ (d w c : Addr) (f n : Nat), vs = [.ref d, .int (n : Int)] ∧ n ≤ 10 ∧ Dr d w c (f + 10 * n) H ∧
  ∀ (l : Addr) (ys : List Str) (H' : Hp), ys.length = n → ys.Nodup → (∀ z ∈ ys, nameOk z) → Kw d w H H' → Dr d w c f H' → Own d w c H' l (.lst (ys.map V.str)) → Q (.ref l) H'
def namN : List Str := ["_law_draw", "_law_many", "_law_found", "_law_letters", "_law_k", "_law_word", "_law_near", "_law_j", "_law_sign", "_law_item"]
theorem sc_namesL : FnScope ["_law_draw", "_law_many", "_law_found", "_law_letters", "_law_k", "_law_word", "_law_near", "_law_j", "_law_sign", "_law_item"] ["_law_draw", "_law_many"] (defScope (top 76)) := ⟨rfl, rfl, rfl, by decide +kernel, rfl, by decide +kernel, by decide +kernel⟩
theorem ok_namesL (T : Tx K mg) : Cal P w0 K mg base 4 "_law_names" spNamesL := by
  refine Cal.of (T.f ("_law_names", 76)) sc_namesL (fun _ _ _ _ _ _ us hl => match us, hl with | [_, _], _ => rfl) (fun vs H Q E h => ?_) (fun f cdv A outer s H vs Q E hr h => ?_)
  · obtain ⟨d, w, c, f, n, rfl, _⟩ := h
    rfl
  · obtain ⟨d, w, c, f0, n, rfl, hn, hd, k⟩ := h
    have nd := sc_namesL.nd
    refine ⟨_, pss_cons (ps_asg (pe_tup (pa2 (pe_lst pa_nil) pe_str)) (pg_tup rfl (pgs_cons (pgn 2 nd) (pgs_cons (pgn 3 nd) pgs_nil)))) <|
      pss_cons (ps_for PassesOwn.never rfl (pi_range1 rfl (T.z "range") (pa1 (pv 1))) (pgn 4 nd) <|
        pss_cons (pst 5 nd (pcl (ok_pick T) hr (pa2 (pv 0) (pe_lst (pa_cons pe_str (pa_cons pe_str (pa_cons pe_str (pa_cons pe_str (pa_cons pe_str (pa_cons pe_str (pa4 pe_str pe_str pe_str pe_str) rfl) rfl) rfl) rfl) rfl) rfl))))) <|
        C8.pss_cut (ps_if (pt_cmpR op_eq (pcl (ok_take T) hr (pa2 (pv 0) pe_int)) pe_int (nomark _)) (pss_one <| pst 5 nd (pe_join pe_str (pe_lc (own := [("_law_j", 7)]) (g := gName 7) (tt := tYes) rfl nd (pi_range1 rfl (T.z "range") (pa1 (pcl (ok_pick T) hr (pa2 (pv 0) (pe_lst (pa3 pe_int pe_int pe_int)))))) (blkOk_by (N := ["_law_draw", "_law_many", "_law_found", "_law_letters", "_law_k", "_law_word", "_law_near", "_law_j", "_law_sign", "_law_item"]) (sc := defScope (top 76)) (by decide +kernel)) (fun _ _ _ _ _ => pgn 7 nd) (fun _ _ _ _ _ => pts_nil)
          (fun _ _ _ _ _ => pcl (ok_pick T) hr (pa2 (pv 0) (pv 3)))))) pss_nil) <|
        pss_cons (pst 6 nd (pe_op op_cat (pe_lst (pa1 (pv 5))) (pe_lc (own := [("_law_sign", 8)]) (g := gName 8) (tt := tYes) rfl nd (pi_str (pv 3)) (blkOk_by (N := ["_law_draw", "_law_many", "_law_found", "_law_letters", "_law_k", "_law_word", "_law_near", "_law_j", "_law_sign", "_law_item"]) (sc := defScope (top 76)) (by decide +kernel)) (fun _ _ _ _ _ => pgn 8 nd) (fun _ _ _ _ _ => pts_nil)
          (fun _ _ _ _ _ => pe_op op_add_str (pe_slice sl_str (pv 5) po_none (po_some pe_int)) (pv 8))))) <|
        pss_one <| ps_expr (pe_bm PySem.F.plainAttrs_list PySem.F.slot_list_append PySem.F.type_list_append mt_append (pv 2) (pa1 (pe_ix ix_list (pe_lc (own := [("_law_item", 9)]) (g := gName 9) (tt := _) rfl nd (pi_list (pv 6)) (blkOk_by (N := ["_law_draw", "_law_many", "_law_found", "_law_letters", "_law_k", "_law_word", "_law_near", "_law_j", "_law_sign", "_law_item"]) (sc := defScope (top 76)) (by decide +kernel)) (fun _ _ _ _ _ => pgn 9 nd)
          (fun _ _ _ _ _ => pts_one (pt_cmpR (op_notInK K) (pv 9) (pv 2) rfl)) (fun _ _ _ _ _ => pv 9)) pe_int (fun _ _ => rfl))))) <|
      pss_one <| ps_ret <| pv 2, ?_⟩
    refine ⟨by show 0 ≤ sizeLine; exact Nat.zero_le _, fun l hl => ⟨by show 2 ≤ sizeLine; decide, fun t ht => ⟨t, _, rfl, SqT.of upd_same, rfl, _, _, rfl, _, _, rfl, rfl, ?_⟩⟩⟩
    have ol0 := (Own.new (o := .lst ([] : List V)) hd hl).keep (same_upd (o := .tup [.ref l, .str letters]) ht)
    have hd0 := (hd.new (u := .lst ([] : List V)) hl).new (u := .tup [.ref l, .str letters]) ht
    have k0 : Kw d w H (upd (upd H l (.lst [])) t (.tup [.ref l, .str letters])) := Kw.of (sup (same_upd hl) ht)
    refine ⟨_, rfl, (n : Int), rfl, by omega, by omega, ?_⟩
    refine for_it walk_range (fun i σ H' => Kw d w H H' ∧ ∃ ys : List Str, Own d w c H' l (.lst (ys.map V.str)) ∧ ys.length = i ∧ ys.Nodup ∧ (∀ z ∈ ys, nameOk z) ∧ Dr d w c (f0 + 10 * (n - i)) H' ∧ ∃ z4 z5 z6, σ = [some (.ref d), some (.int (n : Int)), some (.ref l), some (.str letters), z4, z5, z6, none, none, none])
      ⟨k0, [], ol0, rfl, List.nodup_nil, (fun _ h => by cases h), hd0, none, none, none, rfl⟩ (fun _ _ _ _ _ => trivial) (fun i v σ H3 H4 hi h y => ?_) (fun σ H3 h => ?_)
    · obtain ⟨k3, ys, ol3, hyl, hynd, hyok, hd3, z4, z5, z6, rfl⟩ := h
      obtain ⟨rfl, rfl⟩ := y
      have hin : i < n := by simpa using hi
      -- the word
      refine ⟨_, rfl, by show 10 ≤ sizeLine; decide, fun lw hlw => ?_⟩
      refine ⟨d, w, c, f0 + 10 * (n - i) - 1, _, rfl, (hd3.new hlw).less (by omega), .inl ⟨lw, tenW.map V.str, rfl, Own.new hd3 hlw, by decide, by decide, fun x H5 hx k5 d5 => ?_⟩⟩
      obtain ⟨z, hz, rfl⟩ := List.mem_map.mp hx
      have hzok := tenW_ok z hz
      have k35 : Kw d w H4 H5 := (Kw.of (same_upd hlw)).trans k5
      refine ⟨fun σ H' => Kw d w H4 H' ∧ Dr d w c (f0 + 10 * (n - i) - 9) H' ∧ ∃ z : Str, nameOk z ∧ σ = [some (.ref d), some (.int (n : Int)), some (.ref l), some (.str letters), some (.int (0 + (i : Nat))), some (.str z), z6, none, none, none], ?_, ?_⟩
      · refine ⟨_, rfl, d, w, c, f0 + 10 * (n - i) - 2, 3, rfl, by decide, by decide, d5.less (by omega), fun m H6 m0 m1 k6 d6 => ⟨rfl, _, rfl, ite2 (fun _ => ?_) fun _ => ⟨k35.trans k6, d6.less (by omega), z, hzok, rfl⟩⟩⟩
        refine ⟨⟨_, rfl⟩, _, rfl, by show 3 ≤ sizeLine; decide, fun l3 hl3 => ?_⟩
        refine ⟨d, w, c, f0 + 10 * (n - i) - 3, _, rfl, (d6.new hl3).less (by omega), .inl ⟨l3, [.int 1, .int 2, .int 6], rfl, Own.new d6 hl3, by decide, by decide, fun x H7 hx7 k7 d7 => ?_⟩⟩
        obtain ⟨q, rfl, q1, q6⟩ : ∃ q : Nat, x = .int (q : Int) ∧ 1 ≤ q ∧ q ≤ 6 := by
          rcases List.mem_cons.mp hx7 with e | hx7
          · exact ⟨1, e, by decide, by decide⟩
          · rcases List.mem_cons.mp hx7 with e | hx7
            · exact ⟨2, e, by decide, by decide⟩
            · exact ⟨6, List.mem_singleton.mp hx7, by decide, by decide⟩
        refine ⟨(q : Int), rfl, by omega, by omega, fun D hD => ?_⟩
        have nD := d7.fresh hD
        have k37 : Kw d w H4 H7 := (k35.trans k6).trans ((Kw.of (same_upd hl3)).trans k7)
        refine lc_goK walk_range hD ⟨nD.1, nD.2.1⟩ (fun j acc H => (∃ cs : List Nat, acc = (cs.map one).map V.str ∧ cs.length = j ∧ ∀ ch ∈ cs, ch ∈ letters.cps.toList) ∧ Dr d w c (f0 + 10 * (n - i) - 3 - j) H) (fun j acc H u _ h => ⟨h.1, h.2.at3 nD.1 nD.2.1 nD.2.2⟩) ⟨⟨[], rfl, rfl, fun _ h => by cases h⟩, d7⟩ (fun _ _ => trivial) (small1000 (by omega)) (fun j v acc H8 H9 Fy Fn hj sm e y ky kn => ?_) (fun H8 acc s8 hd8 e => ?_)
        · obtain ⟨rfl, rfl⟩ := y
          obtain ⟨⟨cs, rfl, ecs, hcs⟩, d8⟩ := e
          have hj6 : j < 6 := by omega
          refine ⟨rfl, lcY ⟨_, rfl, _, rfl, d, w, c, f0 + 10 * (n - i) - 3 - (j + 1), _, rfl, d8.less (by omega), .inr ⟨letters, rfl, by decide +kernel, by decide +kernel, fun ch H10 hch k10 d10 => ky _ _ k10 ⟨⟨cs ++ [ch], ?_, by rw [List.length_append, ecs]; rfl, fun x hx => ?_⟩, d10⟩⟩⟩⟩
          · rw [List.map_append, List.map_append]
            rfl
          · rcases List.mem_append.mp hx with hx | hx
            · exact hcs x hx
            · rw [List.mem_singleton.mp hx]
              exact hch
        · obtain ⟨⟨cs, rfl, ecs, hcs⟩, d8⟩ := e
          have eq : ((q : Int)).toNat = q := Int.toNat_natCast q
          rw [eq] at ecs d8
          have hsum := sum_ones cs
          refine ⟨"", D, cs.map one, rfl, rfl, .inl (SqL.of hd8), ?_, ?_⟩
          · rw [hsum, List.length_map]
            have : ("" : Str).length = 0 := rfl
            rw [this]
            omega
          · exact ⟨k37.trans s8, d8.less (by omega), _, nameOk_join (by omega) (by omega) hcs, rfl⟩
      · rintro σ H5 ⟨k5, d5, z, hzok, rfl⟩
        have ol5 := ol3.kw k5
        -- the candidates
        refine ⟨_, rfl, by show 1 ≤ sizeLine; decide, fun l1 hl1 => ?_⟩
        have s1 : Same H5 (upd H5 l1 (.lst [.str z])) := same_upd hl1
        have h1 : (upd H5 l1 (.lst [.str z])) l1 = some (.lst [.str z]) := upd_same
        generalize upd H5 l1 (.lst [.str z]) = H6 at *
        refine ⟨_, rfl, letters, rfl, fun D hD => ?_⟩
        refine lc_go walk_str hD (fun j acc _ => acc = ((letterL.take j).map (near z)).map V.str) (fun _ _ _ _ _ h => h) rfl (fun _ _ => trivial) (by show letters.cps.size < sizeLine; exact Nat.lt_of_le_of_lt (show letters.cps.size ≤ 26 by decide +kernel) (by decide)) (fun j v acc H8 H9 Fy Fn hj sm e y ky kn => ?_) (fun H8 acc s8 hd8 e => ?_)
        · obtain ⟨rfl, ch, hch, rfl⟩ := y
          have hlj : letterL[j]? = some ch := by
            unfold letterL
            rw [Array.getElem?_toList]
            exact hch
          refine ⟨rfl, lcY ⟨_, rfl, 5, rfl, z, rfl, Nat.le_trans hzok.2.1 (by decide), _, rfl, cutS z none (some 5), one ch, rfl, rfl, ?_, ky _ _ (Same.refl _) ?_⟩⟩
          · have e5 : (cutS z none (some 5)).length ≤ 5 := by
              show (cutS z none (some 5)).cps.size ≤ 5
              rw [← Array.length_toList, cut5, List.length_take]
              omega
            have e1 : (one ch).length = 1 := rfl
            exact Nat.le_trans (show _ ≤ 6 by omega) (by decide)
          · rw [e, take_snoc hlj, List.map_append, List.map_append]
            rfl
        have hl26 : letters.cps.size = 26 := by decide +kernel
        rw [hl26, take_all (Nat.le_of_eq letter_len)] at e
        have hcat : [V.str z] ++ acc = (cands z).map V.str := by
          rw [e]
          rfl
        refine ⟨l1, D, _, _, rfl, rfl, s8 _ _ h1, hd8, ?_, fun lc hlc => ?_⟩
        · rw [e, List.length_map, List.length_map, letter_len]
          show 27 ≤ sizeLine
          decide
        rw [hcat]
        have s9 : Same H5 (upd H8 lc (.lst ((cands z).map V.str))) := sup (s1.trans s8) hlc
        have hlc9 : (upd H8 lc (.lst ((cands z).map V.str))) lc = some (.lst ((cands z).map V.str)) := upd_same
        generalize upd H8 lc (.lst ((cands z).map V.str)) = H9 at *
        have ol9 := ol5.keep s9
        refine ⟨_, rfl, .inl ⟨rfl, _, SqL.of ol9.at_⟩, _, rfl, lc, rfl, ⟨_, SqL.of hlc9⟩, fun D2 hD2 => ?_⟩
        refine lc_go walk_list hD2 (fun j acc _ => acc = (((cands z).take j).filter (fun x => decide (x ∉ ys))).map V.str) (fun _ _ _ _ _ h => h) rfl (fun H1 s => SqL.of (s _ _ hlc9)) (small1000 (by rw [List.length_map, cands_len]; decide)) (fun j v acc H10 H11 Fy Fn hj sm e y ky kn => ?_) (fun H10 acc s10 hd10 e => ?_)
        · obtain ⟨rfl, hv⟩ := y
          rw [List.getElem?_map] at hv
          obtain ⟨x, hx, rfl⟩ := Option.map_eq_some_iff.mp hv
          refine ⟨rfl, _, rfl, _, rfl, l, _, rfl, .inl (SqL.of (ol9.keep sm).at_), rfl, flat_strs ys, _, rfl, ?_⟩
          rw [if_pos rfl, inV_strs]
          rw [filter_take hx] at ky kn
          by_cases hm : x ∈ ys
          · refine iteBF (by rw [decide_eq_true hm]; rfl) (kn _ (Same.refl _) ?_)
            rw [if_neg (by simp [hm]), List.append_nil]
            exact e
          · refine iteB (by rw [decide_eq_false hm]; rfl) ⟨_, rfl, ky _ _ (Same.refl _) ?_⟩
            rw [if_pos (by simp [hm]), List.map_append, e]
            rfl
        rw [List.length_map, take_all (Nat.le_refl _)] at e
        have hne := cands_new z (found := ys) (by omega)
        obtain ⟨x, xs, hxs⟩ : ∃ x xs, (cands z).filter (fun x => decide (x ∉ ys)) = x :: xs := by
          cases h : (cands z).filter (fun x => decide (x ∉ ys)) with
          | nil => exact absurd h hne
          | cons x xs => exact ⟨x, xs, rfl⟩
        have hxm : x ∈ (cands z).filter (fun x => decide (x ∉ ys)) := by
          rw [hxs]
          exact List.mem_cons_self ..
        obtain ⟨hx1, hx2⟩ := List.mem_filter.mp hxm
        have hx2' : x ∉ ys := of_decide_eq_true hx2
        rw [hxs] at e
        have ol10 := ol9.keep s10
        refine ⟨D2, _, 0, .str x, rfl, rfl, SqL.of hd10, (by rw [e]; exact atI_nat (j := 0) rfl), l, _, _, rfl, rfl, ol10.at_, small1000 (by rw [List.length_map]; omega), ?_⟩
        have hd9 : Dr d w c (f0 + 10 * (n - i) - 9) H10 := (d5.same s9).same s10
        refine ⟨kwp ((k3.trans k5).trans (Kw.of (s9.trans s10))) hl, ys ++ [x], ?_, ?_, nd_snoc hynd hx2', fun y hy => ?_, (hd9.wr ol10).less (by omega), _, _, _, rfl⟩
        · have := ol10.wr (u := .lst (ys.map V.str ++ [.str x]))
          rw [List.map_append]
          exact this
        · rw [List.length_append, hyl]
          rfl
        · rcases List.mem_append.mp hy with hy | hy
          · exact hyok y hy
          · rw [List.mem_singleton.mp hy]
            exact cands_ok hzok x hx1
    · obtain ⟨k3, ys, ol3, hyl, hynd, hyok, hd3, z4, z5, z6, rfl⟩ := h
      have hyl' : ys.length = n := by simpa using hyl
      exact ⟨_, rfl, k l ys _ hyl' hynd hyok k3 (hd3.less (by omega)) ol3⟩
end
end Nd
set_option Elab.async false
set_option linter.all false
set_option maxRecDepth 100000
set_option maxHeartbeats 2000000
namespace Nd
open PySem PySem.Spec PyProof.Rows L2
def allSlots (ks : List Str) (n : Nat) : List Slot := (List.range n).flatMap fun d : Nat => ks.map fun k => (k, (d : Int))
theorem allSlots_succ (ks : List Str) (n : Nat) : allSlots ks (n + 1) = allSlots ks n ++ ks.map fun k => (k, (n : Int)) := by
  unfold allSlots
  rw [List.range_succ, List.flatMap_append]
  simp
theorem allSlots_mem {ks : List Str} : ∀ {n : Nat} {z : Slot}, z ∈ allSlots ks n ↔ z.1 ∈ ks ∧ 0 ≤ z.2 ∧ z.2 < n
  | 0, z => by
    constructor
    · intro h
      cases h
    · rintro ⟨_, h1, h2⟩
      omega
  | n + 1, z => by
    rw [allSlots_succ, List.mem_append, allSlots_mem]
    constructor
    · rintro (⟨h1, h2, h3⟩ | h)
      · exact ⟨h1, h2, by omega⟩
      · obtain ⟨k, hk, rfl⟩ := List.mem_map.mp h
        exact ⟨hk, by show (0 : Int) ≤ (n : Int); omega, by show (n : Int) < ((n + 1 : Nat) : Int); omega⟩
    · rintro ⟨h1, h2, h3⟩
      by_cases e : z.2 = (n : Int)
      · right
        exact List.mem_map.mpr ⟨z.1, h1, by rw [← e]⟩
      · left
        exact ⟨h1, h2, by omega⟩
theorem allSlots_nd {ks : List Str} (h : ks.Nodup) : ∀ n, (allSlots ks n).Nodup
  | 0 => List.nodup_nil
  | n + 1 => by
    rw [allSlots_succ]
    refine List.nodup_append.mpr ⟨allSlots_nd h n, List.Pairwise.map _ (fun a b hab e => hab (congrArg Prod.fst e)) h, fun a ha b hb e => ?_⟩
    obtain ⟨k, hk, rfl⟩ := List.mem_map.mp hb
    have := (allSlots_mem.mp ha).2.2
    rw [e] at this
    have h2 : ((n : Int)) < (n : Int) := this
    omega
theorem allSlots_len (ks : List Str) : ∀ n, (allSlots ks n).length = n * ks.length
  | 0 => by simp [allSlots]
  | n + 1 => by
    rw [allSlots_succ, List.length_append, allSlots_len, List.length_map, Nat.succ_mul]
/-- slots that a pack may have -/
structure SlotsIn (ks : List Str) (n : Nat) (ss : List Slot) : Prop where
  nd : ss.Nodup
  in_ : ∀ z ∈ ss, z.1 ∈ ks ∧ 0 ≤ z.2 ∧ z.2 < n
  len : ss.length ≤ 12
theorem SlotsIn.sub {ks : List Str} {n : Nat} {ss ts : List Slot} (h : SlotsIn ks n ss) (s : ts.Sublist ss) : SlotsIn ks n ts := ⟨h.nd.sublist s, fun z hz => h.in_ z (s.subset hz), Nat.le_trans s.length_le h.len⟩
theorem SlotsIn.all {ks : List Str} {n : Nat} {ss : List Slot} (hk : ks.Nodup) (h3 : ks.length ≤ 3) (h4 : n ≤ 4) (p : ss.Perm (allSlots ks n)) : SlotsIn ks n ss := ⟨p.nodup_iff.mpr (allSlots_nd hk n), fun z hz => allSlots_mem.mp (p.mem_iff.mp hz), by
  rw [p.length_eq, allSlots_len]
  exact Nat.le_trans (Nat.mul_le_mul h4 h3) (by decide)⟩
theorem eqvAll_nil (ds : List PyData) : PyData.eqvAll ds [] = ds.isEmpty := by cases ds <;> simp [PyData.eqvAll]
theorem slots_shaped {ss : List Slot} (h : ∀ z ∈ ss, PyData.strOk z.1 = true) : SeqAt.shaped (.list (ss.map slotD)) = true := shaped_listM (fun z hz => slot_can (h z hz)) fun z _ => by rw [slot_depth]; decide
section
variable {P : Program} {w0 : World} {K : PySem.W.Frag} {mg : Str → Option Value} {base : Heap}
theorem Td.slot {H : Hp} {p : Addr} {z : Slot} (h : H p = some (.tup [.str z.1, .int z.2])) : Td K H (.ref p) (slotD z) := .tup (.inl h) (.cons (.str _) (.cons (.int _) .nil))
/-! ### _law_all_spots -/
def spAllSpots (K : PySem.W.Frag) : Sp := fun vs H Q _ => ∃ (l : Addr) (ks : List Str) (n : Nat), vs = [.ref l, .int (n : Int)] ∧ H l = some (.lst (ks.map V.str)) ∧ ks.length ≤ 3 ∧ n ≤ 4 ∧
  ∀ (l' : Addr) (ys : List V) (ss : List Slot) (H' : Hp), Same H H' → H l' = none → H' l' = some (.lst ys) → TdAll K H' ys (ss.map slotD) → ss.Perm (allSlots ks n) → Q (.ref l') H'
theorem sc_all_spots : FnScope ["_law_kinds_here", "_law_span", "_law_found", "_law_date", "_law_kind"] ["_law_kinds_here", "_law_span"] (defScope (top 77)) := ⟨rfl, rfl, rfl, by decide +kernel, rfl, by decide +kernel, by decide +kernel⟩
theorem ok_all_spots (T : Tx K mg) : Cal P w0 K mg base 1 "_law_all_spots" (spAllSpots K) := by
  refine Cal.of (T.f ("_law_all_spots", 77)) sc_all_spots (fun _ _ _ _ _ _ us hl => match us, hl with | [_, _], _ => rfl) (fun vs H Q E h => ?_) (fun f cdv A outer s H vs Q E hr h => ?_)
  · obtain ⟨l, ks, n, rfl, _⟩ := h
    rfl
  · obtain ⟨l, ks, n, rfl, hl, hk3, hn4, k⟩ := h
    have nd := sc_all_spots.nd
    refine ⟨_, pss_cons (pst 2 nd (pe_lst pa_nil)) <|
      pss_cons (ps_for PassesOwn.never rfl (pi_range1 rfl (T.z "range") (pa1 (pv 1))) (pgn 3 nd) <|
        pss_one <| pst 2 nd (pe_op op_cat (pv 2) (pe_lc (own := [("_law_kind", 4)]) (g := gName 4) (tt := tYes) rfl nd (pi_list (pv 0)) (blkOk_by (N := ["_law_kinds_here", "_law_span", "_law_found", "_law_date", "_law_kind"]) (sc := defScope (top 77)) (by decide +kernel)) (fun _ _ _ _ _ => pgn 4 nd) (fun _ _ _ _ _ => pts_nil)
          (fun _ _ _ _ _ => pe_tup (pa2 (pv 4) (pv 3)))))) <|
      pss_one <| ps_ret <| pcb "sorted" (cr_sortSI hr.units) (T.z "sorted") (pv 2), ?_⟩
    refine ⟨by show 0 ≤ sizeLine; exact Nat.zero_le _, fun a0 ha0 => ?_⟩
    refine ⟨_, rfl, (n : Int), rfl, by omega, by omega, ?_⟩
    refine for_it walk_range (fun i σ H' => Same H H' ∧ ∃ (a : Addr) (ys : List V) (z3 : Option V), σ = [some (.ref l), some (.int (n : Int)), some (.ref a), z3, none] ∧ H' a = some (.lst ys) ∧ TdAll K H' ys ((allSlots ks i).map slotD)) ⟨same_upd ha0, a0, [], none, rfl, upd_same, .nil⟩ (fun _ _ _ _ _ => trivial) (fun i v σ H3 H4 hi h y => ?_) (fun σ H3 h => ?_)
    · obtain ⟨sm, a, ys, z3, rfl, ha, tys⟩ := h
      obtain ⟨rfl, rfl⟩ := y
      have hi' : i < n := by simpa using hi
      refine ⟨_, rfl, _, rfl, l, rfl, ⟨_, SqL.of (sm _ _ hl)⟩, fun D hD => ?_⟩
      refine lc_go walk_list hD (fun j acc H => TdAll K H acc (((ks.take j).map fun k => (k, (i : Int))).map slotD)) (fun _ _ _ _ k h => h.keep k) .nil (fun H1 s => SqL.of ((sm.trans s) _ _ hl)) (small1000 (by rw [List.length_map]; omega)) (fun j v acc H5 H6 Fy Fn hj s5 e y ky kn => ?_) (fun H5 acc s5 hd5 e => ?_)
      · obtain ⟨rfl, hv⟩ := y
        rw [List.getElem?_map] at hv
        obtain ⟨x, hx, rfl⟩ := Option.map_eq_some_iff.mp hv
        refine ⟨rfl, lcY ⟨_, rfl, _, rfl, by show 2 ≤ sizeLine; decide, fun u hu => ky _ _ (same_upd hu) ?_⟩⟩
        rw [take_snoc hx, List.map_append, List.map_append]
        refine (e.keep (TK.updN hu)).snoc (Td.slot (z := (x, (i : Int))) ?_)
        rw [upd_same]
        have e0 : (0 : Int) + (i : Nat) = (i : Int) := Int.zero_add _
        exact congrArg (fun z : Int => some (HO.tup [V.str x, V.int z])) e0
      · rw [List.length_map, take_all (Nat.le_refl _)] at e
        have ha5 := s5 _ _ ha
        have hyl := tys.len
        rw [List.length_map, allSlots_len] at hyl
        have hal := e.len
        rw [List.length_map, List.length_map] at hal
        refine ⟨a, D, ys, acc, rfl, rfl, ha5, hd5, ?_, fun p hp => ?_⟩
        · have h1 : i * ks.length ≤ 4 * 3 := Nat.mul_le_mul (by omega) hk3
          exact Nat.le_trans (show ys.length + acc.length ≤ 100 by omega) (by decide)
        · refine ⟨(sm.trans s5).trans (same_upd hp), p, _, _, rfl, upd_same, ?_⟩
          rw [allSlots_succ, List.map_append]
          exact ((tys.keep (TK.of s5)).app e).keep (TK.updN hp)
    · obtain ⟨sm, a, ys, z3, rfl, ha, tys⟩ := h
      have en : ((n : Int)).toNat = n := Int.toNat_natCast n
      rw [en] at tys
      refine ⟨_, rfl, a, ys, _, rfl, SqL.of ha, tys, ?_, fun zs ts p hp tzs hpn => ?_⟩
      · rw [allSlots_len]
        have h1 : n * ks.length ≤ 4 * 3 := Nat.mul_le_mul hn4 hk3
        omega
      · exact k p zs ts _ (sup sm hpn) (sm.free hpn) upd_same (tzs.keep (TK.updN hpn)) hp
theorem Kw.free {d w c : Addr} {f : Nat} {H H' : Hp} {p : Addr} (k : Kw d w H H') (h : Dr d w c f H') (e : H' p = none) : H p = none := by
  obtain ⟨n1, n2, n3⟩ := h.fresh e
  cases q : H p with
  | none => rfl
  | some o =>
    rw [k p o q n1 n2] at e
    cases e
/-- an if, whatever way its test goes -/
theorem ifB {c : TT} {t1 t2 : TS} {D : Ends} {σ : L2.St} {H : Hp} (F : Hp → Prop) (h : ∀ Q : Bool → Hp → Prop, (∀ H', F H' → Q true H') → (∀ H', F H' → Q false H') → c σ H Q) (q1 : ∀ H', F H' → t1 D σ H') (q2 : ∀ H', F H' → t2 D σ H') : tIfS c t1 t2 D σ H :=
  h _ (fun H' f => iteT (q1 H' f)) fun H' f => iteF (q2 H' f)
theorem iteQ {b : Bool} {A B : Prop} (h1 : A) (h2 : B) : if b = true then A else B := by cases b <;> assumption
/-! ### _law_spots -/
def spSpots (K : PySem.W.Frag) : Sp := fun vs H Q _ => ∃ (d w c l : Addr) (f : Nat) (ks : List Str) (n : Nat), vs = [.ref d, .ref l, .int (n : Int)] ∧ Own d w c H l (.lst (ks.map V.str)) ∧ ks.Nodup ∧ 1 ≤ ks.length ∧ ks.length ≤ 3 ∧ (∀ z ∈ ks, PyData.strOk z = true) ∧ 1 ≤ n ∧ n ≤ 4 ∧ Dr d w c (f + 20) H ∧
  ∀ (l' : Addr) (ys : List V) (ss : List Slot) (H' : Hp), Kw d w H H' → Dr d w c f H' → Own d w c H' l' (.lst ys) → TdAll K H' ys (ss.map slotD) → SlotsIn ks n ss → ss ≠ [] → Q (.ref l') H'
theorem sc_spots : FnScope ["_law_draw", "_law_kinds_here", "_law_span", "_law_every", "_law_first", "_law_last_here", "_law_some", "_law_found", "_law_kind", "_law_date", "_law_spot"] ["_law_draw", "_law_kinds_here", "_law_span"] (defScope (top 78)) := ⟨rfl, rfl, rfl, by decide +kernel, rfl, by decide +kernel, by decide +kernel⟩
theorem ok_spots (T : Tx K mg) : Cal P w0 K mg base 4 "_law_spots" (spSpots K) := by
  refine Cal.of (T.f ("_law_spots", 78)) sc_spots (fun _ _ _ _ _ _ us hl => match us, hl with | [_, _, _], _ => rfl) (fun vs H Q E h => ?_) (fun f cdv A outer s H vs Q E hr h => ?_)
  · obtain ⟨d, w, c, l, f, ks, n, rfl, _⟩ := h
    rfl
  · obtain ⟨d, w, c, l, f0, ks, n, rfl, ol, hknd, hk1, hk3, hkok, hn1, hn4, hd, k⟩ := h
    have nd := sc_spots.nd
    refine ⟨_, pss_cons (pst 3 nd (pcl (ok_all_spots T) hr (pa2 (pv 1) (pv 2)))) <|
      pss_cons (pst 4 nd (pcl (ok_take T) hr (pa2 (pv 0) (pv 2)))) <|
      pss_cons (pst 5 nd (pe_op op_add (pv 4) (pcl (ok_take T) hr (pa2 (pv 0) (pe_op op_sub (pv 2) (pv 4)))))) <|
      pss_cons (pst 6 nd (pcl (ok_any_of T) hr (pa3 (pv 0) (pv 1) pe_int))) <|
      pss_cons (pst 7 nd (pe_lst pa_nil)) <|
      pss_cons (ps_for PassesOwn.never rfl (pi_list (pv 3)) (pg_tup rfl (pgs_cons (pgn 8 nd) (pgs_cons (pgn 9 nd) pgs_nil))) <|
        pss_one <| ps_if (pw_and (pt_cmpR op_in_seq (pv 8) (pv 6) rfl) <| pw_and1 <| pt_chain op_le op_le (pv 4) (pv 9) (pv 5)).pt
          (pss_one <| ps_expr (pe_bm PySem.F.plainAttrs_list PySem.F.slot_list_append PySem.F.type_list_append mt_append (pv 7) (pa1 (pe_tup (pa2 (pv 8) (pv 9)))))) pss_nil) <|
      C8.pss_cut (ps_if (pw_or (pt_cmpR (op_eqD hr.units) (pv 7) (pe_lst pa_nil) (nomark _)) <| pw_or1 <| pt_cmpR op_eq (pcl (ok_take T) hr (pa2 (pv 0) pe_int)) pe_int (nomark _)).pt
        (pss_one <| ps_setLc (i := 7) (own := [("_law_spot", 10)]) (g := gName 10) rfl nd rfl rfl rfl (pi_list (pv 3)) (blkOk_by (N := ["_law_draw", "_law_kinds_here", "_law_span", "_law_every", "_law_first", "_law_last_here", "_law_some", "_law_found", "_law_kind", "_law_date", "_law_spot"]) (sc := defScope (top 78)) (by decide +kernel)) (fun _ _ _ _ _ => pgn 10 nd)
          (fun _ _ _ _ _ => pts_one (pt_cmpR op_eq (pcl (ok_take T) hr (pa2 (pv 0) pe_int)) pe_int (nomark _))) (fun _ _ _ _ _ => pv 10)) pss_nil) <|
      pss_one <| ps_ret <| pe_ifExp (pt_cmpR (op_neD hr.units) (pv 7) (pe_lst pa_nil) (nomark _)) (pv 7) (pe_lst (pa1 (pcl (ok_pick T) hr (pa2 (pv 0) (pv 3))))), ?_⟩
    refine ⟨_, rfl, _, rfl, l, ks, n, rfl, ol.at_, hk3, hn4, fun le ys ts H1 s1 hle0 hle tys hp => ?_⟩
    have hsin := SlotsIn.all hknd hk3 hn4 hp
    have d1 := hd.same s1
    have ole := Own.made hd hle0 hle
    have ol1 := ol.keep s1
    refine ⟨_, rfl, _, rfl, d, w, c, f0 + 19, _, rfl, by omega, by omega, d1, fun m H2 m0 m1 k2 d2 => ?_⟩
    refine ⟨_, rfl, _, rfl, _, rfl, _, rfl, _, _, rfl, rfl, d, w, c, f0 + 18, _, rfl, by omega, by omega, d2, fun m2 H3 m20 m21 k3 d3 => ⟨_, _, rfl, rfl, ?_⟩⟩
    have k13 := k2.trans k3
    have ol3 := ol1.kw k13
    refine ⟨_, rfl, _, rfl, d, w, c, l, f0 + 14, 3, _, rfl, by decide, by decide, ol3, by rw [List.length_map]; omega, d3.less (by rw [List.length_map]; omega), fun ls ws H4 hsub k4 d4 ols => ?_⟩
    obtain ⟨sw, rfl, hsw⟩ : ∃ sw : List Str, ws = sw.map V.str ∧ sw.Sublist ks := by
      obtain ⟨sw, h1, h2⟩ := List.sublist_map_iff.mp hsub
      exact ⟨sw, h2, h1⟩
    refine ⟨by show 0 ≤ sizeLine; exact Nat.zero_le _, fun lf hlf => ?_⟩
    have k14 := k13.trans k4
    have ole4 := ole.kw k14
    have ols5 := ols.keep (same_upd (o := .lst ([] : List V)) hlf)
    have ole5 := ole4.keep (same_upd (o := .lst ([] : List V)) hlf)
    have olf5 := Own.new (o := .lst ([] : List V)) d4 hlf
    have d5 := d4.new (u := .lst ([] : List V)) hlf
    have tk45 : TK H1 H4 := k14.tk d1
    have tys5 : TdAll K (upd H4 lf (.lst [])) ys (ts.map slotD) := (tys.keep tk45).keep (TK.updN hlf)
    have k5 : Kw d w H1 (upd H4 lf (.lst [])) := k14.trans (Kw.of (same_upd hlf))
    have hef : le ≠ lf := ne_of_none ole4.at_ hlf
    have hsf : ls ≠ lf := ne_of_none ols.at_ hlf
    have hyl : ys.length = ts.length := by
      rw [tys.len, List.length_map]
    have hlf1 : H1 lf = none := k14.free d4 hlf
    generalize upd H4 lf (.lst []) = H5 at *
    refine ⟨_, rfl, le, rfl, ⟨_, SqL.of ole5.at_⟩, ?_⟩
    -- the loop: a sublist of all the spots
    refine for_it walk_list (fun i σ H' => (∃ z8 z9, σ = [some (.ref d), some (.ref l), some (.int (n : Int)), some (.ref le), some (.int m), some (.int (m + m2)), some (.ref ls), some (.ref lf), z8, z9, none]) ∧ (∀ b o, H5 b = some o → b ≠ lf → H' b = some o) ∧ Dr d w c (f0 + 14) H' ∧ ∃ (xs : List V) (ss : List Slot), Own d w c H' lf (.lst xs) ∧ TdAll K H' xs (ss.map slotD) ∧ ss.Sublist (ts.take i))
      ⟨⟨none, none, rfl⟩, fun _ _ h _ => h, d5, [], [], olf5, .nil, List.Sublist.refl _⟩ (fun i σ H' _ h => SqL.of (h.2.1 _ _ ole5.at_ hef)) (fun i v σ H6 H7 hi h y => ?_) (fun σ H6 h => ?_)
    · obtain ⟨⟨z8, z9, rfl⟩, kb, d6, xs, ss, olf6, txs, hss⟩ := h
      obtain ⟨rfl, hv⟩ := y
      have tk57 : TK H5 H7 := fun b zs e => kb b _ e (ne_of e olf5.at_ (by intro z; cases z))
      obtain ⟨z, hz, tz⟩ := (tys5.keep tk57).map_at hv
      obtain ⟨q, rfl, hq⟩ := slot_inv tz
      have ols7 := kb _ _ ols5.at_ hsf
      have hxl : xs.length ≤ 12 := by
        have h1 := txs.len
        have h2 := hss.length_le
        have h3 := hsin.len
        rw [List.length_map] at h1
        rw [List.length_take] at h2
        omega
      refine ⟨q, _, rfl, hq.sq, rfl, _, _, rfl, _, _, rfl, rfl, ?_⟩
      have skip : (∃ z8 z9, [some (V.ref d), some (.ref l), some (.int (n : Int)), some (.ref le), some (.int m), some (.int (m + m2)), some (.ref ls), some (.ref lf), some (.str z.1), some (.int z.2), none] = [some (V.ref d), some (.ref l), some (.int (n : Int)), some (.ref le), some (.int m), some (.int (m + m2)), some (.ref ls), some (.ref lf), z8, z9, none]) ∧ (∀ b o, H5 b = some o → b ≠ lf → H7 b = some o) ∧ Dr d w c (f0 + 14) H7 ∧ ∃ (xs : List V) (ss : List Slot), Own d w c H7 lf (.lst xs) ∧ TdAll K H7 xs (ss.map slotD) ∧ ss.Sublist (ts.take (i + 1)) :=
        ⟨⟨_, _, rfl⟩, kb, d6, xs, ss, olf6, txs, hss.trans (by rw [take_snoc hz]; exact List.sublist_append_left _ _)⟩
      refine ⟨_, rfl, _, rfl, ls, _, rfl, .inl (SqL.of ols7), rfl, flat_strs sw, _, rfl, ?_⟩
      rw [if_neg (by decide)]
      refine ite2 (fun _ => ?_) fun _ => iteF skip
      refine ⟨_, rfl, _, rfl, _, _, rfl, rfl, _, rfl, ite2 (fun _ => ⟨_, rfl, _, _, rfl, rfl, _, rfl, ite2 (fun _ => ?_) fun _ => skip⟩) fun _ => ⟨_, rfl, iteF skip⟩⟩
      refine ⟨_, rfl, .inl ⟨rfl, _, SqL.of olf6.at_⟩, _, rfl, _, rfl, by show 2 ≤ sizeLine; decide, fun u hu => ?_⟩
      have olf8 := olf6.keep (same_upd (o := .tup [.str z.1, .int z.2]) hu)
      refine ⟨lf, xs, _, rfl, rfl, olf8.at_, small1000 (by omega), ?_⟩
      have tk8 : TK H7 (upd (upd H7 u (.tup [.str z.1, .int z.2])) lf (.lst (xs ++ [.ref u]))) := (TK.updN hu).trans (TK.updL olf8.at_)
      refine ⟨⟨_, _, rfl⟩, fun b o e nb => ?_, (d6.new hu).wr olf8, xs ++ [.ref u], ss ++ [z], olf8.wr, ?_, ?_⟩
      · rw [upd_ne nb, upd_ne (ne_of_none (kb _ _ e nb) hu)]
        exact kb _ _ e nb
      · rw [List.map_append]
        refine (txs.keep tk8).snoc (Td.slot ?_)
        rw [upd_ne (Ne.symm (ne_of_none olf6.at_ hu)), upd_same]
      · rw [take_snoc hz]
        exact hss.append (List.Sublist.refl _)
    · obtain ⟨⟨z8, z9, rfl⟩, kb, d6, xs, ss, olf6, txs, hss⟩ := h
      rw [hyl, take_all (Nat.le_refl _)] at hss
      have hok : ∀ z ∈ ts, PyData.strOk z.1 = true := fun z hz => hkok _ (hsin.in_ z hz).1
      have tk56 : TK H5 H6 := fun b zs e => kb b _ e (ne_of e olf5.at_ (by intro z; cases z))
      have ole6 : Own d w c H6 le (.lst ys) := ⟨kb _ _ ole5.at_ hef, ole5.nd, ole5.nw, ole5.nc⟩
      have tys6 := tys5.keep tk56
      have k6 : Kw d w H1 H6 := fun b o e n1 n2 => kb _ _ (k5 b o e n1 n2) (ne_of_none e hlf1)
      have hshap : ∀ zs : List Slot, SlotsIn ks n zs → SeqAt.shaped (.list (zs.map slotD)) = true := fun zs hz => slots_shaped fun z h => hkok _ (hz.in_ z h).1
      have hshe : SeqAt.shaped (.list []) = true := by decide +kernel
      refine ⟨fun σ H' => Kw d w H1 H' ∧ Dr d w c (f0 + 1) H' ∧ ∃ (la : Addr) (zs : List V) (us : List Slot) (z8 z9 : Option V), σ = [some (.ref d), some (.ref l), some (.int (n : Int)), some (.ref le), some (.int m), some (.int (m + m2)), some (.ref ls), some (.ref la), z8, z9, none] ∧ Own d w c H' la (.lst zs) ∧ TdAll K H' zs (us.map slotD) ∧ SlotsIn ks n us, ?_, ?_⟩
      · refine ifB (fun H' => Kw d w H6 H' ∧ Dr d w c (f0 + 13) H') (fun Q q1 q2 => ?_) (fun H7 h7 => ?_) fun H7 h7 => ?_
        · refine ⟨_, rfl, by show 0 ≤ sizeLine; exact Nat.zero_le _, fun p hp => ?_⟩
          have d7 := d6.new (u := .lst ([] : List V)) hp
          refine ⟨_, _, .lst (SqL.of (olf6.keep (same_upd hp)).at_) (txs.keep (TK.updN hp)).dp, .lst (SqL.of upd_same) .nil, hshap ss (hsin.sub hss), hshe, _, rfl, ?_⟩
          refine iteQ (q1 _ ⟨Kw.of (same_upd hp), d7.less (by omega)⟩) ?_
          refine ⟨_, rfl, d, w, c, f0 + 13, 3, rfl, by decide, by decide, d7, fun m3 H8 _ _ k8 d8 => ⟨rfl, _, rfl, ?_⟩⟩
          cases decide (V.int m3 = V.int 0) with
          | true => exact q1 _ ⟨(Kw.of (same_upd hp)).trans k8, d8⟩
          | false => exact q2 _ ⟨(Kw.of (same_upd hp)).trans k8, d8⟩
        · obtain ⟨k7, d7⟩ := h7
          have ole7 := ole6.kw k7
          have tk67 := k7.tk d6
          refine ⟨_, rfl, le, rfl, ⟨_, SqL.of ole7.at_⟩, fun D hD => ?_⟩
          have nD := d7.fresh hD
          refine lc_goK walk_list hD ⟨nD.1, nD.2.1⟩ (fun i acc H => (∃ us : List Slot, TdAll K H acc (us.map slotD) ∧ us.Sublist (ts.take i)) ∧ TdAll K H ys (ts.map slotD) ∧ Dr d w c (f0 + 13 - i) H) (fun i acc H u hl h => ⟨h.1.elim fun us g => ⟨us, g.1.keep hl.tk, g.2⟩, h.2.1.keep hl.tk, h.2.2.at3 nD.1 nD.2.1 nD.2.2⟩) ⟨⟨[], .nil, List.Sublist.refl _⟩, tys6.keep tk67, d7⟩ (fun H1 s => SqL.of (ole7.kw s).at_) (small1000 (by have := hsin.len; omega)) (fun i v acc H8 H9 Fy Fn hi s8 e y ky kn => ?_) (fun H8 acc s8 hd8 e => ?_)
          · obtain ⟨rfl, hv⟩ := y
            obtain ⟨⟨us, tus, hus⟩, tys8, d8⟩ := e
            obtain ⟨z, hz, tz⟩ := tys8.map_at hv
            have hi12 : i < 12 := by
              have := hsin.len
              omega
            refine ⟨rfl, _, rfl, d, w, c, f0 + 13 - (i + 1), 2, rfl, by decide, by decide, d8.less (by omega), fun m3 H10 _ _ k10 d10 => ⟨rfl, _, rfl, ?_⟩⟩
            have tk10 := k10.tk d8
            refine iteQ ⟨_, rfl, ky _ _ k10 ⟨⟨us ++ [z], ?_, ?_⟩, tys8.keep tk10, d10⟩⟩ (kn _ k10 ⟨⟨us, tus.keep tk10, ?_⟩, tys8.keep tk10, d10⟩)
            · rw [List.map_append]
              exact (tus.keep tk10).snoc (tz.keep tk10)
            · rw [take_snoc hz]
              exact hus.append (List.Sublist.refl _)
            · rw [take_snoc hz]
              exact hus.trans (List.sublist_append_left _ _)
          · obtain ⟨⟨us, tus, hus⟩, tys8, d8⟩ := e
            rw [hyl, take_all (Nat.le_refl _)] at hus
            have h12 := hsin.len
            exact ⟨(k6.trans k7).trans s8, d8.less (by omega), D, acc, us, _, _, rfl, ⟨hd8, nD.1, nD.2.1, nD.2.2⟩, tus, hsin.sub hus⟩
        · obtain ⟨k7, d7⟩ := h7
          exact ⟨k6.trans k7, d7.less (by omega), lf, xs, ss, _, _, rfl, olf6.kw k7, txs.keep (k7.tk d6), hsin.sub hss⟩
      · rintro σ H7 ⟨k7, d7, la, zs, us, z8, z9, rfl, ola, tzs, hus⟩
        refine ⟨_, rfl, by show 0 ≤ sizeLine; exact Nat.zero_le _, fun p hpn => ?_⟩
        have s8 : Same H7 (upd H7 p (.lst [])) := same_upd hpn
        have d8 := d7.same s8
        have ola8 := ola.keep s8
        have tzs8 := tzs.keep (TK.of s8)
        have k8 : Kw d w H1 (upd H7 p (.lst [])) := k7.trans (Kw.of s8)
        refine ⟨_, _, .lst (SqL.of ola8.at_) tzs8.dp, .lst (SqL.of upd_same) .nil, hshap us hus, hshe, _, rfl, ?_⟩
        have ee : PyData.eqv (.list (us.map slotD)) (.list []) = (us.map slotD).isEmpty := by
          rw [PyData.eqv]
          exact eqvAll_nil _
        rw [ee]
        generalize upd H7 p (.lst []) = H8 at *
        cases us with
        | cons z us => exact iteT ⟨_, rfl, k la zs (z :: us) _ ((Kw.of s1).trans k8) (d8.less (by omega)) ola8 tzs8 hus (by simp)⟩
        | nil =>
          refine iteF ?_
          have ole8 := ole.kw k8
          have tys8 := tys.keep (k8.tk d1)
          have hyp : 0 < ys.length := by
            rw [hyl, hp.length_eq, allSlots_len]
            exact Nat.mul_pos (by omega) (by omega)
          have h12 := hsin.len
          refine ⟨_, rfl, _, rfl, d, w, c, f0, _, rfl, d8, .inl ⟨le, ys, rfl, ole8, hyp, by omega, fun x H9 hx k9 d9 => ⟨by show 1 ≤ sizeLine; decide, fun q hq => ?_⟩⟩⟩
          obtain ⟨i, hi, ei⟩ := List.getElem_of_mem hx
          obtain ⟨z, hz, tz⟩ := tys8.map_at (i := i) (x := x) (by rw [List.getElem?_eq_getElem hi, ei])
          have tz9 := tz.keep (k9.tk d8)
          have oq := Own.new (o := .lst [x]) d9 hq
          refine k q [x] [z] _ ((((Kw.of s1).trans k8).trans k9).trans (Kw.of (same_upd hq))) (d9.new hq) oq (.cons (tz9.keep (TK.updN hq)) .nil) (hsin.sub (List.singleton_sublist.mpr (List.mem_of_getElem? hz))) (by simp)
end
end Nd
set_option Elab.async false
set_option linter.all false
set_option maxRecDepth 100000
set_option maxHeartbeats 2000000
namespace Nd
open PySem PySem.Spec PyProof.Rows L2
/-! ### wares: packs as dicts -/
def wareK (sl : Addr) (am : Int) (co ro : V) : List (Key × V) := [(Sum.inr "slots", .ref sl), (Sum.inr "amount", .int am), (Sum.inr "cost", co), (Sum.inr "roll", ro)]
theorem wareK_slots {sl : Addr} {am : Int} {co ro : V} : valV (wareK sl am co ro) (Sum.inr "slots") = some (.ref sl) := rfl
theorem wareK_amount {sl : Addr} {am : Int} {co ro : V} : valV (wareK sl am co ro) (Sum.inr "amount") = some (.int am) := rfl
theorem wareK_cost {sl : Addr} {am : Int} {co ro : V} : valV (wareK sl am co ro) (Sum.inr "cost") = some co := rfl
theorem wareK_roll {sl : Addr} {am : Int} {co ro : V} : valV (wareK sl am co ro) (Sum.inr "roll") = some ro := rfl
theorem wareK_put {sl : Addr} {am : Int} {co ro v : V} : putK (wareK sl am co ro) (Sum.inr "roll") v = wareK sl am co v := rfl
structure WareAt (K : PySem.W.Frag) (d w c : Addr) (H : Hp) (a : Addr) (p : PackD) : Prop where
  ex : ∃ (sl : Addr) (xs : List V) (ro : V), Own d w c H a (.dK (wareK sl p.amount (costV p.cost) ro)) ∧ Own d w c H sl (.lst xs) ∧ TdAll K H xs (p.slots.map slotD) ∧ Td K H ro (rollD p.roll)
section
variable {K : PySem.W.Frag} {d w c : Addr} {f : Nat} {H H' : Hp} {a : Addr} {p : PackD}
theorem WareAt.kw (h : WareAt K d w c H a p) (dr : Dr d w c f H) (k : Kw d w H H') : WareAt K d w c H' a p := by
  obtain ⟨sl, xs, ro, h1, h2, h3, h4⟩ := h.ex
  exact ⟨sl, xs, ro, h1.kw k, h2.kw k, h3.keep (k.tk dr), h4.keep (k.tk dr)⟩
theorem WareAt.keep (h : WareAt K d w c H a p) (s : Same H H') : WareAt K d w c H' a p := by
  obtain ⟨sl, xs, ro, h1, h2, h3, h4⟩ := h.ex
  exact ⟨sl, xs, ro, h1.keep s, h2.keep s, h3.keep (TK.of s), h4.keep (TK.of s)⟩
/-- a store into another dict -/
theorem WareAt.dict {b : Addr} {kvs : List (Key × V)} {u : HO} (h : WareAt K d w c H a p) (e : H b = some (.dK kvs)) (n : a ≠ b) : WareAt K d w c (upd H b u) a p := by
  obtain ⟨sl, xs, ro, h1, h2, h3, h4⟩ := h.ex
  have tk : TK H (upd H b u) := TK.wr fun xs z => by
    rw [e] at z
    cases z
  exact ⟨sl, xs, ro, h1.other n, h2.other (ne_of h2.at_ e (by intro z; cases z)), h3.keep tk, h4.keep tk⟩
/-- a store into a list that is not its own -/
theorem WareAt.roll {v : V} {r : Option (Str × Int)} (h : WareAt K d w c H a p) (tv : Td K H v (rollD r)) : ∃ kvs, H a = some (.dK kvs) ∧ kvs.length = 4 ∧ Own d w c H a (.dK kvs) ∧ WareAt K d w c (upd H a (.dK (putK kvs (Sum.inr "roll") v))) a { p with roll := r } := by
  obtain ⟨sl, xs, ro, h1, h2, h3, h4⟩ := h.ex
  have tk : TK H (upd H a (.dK (putK (wareK sl p.amount (costV p.cost) ro) (Sum.inr "roll") v))) := TK.wr fun xs z => by
    rw [h1.at_] at z
    cases z
  refine ⟨_, h1.at_, rfl, h1, sl, xs, v, ?_, h2.other (ne_of h2.at_ h1.at_ (by intro z; cases z)), h3.keep tk, tv.keep tk⟩
  have := h1.wr (u := .dK (putK (wareK sl p.amount (costV p.cost) ro) (Sum.inr "roll") v))
  rw [wareK_put] at this ⊢
  exact this
end
theorem paired_at {α β : Type} {R : α → β → Prop} : ∀ {as : List α} {ps : List β} {i : Nat} {a : α}, Paired R as ps → as[i]? = some a → ∃ p, ps[i]? = some p ∧ R a p
  | _, _, _, _, .nil, e => by simp at e
  | _, _, 0, _, .cons h _, e => by
    have e' := Option.some.inj (by simpa using e)
    subst e'
    exact ⟨_, by simp, h⟩
  | _, _, i + 1, a, .cons _ t, e => by
    obtain ⟨p, h1, h2⟩ := paired_at (i := i) (a := a) t (by simpa using e)
    exact ⟨p, by simpa using h1, h2⟩
theorem paired_len {α β : Type} {R : α → β → Prop} : ∀ {as : List α} {ps : List β}, Paired R as ps → as.length = ps.length
  | _, _, .nil => rfl
  | _, _, .cons _ t => congrArg (· + 1) (paired_len t)
theorem paired_mono {α β : Type} {R R' : α → β → Prop} (f : ∀ a b, R a b → R' a b) : ∀ {as : List α} {ps : List β}, Paired R as ps → Paired R' as ps
  | _, _, .nil => .nil
  | _, _, .cons h t => .cons (f _ _ h) (paired_mono f t)
theorem paired_snoc {α β : Type} {R : α → β → Prop} {a : α} {b : β} (hb : R a b) : ∀ {as : List α} {ps : List β}, Paired R as ps → Paired R (as ++ [a]) (ps ++ [b])
  | _, _, .nil => .cons hb .nil
  | _, _, .cons h t => .cons h (paired_snoc hb t)
theorem paired_set {α β : Type} {R R' : α → β → Prop} {b' : β} : ∀ {as : List α} {ps : List β} {i : Nat}, Paired R as ps → (∀ a, as[i]? = some a → R' a b') → (∀ j a b, j ≠ i → as[j]? = some a → R a b → R' a b) → Paired R' as (ps.set i b')
  | _, _, _, .nil, _, _ => .nil
  | a :: as, b :: ps, 0, .cons h t, hi, ho => by
    refine .cons (hi a rfl) ?_
    have go : ∀ {as : List α} {ps : List β}, Paired R as ps → (∀ j a b, as[j]? = some a → R a b → R' a b) → Paired R' as ps := fun {as ps} h => by
      induction h with
      | nil => exact fun _ => .nil
      | cons h t ih => exact fun f => .cons (f 0 _ _ rfl h) (ih fun j a b e => f (j + 1) a b (by simpa using e))
    exact go t fun j a b e => ho (j + 1) a b (by omega) (by simpa using e)
  | a :: as, b :: ps, i + 1, .cons h t, hi, ho => by
    rw [List.set_cons_succ]
    exact .cons (ho 0 a b (by omega) rfl h) (paired_set t (fun x e => hi x (by simpa using e)) fun j x y n e => ho (j + 1) x y (by omega) (by simpa using e))
theorem paired_on {α β : Type} {R R' : α → β → Prop} : ∀ {as : List α} {ps : List β}, Paired R as ps → (∀ a b, a ∈ as → R a b → R' a b) → Paired R' as ps
  | _, _, .nil, _ => .nil
  | _, _, .cons h t, f => .cons (f _ _ (List.mem_cons_self ..) h) (paired_on t fun a b m => f a b (List.mem_cons_of_mem _ m))
/-- the dict of wares -/
structure WS (K : PySem.W.Frag) (d w c : Addr) (H : Hp) (wd : Addr) (ns : List Str) (as : List Addr) (ps : List PackD) : Prop where
  own : Own d w c H wd (.dK (pkK ns as))
  nd : ns.Nodup
  len : ns.length = as.length
  n4 : ns.length ≤ 4
  nok : ∀ z ∈ ns, nameOk z
  and_ : as.Nodup
  out : wd ∉ as
  at_ : Paired (WareAt K d w c H) as ps
section
variable {K : PySem.W.Frag} {d w c : Addr} {f : Nat} {H H' : Hp} {wd : Addr} {ns : List Str} {as : List Addr} {ps : List PackD}
theorem WS.kw (h : WS K d w c H wd ns as ps) (dr : Dr d w c f H) (k : Kw d w H H') : WS K d w c H' wd ns as ps := ⟨h.own.kw k, h.nd, h.len, h.n4, h.nok, h.and_, h.out, paired_mono (fun _ _ z => z.kw dr k) h.at_⟩
theorem WS.keep (h : WS K d w c H wd ns as ps) (s : Same H H') : WS K d w c H' wd ns as ps := ⟨h.own.keep s, h.nd, h.len, h.n4, h.nok, h.and_, h.out, paired_mono (fun _ _ z => z.keep s) h.at_⟩
theorem WS.l2 (h : WS K d w c H wd ns as ps) : ns.length = (as.map V.ref).length := by
  rw [List.length_map]
  exact h.len
theorem WS.pl (h : WS K d w c H wd ns as ps) : ps.length = ns.length := by rw [h.len, paired_len h.at_]
/-- a ware by its label -/
theorem WS.get (h : WS K d w c H wd ns as ps) {z : Str} (hz : z ∈ ns) : ∃ (i : Nat) (a : Addr) (p : PackD), ns[i]? = some z ∧ as[i]? = some a ∧ ps[i]? = some p ∧ valV (pkK ns as) (Sum.inr z) = some (.ref a) ∧ WareAt K d w c H a p := by
  obtain ⟨i, hi, e⟩ := List.getElem_of_mem hz
  have h1 : ns[i]? = some z := by rw [List.getElem?_eq_getElem hi, e]
  have h2 : as[i]? = some (as[i]'(by rw [← h.len]; exact hi)) := List.getElem?_eq_getElem _
  obtain ⟨p, h3, h4⟩ := paired_at h.at_ h2
  exact ⟨i, _, p, h1, h2, h3, kvT_val h.l2 h.nd h1 (by rw [List.getElem?_map, h2]; rfl), h4⟩
theorem WS.keys (h : WS K d w c H wd ns as ps) : (pkK ns as).map (·.1) = ns.map Sum.inr := pkK_keys h.len
end
def core (p : PackD) : PackD := { p with roll := none }
structure SlotsOk0 (p : PackD) : Prop where
  ne : p.slots ≠ []
  len : p.slots.length ≤ 12
  pos : ∀ z ∈ p.slots, 0 ≤ z.2
/-- a roll goes to a pack that ends later -/
def RollOk (ns : List Str) (bs : List PackD) (p : PackD) : Prop := ∀ r, p.roll = some r → 1 ≤ r.2 ∧ r.2 ≤ 3 ∧ ∃ (j : Nat) (q : PackD), ns[j]? = some r.1 ∧ bs[j]? = some q ∧ lastD p < lastD q
section
variable {P : Program} {w0 : World} {K : PySem.W.Frag} {mg : Str → Option Value} {base : Heap}
/-! ### _law_last -/
def spLastL (K : PySem.W.Frag) : Sp := fun vs H Q _ => ∃ (d w c a : Addr) (p : PackD), vs = [.ref a] ∧ WareAt K d w c H a p ∧ SlotsOk0 p ∧ ∀ H', Same H H' → Q (.int (lastD p)) H'
theorem sc_lastL : FnScope ["_law_ware", "_law_spot"] ["_law_ware"] (defScope (top 79)) := ⟨rfl, rfl, rfl, by decide +kernel, rfl, by decide +kernel, by decide +kernel⟩
theorem ok_lastL (T : Tx K mg) : Cal P w0 K mg base 1 "_law_last" (spLastL K) := by
  refine Cal.of (T.f ("_law_last", 79)) sc_lastL (fun _ _ _ _ _ _ us hl => match us, hl with | [_], _ => rfl) (fun vs H Q E h => ?_) (fun f cdv A outer s H vs Q E hr h => ?_)
  · obtain ⟨d, w, c, a, p, rfl, _⟩ := h
    rfl
  · obtain ⟨d, w, c, a, p, rfl, ⟨sl, xs, ro, h1, h2, h3, h4⟩, ok, k⟩ := h
    have nd := sc_lastL.nd
    refine ⟨_, pss_one <| ps_ret <| pcb "max" (cr_max rfl) (T.z "max") (pe_lc (own := [("_law_spot", 1)]) (g := gName 1) (tt := tYes) rfl nd (pi_list (pe_dget (hu_of hr) (pv 0) pe_str (fun _ _ => rfl))) (blkOk_by (N := ["_law_ware", "_law_spot"]) (sc := defScope (top 79)) (by decide +kernel)) (fun _ _ _ _ _ => pgn 1 nd) (fun _ _ _ _ _ => pts_nil)
      (fun _ _ _ _ _ => pixK K (pv 1) pe_int (fun _ _ => rfl))), ?_⟩
    refine ⟨_, rfl, a, _, rfl, .inl ⟨_, Sum.inr "slots", .inl h1.at_, rfl, wareK_slots.symm⟩, sl, rfl, ⟨_, SqL.of h2.at_⟩, fun D hD => ?_⟩
    have hl : xs.length = p.slots.length := by rw [h3.len, List.length_map]
    refine lc_go walk_list hD (fun i acc _ => acc = (p.slots.take i).map fun z => V.int z.2) (fun _ _ _ _ _ h => h) rfl (fun H1 s => SqL.of (s _ _ h2.at_)) (small1000 (by have := ok.len; omega)) (fun i x acc H1 H2 Fy Fn hi s e y ky kn => ?_) (fun H1 acc s hd e => ?_)
    · obtain ⟨rfl, hxi⟩ := y
      obtain ⟨z, hz, tz⟩ := h3.map_at hxi
      obtain ⟨b, rfl, hb⟩ := slot_inv (tz.keep (TK.of s))
      refine ⟨rfl, lcY ⟨_, rfl, b, _, 1, _, rfl, rfl, hb.sq, rfl, ky _ _ (Same.refl _) ?_⟩⟩
      rw [e, take_snoc hz, List.map_append]
      rfl
    · refine ⟨D, p.slots.map (·.2), rfl, SqL.of ?_, ?_, fun m hm hle => eint ?_ (k _ s)⟩
      · rw [hd, e, hl, take_all (Nat.le_refl _), List.map_map]
        rfl
      · rw [List.length_map]
        exact List.length_pos_iff.mpr ok.ne
      · exact (max_is (fun y hy => by
          obtain ⟨z, hz, rfl⟩ := List.mem_map.mp hy
          exact ok.pos z hz) hm hle).symm
/-! ### _law_flows -/
def spFlows (K : PySem.W.Frag) : Sp := fun vs H Q _ => ∃ (d w c wd : Addr) (f : Nat) (n : Int) (ns : List Str) (as : List Addr) (bs : List PackD), vs = [.ref d, .ref wd, .int n] ∧ 0 < n ∧ n < 1000000 ∧ WS K d w c H wd ns as bs ∧ (∀ b ∈ bs, SlotsOk0 b ∧ b.roll = none) ∧ Dr d w c (f + 12) H ∧
  ∀ (ps : List PackD) (H' : Hp), ps.map core = bs.map core → (∀ p ∈ ps, RollOk ns bs p) → (∀ b o, H b = some o → b ≠ d → b ≠ w → b ∉ as → H' b = some o) → WS K d w c H' wd ns as ps → Dr d w c f H' → Q .non H'
theorem sc_flows : FnScope ["_law_draw", "_law_wares_here", "_law_likely", "_law_label", "_law_later", "_law_item"] ["_law_draw", "_law_wares_here", "_law_likely"] (defScope (top 80)) := ⟨rfl, rfl, rfl, by decide +kernel, rfl, by decide +kernel, by decide +kernel⟩
theorem ok_flows (T : Tx K mg) : Cal P w0 K mg base 4 "_law_flows" (spFlows K) := by
  refine Cal.of (T.f ("_law_flows", 80)) sc_flows (fun _ _ _ _ _ _ us hl => match us, hl with | [_, _, _], _ => rfl) (fun vs H Q E h => ?_) (fun f cdv A outer s H vs Q E hr h => ?_)
  · obtain ⟨d, w, c, wd, f, n, ns, as, bs, rfl, _⟩ := h
    rfl
  · obtain ⟨d, w, c, wd, f0, n, ns, as, bs, rfl, hn0, hn1, ws, hbs, hd, k⟩ := h
    have nd := sc_flows.nd
    have hu := hu_of hr
    refine ⟨_, pss_one <| ps_for PassesOwn.never rfl (pi_list (pcb "sorted" (call_sortedD rfl) (T.z "sorted") (pv 1))) (pgn 3 nd) <|
      pss_cons (ps_setLc (i := 4) (own := [("_law_item", 5)]) (g := gName 5) rfl nd rfl rfl rfl (pi_list (pcb "sorted" (call_sortedD rfl) (T.z "sorted") (pv 1))) (blkOk_by (N := ["_law_draw", "_law_wares_here", "_law_likely", "_law_label", "_law_later", "_law_item"]) (sc := defScope (top 80)) (by decide +kernel)) (fun _ _ _ _ _ => pgn 5 nd)
        (fun _ _ _ _ _ => pts_one (pt_cmpR op_gt (pcl (ok_lastL T) hr (pa1 (pe_dget hu (pv 1) (pv 5) (fun _ _ => rfl)))) (pcl (ok_lastL T) hr (pa1 (pe_dget hu (pv 1) (pv 3) (fun _ _ => rfl)))) (nomark _))) (fun _ _ _ _ _ => pv 5)) <|
      pss_one <| ps_if (pw_and (pt_cmpR (op_neD hr.units) (pv 4) (pe_lst pa_nil) (nomark _)) <| pw_and1 <| pt_cmpR op_eq (pcl (ok_take T) hr (pa2 (pv 0) (pv 2))) pe_int (nomark _)).pt
        (pss_one <| ps_dput hu (pe_dget hu (pv 1) (pv 3) (fun _ _ => rfl)) pe_str (pe_tup (pa2 (pcl (ok_pick T) hr (pa2 (pv 0) (pv 4))) (pe_op op_add pe_int (pcl (ok_take T) hr (pa2 (pv 0) pe_int))))) rfl) pss_nil, ?_⟩
    have n4 := ws.n4
    refine ⟨_, rfl, wd, _, ns, rfl, .inl ws.own.at_, ws.keys, by omega, fun ys l hys hsrt hl => ⟨l, rfl, ⟨_, SqL.of upd_same⟩, ?_⟩⟩
    have olL := Own.new (o := .lst (ys.map V.str)) hd hl
    have ws1 := ws.keep (same_upd (o := .lst (ys.map V.str)) hl)
    have d1 := hd.new (u := .lst (ys.map V.str)) hl
    have s1 : Same H (upd H l (.lst (ys.map V.str))) := same_upd hl
    generalize upd H l (.lst (ys.map V.str)) = H1 at *
    have hyl : ys.length = ns.length := hys.length_eq
    have hlas : l ∉ as := fun hm => by
      obtain ⟨i, hi, e⟩ := List.getElem_of_mem hm
      obtain ⟨p, _, hp⟩ := paired_at ws1.at_ (by rw [List.getElem?_eq_getElem hi, e])
      obtain ⟨sl, xs, ro, q1, _⟩ := hp.ex
      have := olL.at_.symm.trans q1.at_
      cases this
    refine for_it (walk_list (xs := ys.map V.str)) (fun i σ H' => (∃ z3 z4, σ = [some (.ref d), some (.ref wd), some (.int n), z3, z4, none]) ∧ ∃ ps : List PackD, ps.map core = bs.map core ∧ (∀ p ∈ ps, RollOk ns bs p) ∧ (∀ b o, H1 b = some o → b ≠ d → b ≠ w → b ∉ as → H' b = some o) ∧ WS K d w c H' wd ns as ps ∧ Dr d w c (f0 + 12 - 3 * i) H')
      ⟨⟨none, none, rfl⟩, bs, rfl, (fun b hb r hr => by rw [(hbs b hb).2] at hr; cases hr), fun _ _ h _ _ _ => h, ws1, d1⟩ (fun i σ H' _ h => ?_) (fun i v σ H3 H4 hi h y => ?_) (fun σ H3 h => ?_)
    · obtain ⟨_, ps, _, _, kb, _⟩ := h
      exact SqL.of (kb _ _ olL.at_ olL.nd olL.nw hlas)
    · obtain ⟨⟨z3, z4, rfl⟩, ps, hco, hro, kb, ws3, d3⟩ := h
      obtain ⟨rfl, hv⟩ := y
      rw [List.length_map] at hi
      rw [List.getElem?_map] at hv
      obtain ⟨z, hz, rfl⟩ := Option.map_eq_some_iff.mp hv
      have hzn : z ∈ ns := hys.mem_iff.mp (List.mem_of_getElem? hz)
      obtain ⟨i0, a, p, hi0, ha0, hp0, hval, wat⟩ := ws3.get hzn
      have hsl : ∀ q ∈ ps, SlotsOk0 q := fun q hq => by
        have : core q ∈ bs.map core := by
          rw [← hco]
          exact List.mem_map.mpr ⟨q, hq, rfl⟩
        obtain ⟨b, hb, e⟩ := List.mem_map.mp this
        have h1 := (hbs b hb).1
        have e1 : (core b).slots = (core q).slots := congrArg PackD.slots e
        have e2 : b.slots = q.slots := e1
        exact ⟨by rw [← e2]; exact h1.ne, by rw [← e2]; exact h1.len, by rw [← e2]; exact h1.pos⟩
      refine ⟨_, rfl, wd, _, ns, rfl, .inl ws3.own.at_, ws3.keys, by omega, fun ys2 l2 hys2 hsrt2 hl2 => ⟨l2, rfl, ⟨_, SqL.of upd_same⟩, fun D hD => ?_⟩⟩
      have s4 : Same H4 (upd H4 l2 (.lst (ys2.map V.str))) := same_upd hl2
      have hl2t : (upd H4 l2 (.lst (ys2.map V.str))) l2 = some (.lst (ys2.map V.str)) := upd_same
      have ws4 := ws3.keep s4
      have d4 := d3.same s4
      generalize upd H4 l2 (.lst (ys2.map V.str)) = H5 at *
      refine lc_go walk_list hD (fun j acc _ => ∃ us : List Str, acc = us.map V.str ∧ us.length ≤ j ∧ ∀ u ∈ us, ∃ (j : Nat) (q : PackD), ns[j]? = some u ∧ ps[j]? = some q ∧ lastD p < lastD q) (fun _ _ _ _ _ h => h) ⟨[], rfl, Nat.le_refl _, fun _ h => by cases h⟩ (fun H1 s => SqL.of (s _ _ hl2t)) (small1000 (by rw [List.length_map, hys2.length_eq]; omega)) (fun j v acc H6 H7 Fy Fn hj s6 e y ky kn => ?_) (fun H6 acc s6 hd6 e => ?_)
      · obtain ⟨rfl, hv2⟩ := y
        obtain ⟨us, rfl, ule, hus⟩ := e
        rw [List.getElem?_map] at hv2
        obtain ⟨u, hu2, rfl⟩ := Option.map_eq_some_iff.mp hv2
        have hun : u ∈ ns := hys2.mem_iff.mp (List.mem_of_getElem? hu2)
        have ws6 := ws4.keep s6
        obtain ⟨j0, a2, q, hj0, ha2, hq0, hval2, wat2⟩ := ws6.get hun
        obtain ⟨i1, a1, p1, hi1, ha1, hp1, hval1, wat1⟩ := ws6.get hzn
        have ei : i1 = i0 := nd_ix ws6.nd hi1 hi0
        subst ei
        rw [hp0] at hp1
        cases hp1
        refine ⟨rfl, _, rfl, _, rfl, wd, _, rfl, .inl ⟨_, Sum.inr u, .inl ws6.own.at_, rfl, hval2.symm⟩, d, w, c, a2, q, rfl, wat2, hsl q (List.mem_of_getElem? hq0), fun H8 s8 => ?_⟩
        refine ⟨_, rfl, _, rfl, wd, _, rfl, .inl ⟨_, Sum.inr z, .inl (s8 _ _ ws6.own.at_), rfl, hval1.symm⟩, d, w, c, a1, p, rfl, wat1.keep s8, hsl p (List.mem_of_getElem? hp0), fun H9 s9 => ⟨_, _, rfl, rfl, _, rfl, ite2 (fun hb => ⟨_, rfl, ky _ _ (s8.trans s9) ?_⟩) fun _ => kn _ (s8.trans s9) ⟨us, rfl, by omega, hus⟩⟩⟩
        refine ⟨us ++ [u], by rw [List.map_append]; rfl, by rw [List.length_append, List.length_singleton]; omega, fun x hx => ?_⟩
        rcases List.mem_append.mp hx with hx | hx
        · exact hus x hx
        · rw [List.mem_singleton.mp hx]
          exact ⟨j0, q, hj0, hq0, of_decide_eq_true hb⟩
      · obtain ⟨us, rfl, ule, hus⟩ := e
        rw [List.length_map, hys2.length_eq] at ule
        have ws6 := ws4.keep s6
        have d6 := d4.same s6
        have nD := d4.fresh hD
        have olD : Own d w c H6 D (.lst (us.map V.str)) := ⟨hd6, nD.1, nD.2.1, nD.2.2⟩
        have s46 : Same H4 H6 := s4.trans s6
        refine ⟨_, rfl, by show 0 ≤ sizeLine; exact Nat.zero_le _, fun q hq => ?_⟩
        have s7 : Same H6 (upd H6 q (.lst [])) := same_upd hq
        have hqe : (upd H6 q (.lst [])) q = some (.lst []) := upd_same
        have ws7 := ws6.keep s7
        have d7 := d6.same s7
        have olD7 := olD.keep s7
        have s47 := s46.trans s7
        generalize upd H6 q (.lst []) = H7 at *
        have hstr : ∀ u ∈ us, PyData.strOk u = true := fun u hu => by
          obtain ⟨j, q, h1, _⟩ := hus u hu
          exact nameOk_str (ws.nok u (List.mem_of_getElem? h1))
        refine ⟨.list (us.map .str), .list [], .lst (SqL.of olD7.at_) (TdAll.strs (K := K)).dp, .lst (SqL.of hqe) .nil, shaped_listM (f := PyData.str) hstr (fun z hz => by simp [PyData.depth]), by decide +kernel, _, rfl, ?_⟩
        have ee : PyData.eqv (.list (us.map .str)) (.list []) = decide (us = []) := by
          rw [PyData.eqv]
          exact eqvAll_strs (ms := [])
        rw [ee]
        have skip : ∀ H', Kw d w H4 H' → Dr d w c (f0 + 12 - 3 * (i + 1)) H' → (∃ z3 z4, [some (V.ref d), some (.ref wd), some (.int n), some (.str z), some (.ref D), none] = [some (V.ref d), some (.ref wd), some (.int n), z3, z4, none]) ∧ ∃ ps : List PackD, ps.map core = bs.map core ∧ (∀ p ∈ ps, RollOk ns bs p) ∧ (∀ b o, H1 b = some o → b ≠ d → b ≠ w → b ∉ as → H' b = some o) ∧ WS K d w c H' wd ns as ps ∧ Dr d w c (f0 + 12 - 3 * (i + 1)) H' := fun H' k' d' =>
          ⟨⟨_, _, rfl⟩, ps, hco, hro, fun b o e n1 n2 n3 => k' _ _ (kb b o e n1 n2 n3) n1 n2, ws3.kw d3 k', d'⟩
        by_cases hun : us = []
        · refine iteBF (by rw [decide_eq_true hun]; rfl) (iteF (skip _ (Kw.of s47) (d7.less (by omega))))
        · refine iteB (by rw [decide_eq_false hun]; rfl) ?_
          refine ⟨_, rfl, _, rfl, d, w, c, f0 + 12 - 3 * i - 1, n, rfl, hn0, hn1, d7.less (by omega), fun m H8 m0 m1 k8 d8 => ⟨rfl, _, rfl, iteQ ?_ (skip _ ((Kw.of s47).trans k8) (d8.less (by omega)))⟩⟩
          have olD8 := olD7.kw k8
          refine ⟨_, rfl, _, rfl, d, w, c, f0 + 12 - 3 * i - 2, _, rfl, d8.less (by omega), .inl ⟨D, _, rfl, olD8, by rw [List.length_map]; exact List.length_pos_iff.mpr hun, by rw [List.length_map]; omega, fun x H9 hx k9 d9 => ?_⟩⟩
          obtain ⟨u, hu3, rfl⟩ := List.mem_map.mp hx
          refine ⟨_, rfl, d, w, c, f0 + 12 - 3 * i - 3, 3, rfl, by decide, by decide, d9.less (by omega), fun m2 H10 m20 m21 k10 d10 => ⟨1, m2, rfl, rfl, by show 2 ≤ sizeLine; decide, fun t ht => ?_⟩⟩
          have k48 : Kw d w H4 H10 := (Kw.of s47).trans (k8.trans (k9.trans k10))
          have d11 := d10.new (u := .tup [.str u, .int (1 + m2)]) ht
          have k11 : Kw d w H4 (upd H10 t (.tup [.str u, .int (1 + m2)])) := k48.trans (Kw.of (same_upd ht))
          have ws11 := ws3.kw d3 k11
          have hut : (upd H10 t (.tup [.str u, .int (1 + m2)])) t = some (.tup [.str u, .int (1 + m2)]) := upd_same
          generalize upd H10 t (.tup [.str u, .int (1 + m2)]) = H11 at *
          obtain ⟨j0, q, hj0, hq0, hlt⟩ := hus u hu3
          have wat11 : WareAt K d w c H11 a p := wat.kw d3 k11
          obtain ⟨kvs, hkv, hkl, oa, wat12⟩ := wat11.roll (r := some (u, 1 + m2)) (v := .ref t) (Td.slot (z := (u, 1 + m2)) hut)
          refine ⟨_, rfl, _, rfl, wd, _, rfl, .inl ⟨_, Sum.inr z, .inl ws11.own.at_, rfl, hval.symm⟩, a, _, rfl, DPut.k (k := Sum.inr "roll") hkv (small1000 (by omega)), ?_⟩
          have hqb : ∃ qb, bs[j0]? = some qb ∧ lastD qb = lastD q := by
            have h1 : (ps.map core)[j0]? = some (core q) := by rw [List.getElem?_map, hq0]; rfl
            rw [hco, List.getElem?_map] at h1
            obtain ⟨qb, h2, h3⟩ := Option.map_eq_some_iff.mp h1
            have h4 : (core qb).slots = (core q).slots := congrArg PackD.slots h3
            have : qb.slots = q.slots := h4
            exact ⟨qb, h2, by unfold lastD; rw [this]⟩
          obtain ⟨qb, hqb1, hqb2⟩ := hqb
          refine ⟨⟨_, _, rfl⟩, ps.set i0 { p with roll := some (u, 1 + m2) }, ?_, fun x hx => ?_, fun b o e n1 n2 n3 => ?_, ⟨?_, ws11.nd, ws11.len, ws11.n4, ws11.nok, ws11.and_, ws11.out, ?_⟩, (d11.wr oa).less (by omega)⟩
          · rw [List.map_set]
            have e1 : core { p with roll := some (u, 1 + m2) } = core p := rfl
            rw [e1, ← hco]
            have h1 : (ps.map core)[i0]? = some (core p) := by rw [List.getElem?_map, hp0]; rfl
            obtain ⟨h2, h3⟩ := List.getElem?_eq_some_iff.mp h1
            rw [← h3, List.set_getElem_self]
          · rcases List.mem_or_eq_of_mem_set hx with hx | hx
            · exact hro x hx
            · rw [hx]
              intro r hr
              have e1 : some (u, 1 + m2) = some r := hr
              cases e1
              refine ⟨by show 1 ≤ 1 + m2; omega, by show 1 + m2 ≤ 3; omega, j0, qb, hj0, hqb1, ?_⟩
              have e2 : lastD { p with roll := some (u, 1 + m2) } = lastD p := rfl
              rw [e2, hqb2]
              exact hlt
          · have nba : b ≠ a := fun z => n3 (z ▸ List.mem_of_getElem? ha0)
            rw [upd_ne nba]
            exact k11 _ _ (kb b o e n1 n2 n3) n1 n2
          · exact ws11.own.other (fun z => ws11.out (z ▸ List.mem_of_getElem? ha0))
          · refine paired_set ws11.at_ (fun x e => ?_) fun j x y nj e hR => ?_
            · rw [ha0] at e
              cases e
              exact wat12
            · exact hR.dict hkv fun z => nj (nd_ix ws11.and_ e (z ▸ ha0))
    · obtain ⟨⟨z3, z4, rfl⟩, ps, hco, hro, kb, ws3, d3⟩ := h
      refine k ps _ hco hro (fun b o e n1 n2 n3 => kb _ _ (s1 _ _ e) n1 n2 n3) ws3 (d3.less ?_)
      rw [List.length_map]
      omega
end
end Nd
set_option Elab.async false
set_option linter.all false
set_option maxRecDepth 100000
set_option maxHeartbeats 2000000
namespace Nd
open PySem PySem.Spec PyProof.Rows L2
/-! ### a sheet -/
def sheetK (r : Addr) (n : Int) (wd : Addr) : List (Key × V) := [(Sum.inr "prices", .ref r), (Sum.inr "days", .int n), (Sum.inr "packs", .ref wd)]
theorem sheetK_prices {r : Addr} {n : Int} {wd : Addr} : valV (sheetK r n wd) (Sum.inr "prices") = some (.ref r) := rfl
theorem sheetK_days {r : Addr} {n : Int} {wd : Addr} : valV (sheetK r n wd) (Sum.inr "days") = some (.int n) := rfl
theorem sheetK_packs {r : Addr} {n : Int} {wd : Addr} : valV (sheetK r n wd) (Sum.inr "packs") = some (.ref wd) := rfl
structure ShAt (K : PySem.W.Frag) (d w c : Addr) (H : Hp) (sh r wd : Addr) (prices : List (Str × Int)) (n : Nat) (ns : List Str) (as : List Addr) (ps : List PackD) : Prop where
  own : Own d w c H sh (.dK (sheetK r n wd))
  pr : Own d w c H r (.dK (prK prices))
  ws : WS K d w c H wd ns as ps
theorem ShAt.kw {K : PySem.W.Frag} {d w c : Addr} {f : Nat} {H H' : Hp} {sh r wd : Addr} {prices : List (Str × Int)} {n : Nat} {ns : List Str} {as : List Addr} {ps : List PackD} (h : ShAt K d w c H sh r wd prices n ns as ps) (dr : Dr d w c f H) (k : Kw d w H H') : ShAt K d w c H' sh r wd prices n ns as ps := ⟨h.own.kw k, h.pr.kw k, h.ws.kw dr k⟩
theorem ShAt.keep {K : PySem.W.Frag} {d w c : Addr} {H H' : Hp} {sh r wd : Addr} {prices : List (Str × Int)} {n : Nat} {ns : List Str} {as : List Addr} {ps : List PackD} (h : ShAt K d w c H sh r wd prices n ns as ps) (k : Same H H') : ShAt K d w c H' sh r wd prices n ns as ps := ⟨h.own.keep k, h.pr.keep k, h.ws.keep k⟩
structure SheetOk (prices : List (Str × Int)) (n : Nat) (ns : List Str) (ps : List PackD) : Prop where
  pr : pricesOk prices
  srt : sortedS (prices.map (·.1)) = true
  da : 1 ≤ n ∧ n ≤ 4
  nsrt : sortedS ns = true
  ok : ∀ p ∈ ps, PackOk p
  cells : ∀ p ∈ ps, ∀ z ∈ p.slots, z.1 ∈ prices.map (·.1) ∧ z.2 < n
  roll : ∀ p ∈ ps, RollOk ns ps p
  six : (ps.map (·.amount)).sum ≤ 6
theorem pkK_put {ns : List Str} {as : List Addr} {z : Str} {a : Addr} (hl : ns.length = as.length) (h : z ∉ ns) : putK (pkK ns as) (Sum.inr z) (.ref a) = pkK (ns ++ [z]) (as ++ [a]) := by
  rw [putK_new]
  · unfold pkK kvT
    rw [List.map_append, List.zip_append (by rw [List.length_map]; exact hl), List.map_append]
    rfl
  · refine valV_none' ?_
    rw [pkK_keys hl]
    intro hm
    obtain ⟨y, hy, e⟩ := List.mem_map.mp hm
    rw [Sum.inr.inj e] at hy
    exact h hy
/-- wares as they are made -/
structure BaseOk (ks : List Str) (n : Nat) (b : PackD) : Prop where
  sl : SlotsIn ks n b.slots
  ne : b.slots ≠ []
  am : 0 ≤ b.amount ∧ b.amount ≤ 3
  co : ∀ z, b.cost = some z → 0 ≤ z ∧ z ≤ 99
  ro : b.roll = none
/-- branches of a value that meet again -/
theorem asgJoin {te : TE} {g : TG} {u : TS} {D : Ends} {σ : L2.St} {H : Hp} (F : V → Hp → Prop) (h : ∀ Q' : VK, (∀ x H', F x H' → Q' x H') → te σ H Q') (q : ∀ x H', F x H' → g x σ H' (u D)) : tSeq (tAsg te g) u D σ H := h _ q
theorem dputJoin {td ty tv : TE} {D : Ends} {σ : L2.St} {H : Hp} (F : V → Hp → Prop) (h : ∀ Q' : VK, (∀ x H', F x H' → Q' x H') → tv σ H Q') (q : ∀ v H1, F v H1 → td σ H1 fun x H2 => ty σ H2 fun y H3 => ∃ a H4, x = .ref a ∧ DPut H3 a y v H4 ∧ D.nx σ H4) : sDPut td ty tv D σ H := h _ q
theorem core_mem {bs ps : List PackD} (h : ps.map core = bs.map core) {p : PackD} (hp : p ∈ ps) : ∃ b ∈ bs, core p = core b := by
  have : core p ∈ bs.map core := by
    rw [← h]
    exact List.mem_map.mpr ⟨p, hp, rfl⟩
  obtain ⟨b, hb, e⟩ := List.mem_map.mp this
  exact ⟨b, hb, e.symm⟩
theorem core_amount {bs ps : List PackD} (h : ps.map core = bs.map core) : ps.map (·.amount) = bs.map (·.amount) := by
  have h2 := congrArg (List.map PackD.amount) h
  rw [List.map_map, List.map_map] at h2
  exact h2
theorem core_at {bs ps : List PackD} (h : ps.map core = bs.map core) {j : Nat} {q : PackD} (hq : bs[j]? = some q) : ∃ p, ps[j]? = some p ∧ lastD p = lastD q := by
  have h1 : (bs.map core)[j]? = some (core q) := by rw [List.getElem?_map, hq]; rfl
  rw [← h, List.getElem?_map] at h1
  obtain ⟨p, h2, h3⟩ := Option.map_eq_some_iff.mp h1
  have h4 : (core p).slots = (core q).slots := congrArg PackD.slots h3
  have h5 : p.slots = q.slots := h4
  exact ⟨p, h2, by unfold lastD; rw [h5]⟩
theorem sheet_ok {prices : List (Str × Int)} {n : Nat} {ns ks : List Str} {bs ps : List PackD} (hk : prices.map (·.1) = ks) (hks : sortedS ks = true) (hknd : ks.Nodup) (hk1 : 1 ≤ ks.length) (hk3 : ks.length ≤ 3) (hkok : ∀ z ∈ ks, nameOk z) (hpr : ∀ z ∈ prices, 0 ≤ z.2 ∧ z.2 ≤ 9) (h1 : 1 ≤ n) (h4 : n ≤ 4)
    (hns : sortedS ns = true) (hnok : ∀ z ∈ ns, nameOk z) (hbs : ∀ b ∈ bs, BaseOk ks n b) (hsum : (bs.map (·.amount)).sum ≤ 6) (hco : ps.map core = bs.map core) (hro : ∀ p ∈ ps, RollOk ns bs p) : SheetOk prices n ns ps := by
  have hl : prices.length = ks.length := by rw [← hk, List.length_map]
  have hb : ∀ p ∈ ps, ∃ b, BaseOk ks n b ∧ p.slots = b.slots ∧ p.amount = b.amount ∧ p.cost = b.cost := fun p hp => by
    obtain ⟨b, hb, e⟩ := core_mem hco hp
    have e1 : (core p).slots = (core b).slots := congrArg PackD.slots e
    have e2 : (core p).amount = (core b).amount := congrArg PackD.amount e
    have e3 : (core p).cost = (core b).cost := congrArg PackD.cost e
    exact ⟨b, hbs b hb, e1, e2, e3⟩
  refine ⟨⟨by omega, by omega, by rw [hk]; exact hknd, fun z hz => ⟨hkok _ (by rw [← hk]; exact List.mem_map.mpr ⟨z, hz, rfl⟩), hpr z hz⟩⟩, by rw [hk]; exact hks, ⟨h1, h4⟩, hns, fun p hp => ?_, fun p hp z hz => ?_, fun p hp r hr => ?_, by rw [core_amount hco]; exact hsum⟩
  · obtain ⟨b, ⟨b1, b2, b3, b4, b5⟩, e1, e2, e3⟩ := hb p hp
    refine ⟨by rw [e1]; exact b2, by rw [e1]; exact b1.len, by rw [e1]; exact b1.nd, fun z hz => ?_, by rw [e2]; exact b3, fun z hz => b4 z (by rw [← e3]; exact hz), fun r hr => ?_⟩
    · rw [e1] at hz
      obtain ⟨g1, g2, g3⟩ := b1.in_ z hz
      exact ⟨hkok _ g1, g2, by omega⟩
    · obtain ⟨g1, g2, j, q, g3, _⟩ := hro p hp r hr
      exact ⟨hnok _ (List.mem_of_getElem? g3), g1, g2⟩
  · obtain ⟨b, ⟨b1, b2, b3, b4, b5⟩, e1, e2, e3⟩ := hb p hp
    rw [e1] at hz
    obtain ⟨g1, g2, g3⟩ := b1.in_ z hz
    rw [hk]
    exact ⟨g1, g3⟩
  · obtain ⟨g1, g2, j, q, g3, g4, g5⟩ := hro p hp r hr
    obtain ⟨p', h1, h2⟩ := core_at hco g4
    exact ⟨g1, g2, j, p', g3, h1, by rw [h2]; exact g5⟩
section
variable {P : Program} {w0 : World} {K : PySem.W.Frag} {mg : Str → Option Value} {base : Heap}
/-! ### _law_sheet -/
def spSheet (K : PySem.W.Frag) : Sp := fun vs H Q _ => ∃ (d w c : Addr) (f : Nat) (fees : Int), vs = [.ref d, .int 4, .int 6, .int fees, .int 2] ∧ 0 < fees ∧ fees < 1000000 ∧ Dr d w c (f + 200) H ∧
  ∀ (sh r wd : Addr) (prices : List (Str × Int)) (n : Nat) (ns : List Str) (as : List Addr) (ps : List PackD) (H' : Hp), Kw d w H H' → Dr d w c f H' → ShAt K d w c H' sh r wd prices n ns as ps → SheetOk prices n ns ps → Q (.ref sh) H'
theorem sc_sheet : FnScope ["_law_draw", "_law_most", "_law_units", "_law_fees", "_law_flows_here", "_law_kinds_here", "_law_span", "_law_count", "_law_wares_here", "_law_label", "_law_many", "_law_fee", "_law_same", "_law_rates", "_law_is_same", "_law_kind"] ["_law_draw", "_law_most", "_law_units", "_law_fees", "_law_flows_here"] (defScope (top 81)) := ⟨rfl, rfl, rfl, by decide +kernel, rfl, by decide +kernel, by decide +kernel⟩
theorem ok_sheet (T : Tx K mg) : Cal P w0 K mg base 5 "_law_sheet" (spSheet K) := by
  refine Cal.of (T.f ("_law_sheet", 81)) sc_sheet (fun _ _ _ _ _ _ us hl => match us, hl with | [_, _, _, _, _], _ => rfl) (fun vs H Q E h => ?_) (fun f cdv A outer s H vs Q E hr h => ?_)
  · obtain ⟨d, w, c, f, n, rfl, _⟩ := h
    rfl
  · obtain ⟨d, w, c, f0, fees, rfl, hf0, hf1, hd, k⟩ := h
    have nd := sc_sheet.nd
    have hu := hu_of hr
    refine ⟨_, pss_cons (ppar 5 6 nd (pa2 (pcb "sorted" cr_sortedS (T.z "sorted") (pcl (ok_namesL T) hr (pa2 (pv 0) (pe_op op_add pe_int (pcl (ok_take T) hr (pa2 (pv 0) pe_int)))))) (pe_op op_add pe_int (pcl (ok_take T) hr (pa2 (pv 0) pe_int))))) <|
      pss_cons (ppar 7 8 nd (pa2 (pcl (ok_pick T) hr (pa2 (pv 0) (pe_lst (pa3 (pv 1) (pv 1) (pcl (ok_take T) hr (pa2 (pv 0) (pe_op op_add (pv 1) pe_int))))))) pe_dnewK)) <|
      pss_cons (ps_for PassesOwn.never rfl (pi_list (pcb "sorted" cr_sortedS (T.z "sorted") (pcl (ok_namesL T) hr (pa2 (pv 0) (pv 7))))) (pgn 9 nd) <|
        pss_cons (pst 10 nd (pcb2 "min" (call_min2 rfl) (T.z "min") (pcl (ok_pick T) hr (pa2 (pv 0) (pe_lst (pa_cons pe_int (pa4 pe_int pe_int pe_int pe_int) rfl)))) (pv 2))) <|
        pss_cons (pst 2 nd (pe_op op_sub (pv 2) (pv 10))) <|
        pss_cons (pst 11 nd (pe_ifExp (pt_cmpR op_eq (pcl (ok_take T) hr (pa2 (pv 0) (pv 3))) pe_int (nomark _)) (pcl (ok_pick T) hr (pa2 (pv 0) (pe_lst (pa_cons pe_int (pa_cons pe_int (pa4 pe_int pe_int pe_int pe_int) rfl) rfl)))) pe_non)) <|
        pss_one <| ps_dput hu (pv 8) (pv 9) (pe_disp (pps_cons pe_str (pcl (ok_spots T) hr (pa3 (pv 0) (pv 5) (pv 6))) <| pps_cons pe_str (pv 10) <| pps_cons pe_str (pv 11) <| pps_cons pe_str pe_non <| pps_nil) rfl rfl (by simp) (by decide)) rfl) <|
      pss_cons (ps_expr (pcl (ok_flows T) hr (pa3 (pv 0) (pv 8) (pv 4)))) <|
      pss_cons (ppar 12 13 nd (pa2 (pe_op op_add pe_int (pcl (ok_take T) hr (pa2 (pv 0) pe_int))) pe_dnewK)) <|
      pss_cons (pst 14 nd (pe_cmpR op_eq (pcl (ok_take T) hr (pa2 (pv 0) pe_int)) pe_int (nomark _))) <|
      pss_cons (ps_for PassesOwn.never rfl (pi_list (pv 5)) (pgn 15 nd) <|
        pss_one <| ps_dput hu (pv 13) (pv 15) (pe_ifExp (pt_val (pv 14)) (pv 12) (pcl (ok_take T) hr (pa2 (pv 0) pe_int))) rfl) <|
      pss_one <| ps_ret <| pe_disp (pps_cons pe_str (pv 13) <| pps_cons pe_str (pv 6) <| pps_cons pe_str (pv 8) <| pps_nil) rfl rfl (by simp) (by decide), ?_⟩
    -- the kinds, the span
    refine ⟨_, rfl, _, rfl, d, w, c, f0 + 199, 3, rfl, by decide, by decide, hd, fun m H1 m0 m1 k1 d1 => ⟨1, m, rfl, rfl, ?_⟩⟩
    obtain ⟨q, rfl⟩ : ∃ q : Nat, m = (q : Int) := ⟨m.toNat, by omega⟩
    have hq3 : q < 3 := by omega
    refine ⟨d, w, c, f0 + 199 - 10 * (1 + q), 1 + q, (by rw [Int.natCast_add]; rfl), by omega, d1.less (by omega), fun l0 ys H2 hyl hynd hyok k2 d2 ol2 => ?_⟩
    refine ⟨l0, ys, rfl, SqL.of ol2.at_, by omega, fun ks kl hks hksrt hkl => ?_⟩
    have okl := Own.new (o := .lst (ks.map V.str)) d2 hkl
    have d3 := d2.new (u := .lst (ks.map V.str)) hkl
    have k3 : Kw d w H (upd H2 kl (.lst (ks.map V.str))) := (k1.trans k2).trans (Kw.of (same_upd hkl))
    generalize upd H2 kl (.lst (ks.map V.str)) = H3 at *
    have hknd : ks.Nodup := hks.nodup_iff.mpr hynd
    have hkl1 : ks.length = 1 + q := by rw [hks.length_eq, hyl]
    have hkok : ∀ z ∈ ks, nameOk z := fun z hz => hyok z (hks.mem_iff.mp hz)
    refine ⟨_, rfl, d, w, c, f0 + 168, 4, rfl, by decide, by decide, d3.less (by omega), fun m H4 m0 m1 k4 d4 => ?_⟩
    obtain ⟨n0, rfl⟩ : ∃ q : Nat, m = (q : Int) := ⟨m.toNat, by omega⟩
    obtain ⟨n, hn⟩ : ∃ n : Nat, n = 1 + n0 := ⟨_, rfl⟩
    have hn1 : 1 ≤ n := by omega
    have hn4 : n ≤ 4 := by omega
    have hni : (1 : Int) + (n0 : Int) = (n : Int) := by omega
    refine ⟨1, _, rfl, rfl, _, .int (n : Int), (by show [V.ref kl, V.int (1 + (n0 : Int))] = _; rw [hni]), ?_⟩
    have okl4 := okl.kw k4
    have k04 := k3.trans k4
    -- how many wares
    refine ⟨_, rfl, _, rfl, _, rfl, _, rfl, _, rfl, 4, 1, rfl, rfl, d, w, c, f0 + 167, _, rfl, by decide, by decide, d4, fun m H5 m0 m1 k5 d5 => ?_⟩
    refine ⟨by show 3 ≤ sizeLine; decide, fun lp hlp => ?_⟩
    refine ⟨d, w, c, f0 + 166, _, rfl, d5.new hlp, .inl ⟨lp, _, rfl, Own.new d5 hlp, by show 0 < 3; decide, by show 3 ≤ 1000; decide, fun x H6 hx k6 d6 => ?_⟩⟩
    obtain ⟨cnt, rfl, hcnt⟩ : ∃ cnt : Nat, x = .int (cnt : Int) ∧ cnt ≤ 4 := by
      rcases List.mem_cons.mp hx with e | hx
      · exact ⟨4, e, by decide⟩
      · rcases List.mem_cons.mp hx with e | hx
        · exact ⟨4, e, by decide⟩
        · refine ⟨m.toNat, ?_, by omega⟩
          rw [List.mem_singleton.mp hx]
          congr 1
          omega
    intro wd hwd
    refine ⟨_, _, rfl, ?_⟩
    have k06 : Kw d w H H6 := (k04.trans k5).trans ((Kw.of (same_upd hlp)).trans k6)
    have k46 : Kw d w H4 H6 := k5.trans ((Kw.of (same_upd hlp)).trans k6)
    have okl6 := (okl4.kw k46).keep (same_upd (o := .dK []) hwd)
    have owd := Own.new (o := .dK []) d6 hwd
    have d7 := d6.new (u := .dK []) hwd
    have k07 : Kw d w H (upd H6 wd (.dK [])) := k06.trans (Kw.of (same_upd hwd))
    have hwd0 : H wd = none := k06.free d6 hwd
    generalize upd H6 wd (.dK []) = H7 at *
    -- the labels
    refine ⟨_, rfl, _, rfl, d, w, c, f0 + 126, cnt, rfl, by omega, d7.less (by omega), fun l2 ys2 H8 hyl2 hynd2 hyok2 k8 d8 ol8 => ?_⟩
    refine ⟨l2, ys2, rfl, SqL.of ol8.at_, by omega, fun lbs ll hlbs hlsrt hll => ⟨ll, rfl, ⟨_, SqL.of upd_same⟩, ?_⟩⟩
    have oll := Own.new (o := .lst (lbs.map V.str)) d8 hll
    have okl9 := (okl6.kw k8).keep (same_upd (o := .lst (lbs.map V.str)) hll)
    have owd9 := (owd.kw k8).keep (same_upd (o := .lst (lbs.map V.str)) hll)
    have d9 := d8.new (u := .lst (lbs.map V.str)) hll
    have k09 : Kw d w H (upd H8 ll (.lst (lbs.map V.str))) := (k07.trans k8).trans (Kw.of (same_upd hll))
    generalize upd H8 ll (.lst (lbs.map V.str)) = H9 at *
    have hlnd : lbs.Nodup := hlbs.nodup_iff.mpr hynd2
    have hllen : lbs.length = cnt := by rw [hlbs.length_eq, hyl2]
    have hlok : ∀ z ∈ lbs, nameOk z := fun z hz => hyok2 z (hlbs.mem_iff.mp hz)
    refine for_it (walk_list (xs := lbs.map V.str)) (fun i σ H' => Kw d w H H' ∧ Dr d w c (f0 + 126 - 23 * i) H' ∧ Own d w c H' ll (.lst (lbs.map V.str)) ∧ Own d w c H' kl (.lst (ks.map V.str)) ∧ ∃ (u : Int) (as : List Addr) (bs : List PackD) (z9 z10 z11 : Option V),
        σ = [some (.ref d), some (.int 4), some (.int u), some (.int fees), some (.int 2), some (.ref kl), some (.int (n : Int)), some (.int (cnt : Int)), some (.ref wd), z9, z10, z11, none, none, none, none] ∧ WS K d w c H' wd (lbs.take i) as bs ∧ (∀ b ∈ bs, BaseOk ks n b) ∧ (bs.map (·.amount)).sum + u = 6 ∧ 0 ≤ u ∧ ∀ a ∈ as, H a = none)
      ⟨k09, d9, oll, okl9, 6, [], [], none, none, none, rfl, ⟨owd9, List.nodup_nil, rfl, Nat.zero_le _, (fun _ h => by cases h), List.nodup_nil, (fun h => by cases h), .nil⟩, (fun _ h => by cases h), rfl, by decide, fun _ h => by cases h⟩ (fun i σ H' _ h => SqL.of h.2.2.1.at_) (fun i v σ Ha Hb hi h y => ?_) (fun σ Ha h => ?_)
    · obtain ⟨k10, d10, oll10, okl10, u, as, bs, z9, z10, z11, rfl, ws, hbs, hsum, hu0, has⟩ := h
      obtain ⟨rfl, hv⟩ := y
      rw [List.length_map] at hi
      rw [List.getElem?_map] at hv
      obtain ⟨z, hz, rfl⟩ := Option.map_eq_some_iff.mp hv
      have hznew : z ∉ lbs.take i := nd_take hlnd hz
      refine ⟨_, rfl, by show 5 ≤ sizeLine; decide, fun lp hlp => ⟨d, w, c, f0 + 126 - 23 * i - 1, _, rfl, (d10.new hlp).less (by omega), .inl ⟨lp, _, rfl, Own.new d10 hlp, by show 0 < 5; decide, by show 5 ≤ 1000; decide, fun x H11 hx k11 d11 => ?_⟩⟩⟩
      obtain ⟨a0, rfl, ha0, ha3⟩ : ∃ a0 : Int, x = .int a0 ∧ 0 ≤ a0 ∧ a0 ≤ 3 := by
        simp only [List.mem_cons, List.not_mem_nil, or_false] at hx
        rcases hx with e | e | e | e | e <;> exact ⟨_, e, by decide, by decide⟩
      refine ⟨_, rfl, a0, u, rfl, ?_⟩
      obtain ⟨mn, hmn⟩ : ∃ mn : Int, mn = if u < a0 then u else a0 := ⟨_, rfl⟩
      have hm0 : 0 ≤ mn ∧ mn ≤ 3 ∧ mn ≤ u := by
        rw [hmn]
        split <;> omega
      rw [← hmn]
      refine ⟨_, rfl, _, rfl, u, mn, rfl, rfl, ?_⟩
      have k11' : Kw d w Hb H11 := (Kw.of (same_upd hlp)).trans k11
      dsimp only [gName]
      refine asgJoin (fun x H' => Kw d w H11 H' ∧ Dr d w c (f0 + 126 - 23 * i - 3) H' ∧ ∃ co : Option Int, x = costV co ∧ ∀ z, co = some z → 0 ≤ z ∧ z ≤ 99) (fun Q' q' => ?_) (fun x H12 h12 => ?_)
      · refine ⟨_, rfl, _, rfl, d, w, c, f0 + 126 - 23 * i - 2, fees, rfl, hf0, hf1, d11.less (by omega), fun m H12 m0 m1 k12 d12 => ⟨rfl, _, rfl, iteQ ?_ (q' _ _ ⟨k12, d12.less (by omega), none, rfl, fun _ h => by cases h⟩)⟩⟩
        refine ⟨_, rfl, by show 6 ≤ sizeLine; decide, fun lq hlq => ⟨d, w, c, f0 + 126 - 23 * i - 3, _, rfl, (d12.new hlq).less (by omega), .inl ⟨lq, _, rfl, Own.new d12 hlq, by show 0 < 6; decide, by show 6 ≤ 1000; decide, fun x H13 hx k13 d13 => ?_⟩⟩⟩
        obtain ⟨b0, rfl, hb0, hb3⟩ : ∃ a0 : Int, x = .int a0 ∧ 0 ≤ a0 ∧ a0 ≤ 99 := by
          simp only [List.mem_cons, List.not_mem_nil, or_false] at hx
          rcases hx with e | e | e | e | e | e <;> exact ⟨_, e, by decide, by decide⟩
        exact q' _ _ ⟨k12.trans ((Kw.of (same_upd hlq)).trans k13), d13, some b0, rfl, fun z hz => by cases hz; exact ⟨hb0, hb3⟩⟩
      · obtain ⟨k12, d12, co, rfl, hco⟩ := h12
        have k12' : Kw d w Hb H12 := k11'.trans k12
        have okl12 := okl10.kw k12'
        intro a ha
        have oa12 := Own.new (o := .dK []) d12 ha
        have d13 := d12.new (u := .dK []) ha
        have k13 : Kw d w Hb (upd H12 a (.dK [])) := k12'.trans (Kw.of (same_upd ha))
        have okl13 := okl12.keep (same_upd (o := .dK []) ha)
        have ha0' : H a = none := (k10.trans k12').free d12 ha
        have haB : Hb a = none := k12'.free d12 ha
        generalize upd H12 a (.dK []) = H13 at *
        refine ⟨_, rfl, _, rfl, _, rfl, d, w, c, kl, f0 + 126 - 23 * i - 23, ks, n, rfl, okl13, hknd, by omega, by omega, (fun z hz => nameOk_str (hkok z hz)), hn1, hn4, d13.less (by omega), fun sl xs ss H14 k14 d14 osl txs hsin hne => ?_⟩
        have oa14 := oa12.kw k14
        refine ⟨_, rfl, _, rfl, oa14.at_, [(Sum.inr "slots", .ref sl), (Sum.inr "amount", .int mn), (Sum.inr "cost", costV co), (Sum.inr "roll", .non)], rfl, by show 4 ≤ 15; decide, ?_⟩
        have k14' : Kw d w Hb H14 := k13.trans k14
        have ws14 := ws.kw d10 k14'
        have hawd : a ≠ wd := fun e => by
          rw [e, ws.own.at_] at haB
          cases haB
        have haas : a ∉ as := fun hm => by
          obtain ⟨j, hj, e⟩ := List.getElem_of_mem hm
          obtain ⟨p, _, hp⟩ := paired_at ws.at_ (by rw [List.getElem?_eq_getElem hj, e])
          obtain ⟨sl, xs, ro, q1, _⟩ := hp.ex
          rw [q1.at_] at haB
          cases haB
        have tk15 : TK H14 (upd H14 a (.dK (wareK sl mn (costV co) .non))) := TK.wr fun xs z => by
          rw [oa14.at_] at z
          cases z
        have osl15 : Own d w c (upd H14 a (.dK (wareK sl mn (costV co) .non))) sl (.lst xs) := osl.other (ne_of osl.at_ oa14.at_ (by intro z; cases z))
        have wat : WareAt K d w c (upd H14 a (.dK (wareK sl mn (costV co) .non))) a ⟨ss, mn, co, none⟩ := ⟨sl, xs, .non, oa14.wr, osl15, txs.keep tk15, .non⟩
        have owd15 : Own d w c (upd H14 a (.dK (wareK sl mn (costV co) .non))) wd (.dK (pkK (lbs.take i) as)) := ws14.own.other (Ne.symm hawd)
        have wat15 : Paired (WareAt K d w c (upd H14 a (.dK (wareK sl mn (costV co) .non)))) as bs := by
          exact paired_on ws14.at_ fun x y hm hR => hR.dict oa14.at_ fun z => haas (z ▸ hm)
        have d15 : Dr d w c (f0 + 126 - 23 * i - 23) (upd H14 a (.dK (wareK sl mn (costV co) .non))) := d14.wr oa14
        have k15 : Kw d w Hb (upd H14 a (.dK (wareK sl mn (costV co) .non))) := kwp k14' haB
        have oll15 := oll10.kw k15
        have okl15 := okl10.kw k15
        have emk : (mergeK [] [((Sum.inr "slots" : Key), V.ref sl), (Sum.inr "amount", .int mn), (Sum.inr "cost", costV co), (Sum.inr "roll", .non)]) = wareK sl mn (costV co) .non := rfl
        rw [emk]
        generalize upd H14 a (.dK (wareK sl mn (costV co) .non)) = H15 at *
        have hl15 : (pkK (lbs.take i) as).length = (lbs.take i).length := kvT_len ws14.l2
        refine ⟨_, rfl, _, rfl, wd, _, rfl, DPut.k (k := Sum.inr z) owd15.at_ (small1000 (by rw [hl15, List.length_take]; omega)), ?_⟩
        rw [pkK_put ws14.len hznew, ← take_snoc hz]
        have hkld : kl ≠ wd := ne_of okl15.at_ owd15.at_ (by intro z; cases z)
        have hlld : ll ≠ wd := ne_of oll15.at_ owd15.at_ (by intro z; cases z)
        refine ⟨kwp ((k10.trans k15)) hwd0, (d15.wr owd15).less (by omega), oll15.other hlld, okl15.other hkld, u - mn, as ++ [a], bs ++ [⟨ss, mn, co, none⟩], _, _, _, rfl, ⟨owd15.wr, ?_, ?_, ?_, ?_, ?_, ?_, ?_⟩, ?_, ?_, by omega, ?_⟩
        · exact hlnd.sublist (List.take_sublist _ _)
        · rw [take_snoc hz, List.length_append, List.length_append, ws14.len]
          rfl
        · rw [List.length_take]
          omega
        · exact fun x hx => hlok x (List.mem_of_mem_take hx)
        · exact nd_snoc ws14.and_ haas
        · intro hm
          rcases List.mem_append.mp hm with hm | hm
          · exact ws14.out hm
          · exact hawd (List.mem_singleton.mp hm).symm
        · refine paired_on (paired_snoc wat wat15) fun x y hm hR => hR.dict owd15.at_ fun e => ?_
          rcases List.mem_append.mp hm with hm | hm
          · exact ws14.out (e ▸ hm)
          · exact hawd ((List.mem_singleton.mp hm).symm.trans e)
        · intro b hb
          rcases List.mem_append.mp hb with hb | hb
          · exact hbs b hb
          · rw [List.mem_singleton.mp hb]
            exact ⟨hsin, hne, ⟨hm0.1, hm0.2.1⟩, hco, rfl⟩
        · rw [List.map_append, List.sum_append]
          show _ + (mn + 0) + (u - mn) = 6
          omega
        · intro x hx
          rcases List.mem_append.mp hx with hx | hx
          · exact has x hx
          · rw [List.mem_singleton.mp hx]
            exact ha0'
    · obtain ⟨k10, d10, oll10, okl10, u, as, bs, z9, z10, z11, rfl, ws, hbs, hsum, hu0, has⟩ := h
      rw [List.length_map] at ws d10
      rw [take_all (Nat.le_refl _)] at ws
      have hb0 : ∀ b ∈ bs, SlotsOk0 b ∧ b.roll = none := fun b hb => ⟨⟨(hbs b hb).ne, (hbs b hb).sl.len, fun z hz => ((hbs b hb).sl.in_ z hz).2.1⟩, (hbs b hb).ro⟩
      refine ⟨_, rfl, _, rfl, _, rfl, d, w, c, wd, f0 + 22, 2, lbs, as, bs, rfl, by decide, by decide, ws, hb0, d10.less (by omega), fun ps H11 hco hro kb ws11 d11 => ?_⟩
      have hklas : kl ∉ as := fun hm => by
        obtain ⟨j, hj, e⟩ := List.getElem_of_mem hm
        obtain ⟨p, _, hp⟩ := paired_at ws.at_ (by rw [List.getElem?_eq_getElem hj, e])
        obtain ⟨sl, xs, ro, q1, _⟩ := hp.ex
        have := okl10.at_.symm.trans q1.at_
        cases this
      have okl11 : Own d w c H11 kl (.lst (ks.map V.str)) := ⟨kb _ _ okl10.at_ okl10.nd okl10.nw hklas, okl10.nd, okl10.nw, okl10.nc⟩
      have k11 : Kw d w H H11 := fun b o e n1 n2 => kb _ _ (k10 b o e n1 n2) n1 n2 fun hm => by
        rw [has b hm] at e
        cases e
      refine ⟨_, rfl, d, w, c, f0 + 21, 9, rfl, by decide, by decide, d11, fun m H12 m0 m1 k12 d12 => ⟨1, m, rfl, rfl, ?_⟩⟩
      intro r hr
      refine ⟨_, _, rfl, ?_⟩
      have or0 := Own.new (o := .dK []) d12 hr
      have d13 := d12.new (u := .dK []) hr
      have hr11 : H11 r = none := k12.free d12 hr
      have hr0 : H r = none := k11.free d11 hr11
      have k13 : Kw d w H11 (upd H12 r (.dK [])) := k12.trans (Kw.of (same_upd hr))
      generalize upd H12 r (.dK []) = H13 at *
      refine ⟨_, rfl, d, w, c, f0 + 20, 2, rfl, by decide, by decide, d13, fun m2 H14 m20 m21 k14 d14 => ⟨rfl, ?_⟩⟩
      have k14' := k13.trans k14
      have okl14 := okl11.kw k14'
      refine ⟨_, rfl, kl, rfl, ⟨_, SqL.of okl14.at_⟩, ?_⟩
      refine for_it (walk_list (xs := ks.map V.str)) (fun i σ H' => (∃ z15, σ = [some (.ref d), some (.int 4), some (.int u), some (.int fees), some (.int 2), some (.ref kl), some (.int (n : Int)), some (.int (cnt : Int)), some (.ref wd), z9, z10, z11, some (.int (1 + m)), some (.ref r), some (.bl (decide (V.int m2 = V.int 0))), z15]) ∧ Kw d w H11 H' ∧ Dr d w c (f0 + 20 - i) H' ∧
        ∃ prs : List (Str × Int), Own d w c H' r (.dK (prK prs)) ∧ prs.map (·.1) = ks.take i ∧ ∀ z ∈ prs, 0 ≤ z.2 ∧ z.2 ≤ 9) ⟨⟨none, rfl⟩, k14', d14, [], or0.kw k14, rfl, fun _ h => by cases h⟩ (fun i σ H' _ h => SqL.of (okl11.kw h.2.1).at_) (fun i v σ Ha Hb hi h y => ?_) (fun σ Ha h => ?_)
      · obtain ⟨⟨z15, rfl⟩, k15, d15, prs, or15, hprs, hpv⟩ := h
        obtain ⟨rfl, hv⟩ := y
        rw [List.length_map] at hi
        rw [List.getElem?_map] at hv
        obtain ⟨z, hz, rfl⟩ := Option.map_eq_some_iff.mp hv
        have hznew : z ∉ prs.map (·.1) := by
          rw [hprs]
          exact nd_take hknd hz
        have hpl : prs.length ≤ 3 := by
          have := congrArg List.length hprs
          rw [List.length_map, List.length_take] at this
          omega
        dsimp only [gName]
        refine dputJoin (fun x H' => Kw d w Hb H' ∧ Dr d w c (f0 + 20 - (i + 1)) H' ∧ ∃ pv : Int, x = .int pv ∧ 0 ≤ pv ∧ pv ≤ 9) (fun Q' q' => ?_) (fun x H16 h16 => ?_)
        · refine ⟨_, rfl, _, rfl, iteQ ⟨_, rfl, q' _ _ ⟨Kw.refl _, d15.less (by omega), _, rfl, by omega, by omega⟩⟩ ?_⟩
          exact ⟨_, rfl, d, w, c, f0 + 20 - (i + 1), 10, rfl, by decide, by decide, d15.less (by omega), fun m3 H16 g0 g1 k16 d16 => q' _ _ ⟨k16, d16, _, rfl, by omega, by omega⟩⟩
        · obtain ⟨k16, d16, pv, rfl, hp0, hp9⟩ := h16
          have or16 := or15.kw k16
          refine ⟨_, rfl, _, rfl, r, _, rfl, DPut.k (k := Sum.inr z) or16.at_ (small1000 (by rw [prK_len]; omega)), ?_⟩
          rw [prK_put hznew]
          refine ⟨⟨_, rfl⟩, kwp (k15.trans k16) hr11, d16.wr or16, prs ++ [(z, pv)], or16.wr, ?_, fun x hx => ?_⟩
          · rw [List.map_append, hprs, take_snoc hz]
            rfl
          · rcases List.mem_append.mp hx with hx | hx
            · exact hpv x hx
            · rw [List.mem_singleton.mp hx]
              exact ⟨hp0, hp9⟩
      · obtain ⟨⟨z15, rfl⟩, k15, d15, prs, or15, hprs, hpv⟩ := h
        rw [List.length_map] at hprs d15
        rw [take_all (Nat.le_refl _)] at hprs
        have ws15 := ws11.kw d11 k15
        intro sh hsh
        refine ⟨_, rfl, _, rfl, _, rfl, upd_same, [(Sum.inr "prices", .ref r), (Sum.inr "days", .int (n : Int)), (Sum.inr "packs", .ref wd)], rfl, by show 3 ≤ 15; decide, ?_⟩
        have eup : upd (upd Ha sh (.dK [])) sh (.dK (mergeK [] [((Sum.inr "prices" : Key), V.ref r), (Sum.inr "days", .int (n : Int)), (Sum.inr "packs", .ref wd)])) = upd Ha sh (.dK (sheetK r n wd)) := upd_upd
        rw [eup]
        have ssh : Same Ha (upd Ha sh (.dK (sheetK r n wd))) := same_upd hsh
        exact k sh r wd prs n lbs as ps _ ((k11.trans k15).trans (Kw.of ssh)) ((d15.less (by omega)).same ssh) ⟨Own.new d15 hsh, or15.keep ssh, ws15.keep ssh⟩
          (sheet_ok hprs hksrt hknd (by omega) (by omega) hkok hpv hn1 hn4 hlsrt hlok hbs (by omega) hco hro)
end
end Nd
set_option Elab.async false
set_option linter.all false
set_option maxRecDepth 100000
set_option maxHeartbeats 2000000
namespace Nd
open PySem PySem.Spec PyProof.Rows L2
theorem foldl_max_le {ns : List Int} {m : Int} (h0 : 0 ≤ m) (h : ∀ y ∈ ns, y ≤ m) : ns.foldl max 0 ≤ m := by
  rcases foldl_max_mem ns 0 with e | e
  · rw [e]
    exact h0
  · exact h _ e
theorem lastD_perm {p q : PackD} (h : q.slots.Perm p.slots) : lastD q = lastD p := by
  have h1 := h.map (·.2)
  have a : lastD q ≤ lastD p := foldl_max_le (foldl_max_ge _ 0).1 fun y hy => (foldl_max_ge _ 0).2 y (h1.mem_iff.mp hy)
  have b : lastD p ≤ lastD q := foldl_max_le (foldl_max_ge _ 0).1 fun y hy => (foldl_max_ge _ 0).2 y (h1.mem_iff.mpr hy)
  omega
/-- a pack made of a ware -/
structure Made (q p : PackD) : Prop where
  sl : q.slots.Perm p.slots
  am : q.amount = p.amount
  co : q.cost = p.cost
  ro : q.roll = p.roll
theorem Made.ok {q p : PackD} (h : Made q p) (ok : PackOk p) : PackOk q := by
  refine ⟨fun e => ?_, by rw [h.sl.length_eq]; exact ok.len, h.sl.nodup_iff.mpr ok.nd, fun z hz => ok.sl z (h.sl.mem_iff.mp hz), by rw [h.am]; exact ok.am, by rw [h.co]; exact ok.co, by rw [h.ro]; exact ok.ro⟩
  have := h.sl.length_eq
  rw [e] at this
  exact ok.ne (List.eq_nil_of_length_eq_zero this.symm)
theorem made_am {qs ps : List PackD} (h : Paired Made qs ps) : qs.map (·.amount) = ps.map (·.amount) := by
  induction h with
  | nil => rfl
  | cons h _ ih => rw [List.map_cons, List.map_cons, ih, h.am]
theorem made_mem {qs ps : List PackD} (h : Paired Made qs ps) {q : PackD} (hq : q ∈ qs) : ∃ p ∈ ps, Made q p := by
  obtain ⟨i, hi, e⟩ := List.getElem_of_mem hq
  obtain ⟨p, h1, h2⟩ := paired_at h (by rw [List.getElem?_eq_getElem hi, e])
  exact ⟨p, List.mem_of_getElem? h1, h2⟩
theorem made_at {qs ps : List PackD} (h : Paired Made qs ps) {i : Nat} {p : PackD} (hp : ps[i]? = some p) : ∃ q, qs[i]? = some q ∧ Made q p := by
  have hi : i < qs.length := by
    rw [paired_len h]
    exact (List.getElem?_eq_some_iff.mp hp).1
  obtain ⟨p', h1, h2⟩ := paired_at h (List.getElem?_eq_getElem hi)
  rw [hp] at h1
  cases h1
  exact ⟨_, List.getElem?_eq_getElem hi, h2⟩
theorem planIn_of {prices : List (Str × Int)} {n : Nat} {ns : List Str} {ps qs : List PackD} (ok : SheetOk prices n ns ps) (h : Paired Made qs ps) : PlanIn prices n ns qs := by
  refine ⟨ok.pr, ⟨by have := ok.da.1; omega, by have := ok.da.2; omega⟩, fun q hq => ?_, fun q hq => ?_, by rw [made_am h]; exact ok.six⟩
  · obtain ⟨p, hp, m⟩ := made_mem h hq
    exact m.ok (ok.ok p hp)
  · obtain ⟨p, hp, m⟩ := made_mem h hq
    refine ⟨m.ok (ok.ok p hp), fun z hz => (ok.cells p hp z (m.sl.mem_iff.mp hz)).1, ?_, fun r hr => ?_⟩
    · rw [lastD_perm m.sl]
      have := foldl_max_le (ns := p.slots.map (·.2)) (m := (n : Int) - 1) (by have := ok.da.1; omega) fun y hy => by
        obtain ⟨z, hz, rfl⟩ := List.mem_map.mp hy
        have := (ok.cells p hp z hz).2
        omega
      have e : lastD p = (p.slots.map (·.2)).foldl max 0 := rfl
      omega
    · rw [m.ro] at hr
      obtain ⟨_, _, j, p2, h1, h2, h3⟩ := ok.roll p hp r hr
      obtain ⟨q2, h4, m2⟩ := made_at h h2
      exact ⟨j, q2, h1, h4, by rw [lastD_perm m.sl, lastD_perm m2.sl]; exact h3⟩
/-- the plan of a sheet -/
structure PlanOf (prices : List (Str × Int)) (n : Nat) (ns : List Str) (ps : List PackD) (pl : PlanD) : Prop where
  ok : PlanOk pl
  pr : pl.prices.Perm prices
  da : pl.days = n
  nm : pl.names = ns
  am : pl.rows.map (·.amount) = ps.map (·.amount)
theorem zip_same {α β : Type} {l : List α} {m m' : List β} (hn : l.Nodup) (h1 : m.length = l.length) (h2 : m'.length = l.length) (h : (l.zip m).Perm (l.zip m')) : m = m' := by
  refine List.ext_getElem? fun i => ?_
  by_cases hi : i < l.length
  · have a1 : l[i]? = some l[i] := List.getElem?_eq_getElem hi
    have a2 : m[i]? = some (m[i]'(by omega)) := List.getElem?_eq_getElem _
    obtain ⟨j, b1, b2⟩ := mem_zip.mp (h.mem_iff.mp (mem_zip.mpr ⟨i, a1, a2⟩))
    have := nd_ix hn a1 b1
    subst this
    rw [a2, b2]
  · rw [List.getElem?_eq_none (by omega), List.getElem?_eq_none (by omega)]
theorem planOf_of {prices : List (Str × Int)} {n : Nat} {ns : List Str} {ps qs : List PackD} {pl : PlanD} (ok : SheetOk prices n ns ps) (h : Paired Made qs ps) (hl : qs.length = ns.length) (o : PlanOut prices n ns qs pl) : PlanOf prices n ns ps pl := by
  have hnm : pl.names = ns := by
    refine sorted_same ?_ o.ok.srt ok.nsrt
    have h1 := o.pk.map Prod.fst
    rw [List.map_fst_zip (Nat.le_of_eq o.ok.len), List.map_fst_zip (Nat.le_of_eq hl.symm)] at h1
    exact h1
  have hrows : pl.rows = qs := by
    have h2 := o.pk
    rw [hnm] at h2
    exact zip_same (by rw [← hnm]; exact o.ok.nd) (by rw [← hnm]; exact o.ok.len.symm) hl h2
  exact ⟨o.ok, o.pr, o.da, hnm, by rw [hrows]; exact made_am h⟩
theorem deeds_join {pl : PlanD} : ∀ {a b : List Deed} {d : Int}, DeedsOk pl d a → DeedsOk pl (d + dayOf a) b → DeedsOk pl d (a ++ b)
  | [], b, d, _, h => by
    have e : d + dayOf [] = d := Int.add_zero d
    rw [e] at h
    exact h
  | none :: a, b, d, h, h' => by
    refine ⟨h.1, deeds_join h.2 ?_⟩
    have e : d + dayOf (none :: a) = d + 1 + dayOf a := by
      unfold dayOf
      rw [List.countP_cons_of_pos (by rfl)]
      omega
    rw [← e]
    exact h'
  | some c :: a, b, d, h, h' => by
    refine ⟨h.1, deeds_join h.2 ?_⟩
    have e : d + dayOf (some c :: a) = d + dayOf a := by
      unfold dayOf
      rw [List.countP_cons_of_neg (by simp)]
    rw [← e]
    exact h'
/-- deeds for any plan of these cells and days -/
def DeedsFor (prices : List (Str × Int)) (n : Nat) (ds : List Deed) : Prop := ∀ pl : PlanD, (∀ z ∈ prices.map (·.1), z ∈ pl.prices.map (·.1)) → pl.days = n → DeedsOk pl 0 ds
section
variable {P : Program} {w0 : World} {K : PySem.W.Frag} {mg : Str → Option Value} {base : Heap}
/-! ### _law_wares, _law_kinds -/
def spWares (K : PySem.W.Frag) : Sp := fun vs H Q _ => ∃ (d w c sh r wd : Addr) (prices : List (Str × Int)) (n : Nat) (ns : List Str) (as : List Addr) (ps : List PackD), vs = [.ref sh] ∧ ShAt K d w c H sh r wd prices n ns as ps ∧ sortedS ns = true ∧ ∀ l, H l = none → Q (.ref l) (upd H l (.lst (ns.map V.str)))
theorem sc_wares : FnScope ["_law_sheet_here"] ["_law_sheet_here"] (defScope (top 83)) := ⟨rfl, rfl, rfl, by decide +kernel, rfl, by decide +kernel, by decide +kernel⟩
theorem ok_wares (T : Tx K mg) : Cal P w0 K mg base 1 "_law_wares" (spWares K) := by
  refine Cal.of (T.f ("_law_wares", 83)) sc_wares (fun _ _ _ _ _ _ us hl => match us, hl with | [_], _ => rfl) (fun vs H Q E h => ?_) (fun f cdv A outer s H vs Q E hr h => ?_)
  · obtain ⟨d, w, c, sh, r, wd, prices, n, ns, as, ps, rfl, _⟩ := h
    rfl
  · obtain ⟨d, w, c, sh, r, wd, prices, n, ns, as, ps, rfl, sa, hs, k⟩ := h
    refine ⟨_, pss_one <| ps_ret <| pcb "sorted" (call_sortedD rfl) (T.z "sorted") (pe_dget (hu_of hr) (pv 0) pe_str (fun _ _ => rfl)), ?_⟩
    have n4 := sa.ws.n4
    refine ⟨_, rfl, sh, _, rfl, .inl ⟨_, Sum.inr "packs", .inl sa.own.at_, rfl, sheetK_packs.symm⟩, wd, _, ns, rfl, .inl sa.ws.own.at_, sa.ws.keys, by omega, fun ys l hys hsrt hl => ?_⟩
    rw [sorted_same hys hsrt hs]
    exact k l hl
def spKinds (K : PySem.W.Frag) : Sp := fun vs H Q _ => ∃ (d w c sh r wd : Addr) (prices : List (Str × Int)) (n : Nat) (ns : List Str) (as : List Addr) (ps : List PackD), vs = [.ref sh] ∧ ShAt K d w c H sh r wd prices n ns as ps ∧ prices.length ≤ 3 ∧ sortedS (prices.map (·.1)) = true ∧ ∀ l, H l = none → Q (.ref l) (upd H l (.lst ((prices.map (·.1)).map V.str)))
theorem sc_kinds : FnScope ["_law_sheet_here"] ["_law_sheet_here"] (defScope (top 84)) := ⟨rfl, rfl, rfl, by decide +kernel, rfl, by decide +kernel, by decide +kernel⟩
theorem ok_kinds (T : Tx K mg) : Cal P w0 K mg base 1 "_law_kinds" (spKinds K) := by
  refine Cal.of (T.f ("_law_kinds", 84)) sc_kinds (fun _ _ _ _ _ _ us hl => match us, hl with | [_], _ => rfl) (fun vs H Q E h => ?_) (fun f cdv A outer s H vs Q E hr h => ?_)
  · obtain ⟨d, w, c, sh, r, wd, prices, n, ns, as, ps, rfl, _⟩ := h
    rfl
  · obtain ⟨d, w, c, sh, r, wd, prices, n, ns, as, ps, rfl, sa, h3, hs, k⟩ := h
    refine ⟨_, pss_one <| ps_ret <| pcb "sorted" (call_sortedD rfl) (T.z "sorted") (pe_dget (hu_of hr) (pv 0) pe_str (fun _ _ => rfl)), ?_⟩
    refine ⟨_, rfl, sh, _, rfl, .inl ⟨_, Sum.inr "prices", .inl sa.own.at_, rfl, sheetK_prices.symm⟩, r, _, prices.map (·.1), rfl, .inl sa.pr.at_, prK_keys prices, by rw [List.length_map]; omega, fun ys l hys hsrt hl => ?_⟩
    rw [sorted_same hys hsrt hs]
    exact k l hl
/-! ### _law_plan -/
def spPlan (K : PySem.W.Frag) : Sp := fun vs H Q _ => ∃ (d w c sh r wd : Addr) (prices : List (Str × Int)) (n : Nat) (ns : List Str) (as : List Addr) (ps : List PackD), vs = [.ref sh] ∧ ShAt K d w c H sh r wd prices n ns as ps ∧ SheetOk prices n ns ps ∧
  ∀ (x : Addr) (pl : PlanD) (H' : Hp), Same H H' → PlanAt K H' x pl → PlanOf prices n ns ps pl → Q (.ref x) H'
theorem sc_planL : FnScope ["_law_sheet_here", "_law_made", "_law_label", "_law_ware"] ["_law_sheet_here"] (defScope (top 82)) := ⟨rfl, rfl, rfl, by decide +kernel, rfl, by decide +kernel, by decide +kernel⟩
theorem ok_planL (T : Tx K mg) (CS : Cal P w0 K mg base 4 "are_slots" (spAreSlots K)) : Cal P w0 K mg base 7 "_law_plan" (spPlan K) := by
  refine Cal.of (T.f ("_law_plan", 82)) sc_planL (fun _ _ _ _ _ _ us hl => match us, hl with | [_], _ => rfl) (fun vs H Q E h => ?_) (fun f cdv A outer s H vs Q E hr h => ?_)
  · obtain ⟨d, w, c, sh, r, wd, prices, n, ns, as, ps, rfl, _⟩ := h
    rfl
  · obtain ⟨d, w, c, sh, r, wd, prices, n, ns, as, ps, rfl, sa, ok, k⟩ := h
    have nd := sc_planL.nd
    have hu := hu_of hr
    refine ⟨_, pss_cons (pst 1 nd pe_dnewK) <|
      pss_cons (ps_for PassesOwn.never rfl (pi_list (pcl (ok_wares T) hr (pa1 (pv 0)))) (pgn 2 nd) <|
        pss_cons (pst 3 nd (pe_dget hu (pe_dget hu (pv 0) pe_str (fun _ _ => rfl)) (pv 2) (fun _ _ => rfl))) <|
        pss_one <| ps_dput hu (pv 1) (pv 2) (pmk (ok_pack T CS) hr (pa4 (pe_dget hu (pv 3) pe_str (fun _ _ => rfl)) (pe_dget hu (pv 3) pe_str (fun _ _ => rfl)) (pe_dget hu (pv 3) pe_str (fun _ _ => rfl)) (pe_dget hu (pv 3) pe_str (fun _ _ => rfl)))) rfl) <|
      pss_one <| ps_ret <| pmk (ok_plan T) hr (pa3 (pe_dget hu (pv 0) pe_str (fun _ _ => rfl)) (pe_dget hu (pv 0) pe_str (fun _ _ => rfl)) (pv 1)), ?_⟩
    intro md hmd
    have s1 : Same H (upd H md (.dK [])) := same_upd hmd
    have hm1 : (upd H md (.dK [])) md = some (.dK []) := upd_same
    generalize upd H md (.dK []) = H1 at *
    have sa1 := sa.keep s1
    have n4 := sa.ws.n4
    have hpl := sa.ws.pl
    refine ⟨_, rfl, d, w, c, sh, r, wd, prices, n, ns, as, ps, rfl, sa1, ok.nsrt, fun l hl => ⟨l, rfl, ⟨_, SqL.of upd_same⟩, ?_⟩⟩
    have s2 : Same H1 (upd H1 l (.lst (ns.map V.str))) := same_upd hl
    have hlt : (upd H1 l (.lst (ns.map V.str))) l = some (.lst (ns.map V.str)) := upd_same
    have hm2 := s2 _ _ hm1
    have s02 := s1.trans s2
    generalize upd H1 l (.lst (ns.map V.str)) = H2 at *
    have hlm : l ≠ md := ne_of hlt hm2 (by intro z; cases z)
    refine for_it (walk_list (xs := ns.map V.str)) (fun i σ H' => (∃ z2 z3, σ = [some (.ref sh), some (.ref md), z2, z3]) ∧ Same H H' ∧ H' l = some (.lst (ns.map V.str)) ∧ ∃ (as2 : List Addr) (qs : List PackD), H' md = some (.dK (pkK (ns.take i) as2)) ∧ as2.length = i ∧ PacksAt K H' as2 qs ∧ Paired Made qs (ps.take i))
      ⟨⟨none, none, rfl⟩, s02, hlt, [], [], hm2, rfl, .nil, .nil⟩ (fun i σ H' _ h => SqL.of h.2.2.1) (fun i v σ H3 H4 hi h y => ?_) (fun σ H3 h => ?_)
    · obtain ⟨⟨z2, z3, rfl⟩, s3, hl3, as2, qs, hm3, hal, hpk, hmd3⟩ := h
      obtain ⟨rfl, hv⟩ := y
      rw [List.length_map] at hi
      rw [List.getElem?_map] at hv
      obtain ⟨z, hz, rfl⟩ := Option.map_eq_some_iff.mp hv
      have sa3 := sa.keep s3
      obtain ⟨i0, a, p, hi0, ha0, hp0, hval, wat⟩ := sa3.ws.get (List.mem_of_getElem? hz)
      have ei : i0 = i := nd_ix sa.ws.nd hi0 hz
      subst ei
      obtain ⟨sl, xs, ro, q1, q2, q3, q4⟩ := wat.ex
      have pok := ok.ok p (List.mem_of_getElem? hp0)
      refine ⟨_, rfl, sh, _, rfl, .inl ⟨_, Sum.inr "packs", .inl sa3.own.at_, rfl, sheetK_packs.symm⟩, _, rfl, wd, _, rfl, .inl ⟨_, Sum.inr z, .inl sa3.ws.own.at_, rfl, hval.symm⟩, ?_⟩
      refine ⟨_, rfl, a, _, rfl, .inl ⟨_, Sum.inr "slots", .inl q1.at_, rfl, wareK_slots.symm⟩, _, rfl, a, _, rfl, .inl ⟨_, Sum.inr "amount", .inl q1.at_, rfl, wareK_amount.symm⟩, _, rfl, a, _, rfl, .inl ⟨_, Sum.inr "cost", .inl q1.at_, rfl, wareK_cost.symm⟩, _, rfl, a, _, rfl, .inl ⟨_, Sum.inr "roll", .inl q1.at_, rfl, wareK_roll.symm⟩, ?_⟩
      intro x dx hx hdx hne
      have b0 : Same H4 (upd (upd H4 dx (.own x)) x (.ins (CP K) dx [])) := sup (same_upd hdx) (by rw [upd_ne (Ne.symm hne)]; exact hx)
      refine ⟨x, dx, sl, xs, p, ro, rfl, upd_same, b0 _ _ q2.at_, q3.keep (TK.of b0), q4.keep (TK.of b0), pok, fun H5 ts hts kb pat => ⟨rfl, ?_⟩⟩
      have s5 : Same H4 H5 := Same.made hx hdx kb
      have hm5 := s5 _ _ hm3
      have hznew : z ∉ ns.take i0 := nd_take sa.ws.nd hz
      have hl1 : (ns.take i0).length = as2.length := by
        rw [List.length_take, hal]
        omega
      refine ⟨_, rfl, _, rfl, md, _, rfl, DPut.k (k := Sum.inr z) hm5 (small1000 (by
        have := kvT_len (vs := as2.map V.ref) (ks := ns.take i0) (by rw [List.length_map]; exact hl1)
        show (kvT (ns.take i0) (as2.map V.ref)).length ≤ 1000
        rw [this, List.length_take]
        omega)), ?_⟩
      rw [pkK_put hl1 hznew, ← take_snoc hz]
      have fk : FK H5 (upd H5 md (.dK (pkK (ns.take (i0 + 1)) (as2 ++ [x])))) := FK.updD hm5
      refine ⟨⟨_, _, rfl⟩, swr (s3.trans s5) hmd, (upd_ne hlm).trans (s5 _ _ hl3), as2 ++ [x], qs ++ [{ p with slots := ts }], upd_same, by rw [List.length_append, hal]; rfl, ?_, ?_⟩
      · exact paired_snoc (pat.keep fk) ((hpk.keep (FK.of s5)).keep fk)
      · rw [take_snoc hp0]
        exact paired_snoc ⟨hts, rfl, rfl, rfl⟩ hmd3
    · obtain ⟨⟨z2, z3, rfl⟩, s3, hl3, as2, qs, hm3, hal, hpk, hmd3⟩ := h
      rw [List.length_map] at hm3 hal hmd3
      rw [take_all (Nat.le_refl _)] at hm3
      rw [take_all (Nat.le_of_eq hpl)] at hmd3
      have sa3 := sa.keep s3
      refine ⟨_, rfl, sh, _, rfl, .inl ⟨_, Sum.inr "prices", .inl sa3.own.at_, rfl, sheetK_prices.symm⟩, _, rfl, sh, _, rfl, .inl ⟨_, Sum.inr "days", .inl sa3.own.at_, rfl, sheetK_days.symm⟩, _, rfl, ?_⟩
      intro x dx hx hdx hne
      have b0 : Same H3 (upd (upd H3 dx (.own x)) x (.ins (CL K) dx [])) := sup (same_upd hdx) (by rw [upd_ne (Ne.symm hne)]; exact hx)
      have pin := planIn_of ok hmd3
      have hql : qs.length = ns.length := by rw [paired_len hmd3, hpl]
      refine ⟨x, dx, r, md, prices, n, ns, as2, qs, rfl, upd_same, b0 _ _ sa3.pr.at_, b0 _ _ hm3, ⟨hal.symm, sa.ws.nd, n4, sa.ws.nok, hpk.keep (FK.of b0)⟩, pin, fun H4 pl kb pat out => ⟨rfl, ?_⟩⟩
      exact k x pl H4 (s3.trans (Same.made hx hdx kb)) pat (planOf_of ok hmd3 hql out)
end
end Nd
set_option Elab.async false
set_option linter.all false
set_option maxRecDepth 100000
set_option maxHeartbeats 2000000
namespace Nd
open PySem PySem.Spec PyProof.Rows L2
theorem ifB2 {c : TT} {t1 t2 : TS} {D : Ends} {σ : L2.St} {H : Hp} (F1 F2 : Hp → Prop) (h : ∀ Q : Bool → Hp → Prop, (∀ H', F1 H' → Q true H') → (∀ H', F2 H' → Q false H') → c σ H Q) (q1 : ∀ H', F1 H' → t1 D σ H') (q2 : ∀ H', F2 H' → t2 D σ H') : tIfS c t1 t2 D σ H :=
  h _ (fun H' f => iteT (q1 H' f)) fun H' f => iteF (q2 H' f)
section
variable {P : Program} {w0 : World} {K : PySem.W.Frag} {mg : Str → Option Value} {base : Heap}
/-! ### _law_ranks -/
def spRanks (K : PySem.W.Frag) : Sp := fun vs H Q _ => ∃ (d w c sh r wd : Addr) (f : Nat) (prices : List (Str × Int)) (n : Nat) (ns : List Str) (as : List Addr) (ps : List PackD), vs = [.ref d, .ref sh] ∧ ShAt K d w c H sh r wd prices n ns as ps ∧ sortedS ns = true ∧ Dr d w c (f + 4) H ∧
  ∀ (t : Addr) (ord : List Str) (H' : Hp), Kw d w H H' → Dr d w c f H' → ord.Perm ns → H' t = some (.tup (ord.map V.str)) → Q (.ref t) H'
theorem sc_ranks : FnScope ["_law_draw", "_law_sheet_here"] ["_law_draw", "_law_sheet_here"] (defScope (top 85)) := ⟨rfl, rfl, rfl, by decide +kernel, rfl, by decide +kernel, by decide +kernel⟩
theorem ok_ranks (T : Tx K mg) : Cal P w0 K mg base 4 "_law_ranks" (spRanks K) := by
  refine Cal.of (T.f ("_law_ranks", 85)) sc_ranks (fun _ _ _ _ _ _ us hl => match us, hl with | [_, _], _ => rfl) (fun vs H Q E h => ?_) (fun f cdv A outer s H vs Q E hr h => ?_)
  · obtain ⟨d, w, c, sh, r, wd, f, prices, n, ns, as, ps, rfl, _⟩ := h
    rfl
  · obtain ⟨d, w, c, sh, r, wd, f0, prices, n, ns, as, ps, rfl, sa, hs, hd, k⟩ := h
    refine ⟨_, pss_one <| ps_ret <| pct "tuple" call_tuple_of (T.z "tuple") (pcl (ok_shuf T) hr (pa2 (pv 0) (pcl (ok_wares T) hr (pa1 (pv 1))))), ?_⟩
    have n4 := sa.ws.n4
    refine ⟨_, rfl, _, rfl, d, w, c, sh, r, wd, prices, n, ns, as, ps, rfl, sa, hs, fun l hl => ?_⟩
    refine ⟨d, w, c, l, f0, ns, rfl, Own.new hd hl, by omega, (fun z hz => nameOk_str (sa.ws.nok z hz)), (hd.new hl).less (by omega), fun l2 ys H2 hys k2 d2 ol2 => ?_⟩
    refine ⟨l2, _, rfl, .inl ⟨SqL.of ol2.at_, fun t ht => k t ys _ (((Kw.of (same_upd hl)).trans k2).trans (Kw.of (same_upd ht))) (d2.new ht) hys upd_same⟩⟩
/-! ### _law_acts -/
def spActs (K : PySem.W.Frag) : Sp := fun vs H Q _ => ∃ (d w c sh r wd : Addr) (f : Nat) (prices : List (Str × Int)) (n : Nat) (ns : List Str) (as : List Addr) (ps : List PackD), vs = [.ref d, .ref sh, .int 30] ∧ ShAt K d w c H sh r wd prices n ns as ps ∧ SheetOk prices n ns ps ∧ Dr d w c (f + 70) H ∧
  ∀ (l : Addr) (xs : List V) (ds : List Deed) (H' : Hp), Kw d w H H' → Dr d w c f H' → Own d w c H' l (.lst xs) → TdAll K H' xs (ds.map deedD) → ds.length ≤ 30 → DeedsFor prices n ds → Q (.ref l) H'
theorem sc_acts : FnScope ["_law_draw", "_law_sheet_here", "_law_many", "_law_found", "_law_date", "_law_lap"] ["_law_draw", "_law_sheet_here", "_law_many"] (defScope (top 86)) := ⟨rfl, rfl, rfl, by decide +kernel, rfl, by decide +kernel, by decide +kernel⟩
theorem ok_acts (T : Tx K mg) : Cal P w0 K mg base 4 "_law_acts" (spActs K) := by
  refine Cal.of (T.f ("_law_acts", 86)) sc_acts (fun _ _ _ _ _ _ us hl => match us, hl with | [_, _, _], _ => rfl) (fun vs H Q E h => ?_) (fun f cdv A outer s H vs Q E hr h => ?_)
  · obtain ⟨d, w, c, sh, r, wd, f, prices, n, ns, as, ps, rfl, _⟩ := h
    rfl
  · obtain ⟨d, w, c, sh, r, wd, f0, prices, n, ns, as, ps, rfl, sa, ok, hd, k⟩ := h
    have nd := sc_acts.nd
    have hu := hu_of hr
    refine ⟨_, pss_cons (ppar 3 4 nd (pa2 (pe_lst pa_nil) pe_int)) <|
      pss_cons (ps_for PassesOwn.never rfl (pi_range1 rfl (T.z "range") (pa1 (pcl (ok_take T) hr (pa2 (pv 0) (pe_op op_add (pv 2) pe_int))))) (pgn 5 nd) <|
        pss_one <| ps_if (pw_and (pt_cmpR op_lt (pv 4) (pe_op op_sub (pe_dget hu (pv 1) pe_str (fun _ _ => rfl)) pe_int) (nomark _)) <| pw_and1 <| pt_cmpR op_eq (pcl (ok_take T) hr (pa2 (pv 0) pe_int)) pe_int (nomark _)).pt
          (pss_cons (ps_expr (pe_bm PySem.F.plainAttrs_list PySem.F.slot_list_append PySem.F.type_list_append mt_append (pv 3) (pa1 (pe_tup (pa1 pe_str))))) <|
            pss_one <| pst 4 nd (pe_op op_add (pv 4) pe_int))
          (pss_one <| ps_expr (pe_bm PySem.F.plainAttrs_list PySem.F.slot_list_append PySem.F.type_list_append mt_append (pv 3) (pa1 (pe_tup (pa2 pe_str (pcl (ok_pick T) hr (pa2 (pv 0) (pcl (ok_kinds T) hr (pa1 (pv 1)))))))))) ) <|
      pss_one <| ps_ret <| pv 3, ?_⟩
    have p3 := ok.pr.2.1
    have p1 := ok.pr.1
    refine ⟨by show 0 ≤ sizeLine; exact Nat.zero_le _, fun l hl => ⟨_, _, rfl, ?_⟩⟩
    have ol := Own.new (o := .lst ([] : List V)) hd hl
    have d1 := hd.new (u := .lst ([] : List V)) hl
    have s1 : Same H (upd H l (.lst [])) := same_upd hl
    generalize upd H l (.lst []) = H1 at *
    refine ⟨_, rfl, _, rfl, 30, 1, rfl, rfl, d, w, c, f0 + 69, 31, rfl, by decide, by decide, d1, fun m H2 m0 m1 k2 d2 => ?_⟩
    refine ⟨m, rfl, by omega, by omega, ?_⟩
    have hcell : ∀ pl : PlanD, (∀ z ∈ prices.map (·.1), z ∈ pl.prices.map (·.1)) → ∀ z ∈ prices.map (·.1), z ∈ pl.prices.map (·.1) := fun _ h => h
    refine for_it walk_range (fun i σ H' => Kw d w H H' ∧ Dr d w c (f0 + 69 - 2 * i) H' ∧ ∃ (xs : List V) (ds : List Deed) (z5 : Option V), σ = [some (.ref d), some (.ref sh), some (.int 30), some (.ref l), some (.int (dayOf ds)), z5] ∧ Own d w c H' l (.lst xs) ∧ TdAll K H' xs (ds.map deedD) ∧ ds.length = i ∧ DeedsFor prices n ds)
      ⟨(Kw.of s1).trans k2, d2, [], [], none, rfl, ol.kw k2, .nil, rfl, fun pl _ _ => trivial⟩ (fun _ _ _ _ _ => trivial) (fun i v σ H3 H4 hi h y => ?_) (fun σ H3 h => ?_)
    · obtain ⟨k3, d3, xs, ds, z5, rfl, ol3, tds, hdl, hdf⟩ := h
      obtain ⟨rfl, rfl⟩ := y
      have hi30 : i < 30 := by omega
      have hxl : xs.length = i := by rw [tds.len, List.length_map, hdl]
      have sa3 := sa.kw hd k3
      refine ifB2 (fun H' => (Kw d w H4 H' ∧ Dr d w c (f0 + 69 - 2 * i - 1) H') ∧ dayOf ds < (n : Int) - 1) (fun H' => Kw d w H4 H' ∧ Dr d w c (f0 + 69 - 2 * i - 1) H') (fun Q q1 q2 => ?_) (fun H5 h5 => ?_) fun H5 h5 => ?_
      · refine ⟨_, rfl, _, rfl, sh, _, rfl, .inl ⟨_, Sum.inr "days", .inl sa3.own.at_, rfl, sheetK_days.symm⟩, (n : Int), 1, rfl, rfl, _, _, rfl, rfl, _, rfl, ite2 (fun hb => ?_) fun _ => q2 _ ⟨Kw.refl _, d3.less (by omega)⟩⟩
        refine ⟨_, rfl, d, w, c, f0 + 69 - 2 * i - 1, 4, rfl, by decide, by decide, d3.less (by omega), fun m2 H5 g0 g1 k5 d5 => ⟨rfl, _, rfl, ?_⟩⟩
        cases decide (V.int m2 = V.int 0) with
        | true => exact q1 _ ⟨⟨k5, d5⟩, of_decide_eq_true hb⟩
        | false => exact q2 _ ⟨k5, d5⟩
      · obtain ⟨⟨k5, d5⟩, hlt⟩ := h5
        have ol5 := ol3.kw k5
        refine ⟨_, rfl, .inl ⟨rfl, _, SqL.of ol5.at_⟩, by show 1 ≤ sizeLine; decide, fun t ht => ?_⟩
        have ol6 := ol5.keep (same_upd (o := .tup [.str "night"]) ht)
        have tk6 : TK H4 (upd H5 t (.tup [.str "night"])) := (k5.tk d3).trans (TK.updN ht)
        refine ⟨l, xs, _, rfl, rfl, ol6.at_, small1000 (by omega), ?_⟩
        have tk7 : TK (upd H5 t (.tup [.str "night"])) (upd (upd H5 t (.tup [.str "night"])) l (.lst (xs ++ [.ref t]))) := TK.updL ol6.at_
        refine ⟨_, rfl, dayOf ds, 1, rfl, rfl, kwp ((k3.trans k5).trans (Kw.of (same_upd ht))) hl, ((d5.new ht).wr ol6).less (by omega), xs ++ [.ref t], ds ++ [none], some (.int (0 + (i : Nat))), ?_, ol6.wr, ?_, by rw [List.length_append, hdl]; rfl, fun pl hc hda => ?_⟩
        · rw [dayOf_snoc]
          rfl
        · rw [List.map_append]
          exact ((tds.keep tk6).keep tk7).snoc (Td.keep tk7 (.tup (.inl upd_same) (.cons (.str _) .nil)))
        · refine deeds_join (hdf pl hc hda) ⟨?_, trivial⟩
          rw [Int.zero_add, hda]
          exact hlt
      · obtain ⟨k5, d5⟩ := h5
        have ol5 := ol3.kw k5
        have sa5 := sa3.kw d3 k5
        refine ⟨_, rfl, .inl ⟨rfl, _, SqL.of ol5.at_⟩, _, rfl, _, rfl, d, w, c, sh, r, wd, prices, n, ns, as, ps, rfl, sa5, p3, ok.srt, fun lk hlk => ?_⟩
        refine ⟨d, w, c, f0 + 69 - 2 * i - 2, _, rfl, (d5.new hlk).less (by omega), .inl ⟨lk, _, rfl, Own.new d5 hlk, by rw [List.length_map, List.length_map]; omega, by rw [List.length_map, List.length_map]; omega, fun x H6 hx k6 d6 => ?_⟩⟩
        obtain ⟨z, hz, rfl⟩ := List.mem_map.mp hx
        refine ⟨by show 2 ≤ sizeLine; decide, fun t ht => ?_⟩
        have k56 : Kw d w H5 H6 := (Kw.of (same_upd hlk)).trans k6
        have ol6 := ol5.kw k56
        have ol7 := ol6.keep (same_upd (o := .tup [.str "use", .str z]) ht)
        have tk7 : TK H4 (upd H6 t (.tup [.str "use", .str z])) := ((k5.trans k56).tk d3).trans (TK.updN ht)
        refine ⟨l, xs, _, rfl, rfl, ol7.at_, small1000 (by omega), ?_⟩
        have tk8 : TK (upd H6 t (.tup [.str "use", .str z])) (upd (upd H6 t (.tup [.str "use", .str z])) l (.lst (xs ++ [.ref t]))) := TK.updL ol7.at_
        refine ⟨kwp (((k3.trans k5).trans k56).trans (Kw.of (same_upd ht))) hl, ((d6.new ht).wr ol7).less (by omega), xs ++ [.ref t], ds ++ [some z], some (.int (0 + (i : Nat))), ?_, ol7.wr, ?_, by rw [List.length_append, hdl]; rfl, fun pl hc hda => ?_⟩
        · rw [dayOf_snoc]
          have e0 : dayOf [some z] = 0 := rfl
          rw [e0, Int.add_zero]
          rfl
        · rw [List.map_append]
          exact ((tds.keep tk7).keep tk8).snoc (Td.keep tk8 (Td.pair upd_same))
        · exact deeds_join (hdf pl hc hda) ⟨hc z hz, trivial⟩
    · obtain ⟨k3, d3, xs, ds, z5, rfl, ol3, tds, hdl, hdf⟩ := h
      exact ⟨_, rfl, k l xs ds _ k3 (d3.less (by omega)) ol3 tds (by omega) hdf⟩
end
end Nd
set_option Elab.async false
set_option linter.all false
set_option maxRecDepth 100000
set_option maxHeartbeats 2000000
namespace Nd
open PySem PySem.Spec PyProof.Rows L2
/-! ### runs, bit by bit -/
theorem fold_more (pl : PlanD) (ord : List Str) : ∀ (ds : List Deed) (r : Run), ∃ X Y Z, (ds.foldl (stepM pl ord) r).made = r.made ++ X ∧ (ds.foldl (stepM pl ord) r).sums = r.sums ++ Y ∧ (ds.foldl (stepM pl ord) r).gone = r.gone ++ Z
  | [], r => ⟨[], [], [], by simp, by simp, by simp⟩
  | d :: ds, r => by
    obtain ⟨X, Y, Z, h1, h2, h3⟩ := fold_more pl ord ds (stepM pl ord r d)
    rw [List.foldl_cons]
    cases d with
    | none =>
      refine ⟨none :: X, 0 :: Y, ((lostM pl r.now).map fun q => (r.now.1, q.1, q.2)) ++ Z, ?_, ?_, ?_⟩
      · rw [h1]
        show (r.made ++ [none]) ++ X = _
        simp
      · rw [h2]
        show (r.sums ++ [0]) ++ Y = _
        simp
      · rw [h3]
        show (r.gone ++ _) ++ Z = _
        rw [List.append_assoc]
    | some c =>
      refine ⟨some (choiceM pl ord r.now c) :: X, (takenM pl r.now c (choiceM pl ord r.now c)).1 :: Y, Z, ?_, ?_, ?_⟩
      · rw [h1]
        show (r.made ++ [_]) ++ X = _
        simp
      · rw [h2]
        show (r.sums ++ [_]) ++ Y = _
        simp
      · rw [h3]
        rfl
theorem run_more (pl : PlanD) (ord : List Str) (ds : List Deed) (i : Nat) : ∃ X Y Z, (runM pl ord ds).made = (runM pl ord (ds.take i)).made ++ X ∧ (runM pl ord ds).sums = (runM pl ord (ds.take i)).sums ++ Y ∧ (runM pl ord ds).gone = (runM pl ord (ds.take i)).gone ++ Z := by
  have e : runM pl ord ds = (ds.drop i).foldl (stepM pl ord) (runM pl ord (ds.take i)) := by
    unfold runM
    rw [← List.foldl_append, List.take_append_drop]
  rw [e]
  exact fold_more pl ord _ _
def pickM (pl : PlanD) (ord : List Str) (s : State) : Deed → Option Ch
  | none => none
  | some c => some (choiceM pl ord s c)
theorem run_made {pl : PlanD} (ok : PlanOk pl) (ord : List Str) {ds : List Deed} (hd : DeedsOk pl 0 ds) {i : Nat} {d : Deed} (e : ds[i]? = some d) : (runM pl ord ds).made[i]? = some (pickM pl ord (runM pl ord (ds.take i)).now d) := by
  obtain ⟨X, Y, Z, h1, _⟩ := run_more pl ord ds (i + 1)
  have hi := (List.getElem?_eq_some_iff.mp e).1
  have hl := (runI ok ord rfl (deed_take hd i)).len
  rw [List.length_take, Nat.min_eq_left (by omega)] at hl
  rw [h1, take_snoc e, run_snoc]
  have h2 : (stepM pl ord (runM pl ord (ds.take i)) d).made = (runM pl ord (ds.take i)).made ++ [pickM pl ord (runM pl ord (ds.take i)).now d] := by
    cases d <;> rfl
  rw [h2, List.append_assoc, List.getElem?_append_right (by omega), hl]
  simp
/-- a choice of the plan's own rows -/
def chIn (pl : PlanD) : Option Ch → Prop
  | some (.draw i) => i < pl.rows.length
  | some (.buy i) => i < pl.rows.length
  | _ => True
theorem run_in {pl : PlanD} (ok : PlanOk pl) (ord : List Str) {ds : List Deed} (hd : DeedsOk pl 0 ds) {o : Option Ch} (h : o ∈ (runM pl ord ds).made) : chIn pl o := by
  obtain ⟨i, hi, e⟩ := List.getElem_of_mem h
  have hlen := (runI ok ord rfl hd).len
  have hi' : i < ds.length := by omega
  have h1 := run_made ok ord hd (List.getElem?_eq_getElem hi')
  rw [List.getElem?_eq_getElem hi, e] at h1
  have h2 := Option.some.inj h1
  cases hdd : ds[i] with
  | none =>
    rw [hdd] at h2
    rw [h2]
    trivial
  | some c =>
    rw [hdd] at h2
    rw [h2]
    have hm := choiceM_mem ok ord (runM pl ord (ds.take i)).now c
    show chIn pl (some (choiceM pl ord (runM pl ord (ds.take i)).now c))
    cases hc : choiceM pl ord (runM pl ord (ds.take i)).now c with
    | pay => trivial
    | draw j =>
      rw [hc] at hm
      exact cover_lt (mem_draw hm).1
    | buy j =>
      rw [hc] at hm
      exact cover_lt (mem_buy hm).1
theorem lost_sub (pl : PlanD) (s : State) : ∀ i, ((lostK pl s i).map (·.1)).Sublist ((List.range i).map (nameN pl))
  | 0 => List.Sublist.refl _
  | i + 1 => by
    rw [List.range_succ, List.map_append]
    show ((lostK pl s i ++ _).map (·.1)).Sublist _
    rw [List.map_append]
    refine (lost_sub pl s i).append ?_
    split
    · exact List.Sublist.refl _
    · exact List.nil_sublist _
theorem lost_sorted {pl : PlanD} (ok : PlanOk pl) (s : State) : sortedS ((lostM pl s).map (·.1)) = true := by
  refine pw_sortedS (List.Pairwise.sublist (lost_sub pl s _) ?_)
  have e : (List.range pl.rows.length).map (nameN pl) = pl.names := by
    refine List.ext_getElem? fun i => ?_
    rw [List.getElem?_map]
    by_cases hi : i < pl.rows.length
    · rw [List.getElem?_range hi, at_nameN (by rw [ok.len]; exact hi)]
      rfl
    · rw [List.getElem?_eq_none (by rw [List.length_range]; omega), List.getElem?_eq_none (by rw [ok.len]; omega)]
      rfl
  rw [e]
  exact sortedS_pw ok.srt
section
variable {P : Program} {w0 : World} {K : PySem.W.Frag} {mg : Str → Option Value} {base : Heap}
/-! ### _law_walked -/
structure WkAt (K : PySem.W.Frag) (H : Hp) (p la lm : Addr) (pl : PlanD) (ord : List Str) (ds : List Deed) : Prop where
  plan : PlanAt K H p pl
  ok : PlanOk pl
  da : DeedAt K H la ds
  dok : DeedsOk pl 0 ds
  mm : ∃ ms, H lm = some (.lst ms) ∧ TdAll K H ms ((runM pl ord ds).made.map (ochD pl))
def resD (r : Run) : PyData := .tuple [.int r.sums.sum, .list (r.gone.map goneD), stateD r.now]
def spWalked (K : PySem.W.Frag) : Sp := fun vs H Q _ => ∃ (p la lm : Addr) (pl : PlanD) (ord : List Str) (ds : List Deed), vs = [.ref p, .ref la, .ref lm] ∧ WkAt K H p la lm pl ord ds ∧
  ∀ (t : Addr) (H' : Hp), Same H H' → Dp K H' (.ref t) (resD (runM pl ord ds)) → Q (.ref t) H'
theorem sc_walked : FnScope ["_law_plan_here", "_law_acts_here", "_law_picks", "_law_here", "_law_sums", "_law_gone", "_law_act", "_law_pick_here", "_law_some", "_law_due", "_law_label"] ["_law_plan_here", "_law_acts_here", "_law_picks"] (defScope (top 87)) := ⟨rfl, rfl, rfl, by decide +kernel, rfl, by decide +kernel, by decide +kernel⟩
theorem ok_walked (T : Tx K mg) : Cal P w0 K mg base 7 "_law_walked" (spWalked K) := by
  refine Cal.of (T.f ("_law_walked", 87)) sc_walked (fun _ _ _ _ _ _ us hl => match us, hl with | [_, _, _], _ => rfl) (fun vs H Q E h => ?_) (fun f cdv A outer s H vs Q E hr h => ?_)
  · obtain ⟨p, la, lm, pl, ord, ds, rfl, _⟩ := h
    rfl
  · obtain ⟨p, la, lm, pl, ord, ds, rfl, wk, k⟩ := h
    have nd := sc_walked.nd
    have hu := hu_of hr
    refine ⟨_, pss_cons (ps_asg (pe_tup (pa3 (pcl (ok_start T) hr (pa1 (pv 0))) pe_int (pe_lst pa_nil))) (pg_tup rfl (pgs_cons (pgn 3 nd) (pgs_cons (pgn 4 nd) (pgs_cons (pgn 5 nd) pgs_nil))))) <|
      pss_cons (ps_for PassesOwn.never rfl (pi_zip rfl (T.z "zip") (pa2 (pv 1) (pv 2))) (pg_tup rfl (pgs_cons (pgn 6 nd) (pgs_cons (pgn 7 nd) pgs_nil))) <|
        pss_one <| ps_if (pt_cmpR op_isN (pv 7) pe_non (nomark _))
          (pss_cons (pst 8 nd (pcl (ok_lost T) hr (pa2 (pv 0) (pv 3)))) <|
            pss_cons (pst 5 nd (pe_op op_cat (pv 5) (pe_lc (own := [("_law_label", 10)]) (g := gName 10) (tt := tYes) rfl nd (pi_list (pcb "sorted" (call_sortedD rfl) (T.z "sorted") (pv 8))) (blkOk_by (N := ["_law_plan_here", "_law_acts_here", "_law_picks", "_law_here", "_law_sums", "_law_gone", "_law_act", "_law_pick_here", "_law_some", "_law_due", "_law_label"]) (sc := defScope (top 87)) (by decide +kernel)) (fun _ _ _ _ _ => pgn 10 nd) (fun _ _ _ _ _ => pts_nil)
              (fun _ _ _ _ _ => pe_tup (pa3 (pixK K (pv 3) pe_int (fun _ _ => rfl)) (pv 10) (pe_dget hu (pv 8) (pv 10) (fun _ _ => rfl))))))) <|
            pss_one <| pst 3 nd (pcl (ok_night T) hr (pa2 (pv 0) (pv 3))))
          (pss_cons (ps_asg (pcl (ok_taken T) hr (pa4 (pv 0) (pv 3) (pe_ix ix_tup (pv 6) pe_int (fun _ _ => rfl)) (pv 7))) (pg_tup rfl (pgs_cons (pgn 9 nd) (pgs_cons (pgn 3 nd) pgs_nil)))) <|
            pss_one <| pst 4 nd (pe_op op_add (pv 4) (pv 9)))) <|
      pss_one <| ps_ret <| pe_tup (pa3 (pv 4) (pv 5) (pv 3)), ?_⟩
    have ok := wk.ok
    have dok := wk.dok
    obtain ⟨xs, hla, txs⟩ := wk.da.at_
    obtain ⟨ms, hlm, tms⟩ := wk.mm
    have hlen := wk.da.len
    have hxl : xs.length = ds.length := by rw [txs.len, List.length_map]
    have hml : ms.length = ds.length := by rw [tms.len, List.length_map, (runI ok ord rfl dok).len]
    refine ⟨_, rfl, p, pl, rfl, wk.plan, ok, fun hv0 H1 s1 th0 => ?_⟩
    refine ⟨by show 0 ≤ sizeLine; exact Nat.zero_le _, fun g0 hg0 => ⟨by show 3 ≤ sizeLine; decide, fun t0 ht0 => ⟨t0, _, rfl, SqT.of upd_same, rfl, _, _, rfl, _, _, rfl, _, _, rfl, rfl, ?_⟩⟩⟩
    have s2 : Same H (upd (upd H1 g0 (.lst [])) t0 (.tup [hv0, .int 0, .ref g0])) := sup (sup s1 hg0) ht0
    have tk2 : TK H1 (upd (upd H1 g0 (.lst [])) t0 (.tup [hv0, .int 0, .ref g0])) := (TK.updN hg0).trans (TK.updN ht0)
    have hg2 : (upd (upd H1 g0 (.lst [])) t0 (.tup [hv0, .int 0, .ref g0])) g0 = some (.lst []) := (upd_ne (ne_of_none upd_same ht0)).trans upd_same
    have th2 := th0.keep tk2
    generalize upd (upd H1 g0 (.lst [])) t0 (.tup [hv0, .int 0, .ref g0]) = H2 at *
    refine ⟨_, rfl, _, rfl, la, lm, xs, ms, rfl, SqL.of (s2 _ _ hla), SqL.of (s2 _ _ hlm), ?_⟩
    refine for_it (walk_zip (n := ds.length) (by rw [hxl, hml, Nat.min_self])) (fun i σ H' => Same H H' ∧ ∃ (hv : V) (g : Addr) (gs : List V) (z6 z7 z8 z9 : Option V), σ = [some (.ref p), some (.ref la), some (.ref lm), some hv, some (.int (runM pl ord (ds.take i)).sums.sum), some (.ref g), z6, z7, z8, z9, none] ∧ H' g = some (.lst gs) ∧ TdAll K H' gs ((runM pl ord (ds.take i)).gone.map goneD) ∧ Td K H' hv (stateD (runM pl ord (ds.take i)).now))
      ⟨s2, hv0, g0, [], none, none, none, none, rfl, hg2, .nil, th2⟩ (fun i σ H' _ h => ⟨SqL.of (h.1 _ _ hla), SqL.of (h.1 _ _ hlm)⟩) (fun i v σ H3 H4 hi h y => ?_) (fun σ H3 h => ?_)
    · obtain ⟨sm, hv, g, gs, z6, z7, z8, z9, rfl, hg, tgs, thv⟩ := h
      obtain ⟨t, v1, v2, rfl, ht, rfl, hv1, hv2⟩ := y
      have s4 : Same H3 (upd H3 t (.tup [v1, v2])) := same_upd ht
      have hut : (upd H3 t (.tup [v1, v2])) t = some (.tup [v1, v2]) := upd_same
      generalize upd H3 t (.tup [v1, v2]) = H4 at *
      have s04 := sm.trans s4
      obtain ⟨d, hd, td⟩ := txs.map_at hv1
      obtain ⟨o, ho, to⟩ := tms.map_at hv2
      rw [run_made ok ord dok hd] at ho
      cases ho
      have hrun := runI ok ord rfl (deed_take dok i)
      have hnext := deed_next dok hd
      have est : runM pl ord (ds.take (i + 1)) = stepM pl ord (runM pl ord (ds.take i)) d := by rw [take_snoc hd, run_snoc]
      rw [est]
      have hgl : (runM pl ord (ds.take i)).gone.length ≤ 400 := by
        have h1 := gone_len ok ord (ds.take i) (run0 pl)
        have h2 : (run0 pl).gone.length = 0 := rfl
        have h3 : (ds.take i).length ≤ 100 := by
          rw [List.length_take]
          omega
        show ((ds.take i).foldl (stepM pl ord) (run0 pl)).gone.length ≤ _
        omega
      generalize runM pl ord (ds.take i) = r at *
      have thv4 := thv.keep (TK.of s4)
      have hg4 := s4 _ _ hg
      have tgs4 := tgs.keep (TK.of s4)
      have hgsl := tgs.len
      rw [List.length_map] at hgsl
      refine ⟨t, _, rfl, SqT.of hut, rfl, _, _, rfl, _, _, rfl, rfl, ?_⟩
      cases d with
      | none =>
        have e2 : v2 = .non := Td.non_inv to
        subst e2
        refine ⟨_, rfl, rfl, _, rfl, iteT ?_⟩
        refine ⟨_, rfl, _, rfl, p, hv, pl, r.now, rfl, ⟨wk.plan.keep s04, ok, hrun.so, thv4⟩, fun e H5 s5 he4 he5 => ?_⟩
        have hg5 := s5 _ _ hg4
        have thv5 := thv4.keep (TK.of s5)
        have hll := lostK_len pl r.now pl.rows.length
        have hr4 := ok.r4
        have hl4 : (lostM pl r.now).length ≤ 4 := Nat.le_trans hll hr4
        refine ⟨_, rfl, _, rfl, e, _, (lostM pl r.now).map (·.1), rfl, .inl he5, prK_keys _, by rw [List.length_map]; omega, fun ys l hys hsrt hl => ⟨l, rfl, ⟨_, SqL.of upd_same⟩, fun D hD => ?_⟩⟩
        rw [sorted_same hys hsrt (lost_sorted ok r.now)] at hD ⊢
        have s6 : Same H5 (upd H5 l (.lst (((lostM pl r.now).map (·.1)).map V.str))) := same_upd hl
        have hl6 : (upd H5 l (.lst (((lostM pl r.now).map (·.1)).map V.str))) l = some (.lst (((lostM pl r.now).map (·.1)).map V.str)) := upd_same
        generalize upd H5 l (.lst (((lostM pl r.now).map (·.1)).map V.str)) = H6 at *
        refine lc_go walk_list hD (fun j acc H => TdAll K H acc (((lostM pl r.now).take j).map fun q : Str × Int => goneD (r.now.1, q.1, q.2))) (fun _ _ _ _ k h => h.keep k) .nil (fun H1 s => SqL.of (s _ _ hl6)) (small1000 (by rw [List.length_map, List.length_map]; omega)) (fun j v acc H8 H9 Fy Fn hj s8 ea y ky kn => ?_) (fun H8 acc s8 hD8 e8 => ?_)
        · obtain ⟨rfl, hv3⟩ := y
          rw [List.length_map, List.length_map] at hj
          have hq := List.getElem?_eq_getElem hj
          rw [List.getElem?_map, List.getElem?_map, hq] at hv3
          obtain rfl := Option.some.inj hv3
          have hvv := valV_at (prK_nd (lost_nd ok r.now pl.rows.length (Nat.le_refl _))) (prK_at (c := ((lostM pl r.now)[j]).1) (n := ((lostM pl r.now)[j]).2) hq)
          obtain ⟨a8, b8, rfl, ha8, hb8⟩ := state_inv (thv5.keep (TK.of (s6.trans s8)))
          refine ⟨rfl, lcY ⟨_, rfl, a8, _, 0, _, rfl, rfl, ha8.sq, rfl, _, rfl, _, rfl, _, rfl, e, _, rfl, .inl ⟨_, Sum.inr ((lostM pl r.now)[j]).1, .inl ((s6.trans s8) _ _ he5), rfl, hvv.symm⟩, by show 3 ≤ sizeLine; decide, fun u hu => ky _ _ (same_upd hu) ?_⟩⟩
          rw [take_snoc hq, List.map_append]
          exact (ea.keep (TK.updN hu)).snoc (Td.gone (g := (r.now.1, ((lostM pl r.now)[j]).1, ((lostM pl r.now)[j]).2)) upd_same)
        · rw [List.length_map, List.length_map, take_all (Nat.le_refl _)] at e8
          have hal := e8.len
          rw [List.length_map] at hal
          have s58 := s6.trans s8
          refine ⟨g, D, gs, acc, rfl, rfl, s58 _ _ hg5, hD8, Nat.le_trans (show gs.length + acc.length ≤ 500 by omega) (by decide), fun g2 hg2' => ?_⟩
          have s9 : Same H4 (upd H8 g2 (.lst (gs ++ acc))) := (s5.trans s58).trans (same_upd hg2')
          have tg9 : TdAll K (upd H8 g2 (.lst (gs ++ acc))) (gs ++ acc) ((stepM pl ord r none).gone.map goneD) := by
            show TdAll K _ _ ((r.gone ++ (lostM pl r.now).map fun q => (r.now.1, q.1, q.2)).map goneD)
            rw [List.map_append, List.map_map]
            exact (tgs4.keep (TK.of s9)).app (e8.keep (TK.updN hg2'))
          have hg9 : (upd H8 g2 (.lst (gs ++ acc))) g2 = some (.lst (gs ++ acc)) := upd_same
          generalize upd H8 g2 (.lst (gs ++ acc)) = H9 at *
          have s09 := s04.trans s9
          have hday := hrun.day
          have hn1 := hnext.1
          refine ⟨_, rfl, _, rfl, p, hv, pl, r.now, rfl, ⟨wk.plan.keep s09, ok, hrun.so, thv4.keep (TK.of s9)⟩, by rw [hday]; exact hn1, fun v' H10 s10 t10 => ?_⟩
          refine ⟨s09.trans s10, v', g2, gs ++ acc, some v1, some .non, some (.ref e), z9, ?_, s10 _ _ hg9, tg9.keep (TK.of s10), t10⟩
          have e0 : (stepM pl ord r none).sums.sum = r.sums.sum := by
            show (r.sums ++ [0]).sum = _
            rw [List.sum_append]
            simp
          rw [e0]
          rfl
      | some c =>
        have hch := choiceM_mem ok ord r.now c
        have to' : Td K H v2 (chD pl (choiceM pl ord r.now c)) := to
        obtain ⟨q2, rfl⟩ : ∃ q, v2 = .ref q := by
          obtain ⟨ds', e⟩ := chD_tup pl (choiceM pl ord r.now c)
          rw [e] at to'
          obtain ⟨q, _, h, _⟩ := to'.tup_inv
          exact ⟨q, h⟩
        obtain ⟨pd, rfl, hpd⟩ := deed_inv (td.keep (TK.of s04))
        refine ⟨_, rfl, rfl, _, rfl, iteDF (by intro z; cases z) ?_⟩
        refine ⟨_, rfl, _, rfl, _, rfl, pd, _, 1, _, rfl, rfl, hpd.sq, rfl, _, rfl, p, hv, .ref q2, pl, r.now, c, choiceM pl ord r.now c, rfl, ⟨wk.plan.keep s04, ok, hrun.so, thv4⟩, hnext.1, hch, to'.keep (TK.of s04), fun v9 H5 s5 t9 => ?_⟩
        obtain ⟨q, ws, rfl, hq, hws⟩ := t9.tup_inv
        cases hws with
        | cons w1 hws =>
          cases hws with
          | cons w2 hws =>
            cases hws
            cases w1
            refine ⟨q, _, rfl, hq.sq, rfl, _, _, rfl, _, _, rfl, rfl, ?_⟩
            refine ⟨_, rfl, _, rfl, _, _, rfl, rfl, ?_⟩
            refine ⟨s04.trans s5, _, g, gs, some (.ref pd), some (.ref q2), z8, some (.int (takenM pl r.now c (choiceM pl ord r.now c)).1), ?_, s5 _ _ hg4, tgs4.keep (TK.of s5), w2⟩
            have e0 : (stepM pl ord r (some c)).sums.sum = r.sums.sum + (takenM pl r.now c (choiceM pl ord r.now c)).1 := by
              show (r.sums ++ [_]).sum = _
              rw [List.sum_append]
              simp
            rw [e0]
            rfl
    · obtain ⟨sm, hv, g, gs, z6, z7, z8, z9, rfl, hg, tgs, thv⟩ := h
      rw [take_all (Nat.le_refl _)] at tgs thv
      refine ⟨_, rfl, _, rfl, _, rfl, by show 3 ≤ sizeLine; decide, fun t ht => k t _ (sup sm ht) ?_⟩
      rw [take_all (Nat.le_refl _)]
      have tk := TK.updN (o := .tup [.int (runM pl ord ds).sums.sum, .ref g, hv]) ht
      exact .tup (SqT.of upd_same) (.cons (.int _) (.cons (.lst (SqL.of ((same_upd ht) _ _ hg)) (tgs.keep tk).dp) (.cons (thv.keep tk).dp .nil)))
end
end Nd
set_option Elab.async false
set_option linter.all false
set_option maxRecDepth 100000
set_option maxHeartbeats 2000000
namespace Nd
open PySem PySem.Spec PyProof.Rows L2
theorem op_neDK (K : PySem.W.Frag) {X : Cx} (hu : X.A.units + 64 < cLine) (hK : X.K = K := by rfl) : OpR X (compareOp .NotEq) (rNeD K) := hK ▸ op_neD hu
theorem usedN_take {m : List (Option Ch)} {i : Nat} {o : Option Ch} (h : m[i]? = some o) : usedN (m.take (i + 1)) = usedN (m.take i) + usedN [o] := by rw [take_snoc h, usedN_snoc]
theorem boughtN_take (pl : PlanD) {m : List (Option Ch)} {i : Nat} {o : Option Ch} (h : m[i]? = some o) : boughtN pl (m.take (i + 1)) = boughtN pl (m.take i) + boughtN pl [o] := by rw [take_snoc h, boughtN_snoc]
section
variable {P : Program} {w0 : World} {K : PySem.W.Frag} {mg : Str → Option Value} {base : Heap}
theorem gone_inv {H : Hp} {v : V} {g : Int × Str × Int} (h : Td K H v (goneD g)) : ∃ q, v = .ref q ∧ TupAt K H q [.int g.1, .str g.2.1, .int g.2.2] := by
  obtain ⟨q, xs, rfl, hq, hx⟩ := Td.tup_inv (ds := [.int g.1, .str g.2.1, .int g.2.2]) h
  cases hx with
  | cons h1 hx =>
    cases hx with
    | cons h2 hx =>
      cases hx with
      | cons h3 hx =>
        cases hx
        cases h1
        cases h2
        cases h3
        exact ⟨q, rfl, hq⟩
/-! ### _law_is_kept -/
structure KpAt (K : PySem.W.Frag) (H : Hp) (sh lm lg : Addr) (hv : V) (prices : List (Str × Int)) (n : Nat) (ns : List Str) (ps : List PackD) (pl : PlanD) (ord : List Str) (ds : List Deed) : Prop where
  sh : ∃ d w c r wd as, ShAt K d w c H sh r wd prices n ns as ps
  of : PlanOf prices n ns ps pl
  dok : DeedsOk pl 0 ds
  len : ds.length ≤ 100
  mm : ∃ ms, H lm = some (.lst ms) ∧ TdAll K H ms ((runM pl ord ds).made.map (ochD pl))
  gg : ∃ gs, H lg = some (.lst gs) ∧ TdAll K H gs ((runM pl ord ds).gone.map goneD)
  hv : Td K H hv (stateD (runM pl ord ds).now)
def spKept (K : PySem.W.Frag) : Sp := fun vs H Q _ => ∃ (sh lm lg : Addr) (hv : V) (prices : List (Str × Int)) (n : Nat) (ns : List Str) (ps : List PackD) (pl : PlanD) (ord : List Str) (ds : List Deed), vs = [.ref sh, .ref lm, .ref lg, hv] ∧ KpAt K H sh lm lg hv prices n ns ps pl ord ds ∧ ∀ H', Same H H' → Q (.bl true) H'
theorem sc_kept : FnScope ["_law_sheet_here", "_law_picks", "_law_gone", "_law_here", "_law_first", "_law_bought", "_law_used", "_law_label", "_law_pick_here", "_law_date", "_law_units"] ["_law_sheet_here", "_law_picks", "_law_gone", "_law_here"] (defScope (top 88)) := ⟨rfl, rfl, rfl, by decide +kernel, rfl, by decide +kernel, by decide +kernel⟩
/-- the label that a choice of row i bears, its ware's amount -/
theorem am_of {prices : List (Str × Int)} {n : Nat} {ns : List Str} {ps : List PackD} {pl : PlanD} (o : PlanOf prices n ns ps pl) {i : Nat} (hi : i < pl.rows.length) : ns[i]? = some (nameN pl i) ∧ ∃ p, ps[i]? = some p ∧ p.amount = (rowN pl i).amount := by
  have h1 := at_nameN (pl := pl) (i := i) (by rw [o.ok.len]; exact hi)
  rw [o.nm] at h1
  refine ⟨h1, ?_⟩
  have h2 : (pl.rows.map (·.amount))[i]? = some (rowN pl i).amount := by rw [List.getElem?_map, at_rowN hi]; rfl
  rw [o.am, List.getElem?_map] at h2
  obtain ⟨p, h3, h4⟩ := Option.map_eq_some_iff.mp h2
  exact ⟨p, h3, h4⟩
theorem ok_kept (T : Tx K mg) : Cal P w0 K mg base 1 "_law_is_kept" (spKept K) := by
  refine Cal.of (T.f ("_law_is_kept", 88)) sc_kept (fun _ _ _ _ _ _ us hl => match us, hl with | [_, _, _, _], _ => rfl) (fun vs H Q E h => ?_) (fun f cdv A outer s H vs Q E hr h => ?_)
  · obtain ⟨sh, lm, lg, hv, prices, n, ns, ps, pl, ord, ds, rfl, _⟩ := h
    rfl
  · obtain ⟨sh, lm, lg, hv, prices, n, ns, ps, pl, ord, ds, rfl, kp, k⟩ := h
    have nd := sc_kept.nd
    have hu := hu_of hr
    refine ⟨_, pss_cons (pst 4 nd (pcb "sum" (cr_sum rfl) (T.z "sum") (pe_lock (pe_lc (own := [("_law_label", 7)]) (g := gName 7) (tt := tYes) rfl nd (pi_keys (pe_dget hu (pv 0) pe_str (fun _ _ => rfl))) (blkOk_by (N := ["_law_sheet_here", "_law_picks", "_law_gone", "_law_here", "_law_first", "_law_bought", "_law_used", "_law_label", "_law_pick_here", "_law_date", "_law_units"]) (sc := defScope (top 88)) (by decide +kernel)) (fun _ _ _ _ _ => pgn 7 nd) (fun _ _ _ _ _ => pts_nil)
        (fun _ _ _ _ _ => pe_dget hu (pe_dget hu (pe_dget hu (pv 0) pe_str (fun _ _ => rfl)) (pv 7) (fun _ _ => rfl)) pe_str (fun _ _ => rfl)))))) <|
      pss_cons (pst 5 nd (pcb "sum" (cr_sum rfl) (T.z "sum") (pe_lc (own := [("_law_pick_here", 8)]) (g := gName 8) (tt := _) rfl nd (pi_list (pv 1)) (blkOk_by (N := ["_law_sheet_here", "_law_picks", "_law_gone", "_law_here", "_law_first", "_law_bought", "_law_used", "_law_label", "_law_pick_here", "_law_date", "_law_units"]) (sc := defScope (top 88)) (by decide +kernel)) (fun _ _ _ _ _ => pgn 8 nd)
        (fun _ _ _ _ _ => pts_one (pw_and (pt_cmpR op_notN (pv 8) pe_non (nomark _)) <| pw_and1 <| pt_cmpR op_eq (pixK K (pv 8) pe_int (fun _ _ => rfl)) pe_str (nomark _)).pt)
        (fun _ _ _ _ _ => pe_dget hu (pe_dget hu (pe_dget hu (pv 0) pe_str (fun _ _ => rfl)) (pixK K (pv 8) pe_int (fun _ _ => rfl)) (fun _ _ => rfl)) pe_str (fun _ _ => rfl))))) <|
      pss_cons (pst 6 nd (plen (T.z "len") (pe_lc (own := [("_law_pick_here", 8)]) (g := gName 8) (tt := _) rfl nd (pi_list (pv 1)) (blkOk_by (N := ["_law_sheet_here", "_law_picks", "_law_gone", "_law_here", "_law_first", "_law_bought", "_law_used", "_law_label", "_law_pick_here", "_law_date", "_law_units"]) (sc := defScope (top 88)) (by decide +kernel)) (fun _ _ _ _ _ => pgn 8 nd)
        (fun _ _ _ _ _ => pts_one (pw_and (pt_cmpR op_notN (pv 8) pe_non (nomark _)) <| pw_and1 <| pt_cmpR (op_neDK K hr.units) (pv 8) (pe_tup (pa1 pe_str)) (nomark _)).pt) (fun _ _ _ _ _ => pv 8)))) <|
      pss_one <| ps_ret <| pe_cmpR op_eq (pe_op op_add (pv 4) (pv 5)) (pe_op op_add (pe_op op_add (pv 6) (pcb "sum" (cr_sum rfl) (T.z "sum") (pe_lc (own := [("_law_date", 9), ("_law_label", 7), ("_law_units", 10)]) (g := gTup K 3 (gCons (gName 9) (gCons (gName 7) (gCons (gName 10) gNil)))) (tt := tYes) rfl nd (pi_list (pv 2)) (blkOk_by (N := ["_law_sheet_here", "_law_picks", "_law_gone", "_law_here", "_law_first", "_law_bought", "_law_used", "_law_label", "_law_pick_here", "_law_date", "_law_units"]) (sc := defScope (top 88)) (by decide +kernel))
        (fun _ _ _ _ _ => pg_tup rfl (pgs_cons (pgn 9 nd) (pgs_cons (pgn 7 nd) (pgs_cons (pgn 10 nd) pgs_nil)))) (fun _ _ _ _ _ => pts_nil) (fun _ _ _ _ _ => pv 10)))) (pcb "sum" (cr_sumT rfl) (T.z "sum") (pe_ix ix_tup (pv 3) pe_int (fun _ _ => rfl)))) (nomark _), ?_⟩
    obtain ⟨d, w, c, r, wd, as, sa⟩ := kp.sh
    obtain ⟨ms, hlm, tms⟩ := kp.mm
    obtain ⟨gs, hlg, tgs⟩ := kp.gg
    have o := kp.of
    have ok := o.ok
    have hrun := runI ok ord rfl kp.dok
    have hin := fun oo h => run_in ok ord kp.dok (o := oo) h
    have hkept := hrun.kept
    have hmlen := hrun.len
    have hglen : (runM pl ord ds).gone.length ≤ 400 := by
      have h1 := gone_len ok ord ds (run0 pl)
      have h2 : (run0 pl).gone.length = 0 := rfl
      have h3 := kp.len
      show (ds.foldl (stepM pl ord) (run0 pl)).gone.length ≤ _
      omega
    have hdl := kp.len
    have thv := kp.hv
    clear kp
    generalize runM pl ord ds = R at *
    have n4 := sa.ws.n4
    have hpl := sa.ws.pl
    have hkl : (pkK ns as).length = ns.length := kvT_len sa.ws.l2
    -- the first units
    refine ⟨wd, _, sa.ws.own.at_, trivial, fun od => ?_⟩
    have hshwd : sh ≠ wd := fun e => by
      have h1 := sa.own.at_
      rw [e, sa.ws.own.at_] at h1
      injection h1 with h1
      injection h1 with h1
      unfold pkK kvT sheetK at h1
      cases ns with
      | nil => simp at h1
      | cons z ns =>
        cases as with
        | nil => simp at h1
        | cons a as =>
          simp only [List.map_cons, List.zip_cons_cons, List.map_cons] at h1
          injection h1 with h1 h2
          cases ns with
          | nil => simp at h2
          | cons z2 ns =>
            cases as with
            | nil => simp at h2
            | cons a2 as =>
              simp only [List.map_cons, List.zip_cons_cons] at h2
              injection h2 with h2 h3
              injection h2 with h4 h5
              cases h5
    have hshL : (upd H wd (.frz od (.dK (pkK ns as)))) sh = some (.dK (sheetK r n wd)) := (upd_ne hshwd).trans sa.own.at_
    have hwdL : (upd H wd (.frz od (.dK (pkK ns as)))) wd = some (.frz od (.dK (pkK ns as))) := upd_same
    refine ⟨_, rfl, sh, _, rfl, .inl ⟨_, Sum.inr "packs", .inl hshL, rfl, sheetK_packs.symm⟩, wd, od, rfl, .inl ⟨_, hwdL, fun D hD => ?_⟩⟩
    have hDd : D ≠ wd := fun e => by
      rw [e, hwdL] at hD
      cases hD
    refine lc_go walk_keys hD (fun i acc _ => acc = (ps.take i).map fun p => V.int p.amount) (fun _ _ _ _ _ h => h) rfl (fun H1 s => s _ _ hwdL) (by rw [hkl]; exact four_lt n4) (fun i x acc H1 H2 Fy Fn hi s1 e y ky kn => ?_) (fun H1 acc s1 hd1 e => ?_)
    · obtain ⟨rfl, kk, v, hkv, rfl⟩ := y
      rw [hkl] at hi
      have hz := List.getElem?_eq_getElem hi
      obtain ⟨i0, a, p, g1, g2, g3, g4, wat⟩ := sa.ws.get (List.getElem_mem hi)
      have ei : i0 = i := nd_ix sa.ws.nd g1 hz
      subst ei
      have hkv2 : (pkK ns as)[i0]? = some (Sum.inr ns[i0], V.ref a) := kvT_at (ks := ns) (vs := as.map V.ref) hz (by rw [List.getElem?_map, g2]; rfl)
      rw [hkv2] at hkv
      cases hkv
      obtain ⟨sl, xs, ro, q1, _⟩ := wat.ex
      have hawd : a ≠ wd := fun e => sa.ws.out (e ▸ List.mem_of_getElem? g2)
      have ha1 : H2 a = some (.dK (wareK sl p.amount (costV p.cost) ro)) := s1 _ _ ((upd_ne hawd).trans q1.at_)
      refine ⟨rfl, lcY ⟨_, rfl, sh, _, rfl, .inl ⟨_, Sum.inr "packs", .inl (s1 _ _ hshL), rfl, sheetK_packs.symm⟩, _, rfl, wd, _, rfl, .inl ⟨_, Sum.inr ns[i0], .inr ⟨od, s1 _ _ hwdL⟩, rfl, g4.symm⟩, a, _, rfl, .inl ⟨_, Sum.inr "amount", .inl ha1, rfl, wareK_amount.symm⟩, ky _ _ (Same.refl _) ?_⟩⟩
      rw [e, take_snoc g3, List.map_append]
      rfl
    have s2 : Same H (upd H1 wd (.dK (pkK ns as))) := lock_same sa.ws.own.at_ s1
    refine ⟨s1 _ _ hwdL, D, ps.map (·.amount), rfl, SqL.of ?_, ?_⟩
    · rw [upd_ne hDd, hd1, e, hkl, ← hpl, take_all (Nat.le_refl _), List.map_map]
      rfl
    generalize upd H1 wd (.dK (pkK ns as)) = H3 at *
    have sa3 := sa.keep s2
    have hlm3 := s2 _ _ hlm
    have hml : ms.length = R.made.length := by rw [tms.len, List.length_map]
    -- the units bought
    refine ⟨_, rfl, lm, rfl, ⟨_, SqL.of hlm3⟩, fun D2 hD2 => ?_⟩
    refine lc_go walk_list hD2 (fun i acc _ => ∃ zs : List Int, acc = zs.map V.int ∧ zs.sum = boughtN pl (R.made.take i)) (fun _ _ _ _ _ h => h) ⟨[], rfl, rfl⟩ (fun H1 s => SqL.of (s _ _ hlm3)) (small1000 (by omega)) (fun i x acc H4 H5 Fy Fn hi s4 e y ky kn => ?_) (fun H4 acc s4 hd4 e => ?_)
    · obtain ⟨rfl, hv2⟩ := y
      obtain ⟨zs, rfl, hzs⟩ := e
      obtain ⟨oo, ho, to⟩ := tms.map_at hv2
      have to4 := to.keep (TK.of (s2.trans s4))
      have hoin := hin oo (List.mem_of_getElem? ho)
      rw [boughtN_take pl ho] at ky kn
      cases oo with
      | none =>
        have e2 : x = .non := Td.non_inv to4
        subst e2
        exact ⟨rfl, _, rfl, rfl, _, rfl, iteF (kn _ (Same.refl _) ⟨zs, rfl, by rw [hzs]; show _ = _ + 0; omega⟩)⟩
      | some ch =>
        cases ch with
        | pay =>
          obtain ⟨q, rfl, hq⟩ := one_inv (a := "pay") to4
          refine ⟨rfl, _, rfl, rfl, _, rfl, iteNS' (by intro z; cases z) ⟨_, rfl, q, _, 0, _, rfl, rfl, hq.sq, rfl, rfl, _, rfl, iteDF (by decide +kernel) (kn _ (Same.refl _) ⟨zs, rfl, by rw [hzs]; show _ = _ + 0; omega⟩)⟩⟩
        | draw j =>
          obtain ⟨q, rfl, hq⟩ := pairSS_inv (a := "draw") (b := nameN pl j) to4
          refine ⟨rfl, _, rfl, rfl, _, rfl, iteNS' (by intro z; cases z) ⟨_, rfl, q, _, 0, _, rfl, rfl, hq.sq, rfl, rfl, _, rfl, iteDF (by intro z; injection z with z; exact absurd z (by decide +kernel)) (kn _ (Same.refl _) ⟨zs, rfl, by rw [hzs]; show _ = _ + 0; omega⟩)⟩⟩
        | buy j =>
          obtain ⟨q, rfl, hq⟩ := pairSS_inv (a := "buy") (b := nameN pl j) to4
          obtain ⟨hnj, p, hpj, ham⟩ := am_of o hoin
          have sa5 := sa3.keep s4
          obtain ⟨i0, a, p', g1, g2, g3, g4, wat⟩ := sa5.ws.get (List.mem_of_getElem? hnj)
          have ei : i0 = j := nd_ix sa.ws.nd g1 hnj
          subst ei
          rw [hpj] at g3
          cases g3
          obtain ⟨sl, xs, ro, q1, _⟩ := wat.ex
          refine ⟨rfl, _, rfl, rfl, _, rfl, iteNS' (by intro z; cases z) ⟨_, rfl, q, _, 0, _, rfl, rfl, hq.sq, rfl, rfl, _, rfl, iteD (by rfl) ?_⟩⟩
          refine ⟨_, rfl, sh, _, rfl, .inl ⟨_, Sum.inr "packs", .inl sa5.own.at_, rfl, sheetK_packs.symm⟩, _, rfl, q, _, 1, _, rfl, rfl, hq.sq, rfl, wd, _, rfl, .inl ⟨_, Sum.inr (nameN pl i0), .inl sa5.ws.own.at_, rfl, g4.symm⟩, a, _, rfl, .inl ⟨_, Sum.inr "amount", .inl q1.at_, rfl, wareK_amount.symm⟩, ky _ _ (Same.refl _) ⟨zs ++ [p.amount], by rw [List.map_append]; rfl, ?_⟩⟩
          rw [List.sum_append, hzs, ham]
          have : boughtN pl [some (.buy i0)] = (rowN pl i0).amount + 0 := rfl
          rw [this]
          rfl
    obtain ⟨zs, rfl, hzs⟩ := e
    rw [take_all (by omega)] at hzs
    refine ⟨D2, zs, rfl, SqL.of hd4, ?_⟩
    have s24 := s2.trans s4
    have hlm4 := s4 _ _ hlm3
    -- the units used
    refine ⟨_, rfl, lm, rfl, ⟨_, SqL.of hlm4⟩, fun D3 hD3 => ?_⟩
    refine lc_go walk_list hD3 (fun i acc _ => (acc.length : Int) = usedN (R.made.take i)) (fun _ _ _ _ _ h => h) rfl (fun H1 s => SqL.of (s _ _ hlm4)) (small1000 (by omega)) (fun i x acc H5 H6 Fy Fn hi s5 e y ky kn => ?_) (fun H5 acc s5 hd5 e => ?_)
    · obtain ⟨rfl, hv2⟩ := y
      obtain ⟨oo, ho, to⟩ := tms.map_at hv2
      have to4 := to.keep (TK.of (s24.trans s5))
      have hoin := hin oo (List.mem_of_getElem? ho)
      rw [usedN_take ho] at ky kn
      have hname : ∀ j, j < pl.rows.length → PyData.strOk (nameN pl j) = true := fun j hj => nameOk_str (ok.nok _ (List.mem_of_getElem? (at_nameN (by rw [ok.len]; exact hj))))
      cases oo with
      | none =>
        have e2 : x = .non := Td.non_inv to4
        subst e2
        exact ⟨rfl, _, rfl, rfl, _, rfl, iteF (kn _ (Same.refl _) (by rw [e]; show _ = _ + 0; omega))⟩
      | some ch =>
        have to5 : Td K H6 x (chD pl ch) := to4
        have hsh : SeqAt.shaped (chD pl ch) = true := by
          cases ch with
          | pay =>
            have h0 : SeqAt.shaped (.tuple [.str "pay"]) = true := by decide +kernel
            exact h0
          | draw j => exact shaped_of (pair_can (by decide +kernel) (hname j hoin)) (by show (pairSS "draw" _).depth ≤ 64; rw [pair_depth]; decide)
          | buy j => exact shaped_of (pair_can (by decide +kernel) (hname j hoin)) (by show (pairSS "buy" _).depth ≤ 64; rw [pair_depth]; decide)
        obtain ⟨q, rfl⟩ : ∃ q, x = .ref q := by
          obtain ⟨ds', e⟩ := chD_tup pl ch
          have to6 := to5
          rw [e] at to6
          obtain ⟨q, _, h, _⟩ := to6.tup_inv
          exact ⟨q, h⟩
        refine ⟨rfl, _, rfl, rfl, _, rfl, iteNS' (by intro z; cases z) ⟨_, rfl, by show 1 ≤ sizeLine; decide, fun u hu => ⟨chD pl ch, .tuple [.str "pay"], (to5.keep (TK.updN hu)).dp, .tup (SqT.of upd_same) (.cons (.str _) .nil), hsh, by decide +kernel, _, rfl, ?_⟩⟩⟩
        rw [eqv_pay]
        cases ch with
        | pay => exact iteF (kn _ (same_upd hu) (by rw [e]; show _ = _ + 0; omega))
        | draw j => exact iteT ⟨_, rfl, ky _ _ (same_upd hu) (by rw [List.length_append, List.length_singleton, Int.natCast_add, e]; rfl)⟩
        | buy j => exact iteT ⟨_, rfl, ky _ _ (same_upd hu) (by rw [List.length_append, List.length_singleton, Int.natCast_add, e]; rfl)⟩
    rw [take_all (by omega)] at e
    refine ⟨_, acc.length, rfl, .inl ⟨_, SqL.of hd5, rfl⟩, ?_⟩
    have s25 := s24.trans s5
    have hlg5 := s25 _ _ hlg
    have hgl : gs.length = R.gone.length := by rw [tgs.len, List.length_map]
    refine ⟨_, rfl, _, rfl, _, _, rfl, rfl, _, rfl, _, rfl, lg, rfl, ⟨_, SqL.of hlg5⟩, fun D4 hD4 => ?_⟩
    refine lc_go walk_list hD4 (fun i acc _ => acc = (R.gone.take i).map fun g => V.int g.2.2) (fun _ _ _ _ _ h => h) rfl (fun H1 s => SqL.of (s _ _ hlg5)) (small1000 (by omega)) (fun i x acc H6 H7 Fy Fn hi s6 e6 y ky kn => ?_) (fun H6 acc6 s6 hd6 e6 => ?_)
    · obtain ⟨rfl, hv2⟩ := y
      obtain ⟨gg, hg, tg⟩ := tgs.map_at hv2
      obtain ⟨q, rfl, hq⟩ := gone_inv (tg.keep (TK.of (s25.trans s6)))
      refine ⟨q, _, rfl, hq.sq, rfl, _, _, rfl, _, _, rfl, _, _, rfl, rfl, rfl, lcY ⟨_, rfl, ky _ _ (Same.refl _) ?_⟩⟩
      rw [e6, take_snoc hg, List.map_append]
      rfl
    rw [hgl, take_all (Nat.le_refl _)] at e6
    have s26 := s25.trans s6
    obtain ⟨a, b, rfl, ha, hb⟩ := state_inv (thv.keep (TK.of s26))
    refine ⟨D4, R.gone.map (·.2.2), rfl, SqL.of (by rw [hd6, e6, List.map_map]; rfl), _, _, rfl, rfl, _, rfl, a, _, 1, _, rfl, rfl, ha.sq, rfl, b, R.now.2, rfl, hb.sq, _, _, rfl, rfl, rfl, ebl (decide_eq_true (congrArg V.int ?_)) (k _ s26)⟩
    have h1 : (ps.map (·.amount)).sum = (pl.rows.map (·.amount)).sum := by rw [o.am]
    show (ps.map (·.amount)).sum + zs.sum = ((acc.length : Nat) : Int) + (R.gone.map (·.2.2)).sum + R.now.2.sum
    rw [h1, hzs, e]
    exact hkept
end
end Nd
set_option Elab.async false
set_option linter.all false
set_option maxRecDepth 100000
set_option maxHeartbeats 2000000
/-! the plain law, its last parts: beginnings of runs, the bare plan. -/
namespace Nd
open PySem PySem.Spec PyProof.Rows L2
section
variable {pl : PlanD} {ord : List Str} {ds : List Deed}
theorem made_take (ok : PlanOk pl) (hd : DeedsOk pl 0 ds) (i : Nat) : (runM pl ord (ds.take i)).made = (runM pl ord ds).made.take (min i ds.length) := by
  obtain ⟨X, Y, Z, h1, _⟩ := run_more pl ord ds i
  have hl := (runI ok ord rfl (deed_take hd i)).len
  rw [List.length_take] at hl
  rw [h1, List.take_append_of_le_length (by omega), ← hl, List.take_length]
theorem sums_take (ok : PlanOk pl) (hd : DeedsOk pl 0 ds) (i : Nat) : (runM pl ord (ds.take i)).sums.sum ≤ (runM pl ord ds).sums.sum := by
  obtain ⟨X, Y, Z, _, h2, _⟩ := run_more pl ord ds i
  have hp := (runI ok ord rfl hd).dues
  rw [h2, List.sum_append]
  have : ∀ l : List Int, (∀ z ∈ l, 0 ≤ z) → 0 ≤ l.sum := fun l => by
    induction l with
    | nil => exact fun _ => Int.le_refl 0
    | cons a l ih =>
      intro h
      rw [List.sum_cons]
      have h1 := h a (List.mem_cons_self ..)
      have h2 := ih fun z hz => h z (List.mem_cons_of_mem _ hz)
      omega
  have := this Y fun z hz => hp z (by rw [h2]; exact List.mem_append_right _ hz)
  omega
theorem gone_take (i : Nat) : (runM pl ord ds).gone.take (runM pl ord (ds.take i)).gone.length = (runM pl ord (ds.take i)).gone := by
  obtain ⟨X, Y, Z, _, _, h3⟩ := run_more pl ord ds i
  rw [h3, List.take_append_of_le_length (Nat.le_refl _), List.take_length]
theorem gone_in : ∀ (ds : List Deed) (r : Run), (∀ g ∈ r.gone, ∃ j, j < pl.rows.length ∧ g.2.1 = nameN pl j) → ∀ g ∈ (ds.foldl (stepM pl ord) r).gone, ∃ j, j < pl.rows.length ∧ g.2.1 = nameN pl j
  | [], r, h => h
  | d :: ds, r, h => by
    rw [List.foldl_cons]
    refine gone_in ds _ ?_
    cases d with
    | none =>
      intro g hg
      have hg' : g ∈ r.gone ++ (lostM pl r.now).map fun q => (r.now.1, q.1, q.2) := hg
      rcases List.mem_append.mp hg' with hg | hg
      · exact h g hg
      · obtain ⟨q, hq, rfl⟩ := List.mem_map.mp hg
        obtain ⟨j, h1, h2⟩ := lostK_names _ hq
        exact ⟨j, h1, h2⟩
    | some c => exact h
theorem gone_can (ok : PlanOk pl) : ∀ g ∈ (runM pl ord ds).gone, (goneD g).canLay0 = true := fun g hg => by
  obtain ⟨j, h1, h2⟩ := gone_in ds (run0 pl) (fun _ h => by cases h) g hg
  have h3 : PyData.strOk g.2.1 = true := by
    rw [h2]
    exact nameOk_str (ok.nok _ (List.mem_of_getElem? (at_nameN (by rw [ok.len]; exact h1))))
  show (true && (PyData.strOk g.2.1 && (true && true))) = true
  rw [h3]
  rfl
theorem gone_depth (g : Int × Str × Int) : (goneD g).depth = 1 := by simp [goneD, PyData.depth, PyData.depthAll]
theorem made_can (ok : PlanOk pl) (hd : DeedsOk pl 0 ds) : ∀ o ∈ (runM pl ord ds).made, (ochD pl o).canLay0 = true := fun o ho => by
  have h := run_in ok ord hd ho
  have hname : ∀ j, j < pl.rows.length → PyData.strOk (nameN pl j) = true := fun j hj => nameOk_str (ok.nok _ (List.mem_of_getElem? (at_nameN (by rw [ok.len]; exact hj))))
  cases o with
  | none => rfl
  | some ch =>
    cases ch with
    | pay =>
      have h0 : (PyData.tuple [.str "pay"]).canLay0 = true := by decide +kernel
      exact h0
    | draw j => exact pair_can (by decide +kernel) (hname j h)
    | buy j => exact pair_can (by decide +kernel) (hname j h)
theorem made_depth (o : Option Ch) : (ochD pl o).depth ≤ 1 := by
  cases o with
  | none => simp [ochD, PyData.depth]
  | some ch => exact Nat.le_of_eq (ch_depth pl ch)
theorem state_can (s : State) : (stateD s).canLay0 = true := by
  show (true && (PyData.canLayAll0 (s.2.map PyData.int) && true)) = true
  rw [canAll_ints]
  rfl
theorem state_depth (s : State) : (stateD s).depth ≤ 3 := by
  have h : PyData.depthAll (s.2.map PyData.int) ≤ 1 := depthAll_map fun b _ => by simp [PyData.depth]
  show (PyData.tuple [.int s.1, .tuple (s.2.map PyData.int)]).depth ≤ 3
  simp only [PyData.depth, PyData.depthAll]
  omega
theorem res_shaped (ok : PlanOk pl) : SeqAt.shaped (resD (runM pl ord ds)) = true := by
  refine shaped_of ?_ ?_
  · show (true && (PyData.canLayAll0 ((runM pl ord ds).gone.map goneD) && ((stateD (runM pl ord ds).now).canLay0 && true))) = true
    rw [canAll_map (gone_can ok), state_can]
    rfl
  · have h1 : PyData.depthAll ((runM pl ord ds).gone.map goneD) ≤ 1 := depthAll_map fun b _ => Nat.le_of_eq (gone_depth b)
    have h2 := state_depth (runM pl ord ds).now
    show (PyData.tuple [.int _, .list ((runM pl ord ds).gone.map goneD), stateD _]).depth ≤ 64
    simp only [PyData.depth, PyData.depthAll]
    omega
end
/-! ### the bare plan -/
def dueN (bl : PlanD) : Deed → Int
  | none => 0
  | some c => priceN bl c
theorem bare_fold (bl : PlanD) : ∀ (ds : List Deed) (r : Run), (ds.foldl (stepM bl []) r).sums.sum = r.sums.sum + (ds.map (dueN bl)).sum
  | [], r => by
    show r.sums.sum = r.sums.sum + 0
    omega
  | d :: ds, r => by
    rw [List.foldl_cons, bare_fold bl ds, List.map_cons, List.sum_cons]
    cases d with
    | none =>
      show (r.sums ++ [0]).sum + _ = _ + (0 + _)
      rw [List.sum_append]
      simp
    | some c =>
      show (r.sums ++ [priceN bl c]).sum + _ = _ + (priceN bl c + _)
      rw [List.sum_append]
      simp only [List.sum_cons, List.sum_nil]
      omega
theorem bare_sums (bl : PlanD) (ds : List Deed) : (runM bl [] ds).sums.sum = (ds.map (dueN bl)).sum := by
  have := bare_fold bl ds (run0 bl)
  have h0 : (run0 bl).sums.sum = 0 := rfl
  unfold runM
  omega
theorem price_perm {bl : PlanD} (ok : PlanOk bl) {prices : List (Str × Int)} (hp : bl.prices.Perm prices) {c : Str} (h : c ∈ prices.map (·.1)) : valV (prK prices) (Sum.inr c) = some (V.int (priceN bl c)) := by
  have hc : c ∈ bl.prices.map (·.1) := (hp.map (·.1)).mem_iff.mpr h
  obtain ⟨z, hz, rfl⟩ := List.mem_map.mp h
  obtain ⟨i, hi, e⟩ := List.getElem_of_mem hz
  have hnd : (prices.map (·.1)).Nodup := (hp.map (·.1)).nodup_iff.mp ok.pnd
  have h1 := valV_at (prK_nd hnd) (prK_at (c := z.1) (n := z.2) (by rw [List.getElem?_eq_getElem hi, e]))
  obtain ⟨j, hj, e2⟩ := List.getElem_of_mem (hp.mem_iff.mpr hz)
  have h2 := valV_at (prK_nd ok.pnd) (prK_at (c := z.1) (n := z.2) (by rw [List.getElem?_eq_getElem hj, e2]))
  rw [priceN_val ok hc] at h2
  rw [h1, ← h2]
theorem PlanAt.kw {K : PySem.W.Frag} {d w c : Addr} {f : Nat} {H H' : Hp} {x : Addr} {pl : PlanD} (h : PlanAt K H x pl) (ok : PlanOk pl) (dr : Dr d w c f H) (k : Kw d w H H') : PlanAt K H' x pl := by
  obtain ⟨r, n, m, as, ⟨dx, h1⟩, h2, ⟨od, o1, o2, h3⟩, h4, h5⟩ := h
  have fk := k.fk dr
  obtain ⟨rr, t, hd, _⟩ := dr.d_
  obtain ⟨ns, hw⟩ := dr.w_
  have hrd : r ≠ d := fun e => by
    rw [e, hd] at h2
    injection h2 with h2
    injection h2 with h2
    have h0 := ok.pne.1
    unfold prK drawK at h2
    cases hp : pl.prices with
    | nil =>
      rw [hp] at h0
      exact absurd h0 (by decide)
    | cons z zs =>
      rw [hp, List.map_cons] at h2
      injection h2 with h2 _
      injection h2 with _ h2
      cases h2
  refine ⟨r, n, m, as, ⟨dx, fk.i _ _ _ _ h1⟩, k _ _ h2 hrd (ne_of h2 hw (by intro z; cases z)), ⟨od, o1, o2, k _ _ h3 (ne_of h3 hd (by intro z; cases z)) (ne_of h3 hw (by intro z; cases z))⟩, fk.t _ _ h4, h5.keep fk⟩
end Nd
set_option Elab.async false
set_option linter.all false
set_option maxRecDepth 100000
set_option maxHeartbeats 2000000
namespace Nd
open PySem PySem.Spec PyProof.Rows L2
mutual
theorem Dp.same {K : PySem.W.Frag} {H H' : Hp} (s : Same H H') : ∀ {v : V} {d : PyData}, Dp K H v d → Dp K H' v d
  | _, _, .non => .non
  | _, _, .bl b => .bl b
  | _, _, .int i => .int i
  | _, _, .str x => .str x
  | _, _, .lst h t => .lst (s.seq h) (DpAll.same s t)
  | _, _, .tup h t => .tup (h.elim (fun r => .inl (r.elim (fun e => .inl (s _ _ e)) fun ⟨o, e⟩ => .inr ⟨o, s _ _ e⟩)) .inr) (DpAll.same s t)
theorem DpAll.same {K : PySem.W.Frag} {H H' : Hp} (s : Same H H') : ∀ {vs : List V} {ds : List PyData}, DpAll K H vs ds → DpAll K H' vs ds
  | _, _, .nil => .nil
  | _, _, .cons h t => .cons (Dp.same s h) (DpAll.same s t)
end
theorem TdAll.take {K : PySem.W.Frag} {H : Hp} : ∀ {vs : List V} {ds : List PyData} (i : Nat), TdAll K H vs ds → TdAll K H (vs.take i) (ds.take i)
  | _, _, 0, _ => .nil
  | _, _, _ + 1, .nil => .nil
  | _, _, i + 1, .cons h t => .cons h (TdAll.take i t)
theorem PlanAt.ins {K : PySem.W.Frag} {H : Hp} {x : Addr} {pl : PlanD} (h : PlanAt K H x pl) : ∃ dx fs, H x = some (.ins (CL K) dx fs) := by
  obtain ⟨r, n, m, as, ⟨dx, h1⟩, _⟩ := h
  exact ⟨dx, _, h1⟩
theorem RunAt.cut {K : PySem.W.Frag} {H : Hp} {x t la p : Addr} {pl : PlanD} {ord : List Str} {ds : List Deed} {xs : List V} (h : RunAt K H x t la pl ord ds) (hx : H la = some (.lst xs)) (q : Nat) (hp : H p = some (.lst (xs.take q))) : RunAt K H x t p pl ord (ds.take q) := by
  obtain ⟨ys, h1, h2⟩ := h.da.at_
  rw [hx] at h1
  cases h1
  refine ⟨h.oa, ⟨⟨_, hp, ?_⟩, by have := h.da.len; rw [List.length_take]; omega⟩, deed_take h.ok q⟩
  rw [List.map_take]
  exact h2.take q
theorem eqv_self {d : PyData} (h : SeqAt.shaped d = true) : PyData.eqv d d = true := SeqAt.eqv_refl _ (SeqAt.canLay_of_shaped h)
section
variable {P : Program} {w0 : World} {K : PySem.W.Frag} {mg : Str → Option Value} {base : Heap}
/-! ### law -/
def spLaw (K : PySem.W.Frag) : Sp := fun vs H Q _ => ∃ (a : Addr) (ns : List Int), vs = [.ref a] ∧ SqL K H a (ns.map V.int) ∧ ns.length ≤ 1000 ∧ ∀ H', Q (.bl true) H'
theorem sc_law : FnScope ["_law_script", "_law_draw", "_law_turn", "_law_sheet_here", "_law_plan_here", "_law_ranks_here", "_law_acts_here", "_law_picks", "_law_gone", "_law_here", "_law_size", "_law_left", "_law_bare", "_law_label", "_law_act"] ["_law_script"] (defScope (top 89)) := ⟨rfl, rfl, rfl, by decide +kernel, rfl, by decide +kernel, by decide +kernel⟩
theorem fnok_of {x : Str} {st : Stmt} {N ps : List Str} {k : Nat} {sp : Sp} {f : Addr} {fd : FuncData} (F : FunD K x x (defArgs st) (defBody st) (defScope st) [] [] f fd) (S : FnScope N ps (defScope st))
    (len : ∀ vs H Q E, sp vs H Q E → vs.length = ps.length)
    (hbody : ∀ (f : Addr) (cdv : Value) (A : Around) (outer : List Env) (s : Shared) (H : Hp) (vs : List V) (Q : VK) (E : XK), Room k (A.deeper (envOfC x (defScope st) s.heap.objs.size f cdv)) → sp vs H Q E →
      ∃ t, PSs (cxOf CX0 P w0 K mg base N x (defScope st) f cdv A outer s H E).nox (defBody st) t ∧ t { nx := fun _ H' => Q .non H', rt := Q } (start N vs) H) : FnOk P w0 K mg base CX0 (k + 1) f fd ps sp := by
  refine F.ok S len fun cdv A outer s H vs Q E hr hsp => ?_
  obtain ⟨t, h, q⟩ := hbody f cdv A outer s H vs Q E hr hsp
  exact ⟨t, h.nox, q⟩
theorem ok_law (T : Tx K mg) (CS : Cal P w0 K mg base 4 "are_slots" (spAreSlots K)) {fa : Addr} {fd : FuncData} (F : FunD K "law" "law" (defArgs (top 89)) (defBody (top 89)) (defScope (top 89)) [] [] fa fd) : FnOk P w0 K mg base CX0 8 fa fd ["_law_script"] (spLaw K) := by
  refine fnok_of F sc_law (fun vs H Q E h => ?_) (fun f cdv A outer s H vs Q E hr h => ?_)
  · obtain ⟨a, ns, rfl, _⟩ := h
    rfl
  · obtain ⟨a, ns, rfl, ha, hn, k⟩ := h
    have nd := sc_law.nd
    have hu := hu_of hr
    refine ⟨_, pss_cons (pst 1 nd (pcl (ok_begun T) hr (pa1 (pv 0)))) <|
      pss_cons (ps_for PassesOwn.never rfl (pi_range1 rfl (T.z "range") (pa1 (pe_op op_add pe_int (pcb2 "min" (call_min2 rfl) (T.z "min") (plen (T.z "len") (pv 0)) pe_int)))) (pgn 2 nd) <|
        pss_cons (pst 3 nd (pcl (ok_sheet T) hr (pa_cons (pv 1) (pa4 pe_int pe_int (pcl (ok_pick T) hr (pa2 (pv 1) (pe_lst (pa2 pe_int pe_int)))) pe_int) rfl))) <|
        pss_cons (ps_asg (pe_tup (pa3 (pcl (ok_planL T CS) hr (pa1 (pv 3))) (pcl (ok_ranks T) hr (pa2 (pv 1) (pv 3))) (pcl (ok_acts T) hr (pa3 (pv 1) (pv 3) pe_int)))) (pg_tup rfl (pgs_cons (pgn 4 nd) (pgs_cons (pgn 5 nd) (pgs_cons (pgn 6 nd) pgs_nil))))) <|
        pss_cons (ps_asg (pe_tup (pa3 (pcl (ok_along T) hr (pa3 (pv 4) (pv 5) (pv 6))) (pcl (ok_wasted T) hr (pa3 (pv 4) (pv 5) (pv 6))) (pcl (ok_behind T) hr (pa3 (pv 4) (pv 5) (pv 6))))) (pg_tup rfl (pgs_cons (pgn 7 nd) (pgs_cons (pgn 8 nd) (pgs_cons (pgn 9 nd) pgs_nil))))) <|
        pss_cons (ps_if (pt_cmpR (op_neD hr.units) (pcl (ok_walked T) hr (pa3 (pv 4) (pv 6) (pv 7))) (pe_tup (pa3 (pcl (ok_paid T) hr (pa3 (pv 4) (pv 5) (pv 6))) (pv 8) (pv 9))) (nomark _)) pss_never pss_nil) <|
        pss_cons (ps_if (pt_not (pt_val (pcl (ok_kept T) hr (pa4 (pv 3) (pv 7) (pv 8) (pv 9))))) pss_never pss_nil) <|
        pss_cons (pst 10 nd (pcl (ok_take T) hr (pa2 (pv 1) (pe_op op_add (plen (T.z "len") (pv 6)) pe_int)))) <|
        pss_cons (ps_if (pt_cmpR (op_neD hr.units) (pcl (ok_along T) hr (pa3 (pv 4) (pv 5) (pe_slice sl_list (pv 6) po_none (po_some (pv 10))))) (pe_slice sl_list (pv 7) po_none (po_some (pv 10))) (nomark _)) pss_never pss_nil) <|
        pss_cons (ps_if (pt_cmpR op_gt (pcl (ok_paid T) hr (pa3 (pv 4) (pv 5) (pe_slice sl_list (pv 6) po_none (po_some (pv 10))))) (pcl (ok_paid T) hr (pa3 (pv 4) (pv 5) (pv 6))) (nomark _)) pss_never pss_nil) <|
        pss_cons (ps_if (pt_cmpR (op_neD hr.units) (pcl (ok_wasted T) hr (pa3 (pv 4) (pv 5) (pe_slice sl_list (pv 6) po_none (po_some (pv 10))))) (pe_slice sl_list (pv 8) po_none (po_some (plen (T.z "len") (pcl (ok_wasted T) hr (pa3 (pv 4) (pv 5) (pe_slice sl_list (pv 6) po_none (po_some (pv 10)))))))) (nomark _)) pss_never pss_nil) <|
        pss_cons (pst 11 nd (pe_dictZip (T.z "dict") (T.z "zip") rfl (pa2 (ppr (ok_names T) hr (pv 4)) (pe_ix ix_tup (pv 9) pe_int (fun _ _ => rfl))))) <|
        pss_cons (ps_if (pt_cmpR (op_neD hr.units) (pe_lc (own := [("_law_label", 13)]) (g := gName 13) (tt := _) rfl nd (pi_tup (ppr (ok_names T) hr (pv 4))) (blkOk_by (N := ["_law_script", "_law_draw", "_law_turn", "_law_sheet_here", "_law_plan_here", "_law_ranks_here", "_law_acts_here", "_law_picks", "_law_gone", "_law_here", "_law_size", "_law_left", "_law_bare", "_law_label", "_law_act"]) (sc := defScope (top 89)) (by decide +kernel)) (fun _ _ _ _ _ => pgn 13 nd)
            (fun _ _ _ _ _ => pts_one (PW.pt <| pw_and (pt_cmpR op_lt (ppr (ok_last T) hr (pe_dget hu (ppr (ok_packs T) hr (pv 4)) (pv 13) (fun _ _ => rfl))) (pixK K (pv 9) pe_int (fun _ _ => rfl)) (nomark _)) <| pw_and1 <| pt_cmpR op_gt (pe_dget hu (pv 11) (pv 13) (fun _ _ => rfl)) pe_int (nomark _))) (fun _ _ _ _ _ => pv 13)) (pe_lst pa_nil) (nomark _)) pss_never pss_nil) <|
        pss_cons (pst 12 nd (pmk (ok_plan T) hr (pa3 (ppr (ok_prices T) hr (pv 4)) (ppr (ok_days T) hr (pv 4)) pe_dnewK))) <|
        pss_one <| ps_if (pt_cmpR op_ne (pcl (ok_paid T) hr (pa3 (pv 12) (pe_tup pa_nil) (pv 6))) (pcb "sum" (cr_sum rfl) (T.z "sum") (pe_lc (own := [("_law_act", 14)]) (g := gName 14) (tt := _) rfl nd (pi_list (pv 6)) (blkOk_by (N := ["_law_script", "_law_draw", "_law_turn", "_law_sheet_here", "_law_plan_here", "_law_ranks_here", "_law_acts_here", "_law_picks", "_law_gone", "_law_here", "_law_size", "_law_left", "_law_bare", "_law_label", "_law_act"]) (sc := defScope (top 89)) (by decide +kernel)) (fun _ _ _ _ _ => pgn 14 nd)
            (fun _ _ _ _ _ => pts_one (pt_cmpR (op_neDK K hr.units) (pv 14) (pe_tup (pa1 pe_str)) (nomark _))) (fun _ _ _ _ _ => pe_dget hu (pe_dget hu (pv 3) pe_str (fun _ _ => rfl)) (pixK K (pv 14) pe_int (fun _ _ => rfl)) (fun _ _ => rfl)))) (nomark _)) pss_never pss_nil) <|
      pss_one <| ps_ret <| pe_bl, ?_⟩
    refine ⟨_, rfl, a, ns, rfl, ha, hn, fun d w c H1 s1 d1 => ?_⟩
    refine ⟨_, rfl, _, _, rfl, .inl ⟨_, s1.seq ha, rfl⟩, _, _, rfl, 3, _, rfl, rfl, _, rfl, by split <;> omega, by split <;> omega, ?_⟩
    refine for_it walk_range (fun i σ H' => Dr d w c (900000000 - 300 * i) H' ∧ ∃ z2 z3 z4 z5 z6 z7 z8 z9 z10 z11 z12, σ = [some (.ref a), some (.ref d), z2, z3, z4, z5, z6, z7, z8, z9, z10, z11, z12, none, none]) ⟨d1, none, none, none, none, none, none, none, none, none, none, none, rfl⟩ (fun _ _ _ _ _ => trivial) (fun i v σ H2 H3 hi h y => ?_) (fun σ H2 h => ?_)
    · obtain ⟨d3, z2, z3, z4, z5, z6, z7, z8, z9, z10, z11, z12, rfl⟩ := h
      obtain ⟨rfl, rfl⟩ := y
      have hi13 : i < 13 := by
        have h1 : (3 + if (10 : Int) < ((ns.map V.int).length : Int) then 10 else ((ns.map V.int).length : Int)) ≤ 13 := by split <;> omega
        have h2 : i < (3 + if (10 : Int) < ((ns.map V.int).length : Int) then 10 else ((ns.map V.int).length : Int)).toNat := hi
        omega
      obtain ⟨f0, hf0⟩ : ∃ f0 : Nat, f0 = 900000000 - 300 * (i + 1) := ⟨_, rfl⟩
      have d3' : Dr d w c (f0 + 300) H3 := d3.less (by omega)
      clear d3
      -- the sheet
      refine ⟨_, rfl, _, rfl, by show 2 ≤ sizeLine; decide, fun lp hlp => ⟨d, w, c, f0 + 299, _, rfl, d3'.new hlp, .inl ⟨lp, _, rfl, Own.new d3' hlp, by show 0 < 2; decide, by show 2 ≤ 1000; decide, fun y H4 hy k4 d4 => ?_⟩⟩⟩
      obtain ⟨fees, rfl, hf1, hf2⟩ : ∃ fees : Int, y = .int fees ∧ 0 < fees ∧ fees < 1000000 := by
        simp only [List.mem_cons, List.not_mem_nil, or_false] at hy
        rcases hy with e | e <;> exact ⟨_, e, by decide, by decide⟩
      refine ⟨d, w, c, f0 + 99, fees, rfl, hf1, hf2, d4, fun sh r wd prices n lbs as ps H5 k5 d5 sa ok => ?_⟩
      -- the plan, the order, the deeds
      refine ⟨_, rfl, d, w, c, sh, r, wd, prices, n, lbs, as, ps, rfl, sa, ok, fun x pl H6 s6 pat po => ?_⟩
      have d6 := d5.same s6
      have sa6 := sa.keep s6
      refine ⟨_, rfl, _, rfl, d, w, c, sh, r, wd, f0 + 95, prices, n, lbs, as, ps, rfl, sa6, ok.nsrt, d6, fun t ord H7 k7 d7 hord ht => ?_⟩
      have sa7 := sa6.kw d6 k7
      have pat7 := pat.kw po.ok d6 k7
      refine ⟨_, rfl, _, rfl, d, w, c, sh, r, wd, f0 + 25, prices, n, lbs, as, ps, rfl, sa7, ok, d7, fun la xs ds H8 k8 d8 ola txs hds hdf => ?_⟩
      refine ⟨by show 3 ≤ sizeLine; decide, fun tt htt => ⟨tt, _, rfl, SqT.of upd_same, rfl, _, _, rfl, _, _, rfl, _, _, rfl, rfl, ?_⟩⟩
      have s9 : Same H8 (upd H8 tt (.tup [.ref x, .ref t, .ref la])) := same_upd htt
      have sa9 := (sa7.kw d7 k8).keep s9
      have pat9 := (pat7.kw po.ok d7 k8).keep s9
      have ht9 := s9 _ _ ((k8.tk d7) _ _ ht)
      have ola9 := ola.keep s9
      have txs9 := txs.keep (TK.of s9)
      have d9 := d8.same s9
      generalize upd H8 tt (.tup [.ref x, .ref t, .ref la]) = H9 at *
      have pok := po.ok
      have hdk : DeedsOk pl 0 ds := hdf pl (fun z hz => ((po.pr.map (·.1)).mem_iff).mpr hz) po.da
      have ra : RunAt K H9 x t la pl ord ds := ⟨⟨pat9, pok, .inl ht9, by rw [po.nm]; exact hord⟩, ⟨⟨xs, ola9.at_, txs9⟩, by omega⟩, hdk⟩
      have hxl : xs.length = ds.length := by rw [txs.len, List.length_map]
      have hrun := runI pok ord rfl hdk
      have hres : SeqAt.shaped (resD (runM pl ord ds)) = true := res_shaped pok
      -- what was made, what was lost, the state behind
      refine ⟨_, rfl, _, rfl, _, rfl, x, t, la, pl, ord, ds, rfl, ra, fun lm ms H10 s10 hlm0 hlm tms => ?_⟩
      refine ⟨_, rfl, _, rfl, _, rfl, x, t, la, pl, ord, ds, rfl, ra.keep s10, fun lg gs H11 s11 hlg0 hlg tgs => ?_⟩
      have s911 := s10.trans s11
      refine ⟨_, rfl, _, rfl, _, rfl, x, t, la, pl, ord, ds, rfl, ra.keep s911, fun hv H12 s12 thv => ?_⟩
      have s912 := s911.trans s12
      refine ⟨by show 3 ≤ sizeLine; decide, fun t2 ht2 => ⟨t2, _, rfl, SqT.of upd_same, rfl, _, _, rfl, _, _, rfl, _, _, rfl, rfl, ?_⟩⟩
      have s13 : Same H12 (upd H12 t2 (.tup [.ref lm, .ref lg, hv])) := same_upd ht2
      have s913 := s912.trans s13
      have hlm13 := s13 _ _ (s12 _ _ (s11 _ _ hlm))
      have hlg13 := s13 _ _ (s12 _ _ hlg)
      have tms13 := tms.keep (TK.of ((s11.trans s12).trans s13))
      have tgs13 := tgs.keep (TK.of (s12.trans s13))
      have thv13 := thv.keep (TK.of s13)
      generalize upd H12 t2 (.tup [.ref lm, .ref lg, hv]) = H13 at *
      have ra13 := ra.keep s913
      have hlmf : H9 lm = none := hlm0
      have hlgf : H9 lg = none := s10.free hlg0
      -- walked
      refine ⟨_, rfl, _, rfl, _, rfl, x, la, lm, pl, ord, ds, rfl, ⟨ra13.oa.plan, pok, ra13.da, hdk, ms, hlm13, tms13⟩, fun t3 H14 s14 dp3 => ?_⟩
      refine ⟨_, rfl, _, rfl, _, rfl, x, t, la, pl, ord, ds, rfl, ra13.keep s14, fun H15 s15 => ?_⟩
      refine ⟨_, rfl, _, rfl, by show 3 ≤ sizeLine; decide, fun t4 ht4 => ?_⟩
      have s16 : Same H15 (upd H15 t4 (.tup [.int (runM pl ord ds).sums.sum, .ref lg, hv])) := same_upd ht4
      have e16 : (upd H15 t4 (.tup [.int (runM pl ord ds).sums.sum, .ref lg, hv])) t4 = some (.tup [.int (runM pl ord ds).sums.sum, .ref lg, hv]) := upd_same
      have s1316 := (s14.trans s15).trans s16
      refine ⟨resD (runM pl ord ds), resD (runM pl ord ds), Dp.same (s15.trans s16) dp3, .tup (SqT.of e16) (.cons (.int _) (.cons (.lst (SqL.of (s1316 _ _ hlg13)) (tgs13.keep (TK.of s1316)).dp) (.cons (thv13.keep (TK.of s1316)).dp .nil))), hres, hres, _, rfl, ?_⟩
      rw [eqv_self hres]
      refine iteF ?_
      generalize upd H15 t4 (.tup [.int (runM pl ord ds).sums.sum, .ref lg, hv]) = H16 at *
      have s916 := s913.trans s1316
      -- kept
      refine ⟨_, rfl, _, rfl, _, rfl, _, rfl, sh, lm, lg, hv, prices, n, lbs, ps, pl, ord, ds, rfl, ⟨⟨d, w, c, r, wd, as, sa9.keep s916⟩, po, hdk, by omega, ⟨ms, s1316 _ _ hlm13, tms13.keep (TK.of s1316)⟩, ⟨gs, s1316 _ _ hlg13, tgs13.keep (TK.of s1316)⟩, thv13.keep (TK.of s1316)⟩, fun H17 s17 => ⟨true, rfl, iteF ?_⟩⟩
      have s1317 := s1316.trans s17
      have s917 := s916.trans s17
      have d17 := d9.same s917
      have ra17 := ra.keep s917
      have ola17 := ola9.keep s917
      have olm17 := Own.made d9 hlmf (s1317 _ _ hlm13)
      have olg17 := Own.made d9 hlgf (s1317 _ _ hlg13)
      have sa17 := sa9.keep s917
      have tms17 := tms13.keep (TK.of s1317)
      have tgs17 := tgs13.keep (TK.of s1317)
      have thv17 := thv13.keep (TK.of s1317)
      -- a beginning
      refine ⟨_, rfl, _, rfl, _, _, rfl, .inl ⟨_, SqL.of ola17.at_, rfl⟩, _, 1, rfl, rfl, d, w, c, f0 + 24, _, rfl, by omega, by omega, d17, fun m H18 m0 m1 k18 d18 => ?_⟩
      obtain ⟨q, rfl⟩ : ∃ q : Nat, m = (q : Int) := ⟨m.toNat, by omega⟩
      have hq : q ≤ ds.length := by omega
      have tk18 := k18.tk d17
      have ola18 := ola17.kw k18
      have olm18 := olm17.kw k18
      have olg18 := olg17.kw k18
      have sa18 := sa17.kw d17 k18
      have tms18 := tms17.keep tk18
      have tgs18 := tgs17.keep tk18
      have thv18 := thv17.keep tk18
      have ra18 : RunAt K H18 x t la pl ord ds := by
        obtain ⟨ys, g1, g2⟩ := ra17.da.at_
        have e : ys = xs := by
          have := ola17.at_
          rw [g1] at this
          cases this
          rfl
        subst e
        exact ⟨⟨ra17.oa.plan.kw pok d17 k18, pok, ra17.oa.at_.keep tk18, ra17.oa.perm⟩, ⟨⟨ys, ola18.at_, g2.keep tk18⟩, ra17.da.len⟩, hdk⟩
      clear s917 d17 ra17 ola17 olm17 olg17 sa17 tms17 tgs17 thv17 s1317 s916 ra13
      have cutq : ∀ zs : List V, q ≤ zs.length → cutV zs none (some (q : Int)) = zs.take q := fun zs h => cut_to h
      have hmsl : ms.length = ds.length := by rw [tms.len, List.length_map, hrun.len]
      have hshm : SeqAt.shaped (.list (((runM pl ord ds).made.take q).map (ochD pl))) = true := shaped_listM (fun b hb => made_can pok hdk b (List.mem_of_mem_take hb)) fun b _ => Nat.le_trans (made_depth b) (by decide)
      have emade : (runM pl ord (ds.take q)).made = (runM pl ord ds).made.take q := by rw [made_take pok hdk, Nat.min_eq_left hq]
      refine ⟨_, rfl, _, rfl, _, rfl, _, rfl, _, rfl, la, xs, rfl, SqL.of ola18.at_, fun p hp => ?_⟩
      rw [cutq xs (by omega)]
      have s19 : Same H18 (upd H18 p (.lst (xs.take q))) := same_upd hp
      have hp19 : (upd H18 p (.lst (xs.take q))) p = some (.lst (xs.take q)) := upd_same
      generalize upd H18 p (.lst (xs.take q)) = H19 at *
      refine ⟨x, t, p, pl, ord, ds.take q, rfl, (ra18.keep s19).cut (s19 _ _ ola18.at_) q hp19, fun l2 ms2 H20 s20 _ hl2 tms2 => ?_⟩
      have s20' := s19.trans s20
      refine ⟨_, rfl, _, rfl, _, rfl, lm, ms, rfl, SqL.of (s20' _ _ olm18.at_), fun p2 hp2 => ?_⟩
      rw [cutq ms (by omega)]
      have s21 : Same H20 (upd H20 p2 (.lst (ms.take q))) := same_upd hp2
      have s21' := s20'.trans s21
      have tmsq : TdAll K (upd H20 p2 (.lst (ms.take q))) (ms.take q) (((runM pl ord ds).made.take q).map (ochD pl)) := by
        rw [List.map_take]
        exact (tms18.keep (TK.of s21')).take q
      rw [emade] at tms2
      refine ⟨_, _, .lst (SqL.of (s21 _ _ hl2)) (tms2.keep (TK.of s21)).dp, .lst (SqL.of upd_same) tmsq.dp, hshm, hshm, _, rfl, ?_⟩
      rw [eqv_self hshm]
      refine iteF ?_
      generalize upd H20 p2 (.lst (ms.take q)) = H21 at *
      clear hl2 tms2 tmsq s20 s21 s20' hp2
      -- paid
      refine ⟨_, rfl, _, rfl, _, rfl, _, rfl, _, rfl, la, xs, rfl, SqL.of (s21' _ _ ola18.at_), fun p hp => ?_⟩
      rw [cutq xs (by omega)]
      have s22 : Same H21 (upd H21 p (.lst (xs.take q))) := same_upd hp
      have hp22 : (upd H21 p (.lst (xs.take q))) p = some (.lst (xs.take q)) := upd_same
      generalize upd H21 p (.lst (xs.take q)) = H22 at *
      have s22' := s21'.trans s22
      refine ⟨x, t, p, pl, ord, ds.take q, rfl, (ra18.keep s22').cut (s22' _ _ ola18.at_) q hp22, fun H23 s23 => ?_⟩
      have s23' := s22'.trans s23
      refine ⟨_, rfl, _, rfl, _, rfl, x, t, la, pl, ord, ds, rfl, ra18.keep s23', fun H24 s24 => ⟨_, _, rfl, rfl, _, rfl, iteDF (by have := sums_take (ord := ord) pok hdk q; omega) ?_⟩⟩
      have s24' := s23'.trans s24
      clear s22 s23 s24 s22' s23' s21' hp22
      -- wasted
      refine ⟨_, rfl, _, rfl, _, rfl, _, rfl, _, rfl, la, xs, rfl, SqL.of (s24' _ _ ola18.at_), fun p hp => ?_⟩
      rw [cutq xs (by omega)]
      have s25 : Same H24 (upd H24 p (.lst (xs.take q))) := same_upd hp
      have hp25 : (upd H24 p (.lst (xs.take q))) p = some (.lst (xs.take q)) := upd_same
      generalize upd H24 p (.lst (xs.take q)) = H25 at *
      have s25' := s24'.trans s25
      refine ⟨x, t, p, pl, ord, ds.take q, rfl, (ra18.keep s25').cut (s25' _ _ ola18.at_) q hp25, fun l3 gs3 H26 s26 _ hl3 tgs3 => ?_⟩
      have s26' := s25'.trans s26
      refine ⟨_, rfl, _, rfl, _, rfl, _, rfl, _, rfl, _, rfl, la, xs, rfl, SqL.of (s26' _ _ ola18.at_), fun p2 hp2 => ?_⟩
      rw [cutq xs (by omega)]
      have s27 : Same H26 (upd H26 p2 (.lst (xs.take q))) := same_upd hp2
      have hp27 : (upd H26 p2 (.lst (xs.take q))) p2 = some (.lst (xs.take q)) := upd_same
      generalize upd H26 p2 (.lst (xs.take q)) = H27 at *
      have s27' := s26'.trans s27
      refine ⟨x, t, p2, pl, ord, ds.take q, rfl, (ra18.keep s27').cut (s27' _ _ ola18.at_) q hp27, fun l4 gs4 H28 s28 _ hl4 tgs4 => ?_⟩
      have s28' := s27'.trans s28
      have hgl4 : gs4.length = (runM pl ord (ds.take q)).gone.length := by rw [tgs4.len, List.length_map]
      have hgle : (runM pl ord (ds.take q)).gone.length ≤ gs.length := by
        rw [tgs.len, List.length_map]
        obtain ⟨_, _, Z, _, _, h3⟩ := run_more pl ord ds q
        rw [h3, List.length_append]
        omega
      refine ⟨_, gs4.length, rfl, .inl ⟨_, SqL.of hl4, rfl⟩, _, rfl, lg, gs, rfl, SqL.of (s28' _ _ olg18.at_), fun p4 hp4 => ?_⟩
      rw [hgl4, cut_to hgle]
      have s29 : Same H28 (upd H28 p4 (.lst (gs.take (runM pl ord (ds.take q)).gone.length))) := same_upd hp4
      have s29' := s28'.trans s29
      have hshg : SeqAt.shaped (.list ((runM pl ord (ds.take q)).gone.map goneD)) = true := shaped_listM (fun b hb => gone_can pok b hb) fun b _ => by rw [gone_depth]; decide
      have tgsq : TdAll K (upd H28 p4 (.lst (gs.take (runM pl ord (ds.take q)).gone.length))) (gs.take (runM pl ord (ds.take q)).gone.length) ((runM pl ord (ds.take q)).gone.map goneD) := by
        have h1 := (tgs18.keep (TK.of s29')).take (runM pl ord (ds.take q)).gone.length
        rw [← List.map_take, gone_take] at h1
        exact h1
      refine ⟨_, _, .lst (SqL.of (s29 _ _ (s28 _ _ (s27 _ _ hl3)))) (tgs3.keep (TK.of ((s27.trans s28).trans s29))).dp, .lst (SqL.of upd_same) tgsq.dp, hshg, hshg, _, rfl, ?_⟩
      rw [eqv_self hshg]
      refine iteF ?_
      generalize upd H28 p4 (.lst (gs.take (runM pl ord (ds.take q)).gone.length)) = H29 at *
      clear tgsq s25 s26 s27 s28 s29 s25' s26' s27' s28' s24' hl3 hl4 tgs3 tgs4 hp2 hp4 hp25 hp27
      -- what is left
      have plan29 := ra18.oa.plan.keep s29'
      obtain ⟨dx, fs, hx29⟩ := plan29.ins
      obtain ⟨a9, b9, rfl, ha9, hb9⟩ := state_inv (thv18.keep (TK.of s29'))
      refine ⟨_, rfl, x, dx, fs, rfl, hx29, x, pl, rfl, plan29, fun n1 hn1 => ?_⟩
      have hso := hrun.so
      have hnl : pl.names.length = ((runM pl ord ds).now.2.map V.int).length := by rw [List.length_map, hso.len, pok.len]
      refine ⟨_, rfl, a9, _, 1, _, rfl, rfl, ha9.sq, rfl, n1, b9, pl.names, _, rfl, hn1.sq, hb9.sq, hnl, pok.nd, fun le hle => ?_⟩
      have s30 : Same H29 (upd H29 le (.dK (kvT pl.names ((runM pl ord ds).now.2.map V.int)))) := same_upd hle
      have hle30 : (upd H29 le (.dK (kvT pl.names ((runM pl ord ds).now.2.map V.int)))) le = some (.dK (kvT pl.names ((runM pl ord ds).now.2.map V.int))) := upd_same
      generalize upd H29 le (.dK (kvT pl.names ((runM pl ord ds).now.2.map V.int))) = H30 at *
      have plan30 := plan29.keep s30
      have hx30 := s30 _ _ hx29
      refine ⟨_, rfl, x, dx, fs, rfl, hx30, x, pl, rfl, plan30, fun n2 hn2 => ⟨n2, rfl, ⟨_, hn2.sq⟩, fun D hD => ?_⟩⟩
      refine lc_go walk_tup hD (fun j acc _ => acc = []) (fun _ _ _ _ _ h => h) rfl (fun H1 s => (hn2.keep s).sq) (by rw [List.length_map]; exact four_lt pok.four) (fun j v acc H31 H32 Fy Fn hj s31 e y ky kn => ?_) (fun H31 acc s31 hd31 e => ?_)
      · obtain ⟨rfl, hv2⟩ := y
        rw [List.length_map] at hj
        have hjr : j < pl.rows.length := by rw [← pok.len]; exact hj
        have hnm := at_nameN (pl := pl) (i := j) hj
        rw [List.getElem?_map, hnm] at hv2
        obtain rfl := Option.some.inj hv2
        have plan31 := plan30.keep s31
        refine ⟨rfl, _, rfl, x, dx, fs, rfl, s31 _ _ hx30, x, pl, rfl, plan31, pok, fun pd as2 hpk hpd => ?_⟩
        have s32 : Same H32 (upd H32 pd (.dK (pkK pl.names as2))) := same_upd hpd
        obtain ⟨pa, g1, g2⟩ := hpk.of_at (at_rowN hjr)
        have hval : valV (pkK pl.names as2) (Sum.inr (nameN pl j)) = some (.ref pa) := kvT_val (by rw [List.length_map, hpk.len]; exact pok.len) pok.nd hnm (by rw [List.getElem?_map, g1]; rfl)
        refine ⟨_, rfl, pd, _, rfl, .inl ⟨_, Sum.inr (nameN pl j), .inl upd_same, rfl, hval.symm⟩, ?_⟩
        have g3 := g2.keep (FK.of s32)
        have g4 := g3
        obtain ⟨dxp, sv, rv, hpa, _⟩ := g4
        refine ⟨pa, dxp, _, rfl, hpa, pa, _, rfl, g3, (pok.row hjr).ok, fun H33 s33 => ?_⟩
        have s3133 := s31.trans (s32.trans s33)
        refine ⟨_, rfl, a9, _, 0, _, rfl, rfl, (ha9.keep (TK.of (s30.trans s3133))).sq, rfl, _, _, rfl, rfl, _, rfl, ite2 (fun hb => ?_) fun _ => iteF (kn _ (s32.trans s33) e)⟩
        have hz := hso.gone j hjr (of_decide_eq_true hb)
        have hlv : valV (kvT pl.names ((runM pl ord ds).now.2.map V.int)) (Sum.inr (nameN pl j)) = some (.int (restN (runM pl ord ds).now.2 j)) := kvT_val hnl pok.nd hnm (by rw [List.getElem?_map, at_restN (by rw [hso.len]; exact hjr)]; rfl)
        refine ⟨_, rfl, _, rfl, le, _, rfl, .inl ⟨_, Sum.inr (nameN pl j), .inl (s3133 _ _ hle30), rfl, hlv.symm⟩, _, 0, rfl, rfl, _, rfl, iteDF (by rw [hz]; decide) (kn _ (s32.trans s33) e)⟩
      subst e
      refine ⟨by show 0 ≤ sizeLine; exact Nat.zero_le _, fun p5 hp5 => ?_⟩
      have s34 : Same H31 (upd H31 p5 (.lst [])) := same_upd hp5
      have hne : SeqAt.shaped (.list []) = true := by decide +kernel
      refine ⟨.list [], .list [], .lst (SqL.of (s34 _ _ hd31)) .nil, .lst (SqL.of upd_same) .nil, hne, hne, _, rfl, ?_⟩
      rw [eqv_self hne]
      refine iteF ?_
      have s3034 := s30.trans (s31.trans s34)
      generalize upd H31 p5 (.lst []) = H34 at *
      -- the bare plan
      have plan34 := plan29.keep s3034
      have hx34 := s3034 _ _ hx29
      have s1834 := s29'.trans s3034
      refine ⟨_, rfl, x, dx, fs, rfl, hx34, x, pl, rfl, plan34, fun pr hpr => ?_⟩
      have s35 : Same H34 (upd H34 pr (.dK (prK pl.prices))) := same_upd hpr
      have hpr35 : (upd H34 pr (.dK (prK pl.prices))) pr = some (.dK (prK pl.prices)) := upd_same
      generalize upd H34 pr (.dK (prK pl.prices)) = H35 at *
      refine ⟨_, rfl, x, dx, fs, rfl, s35 _ _ hx34, x, pl, rfl, plan34.keep s35, ?_⟩
      intro em hem
      have s36 : Same H35 (upd H35 em (.dK [])) := same_upd hem
      have hem36 : (upd H35 em (.dK [])) em = some (.dK []) := upd_same
      have hpr36 := s36 _ _ hpr35
      generalize upd H35 em (.dK []) = H36 at *
      intro bx bdx hbx hbdx hne2
      have b0 : Same H36 (upd (upd H36 bdx (.own bx)) bx (.ins (CL K) bdx [])) := sup (same_upd hbdx) (by rw [upd_ne (Ne.symm hne2)]; exact hbx)
      refine ⟨bx, bdx, pr, em, pl.prices, pl.days, [], [], [], rfl, upd_same, b0 _ _ hpr36, b0 _ _ hem36, ⟨rfl, List.nodup_nil, by decide, (fun _ h => by cases h), .nil⟩, ⟨⟨pok.pne.1, pok.pne.2, pok.pnd, pok.pok⟩, pok.days, (fun _ h => by cases h), (fun _ h => by cases h), by decide⟩, fun H37 bl kb bpat bout => ⟨rfl, ?_⟩⟩
      have s37 : Same H36 H37 := Same.made hbx hbdx kb
      have bok := bout.ok
      have hbn : bl.names = [] := by
        have h1 := bout.pk.map Prod.fst
        rw [List.map_fst_zip (Nat.le_of_eq bok.len)] at h1
        exact List.Perm.eq_nil h1
      have hbd : DeedsOk bl 0 ds := hdf bl (fun z hz => (((bout.pr.trans po.pr).map (·.1)).mem_iff).mpr hz) (by rw [bout.da]; exact po.da)
      have s1837 := s1834.trans ((s35.trans s36).trans s37)
      -- what it pays
      refine ⟨_, rfl, by show 0 ≤ sizeLine; exact Nat.zero_le _, fun te hte => ?_⟩
      have s38 : Same H37 (upd H37 te (.tup [])) := same_upd hte
      have hte38 : (upd H37 te (.tup [])) te = some (.tup []) := upd_same
      generalize upd H37 te (.tup []) = H38 at *
      have s1838 := s1837.trans s38
      refine ⟨_, rfl, bx, te, la, bl, [], ds, rfl, ⟨⟨bpat.keep s38, bok, .inl hte38, by rw [hbn]⟩, (ra18.keep s1838).da, hbd⟩, fun H39 s39 => ?_⟩
      have s1839 := s1838.trans s39
      refine ⟨_, rfl, la, rfl, ⟨_, SqL.of (s1839 _ _ ola18.at_)⟩, fun D2 hD2 => ?_⟩
      obtain ⟨ys, g1, txs18⟩ := ra18.da.at_
      have eys : ys = xs := by
        have := ola18.at_
        rw [g1] at this
        cases this
        rfl
      subst eys
      have sa39 := sa18.keep s1839
      refine lc_go walk_list hD2 (fun j acc _ => ∃ zs : List Int, acc = zs.map V.int ∧ zs.sum = ((ds.take j).map (dueN bl)).sum) (fun _ _ _ _ _ h => h) ⟨[], rfl, rfl⟩ (fun H1 s => SqL.of ((s1839.trans s) _ _ ola18.at_)) (small1000 (by omega)) (fun j v acc H40 H41 Fy Fn hj s40 e y ky kn => ?_) (fun H40 acc s40 hd40 e => ?_)
      · obtain ⟨rfl, hv2⟩ := y
        obtain ⟨zs, rfl, hzs⟩ := e
        obtain ⟨dd, hdd, tdd⟩ := txs18.map_at hv2
        have tdd1 := tdd.keep (TK.of (s1839.trans s40))
        have hnext := deed_next hdk hdd
        rw [take_snoc hdd, List.map_append, List.sum_append] at ky kn
        have hcell : ∀ c, dd = some c → c ∈ pl.prices.map (·.1) := fun c e => by
          subst e
          exact hnext.1
        refine ⟨rfl, _, rfl, by show 1 ≤ sizeLine; decide, fun u hu => ⟨_, .tuple [.str "night"], (tdd1.keep (TK.updN hu)).dp, .tup (SqT.of upd_same) (.cons (.str _) .nil), deed_shaped pok hcell, by decide +kernel, _, rfl, ?_⟩⟩
        rw [eqv_night]
        cases dd with
        | none => exact iteF (kn _ (same_upd hu) ⟨zs, rfl, by rw [hzs]; show _ = _ + (0 + 0); omega⟩)
        | some cc =>
          refine iteT ?_
          obtain ⟨pd, rfl, hpd⟩ := deed_inv tdd1
          have sa41 := (sa39.keep s40).keep (same_upd (o := .tup [.str "night"]) hu)
          have hcc : cc ∈ prices.map (·.1) := ((po.pr.map (·.1)).mem_iff).mp hnext.1
          refine ⟨_, rfl, sh, _, rfl, .inl ⟨_, Sum.inr "prices", .inl sa41.own.at_, rfl, sheetK_prices.symm⟩, _, rfl, pd, _, 1, _, rfl, rfl, (hpd.keep (TK.updN hu)).sq, rfl, r, _, rfl, .inl ⟨_, Sum.inr cc, .inl sa41.pr.at_, rfl, (price_perm bok (bout.pr.trans po.pr) hcc).symm⟩, ky _ _ (same_upd hu) ⟨zs ++ [priceN bl cc], by rw [List.map_append]; rfl, ?_⟩⟩
          rw [List.sum_append, hzs]
          rfl
      · obtain ⟨zs, rfl, hzs⟩ := e
        rw [take_all (by omega)] at hzs
        refine ⟨D2, zs, rfl, SqL.of hd40, rfl, _, rfl, ?_⟩
        have e1 : (runM bl [] ds).sums.sum = zs.sum := by rw [bare_sums, hzs]
        refine iteBF (by rw [e1]; simp) ?_
        exact ⟨(d18.same (s1839.trans s40)).less (by omega), _, _, _, _, _, _, _, _, _, _, _, rfl⟩
    · obtain ⟨d2, z2, z3, z4, z5, z6, z7, z8, z9, z10, z11, z12, rfl⟩ := h
      exact k _
end
end Nd
set_option Elab.async false
set_option linter.all false
set_option maxRecDepth 100000
set_option maxHeartbeats 2000000
namespace Nd
open PySem PySem.Spec PyProof.Rows L2
/-! ## sets of tuples whose items are ints and texts: adding a NEW tuple -/
/-- the tuple at b has these items -/
abbrev MT (P : Program) (w : World) (h : Heap) (k : List Key) (b : Addr) : Prop := IsTupleKey (mixKind P w) h k b
abbrev mh (P : Program) (w : World) (k : List Key) : Int := tupleKeyHash (mixKind P w) k
abbrev PK := Addr × List Key
def mrow (P : Program) (w : World) (p : PK) : Int × Value := (mh P w p.2, Value.ref p.1)
def Plainly (v : Value) : Prop := (∃ i t, v = Value.int i t) ∨ (∃ x t, v = Value.str x t)
section
variable {P : Program} {w : World} {A : Around} {E : Value → Shared → Prop} {s : Shared}
theorem plainly_items {k : List Key} {vs : List Value} (h : ItemsAre (mixKind P w) k vs) : ∀ v ∈ vs, Plainly v := by
  induction h with
  | nil => exact fun v hv => nomatch hv
  | @cons c u cs us h1 _ ih =>
    intro v hv
    rcases List.mem_cons.mp hv with e | hv
    · subst e
      rcases keyIs_shape (show keyIs c v = true from h1) with ⟨i, t, _, e⟩ | ⟨x, t, _, e⟩
      · exact .inl ⟨i, t, e⟩
      · exact .inr ⟨x, t, e⟩
    · exact ih v hv
theorem noClass_plainly (n : Nat) {v : Value} (h : Plainly v) : ofAClassStatement n v = pure false := by
  rcases h with ⟨i, t, rfl⟩ | ⟨x, t, rfl⟩ <;> cases n <;> rfl
theorem byVal_plainly (n : Nat) {v : Value} (h : Plainly v) : ∃ q, hashByValue n v = pure q := by
  rcases h with ⟨i, t, rfl⟩ | ⟨x, t, rfl⟩
  · exact ⟨true, by cases n <;> rfl⟩
  · exact ⟨false, by cases n <;> rfl⟩
/-- a loop over plain items that asks the same small thing of each -/
theorem ask_items {β : Type} {items : Array Value} {f : Value → β → Sem (ForInStep β)} {b0 : β} {Q : β → Shared → Prop} (hp : ∀ v ∈ items.toList, Plainly v)
    (hs : ∀ v, Plainly v → wpAny (model P w) A (f v b0) (fun r s' => r = .yield b0 ∧ s' = s) E s) (h : Q b0 s) : wpAny (model P w) A (forIn items b0 f) Q E s := by
  rw [← Array.forIn_toList]
  refine wpAny_forIn_list _ (fun rest r s' => r = b0 ∧ s' = s ∧ ∀ v ∈ rest, Plainly v) _ ?_ ?_ _ _ ⟨rfl, rfl, hp⟩
  · rintro v rest r s' ⟨rfl, rfl, hall⟩
    refine wpAny_mono (hs v (hall v List.mem_cons_self)) ?_ (fun _ _ h => h)
    rintro x s1 ⟨rfl, rfl⟩
    exact ⟨rfl, rfl, fun u hu => hall u (List.mem_cons_of_mem _ hu)⟩
  · rintro r s' ⟨rfl, rfl, _⟩
    exact h
theorem noClass_mt {k : List Key} {b : Addr} {Q : Bool → Shared → Prop} (hk : MT P w s.heap k b) (h : Q false s) : wpAny (model P w) A (ofAClassStatement 8 (.ref b)) Q E s := by
  have hT := hk.typeIs
  obtain ⟨o, items, n, ho, _, hd, hi⟩ := hk
  unfold ofAClassStatement
  refine wpAny_bind (wpAny_typeOf hT ?_)
  dsimp only
  simp only [show (("tuple" : String) == "tuple") = true by decide, if_true, Bool.not_true, Bool.false_eq_true, if_false]
  try refine wpAny_bind (wpAny_pure ?_)
  show wpAny _ _ (seqItems? (.ref b) >>= _) _ _ s
  refine wpAny_bind (wpAny_seqItems ho hd ?_)
  dsimp only
  refine wpAny_bind (ask_items (plainly_items hi) (fun v hv => ?_) ?_)
  · rw [noClass_plainly _ hv]
    refine wpAny_bind (wpAny_pure ?_)
    simp only [Bool.false_eq_true, if_false]
    exact wpAny_pure ⟨rfl, rfl⟩
  · exact wpAny_pure h
theorem byVal_mt {k : List Key} {b : Addr} {Q : Bool → Shared → Prop} (hk : MT P w s.heap k b) (h : ∀ q, Q q s) : wpAny (model P w) A (hashByValue 8 (.ref b)) Q E s := by
  have hT := hk.typeIs
  obtain ⟨o, items, n, ho, _, hd, hi⟩ := hk
  unfold hashByValue
  refine wpAny_bind (wpAny_specialOf hT F.slot_tuple_hash.lookup ?_)
  show wpAny _ _ (seqItems? (.ref b) >>= _) _ _ s
  refine wpAny_bind (wpAny_seqItems ho hd ?_)
  refine wpAny_bind ?_
  show wpAny _ _ (forIn items _ _) _ _ s
  rw [← Array.forIn_toList]
  have hp := plainly_items hi
  refine wpAny_forIn_list _ (fun rest r s' => r.1 = none ∧ s' = s ∧ ∀ v ∈ rest, Plainly v) _ ?_ ?_ _ _ ⟨rfl, rfl, hp⟩
  · rintro v rest r s' ⟨hr, rfl, hall⟩
    obtain ⟨q, e⟩ := byVal_plainly 7 (hall v List.mem_cons_self)
    rw [e]
    refine wpAny_bind (wpAny_pure ?_)
    cases q
    · simp only [Bool.not_false, if_true]
      exact wpAny_pure (wpAny_pure (h false))
    · simp only [Bool.not_true, Bool.false_eq_true, if_false]
      exact wpAny_pure ⟨rfl, rfl, fun u hu' => hall u (List.mem_cons_of_mem _ hu')⟩
  · rintro ⟨r1, r2⟩ s' ⟨hr, rfl, _⟩
    simp only at hr
    subst hr
    exact wpAny_pure (h true)
/-- a search among such tuples shows nothing -/
theorem unseen_mt {k : List Key} {b : Addr} {Q : Bool → Shared → Prop} (hk : MT P w s.heap k b) {ys : List Value} (hy : ∀ y ∈ ys, ∃ k' c, y = Value.ref c ∧ MT P w s.heap k' c) (h : Q false s) :
    wpAny (model P w) A (searchCouldBeSeen (.ref b) ys) Q E s := by
  unfold searchCouldBeSeen
  refine wpAny_bind ?_
  refine wpAny_forIn_list _ (fun rest r s' => r.1 = none ∧ s' = s ∧ ∀ y ∈ rest, ∃ k' c, y = Value.ref c ∧ MT P w s.heap k' c) _ ?_ ?_ _ _ ⟨rfl, rfl, hy⟩
  · rintro v rest r s' ⟨hr, rfl, hall⟩
    obtain ⟨k', c, rfl, hc⟩ := hall v List.mem_cons_self
    have rest' : ∀ y ∈ rest, ∃ k' c, y = Value.ref c ∧ MT P w s'.heap k' c := fun u hu' => hall u (List.mem_cons_of_mem _ hu')
    dsimp only
    by_cases hv : (b == c || (carriedByValue (.ref b) && carriedByValue (.ref c))) = true
    · exact wp_if_pos hv (wpAny_pure ⟨rfl, rfl, rest'⟩)
    · refine wp_if_neg hv ?_
      refine wpAny_bind (wpAny_eqIsQuiet_tuple hk ?_)
      simp only [Bool.not_true, Bool.false_eq_true, if_false]
      refine wpAny_bind (wpAny_eqIsQuiet_tuple hc ?_)
      simp only [Bool.not_true, Bool.false_eq_true, if_false]
      refine wpAny_bind (noClass_mt hk ?_)
      simp only [Bool.false_eq_true, if_false]
      refine wpAny_bind (noClass_mt hc ?_)
      simp only [Bool.false_eq_true, if_false]
      exact wpAny_pure ⟨rfl, rfl, rest'⟩
  · rintro ⟨r1, r2⟩ s' ⟨hr, rfl, _⟩
    simp only at hr
    subst hr
    exact wpAny_pure h
end
end Nd
set_option Elab.async false
set_option linter.all false
set_option maxRecDepth 100000
set_option maxHeartbeats 2000000
namespace Nd
open PySem PySem.Spec PyProof.Rows L2
/-- the set at a holds the tuples of L -/
structure SM (P : Program) (w : World) (h : Heap) (a : Addr) (L : List PK) (es : Array (Int × Value)) (ep : Nat) (t : SetTable) : Prop where
  ob : ∃ o, h.get? a = some o ∧ o.ExactSet ∧ o.data = .set es ep t
  rows : es.toList.Perm (L.map (mrow P w))
  tab : TabOk t (es.toList.map (·.1))
  tup : ∀ p ∈ L, MT P w h p.2 p.1
  room : L.length * 5 < t.mask * 3
  few : L.length < 13
theorem tabOk_plain {t : SetTable} {hs : List Int} (T : TabOk t hs) (q : Bool) : TabOk { t with plain := q } hs := ⟨T.ris, T.dm, T.sz, T.mok, T.bd, T.reach⟩
section
variable {P : Program} {w : World} {A : Around} {E : Value → Shared → Prop} {s : Shared} {a : Addr} {L : List PK} {es : Array (Int × Value)} {ep : Nat} {t : SetTable}
theorem SM.size {h : Heap} (R : SM P w h a L es ep t) : es.size = L.length := by
  have e := R.rows.length_eq
  rw [Array.length_toList, List.length_map] at e
  exact e
theorem fits_of {es : Array (Int × Value)} {t : SetTable} (T : TabOk t (es.toList.map (·.1))) (h : es.size ≤ t.mask) : t.fits es.size = true := by
  have h1 := T.sz
  rw [List.length_map, Array.length_toList] at h1
  unfold SetTable.fits SetTable.fill
  rw [T.dm, Bool.and_eq_true, beq_iff_eq, decide_eq_true_eq]
  show t.place.size = es.size ∧ t.place.size + 0 ≤ t.mask
  omega
theorem SM.fits {h : Heap} (R : SM P w h a L es ep t) : t.fits es.size = true := fits_of R.tab (by have := R.size; have := R.room; omega)
theorem SM.entry {h : Heap} (R : SM P w h a L es ep t) {e : Int × Value} (he : e ∈ es.toList) : ∃ p ∈ L, e = mrow P w p := by
  obtain ⟨p, hp, ep⟩ := List.mem_map.mp (R.rows.mem_iff.mp he)
  exact ⟨p, hp, ep.symm⟩
theorem SM.gw {h : Heap} (R : SM P w h a L es ep t) : ¬ t.gaveWay = true := by
  unfold SetTable.gaveWay
  rw [mask_odd R.tab.mok]
  decide
/-- the search for a tuple that is new, from the c-th step of its way -/
theorem find_new (R : SM P w s.heap a L es ep t) {x : Addr} {k : List Key} (hx : MT P w s.heap k x) (hu : A.units < cLine) (hnew : ∀ p ∈ L, p.2 ≠ k) {K : Nat} (hKf : K < 10 * SetTable.turns t.mask)
    (hK : way t.mask (mh P w k) K ∉ t.place.toList) (hKb : ∀ c, c < K → way t.mask (mh P w k) c ∈ t.place.toList) {Q : SetFound → Shared → Prop} (hQ : Q (.free (way t.mask (mh P w k) K) false) s) :
    ∀ (f c : Nat) (stand : Option SetTable.Probe), stand.getD (t.probeStart (mh P w k)) = nth t.mask (runAt t.mask (SetTable.bits (mh P w k) % (t.mask + 1)) (SetTable.bits (mh P w k))) c → c ≤ K → K - c < f →
      wpAny (model P w) A (setSearchFrom a (.ref x) (mh P w k) true f stand) Q E s
  | 0, _, _, _, _, hf => absurd hf (Nat.not_lt_zero _)
  | f + 1, c, stand, hst, hc, hf => by
    obtain ⟨o, ho, hex, hd⟩ := R.ob
    generalize hp0 : runAt t.mask (SetTable.bits (mh P w k) % (t.mask + 1)) (SetTable.bits (mh P w k)) = p0 at hst
    have wy : ∀ q, (nth t.mask (nth t.mask p0 c) q).j = way t.mask (mh P w k) (c + q) := fun q => by
      rw [← nth_add, ← hp0]
      try rfl
    have nodum : ∀ (n : Nat) (p : SetTable.Probe), p.dummy = none → (nth t.mask p n).dummy = none := by
      intro n
      induction n with
      | zero => exact fun p h => h
      | succ n ih =>
        intro p h
        refine ih (adv t.mask p) ?_
        unfold adv
        split <;> exact h
    have d0 : (nth t.mask p0 c).dummy = none := nodum c p0 (by rw [← hp0]; rfl)
    rw [setSearchFrom_succ]
    refine wpAny_bind (wpAny_setState_of ho hd R.fits ?_)
    dsimp only
    refine wp_if_neg R.gw ?_
    try refine wpAny_bind (wpAny_pure ?_)
    rw [hst]
    rcases go_spec t R.tab.ris R.tab.dm (fun i => (es[i]?.map (·.1)).getD 0) (mh P w k) (10 * SetTable.turns t.mask) (K - c) (nth t.mask p0 c) d0 (by omega)
      (fun q hq => by rw [wy]; exact hKb (c + q) (by omega)) (by rw [wy, show c + (K - c) = K by omega]; exact hK) with ⟨q, i, hq, hi, _, _, hpr⟩ | ⟨_, hpr⟩
    · rw [show t.probe (fun i => (es[i]?.map (·.1)).getD 0) (mh P w k) (nth t.mask p0 c) = _ from hpr]
      dsimp only
      have hil : i < es.size := by
        have h1 := (List.getElem?_eq_some_iff.mp hi).1
        have h2 := R.tab.sz
        rw [List.length_map, Array.length_toList] at h2
        rw [Array.length_toList] at h1
        omega
      have hei : es[i]? = some es[i] := Array.getElem?_eq_getElem hil
      obtain ⟨p, hpL, epe⟩ := R.entry (e := es[i]) (by rw [Array.mem_toList_iff]; exact Array.getElem_mem hil)
      rw [epe] at hei
      have ne : ¬ p.2 = k := hnew p hpL
      have rest : wpAny (model P w) A (searchRest a (.ref x) (mh P w k) true f es t (nth t.mask (nth t.mask p0 c) q).j i (nth t.mask (nth t.mask p0 c) (q + 1))) Q E s := by
        unfold searchRest
        rw [hei]
        dsimp only [mrow]
        refine wpAny_bind (wpAny_holding (wpAny_eqBool_tuple hu (R.tup p hpL) hx ?_))
        refine wpAny_bind (wpAny_setState_of ho hd R.fits ?_)
        dsimp only
        refine wp_if_neg (by simp [ne]) ?_
        try refine wpAny_bind (wpAny_pure ?_)
        rw [L2.sameMem]
        dsimp only
        simp only [if_true, slot_live R.tab.ris hi, hei, mrow]
        refine wpAny_bind (wpAny_isSame_ref_self (wpAny_bind (wpAny_pure ?_)))
        simp only [if_true]
        refine wp_if_neg (by simp [ne]) ?_
        refine find_new R hx hu hnew hKf hK hKb hQ f (c + (q + 1)) _ ?_ (by omega) (by omega)
        rw [hp0]
        exact (nth_add t.mask c p0 (q + 1)).symm
      by_cases hl : t.led = true
      · refine wp_if_neg (by simp [hl]) ?_
        try refine wpAny_bind (wpAny_pure ?_)
        exact rest
      · refine wp_if_pos (by simp [hl]) ?_
        refine wpAny_bind (unseen_mt hx (fun y hy => ?_) ?_)
        · obtain ⟨e, he, ee⟩ := List.mem_map.mp hy
          have he1 : e ∈ es ∧ e.1 = mh P w k := by simpa using he
          obtain ⟨p, hp, e2⟩ := R.entry (e := e) (by simpa using he1.1)
          exact ⟨p.2, p.1, by rw [← ee, e2]; rfl, R.tup p hp⟩
        · refine wp_if_neg (by decide) ?_
          try refine wpAny_bind (wpAny_pure ?_)
          exact rest
    · rw [show t.probe (fun i => (es[i]?.map (·.1)).getD 0) (mh P w k) (nth t.mask p0 c) = _ from hpr]
      dsimp only
      rw [wy, show c + (K - c) = K by omega]
      exact wpAny_pure hQ
theorem find_new_at (R : SM P w s.heap a L es ep t) {x : Addr} {k : List Key} (hx : MT P w s.heap k x) (hu : A.units < cLine) (hnew : ∀ p ∈ L, p.2 ≠ k) {Q : SetFound → Shared → Prop}
    (hQ : ∀ K, way t.mask (mh P w k) K ∉ t.place.toList → (∀ c, c < K → way t.mask (mh P w k) c ∈ t.place.toList) → Q (.free (way t.mask (mh P w k) K) false) s) :
    wpAny (model P w) A (setSearch a (.ref x) (mh P w k) true) Q E s := by
  have hroom := R.room
  have hsz := R.size
  obtain ⟨K, hKf, hK, hKb⟩ := R.tab.first (by rw [List.length_map, Array.length_toList]; omega) (mh P w k)
  have hbig : K < 100000 := by
    have : 10 * SetTable.turns t.mask ≤ 1420 := by
      unfold SetTable.turns
      rcases R.tab.mok with e | e | e <;> omega
    omega
  unfold setSearch
  exact find_new R hx hu hnew hKf hK hKb (hQ K hK hKb) 100000 0 none rfl (Nat.zero_le _) (by omega)
end
end Nd
set_option Elab.async false
set_option linter.all false
set_option maxRecDepth 100000
set_option maxHeartbeats 2000000
namespace Nd
open PySem PySem.Spec PyProof.Rows L2
/-! ### laying anew, and adding -/
theorem pick_map {α : Type} (l : List α) (d : α) : ∀ o : List Nat, (∀ i ∈ o, i < l.length) → o.filterMap (fun i => l[i]?) = o.map (fun i => l.getD i d)
  | [], _ => rfl
  | i :: o, h => by
    have hi := h i List.mem_cons_self
    rw [List.filterMap_cons_some (b := l.getD i d) (by rw [List.getD_eq_getElem?_getD, List.getElem?_eq_getElem hi]; rfl), pick_map l d o fun j hj => h j (List.mem_cons_of_mem _ hj), List.map_cons]
theorem pick_all {α : Type} (l : List α) (d : α) : (List.range l.length).map (fun i => l.getD i d) = l := by
  refine List.ext_getElem (by simp) fun i h1 h2 => ?_
  rw [List.getElem_map, List.getElem_range, List.getD_eq_getElem?_getD, List.getElem?_eq_getElem h2] <;> rfl
theorem picked {es : Array (Int × Value)} {o : Array Nat} (hp : o.toList.Perm (List.range es.size)) :
    (o.filterMap (es[·]?)).toList.Perm es.toList ∧ (o.filterMap (es[·]?)).toList.map (·.1) = o.toList.map fun i => (es.map (·.1)).getD i 0 := by
  have hb : ∀ i ∈ o.toList, i < es.toList.length := fun i hi => by
    have := List.mem_range.mp (hp.mem_iff.mp hi)
    rwa [Array.length_toList]
  have e1 : (o.filterMap (es[·]?)).toList = o.toList.map fun i => es.toList.getD i (0, Value.none) := by
    rw [← pick_map es.toList (0, Value.none) o.toList hb]
    rw [Array.toList_filterMap]
    refine congrArg (fun f => List.filterMap f o.toList) (funext fun i => ?_)
    rw [Array.getElem?_toList]
  refine ⟨?_, ?_⟩
  · rw [e1]
    have q := hp.map fun i => es.toList.getD i (0, Value.none)
    rw [show es.size = es.toList.length from (Array.length_toList).symm, pick_all] at q
    exact q
  · rw [e1, List.map_map]
    refine List.map_congr_left fun i hi => ?_
    have hi' := hb i hi
    rw [Array.length_toList] at hi'
    show (es.toList.getD i (0, Value.none)).1 = _
    rw [List.getD_eq_getElem?_getD, Array.getElem?_toList, Array.getD_eq_getD_getElem?, Array.getElem?_map, Array.getElem?_eq_getElem hi'] <;> rfl
theorem mt_but {P : Program} {w : World} {h h' : Heap} {k : List Key} {a b : Addr} {o : Obj} {es : Array (Int × Value)} {ep : Nat} {t : SetTable} (hb : MT P w h k b) (ho : h.get? a = some o) (hd : o.data = .set es ep t) (hs : Heap.SameBut a h h') : MT P w h' k b := by
  obtain ⟨o', items, n, ho', hc, hd', hi⟩ := hb
  refine ⟨o', items, n, (hs.2 b ?_).trans ho', hc, hd', hi⟩
  rintro rfl
  rw [Option.some.inj (ho'.symm.trans ho), hd] at hd'
  exact nomatch hd'
section
variable {P : Program} {w : World} {A : Around} {E : Value → Shared → Prop} {s : Shared} {a : Addr} {L : List PK} {es : Array (Int × Value)} {ep : Nat} {t : SetTable}
theorem laid_new {o : Obj} (ho : s.heap.get? a = some o) (hex : o.ExactSet) (hd : o.data = .set es ep t) (rows : es.toList.Perm (L.map (mrow P w))) (tab : TabOk t (es.toList.map (·.1))) (hfl : es.size ≤ t.mask)
    (tup : ∀ p ∈ L, MT P w s.heap p.2 p.1) (few : L.length < 13) {wanted M : Nat}
    (hw : SetTable.sizeAbove wanted - 1 = M) (hM : MaskOk M) (hw2 : SetTable.sizeAbove wanted ≤ 128) (hn : L.length * 5 < M * 3) {Q : Unit → Shared → Prop}
    (hQ : ∀ h' es' ep' t', Heap.SameBut a s.heap h' → SM P w h' a L es' ep' t' → Q () { s with heap := h' }) : wpAny (model P w) A (setRelay a wanted) Q E s := by
  have hsl : es.size = L.length := by
    have e := rows.length_eq
    rw [Array.length_toList, List.length_map] at e
    exact e
  obtain ⟨t', order, e, hp, T, em, _, _, _⟩ := relaid_ok t (hs := es.map (·.1)) (wanted := wanted) hw hM (by rw [Array.size_map, hsl]; omega)
  rw [Array.size_map] at hp
  obtain ⟨r1, r2⟩ := picked hp
  rw [← r2] at T
  have hs2 : (order.filterMap (es[·]?)).size = es.size := by
    have h := r1.length_eq
    rwa [Array.length_toList, Array.length_toList] at h
  rw [setRelay_eq]
  refine wpAny_bind (wpAny_setState_of ho hd (fits_of tab hfl) ?_)
  dsimp only
  refine wp_if_neg (by rw [sizeLine_eq]; omega) ?_
  try refine wpAny_bind (wpAny_pure ?_)
  rw [e]
  dsimp only
  refine wpAny_bind ?_
  refine wp_if_neg (by rw [hs2]; simp) ?_
  try refine wpAny_bind (wpAny_pure ?_)
  refine wpAny_pure ?_
  dsimp only
  refine wpAny_storeSet_of ho hd ?_ (by rw [hs2, hsl, sizeLine_eq]; omega)
  have sb : Heap.SameBut a s.heap (s.heap.update a (Obj.putSet (order.filterMap (es[·]?)) t')) := Heap.SameBut.update ..
  exact hQ _ (order.filterMap (es[·]?)) (ep + 1) t' sb ⟨⟨_, store_at ho hd, ⟨hex.1, hex.2.1, hex.2.2⟩, rfl⟩, r1.trans rows, T, fun p hpm => mt_but (tup p hpm) ho hd sb, by rw [em]; exact hn, few⟩
/-- adding a new tuple -/
theorem add_new (R : SM P w s.heap a L es ep t) {x : Addr} {k : List Key} (hx : MT P w s.heap k x) (hu : A.units < cLine) (hnew : ∀ p ∈ L, p.2 ≠ k) (hfew : L.length + 1 < 13) {Q : Bool → Shared → Prop}
    (hQ : ∀ b h' es' ep' t', Heap.SameBut a s.heap h' → SM P w h' a (L ++ [(x, k)]) es' ep' t' → Q b { s with heap := h' }) :
    wpAny (model P w) A (setAddHashed a (.ref x) (mh P w k)) Q E s := by
  obtain ⟨o, ho, hex, hd⟩ := R.ob
  have hsl := R.size
  have hroom := R.room
  have hlL : (L ++ [(x, k)]).length = L.length + 1 := by rw [List.length_append]; rfl
  unfold setAddHashed
  refine wpAny_holding ?_
  rw [show (100000 : Nat) = 99999 + 1 from rfl, setAddHashedIn_succ]
  refine wpAny_bind (wpAny_setState_of ho hd R.fits ?_)
  dsimp only
  refine wp_if_neg (by simp [byScan, Value.scannable]) ?_
  try refine wpAny_bind (wpAny_pure ?_)
  refine wpAny_bind (find_new_at R hx hu hnew fun K hK hb => ?_)
  dsimp only
  refine wpAny_bind (wpAny_setState_of ho hd R.fits ?_)
  dsimp only
  obtain ⟨q1, q2, q3, q4, _, _, _, _, q9⟩ := R.tab.put hK hb
  rw [List.length_map, Array.length_toList, hsl] at q9
  generalize t.put (way t.mask (mh P w k) K) = pt at q1 q3 q4 q9 ⊢
  obtain ⟨t1, p⟩ := pt
  dsimp only at q1 q3 q4 q9 ⊢
  subst q1
  generalize hpp : SetTable.below t.place (way t.mask (mh P w k) K) = p at q2 q3 ⊢
  have hin : (SetTable.insertAt es p (mh P w k, Value.ref x)).toList = es.toList.take p ++ (mh P w k, Value.ref x) :: es.toList.drop p := SetTable.toList_insertAt ..
  have hperm : (SetTable.insertAt es p (mh P w k, Value.ref x)).toList.Perm ((L ++ [(x, k)]).map (mrow P w)) := by
    rw [hin, List.map_append]
    refine (put_perm es.toList p _).trans ?_
    refine ((R.rows.cons _).trans ?_)
    exact (List.perm_append_singleton _ _).symm
  have htab : TabOk t1 ((SetTable.insertAt es p (mh P w k, Value.ref x)).toList.map (·.1)) := by
    rw [hin, List.map_append, List.map_cons, List.map_take, List.map_drop]
    exact q3
  have hes : (SetTable.insertAt es p (mh P w k, Value.ref x)).size = L.length + 1 := by
    have h := hperm.length_eq
    rw [Array.length_toList, List.length_map, hlL] at h
    exact h
  generalize SetTable.insertAt es p (mh P w k, Value.ref x) = es1 at hperm htab hes ⊢
  -- what comes after, for either answer of the small question
  have fin : ∀ t2 : SetTable, TabOk t2 (es1.toList.map (·.1)) → t2.mask = t.mask → t2.fill = L.length + 1 →
      wpAny (model P w) A (storeSet a es1 t2 >>= fun _ => (if (!false && t2.tooFull) = true then setRelay a (SetTable.grown (es.size + 1)) >>= fun _ => pure true else pure true)) Q E s := fun t2 T2 m2 f2 => by
    refine wpAny_bind (wpAny_storeSet_of ho hd ?_ (by rw [hes, sizeLine_eq]; omega))
    have sb : Heap.SameBut a s.heap (s.heap.update a (Obj.putSet es1 t2)) := Heap.SameBut.update ..
    have ho1 := store_at (es' := es1) (t' := t2) ho hd
    generalize s.heap.update a (Obj.putSet es1 t2) = h1 at sb ho1 ⊢
    have tup1 : ∀ p ∈ L ++ [(x, k)], MT P w h1 p.2 p.1 := fun p hp => by
      rcases List.mem_append.mp hp with hp | hp
      · exact mt_but (R.tup p hp) ho hd sb
      · rw [List.mem_singleton.mp hp]; exact mt_but hx ho hd sb
    by_cases hf : t2.tooFull = true
    · refine wp_if_pos (by simp [hf]) ?_
      have hfull : (L.length + 1) * 5 ≥ t2.mask * 3 := by
        have h := hf
        unfold SetTable.tooFull at h
        rw [decide_eq_true_eq, f2] at h
        exact h
      have h4 : L.length = 4 ∧ t.mask = 7 := by
        rw [m2] at hfull
        rcases R.tab.mok with e | e | e <;> rw [e] at hfull hroom
        · exact ⟨by omega, e⟩
        · exfalso; omega
        · exfalso; omega
      rw [hsl, h4.1]
      refine wpAny_bind (laid_new (M := 31) (s := { s with heap := h1 }) ho1 ⟨hex.1, hex.2.1, hex.2.2⟩ rfl hperm T2 (by rw [hes, m2]; omega) tup1 (by rw [hlL]; exact hfew) (by rw [size_20]) (.inr (.inl rfl)) (by rw [size_20]; decide) (by rw [hlL]; omega) ?_)
      exact fun h2 es2 ep2 t3 sb2 R2 => wpAny_pure (hQ true h2 es2 ep2 t3 (sb.trans sb2) R2)
    · refine wp_if_neg (by simp [hf]) ?_
      refine wpAny_pure (hQ true h1 es1 (ep + 1) t2 sb ⟨⟨_, ho1, ⟨hex.1, hex.2.1, hex.2.2⟩, rfl⟩, hperm, T2, tup1, ?_, by rw [hlL]; exact hfew⟩)
      have h := hf
      unfold SetTable.tooFull at h
      rw [decide_eq_true_eq, f2] at h
      rw [hlL]
      omega
  have f1 : ∀ q : Bool, ({ t1 with plain := q } : SetTable).fill = L.length + 1 := fun q => q9
  by_cases hpl : t1.plain = true
  · refine wp_if_pos hpl ?_
    refine wpAny_bind (byVal_mt hx fun q => ?_)
    cases q
    · exact fin { t1 with plain := false } (tabOk_plain htab false) q4 (f1 false)
    · exact fin t1 htab q4 q9
  · refine wp_if_neg hpl ?_
    refine wpAny_bind (wpAny_pure ?_)
    exact fin t1 htab q4 q9
end
end Nd
set_option Elab.async false
set_option linter.all false
set_option maxRecDepth 100000
set_option maxHeartbeats 3200000
namespace Nd
open PySem PySem.Spec PyProof.Rows L2
/-! ### set(xs), xs a list of such tuples, all different -/
theorem mt_keep {P : Program} {w : World} {h h' : Heap} {k : List Key} {b : Addr} (x : MT P w h k b) (hk : ∀ c o, h.get? c = some o → h'.get? c = some o) : MT P w h' k b := by
  obtain ⟨o, items, n, ho, r⟩ := x
  exact ⟨o, items, n, hk b o ho, r⟩
theorem SM.keep {P : Program} {w : World} {h h' : Heap} {a : Addr} {L : List PK} {es : Array (Int × Value)} {ep : Nat} {t : SetTable} (R : SM P w h a L es ep t) (ha : ∀ o, h.get? a = some o → h'.get? a = some o) (ht : ∀ p ∈ L, MT P w h' p.2 p.1) :
    SM P w h' a L es ep t := by
  obtain ⟨o, ho, r⟩ := R.ob
  exact ⟨⟨o, ha o ho, r⟩, R.rows, R.tab, ht, R.room, R.few⟩
theorem sm_fresh {P : Program} {w : World} {h : Heap} {a : Addr} {ld : Bool} (ho : h.get? a = some { cls := .type "set", dict := none, data := .set #[] 0 (.fresh 0 0 ld) }) : SM P w h a [] #[] 0 (.fresh 0 0 ld) where
  ob := ⟨_, ho, ⟨rfl, rfl, rfl⟩, rfl⟩
  rows := .refl _
  tab := ⟨List.Pairwise.nil, rfl, rfl, .inl rfl, fun x hx => (by cases hx), fun i h j hi => (by simp at hi)⟩
  tup := fun p hp => nomatch hp
  room := by show 0 * 5 < 7 * 3; decide
  few := by decide
section
variable {P : Program} {w : World} {A : Around} {E : Value → Shared → Prop} {s : Shared}
/-- the new one at i differs from those before it -/
theorem fresh_at {U : List PK} (nd : (U.map (·.2)).Nodup) {i : Nat} {p : PK} (h : U[i]? = some p) : ∀ q ∈ U.take i, q.2 ≠ p.2 := fun q hq e => by
  obtain ⟨j, hj, ej⟩ := List.getElem_of_mem hq
  rw [List.length_take] at hj
  rw [List.getElem_take] at ej
  obtain ⟨hi, ei⟩ := List.getElem?_eq_some_iff.mp h
  have hji : j < i := by omega
  have hjU : j < U.length := by omega
  have ne := List.pairwise_iff_getElem.mp nd j i (by rw [List.length_map]; exact hjU) (by rw [List.length_map]; exact hi) hji
  rw [List.getElem_map, List.getElem_map, ej, ei] at ne
  exact ne e
theorem upd_loop {I : Addr} {fp wr : List Addr} {G : Array GenState → Array GenState → Prop} {n : Nat} {Pv : Nat → Value → Prop} {St : Nat → Shared → Prop} {R : Result → Shared → Prop}
    (W : WalksS P w A.in1 I fp wr G n Pv St) (S : Addr) (hSf : S ∉ fp) (U : List PK) (hn : n = U.length) (hfew : U.length < 13) (nd : (U.map (·.2)).Nodup) (hval : ∀ i v, Pv i v → ∃ p, U[i]? = some p ∧ v = .ref p.1)
    (h0 : Heap) (hk : ∀ p ∈ U, MT P w h0 p.2 p.1) (hS0 : h0.get? S = none) (hw0 : ∀ b ∈ wr, h0.get? b = none) (hu : A.in1.units < cLine) :
    ∀ (k i : Nat) (s : Shared), n - i = k → i ≤ n → St i s → (∀ b o, h0.get? b = some o → s.heap.get? b = some o) → (∃ es ep t, SM P w s.heap S (U.take i) es ep t) →
      (∀ s' es ep t, Moved (S :: wr) G s s' → SM P w s'.heap S U es ep t → (∀ b o, h0.get? b = some o → s'.heap.get? b = some o) → R (.ok (.ret .none)) s') →
      codeAny (model P w) A (.builtin "set.update.loop" ⟨[.ref S, .ref I], []⟩) R s := by
  have hSw : S ∉ wr := fun h => hSf (W.sub _ h)
  have hsub : ∀ b ∈ wr, b ∈ S :: wr := fun b hb => List.mem_cons_of_mem _ hb
  have keepM : ∀ {s s' : Shared}, Moved wr G s s' → (∀ b o, h0.get? b = some o → s.heap.get? b = some o) → ∀ b o, h0.get? b = some o → s'.heap.get? b = some o := fun hm hkp b o e =>
    hm.heap b o (fun hb => by rw [hw0 b hb] at e; cases e) (hkp b o e)
  intro k
  induction k with
  | zero =>
    intro i s hk' hi hst hkp ⟨es, ep, t, hS⟩ hR
    obtain rfl : i = n := by omega
    rw [hn, List.take_length] at hS
    refine codeAny_builtin F.entry_set_update_loop ?_
    rw [Around.under_plainId F.plain_set_update_loop _]
    show wpAny _ A.in1 (pyNext (.ref I) >>= _) _ _ s
    refine wpAny_bind (W.done s _ _ hst fun s' hm => ?_)
    show wpAny _ A.in1 (ret Value.none) _ _ s'
    have hkp' := keepM hm hkp
    exact wpAny_pure (hR s' es ep t (hm.mono hsub) (hS.keep (fun o e => hm.heap S o hSw e) fun p hp => mt_keep (hk p hp) hkp') hkp')
  | succ k ih =>
    intro i s hk' hi hst hkp ⟨es, ep, t, hS⟩ hR
    have hlt : i < n := by omega
    refine codeAny_builtin F.entry_set_update_loop ?_
    rw [Around.under_plainId F.plain_set_update_loop _]
    show wpAny _ A.in1 (pyNext (.ref I) >>= _) _ _ s
    refine wpAny_bind (W.item i s _ _ hlt hst fun v s' hP hst' hm => ?_)
    obtain ⟨p, hp, rfl⟩ := hval i v hP
    have hkp' := keepM hm hkp
    have hS' : SM P w s'.heap S (U.take i) es ep t := hS.keep (fun o e => hm.heap S o hSw e) fun q hq => mt_keep (hk q (List.mem_of_mem_take hq)) hkp'
    have hx : MT P w s'.heap p.2 p.1 := mt_keep (hk p (List.mem_of_getElem? hp)) hkp'
    show wpAny _ A.in1 (holding [Value.ref p.1] (setAdd S (.ref p.1)) >>= _) _ _ s'
    refine wpAny_bind (wpAny_holding ?_)
    unfold setAdd
    refine wpAny_holding ?_
    refine wpAny_bind (wpAny_pyHash_tuple hu hx ?_)
    refine add_new (s := { s' with toks := s'.toks + (p.2.length + 1) }) hS' hx hu (fresh_at nd hp) (by rw [List.length_take]; omega) fun b h' es' ep' t' hsb hS2 => ?_
    rw [show ((p.1, p.2) : PK) = p from rfl, ← take_next hp] at hS2
    have hkp2 : ∀ b o, h0.get? b = some o → h'.get? b = some o := fun b o e => (hsb.2 b (fun z => by rw [z, hS0] at e; cases e)).trans (hkp' b o e)
    refine wpAny_pure ⟨plainId_quiet F.plain_set_update_loop _, ih (i + 1) _ (by omega) hlt (W.frame _ s' _ _ hst' (Nat.le_add_right _ _) fun b hb o e => ?_) hkp2 ⟨es', ep', t', hS2⟩ fun s'' es2 ep2 t2 hm'' hS'' hkp'' => ?_⟩
    · rw [hsb.2 b (fun h : b = S => hSf (by rw [← h]; exact hb))]; exact e
    · refine hR s'' es2 ep2 t2 (Moved.trans W.gtrans ((hm.mono hsub).then_heap (Nat.le_add_right _ _) fun b o hb e => ?_) hm'') hS'' hkp''
      rw [hsb.2 b (fun h : b = S => hb (by rw [h]; exact List.mem_cons_self))]; exact e
abbrev newSet (w : World) : Obj := { cls := .type "set", dict := none, data := .set #[] 0 (.fresh 0 0 (!w.params.followText "set-order")) }
theorem set_of_list {l : Addr} {items : Array Value} (U : List PK) {Q : Value → Shared → Prop} (hh : A.handled = none) (hl : s.heap.IsList l items) (hit : items.toList = U.map fun p => Value.ref p.1)
    (hk : ∀ p ∈ U, MT P w s.heap p.2 p.1) (nd : (U.map (·.2)).Nodup) (hfew : U.length < 13) (hu : A.units + 3 < cLine)
    (h : ∀ (h' : Heap) (tk : Nat) es ep t, SM P w h' s.heap.objs.size U es ep t → (∀ b o, s.heap.get? b = some o → h'.get? b = some o) → Q (.ref s.heap.objs.size) { s with heap := h', toks := tk }) :
    wpAny (model P w) A (call (.type "set") [.ref l]) Q E s := by
  have hisz : items.size = U.length := by
    have q := congrArg List.length hit
    rw [Array.length_toList, List.length_map] at q
    exact q
  obtain ⟨c, tl, hmro⟩ := F.called_set.mro
  have hmade := F.called_set.made
  have hsub := F.called_set.sub
  refine wpAny_call (codeAny_of_tree ?_)
  show wpAny _ _ (callAny (.type "set") _) _ _ _
  refine wpAny_pure ⟨Code.quiet_builtin _ (by decide +kernel), codeAny_builtin F.entry_type_call ?_⟩
  rw [Around.under_plain (weight_type_call_type "set" [.ref l] []) rfl]
  have h1 := F.called_set.notType
  have h2 := F.called_set.canCreate
  have hct := F.typeCall_set_1 (.ref l)
  repeat (any_goals (first | assumption | wp_step))
  refine codeAny_mono (code_set_led1 (.ref l) (E := E) (Q₁ := fun obj s₁ => obj = .ref s.heap.objs.size ∧ s₁ = { s with heap := s.heap.push (newSet w) }) ⟨rfl, rfl⟩) fun r s₁ hr => ?_
  cases r with
  | error e => exact hr
  | ok fl =>
    cases fl with
    | ret obj =>
      obtain ⟨rfl, rfl⟩ := hr
      have hS : (s.heap.push (newSet w)).get? s.heap.objs.size = some (newSet w) := Heap.get?_push_size _ rfl
      have hT : Shared.TypeIs { s with heap := s.heap.push (newSet w) } (.ref s.heap.objs.size) "set" := ⟨_, hS, rfl⟩
      have hli := F.called_set.init.lookup
      have hbi := F.called_set.init.bind (.ref s.heap.objs.size)
      repeat (any_goals (first | assumption | wp_step))
      refine codeAny_mono (codeAny_call_builtin (R := wants (fun r s₂ => r = .none ∧ ∃ h' tk es ep t, s₂ = { s with heap := h', toks := tk } ∧ SM P w h' s.heap.objs.size U es ep t ∧ (∀ b o, s.heap.get? b = some o → h'.get? b = some o)) E)
        F.called_set.init.plain F.entry_set_init (check_set_init_1 hT ?_)) fun r₂ s₂ hr₂ => ?_
      · obtain ⟨ol, hol, hcl, nl, hdl⟩ := hl
        obtain ⟨ocls, odict, odata, oslots⟩ := ol
        simp only at hcl hdl
        subst hcl; subst hdl
        have hol' : (s.heap.push (newSet w)).get? l = some { cls := .type "list", dict := odict, data := .seq items nl, slots := oslots } := Heap.get?_push_of_some _ hol
        have hsls := F.sub_list_set
        have hslf := F.sub_list_frozenset
        have hne : (Value.type "list" == Value.type "dict") = false := by decide
        have hl1 : (s.heap.push (newSet w)).IsList l items := ⟨_, hol', rfl, nl, rfl⟩
        unfold Builtin.«set.__init__» noKeywords Builtin.Frozenset.updateFrom
        generalize hPI : pyIter = PI
        wp_walk
        subst hPI
        refine wpAny_pyIter_list hl1 ?_
        refine wpAny_bind (wpAny_runValue ?_)
        have hlS : l < s.heap.objs.size := Heap.lt_size hol
        have hh3 : A.in1.in1.in1.handled = none := by simp [hh]
        have hneI : l ≠ (s.heap.push (newSet w)).objs.size := by
          rw [Heap.size_push]; exact Nat.ne_of_lt (Nat.lt_succ_of_lt hlS)
        have hSf : s.heap.objs.size ∉ [(s.heap.push (newSet w)).objs.size, l] := by
          rw [Heap.size_push]; simp only [List.mem_cons, List.mem_singleton, List.not_mem_nil, or_false, not_or]
          exact ⟨Nat.ne_of_lt (Nat.lt_succ_self _), Nat.ne_of_gt hlS⟩
        have hval : ∀ (i : Nat) (v : Value), items[i]? = some v → ∃ p, U[i]? = some p ∧ v = .ref p.1 := fun i v hv => by
          have q : items.toList[i]? = some v := by rw [Array.getElem?_toList]; exact hv
          rw [hit, List.getElem?_map] at q
          obtain ⟨p, hp, e⟩ := Option.map_eq_some_iff.mp q
          exact ⟨p, hp, e.symm⟩
        have none_of : ∀ b, s.heap.objs.size ≤ b → s.heap.get? b = none := fun b hb => by
          cases q : s.heap.get? b with
          | none => rfl
          | some o => exact absurd (Nat.lt_of_lt_of_le (Heap.lt_size q) hb) (Nat.lt_irrefl _)
        refine upd_loop ((Walks.list hh3 _ l hneI items).toS) s.heap.objs.size hSf U hisz hfew nd hval s.heap hk (none_of _ (Nat.le_refl _))
          (fun b hb => none_of b (by rw [List.mem_singleton.mp hb, Heap.size_push]; exact Nat.le_succ _)) hu (items.size - 0) 0 _ (by omega) (Nat.zero_le _)
          ⟨⟨_, Heap.get?_push_size _ rfl, rfl, rfl⟩, (hl1.push _)⟩ (fun b o e => Heap.get?_push_of_some _ (Heap.get?_push_of_some _ e)) ?_ ?_
        · exact ⟨#[], 0, _, sm_fresh (Heap.get?_push_of_some _ hS)⟩
        · rintro ⟨h', g2, d', tk', os'⟩ es ep t hm hS' hkp
          obtain rfl : g2 = s.gens := hm.gens
          obtain rfl : d' = s.drawn := hm.drawn
          obtain rfl : os' = s.os := hm.os
          show wpAny _ _ _ _ _ _
          refine wpAny_pure ?_
          show wpAny _ _ (ret Value.none) _ _ _
          exact wpAny_pure ⟨rfl, h', tk', es, ep, t, rfl, hS', hkp⟩
      · cases r₂ with
        | error e => exact hr₂
        | ok fl₂ =>
          cases fl₂ with
          | ret r =>
            obtain ⟨rfl, h', tk, es, ep, t, rfl, hS', hk'⟩ := hr₂
            repeat (any_goals (first | assumption | wp_step))
            exact h _ _ _ _ _ hS' hk'
          | _ => exact hr₂.elim
    | _ => exact hr.elim
end
end Nd
set_option Elab.async false
set_option linter.all false
set_option maxRecDepth 100000
set_option maxHeartbeats 2000000
namespace Nd
open PySem PySem.Spec PyProof.Rows L2
section
variable {X : Cx}
/-- len(set(xs)), xs a list of tuples of ints and texts, all different -/
def tLenSetM (K : PySem.W.Frag) (ta : TE) : TE := fun σ H Q => ta σ H fun x H1 => ∃ (l : Addr) (us : List PK), x = V.ref l ∧ H1 l = some (.lst (us.map fun p => V.ref p.1)) ∧ (∀ p ∈ us, SqT K H1 p.1 (p.2.map kV)) ∧ (us.map (·.2)).Nodup ∧ us.length < 13 ∧ Q (.int us.length) H1
theorem refs_of : ∀ {us : List PK} {its : List Value}, Vals (us.map fun p => V.ref p.1) its → its = us.map fun p => Value.ref p.1
  | [], _, .nil => rfl
  | p :: us, _, .cons r t => by rw [List.map_cons, ← refs_of t, show _ = Value.ref p.1 from r]
theorem pe_lenSetM {a : Expr} {ta : TE} {p p2 q pos : Pos} (hu : X.A.units + 3 < cLine) (hc : X.calm = true) (hg : Gl X "len") (hm : X.mg "len" = none) (hg2 : Gl X "set") (hm2 : X.mg "set" = none) (ha : PE X a ta)
    (na : starEach [a] X.env = (false, eval a X.env) :: starEach [] X.env := by rfl) : PE X (.Call (.Name "len" p) [.Call (.Name "set" p2) [a] [] q] [] pos) (tLenSetM X.K ta) := by
  refine ⟨fun pins s σ H Q I h => ?_⟩
  refine Call_ (ld_blt I hg hm PySem.boot_len ?_)
  refine PyProof.Rows.callWith_builtin1 (PyProof.Rows.args_cons ?_ rfl) rfl rfl
  refine Call_ (ld_blt I hg2 hm2 PyProof.Rows.boot_set ?_)
  refine PyProof.Rows.callWith_type1 (PyProof.Rows.args_cons (thn (ha.run pins s σ H _ I h) fun v s1 ⟨x, H1, I1, r1, q1⟩ => PyProof.Rows.args_nil ?_) na) na rfl
  obtain ⟨l, us, rfl, hl, hk, hnd, hn, q1⟩ := q1
  cases r1
  obtain ⟨its, r, pl, hz⟩ := I1.list (SqL.of hl)
  refine set_of_list us (I1.ok.hd hc) pl.isList (by rw [← refs_of r]) (fun p hp => ?_) hnd hn hu fun h' tk es ep t R hk' => ?_
  · obtain ⟨vs, r2, ⟨o, ho, hcl, n, hd⟩, _⟩ := I1.tuple (hk p hp)
    exact ⟨o, vs.toArray, n, ho, hcl, hd, items_are (by simpa using r2)⟩
  refine PyProof.Rows.args_nil ?_
  obtain ⟨o, ho, hex, hd⟩ := R.ob
  have I2 : Inv X pins σ H1 { s1 with heap := h', toks := tk } := I1.kept fun b o e => hk' b o e
  refine call_len_set ho hex hd R.fits (by rw [R.size]; omega) ⟨.int us.length, H1, I2.tok _, ⟨_, by rw [R.size]⟩, q1⟩
end
section
variable {P : Program} {w : World} {K : PySem.W.Frag} {mg : Str → Option Value} {base : Heap}
def slotK (z : Slot) : List Key := [.inr z.1, .inl z.2]
theorem slotK_inj {y z : Slot} (h : slotK y = slotK z) : y = z := by
  unfold slotK at h
  injection h with h1 h2
  injection h2 with h2 _
  exact Prod.ext (Sum.inr.inj h1) (Sum.inl.inj h2)
theorem slots_pk {H : Hp} : ∀ {xs : List V} {ss : List Slot}, TdAll K H xs (ss.map slotD) → ∃ us : List PK, xs = us.map (fun p => V.ref p.1) ∧ us.map (·.2) = ss.map slotK ∧ ∀ p ∈ us, SqT K H p.1 (p.2.map kV)
  | _, [], h => by
    cases h
    exact ⟨[], rfl, rfl, fun p hp => nomatch hp⟩
  | _, z :: ss, h => by
    cases h with
    | cons h t =>
      obtain ⟨us, e1, e2, e3⟩ := slots_pk t
      obtain ⟨a, rfl, ha⟩ := slot_inv h
      refine ⟨(a, slotK z) :: us, by rw [e1]; rfl, by rw [List.map_cons, List.map_cons, e2], fun p hp => ?_⟩
      rcases List.mem_cons.mp hp with e | hp
      · rw [e]
        exact ha.sq
      · exact e3 p hp
theorem sc_are_slots : FnScope ["thing", "item"] ["thing"] (defScope (top 29)) := ⟨rfl, rfl, rfl, by decide +kernel, rfl, by decide +kernel, by decide +kernel⟩
theorem ok_are_slots (T : Tx K mg) : Cal P w K mg base 4 "are_slots" (spAreSlots K) := by
  refine Cal.of (T.f ("are_slots", 29)) sc_are_slots (fun _ _ _ _ _ _ us hl => match us, hl with | [_], _ => rfl) (fun vs H Q E h => ?_) (fun f cdv A outer s H vs Q E hr h => ?_)
  · obtain ⟨l, xs, ss, rfl, _⟩ := h
    rfl
  · obtain ⟨l, xs, ss, rfl, hl, ht, ⟨l1, l12, hnd, hz⟩, k⟩ := h
    have nd := sc_are_slots.nd
    refine ⟨_, pss_cons (ps_if (PW.pt <| pw_or (pt_not (pt_val (pcl (ok_is_list T) hr (pa1 (pv 0))))) <| pw_or (pt_not (pt_chain op_le op_le pe_int (plen (T.z "len") (pv 0)) (pcon (T.i ("MOST_SLOTS", 12))))) <| pw_or1 <| pt_not <| pt_val <| pall (T.z "all") rfl <|
        pe_lc (own := [("item", 1)]) (g := gName 1) (tt := tYes) rfl nd (pi_list (pv 0)) (blkOk_by (N := ["thing", "item"]) (sc := defScope (top 29)) (by decide +kernel)) (fun _ _ _ _ _ => pgn 1 nd) (fun _ _ _ _ _ => pts_nil) (fun _ _ _ _ _ => pcl (ok_is_slot T) hr (pa1 (pv 1)))) pss_never pss_nil) <|
      pss_one <| ps_ret <| pe_cmpR op_eq (pe_lenSetM (Nat.lt_of_le_of_lt (Nat.add_le_add_left (show 3 ≤ 64 by decide) _) hr.units) rfl rfl (T.z "len") rfl (T.z "set") (pv 0)) (plen (T.z "len") (pv 0)) (nomark _), ?_⟩
    have hx : xs.length = ss.length := by rw [ht.len, List.length_map]
    refine ⟨_, rfl, l, xs, rfl, hl, fun H1 s1 => ⟨true, rfl, iteF ?_⟩⟩
    refine ⟨_, rfl, _, xs.length, rfl, .inl ⟨_, SqL.of (s1 _ _ hl), rfl⟩, _, _, rfl, rfl, _, rfl, iteD (by omega) ⟨_, _, rfl, rfl, _, rfl, ?_⟩⟩
    refine iteBF (by simp; omega) ?_
    refine ⟨_, rfl, l, rfl, ⟨xs, SqL.of (s1 _ _ hl)⟩, fun D hD => ?_⟩
    refine lc_go walk_list hD (fun i acc _ => acc = List.replicate i (V.bl true)) (fun _ _ _ _ _ h => h) rfl (fun H2 s => SqL.of ((s1.trans s) _ _ hl)) (by rw [hx]; exact Nat.lt_of_le_of_lt l12 (by decide)) (fun i x acc H2 H3 Fy Fn hi s e y ky kn => ?_) (fun H2 acc s hd' e => ?_)
    · obtain ⟨rfl, hxi⟩ := y
      obtain ⟨z, hz', tz⟩ := ht.map_at hxi
      obtain ⟨z1, z2, z3⟩ := hz z (List.mem_of_getElem? hz')
      refine ⟨rfl, lcY ⟨_, rfl, _, z, rfl, tz.keep (TK.of (s1.trans s)), z1, z2, z3, fun H4 s4 => ?_⟩⟩
      refine ky _ _ s4 ?_
      rw [e, List.replicate_succ']
    · have s2 : Same H H2 := s1.trans s
      refine ⟨D, List.replicate xs.length true, rfl, SqL.of (by rw [hd', e, List.map_replicate]), true, (by simp), iteF ?_⟩
      obtain ⟨us, e1, e2, e3⟩ := slots_pk (ht.keep (TK.of s2))
      have eu : us.length = ss.length := by
        have h := congrArg List.length e2
        rwa [List.length_map, List.length_map] at h
      refine ⟨_, rfl, l, us, rfl, by rw [s2 _ _ hl, e1], e3, ?_, by omega, ?_⟩
      · rw [e2]
        exact List.Pairwise.map _ (fun a b ne e => ne (slotK_inj e)) hnd
      · refine ⟨_, rfl, _, xs.length, rfl, .inl ⟨_, SqL.of (s2 _ _ hl), rfl⟩, ?_⟩
        have en : (V.int us.length) = V.int xs.length := by rw [eu, hx]
        show rEq (V.int us.length) (V.int xs.length) H2 Q
        rw [en]
        refine ⟨rfl, ?_⟩
        rw [decide_eq_true rfl]
        exact k _ s2
end
end Nd
set_option Elab.async false
set_option linter.all false
set_option maxRecDepth 100000
set_option maxHeartbeats 0
namespace Nd
open PySem PySem.Spec PyProof.Rows L2
/-! ## the head: what it tells -/
def inits : List He.DefD := [⟨("Pack", some "__init__"), "__init__", "Pack.__init__", defArgs (inClass (top 31) 0), defBody (inClass (top 31) 0), defScope (inClass (top 31) 0), [.non, .non], []⟩,
  ⟨("Plan", some "__init__"), "__init__", "Plan.__init__", defArgs (inClass (top 35) 0), defBody (inClass (top 35) 0), defScope (inClass (top 35) 0), [], []⟩,
  ⟨("Drawn", some "__init__"), "__init__", "Drawn.__init__", defArgs (inClass (top 63) 0), defBody (inClass (top 63) 0), defScope (inClass (top 63) 0), [], []⟩]
def defL : List He.DefD := inits ++ fnL.map fun p => ⟨(p.1, none), p.1, p.1, defArgs (top p.2), defBody (top p.2), defScope (top p.2), [], []⟩
def faL : List He.Fa := fnL.map (fun p => He.Fa.glo p.1) ++ (["PAY", "NIGHT", "Pack", "Plan", "Drawn"] : List Str).map He.Fa.glo ++ freeL.map He.Fa.free ++ intL.map (fun p => He.Fa.int p.1 p.2) ++ [He.Fa.str "LETTERS" letters] ++
  (["Pack", "Plan", "Drawn"] : List Str).map He.Fa.cls ++ (["Pack", "Plan", "Drawn"] : List Str).map He.Fa.mkr ++ attrP.map (He.Fa.noat "Pack") ++ attrL.map (He.Fa.noat "Plan") ++ attrD.map (He.Fa.noat "Drawn")
/-- what isinstance asks of an instance's class -/
def tyB (K : PySem.W.Frag) (x : Str) : Bool := He.eqO (PySem.W.findIn K (.ref (He.ga K x)) "__class__") (some (some (.builtin "object.__class__"))) && (He.eqO (PySem.W.specialIn K (.builtin "object.__class__") "__get__") (some (some (.builtin "getset_descriptor.__get__"))) &&
  (decide (PySem.W.takesIn K (.builtin "object.__class__") = some true) && decide (PySem.W.mroIn K (He.ga K x) (.type "object") = some true)))
/-- a property: its object, its getter -/
def getA (K : PySem.W.Frag) (C x : Str) : Addr := match PySem.W.recIn K (He.ma K (He.ga K C) x) "property" with
  | some (.ref g :: _) => g
  | _ => 0
def recB (K : PySem.W.Frag) (C x : Str) : Bool := match PySem.W.recIn K (He.ma K (He.ga K C) x) "property" with
  | some (.ref _ :: _) => true
  | _ => false
def proB (K : PySem.W.Frag) (C x : Str) : Bool := He.eqO (PySem.W.findIn K (.ref (He.ga K C)) x) (some (some (.ref (He.ma K (He.ga K C) x)))) && (He.eqO (PySem.W.specialIn K (.ref (He.ma K (He.ga K C) x)) "__get__") (some (some (.builtin "property.__get__"))) &&
  (decide (PySem.W.takesIn K (.ref (He.ma K (He.ga K C) x)) = some true) && recB K C x))
/-- one property's def: class, name, qualified name, the def -/
structure GetD where
  C : Str
  x : Str
  qual : Str
  st : Stmt
def getL : List GetD := [⟨"Pack", "last", "Pack.last", inClass (top 31) 5⟩, ⟨"Plan", "prices", "Plan.prices", inClass (top 35) 1⟩, ⟨"Plan", "days", "Plan.days", inClass (top 35) 2⟩, ⟨"Plan", "packs", "Plan.packs", inClass (top 35) 3⟩, ⟨"Plan", "names", "Plan.names", inClass (top 35) 5⟩]
def getW (K : PySem.W.Frag) (d : GetD) : He.FnW := match K.lookup (getA K d.C d.x) with
  | some ⟨_, _, .func fd, _⟩ => some (fd.name, fd.qualname, fd.params, fd.body, fd.scope, fd.globals, fd.closure, fd.builtins)
  | _ => none
def GetD.val (d : GetD) : He.FnW := some (d.x, d.qual, defArgs d.st, .stmts (defBody d.st), defScope d.st, mainGlobals, [], builtinsNs)
def GetD.ok (K : PySem.W.Frag) (d : GetD) : Bool := PySem.W.keepIn K (.ref (getA K d.C d.x)) && (proB K d.C d.x && (match K.lookup (getA K d.C d.x) with
  | some ⟨_, _, .func fd, _⟩ => PySem.W.codeIn K fd.code d.qual && (He.dflB K fd.defaults [] && He.kwdB K fd.kwdefaults [])
  | _ => false))
theorem GetD.has {K : PySem.W.Frag} {d : GetD} (e : getW K d = d.val) (c : d.ok K = true) : HasP K (He.ga K d.C) d.x d.qual d.st := by
  obtain ⟨kp, c⟩ := He.ba c
  obtain ⟨pr, c2⟩ := He.ba c
  obtain ⟨p1, pr⟩ := He.ba pr
  obtain ⟨p2, pr⟩ := He.ba pr
  obtain ⟨p3, p4⟩ := He.ba pr
  have rec_ : ∃ rest, PySem.W.recIn K (He.ma K (He.ga K d.C) d.x) "property" = some (.ref (getA K d.C d.x) :: rest) := by
    unfold recB at p4
    unfold getA
    split at p4
    · rename_i g rest q
      rw [q]
      exact ⟨rest, rfl⟩
    · cases p4
  refine ⟨He.ma K (He.ga K d.C) d.x, getA K d.C d.x, ?_⟩
  unfold getW at e
  cases q : K.lookup (getA K d.C d.x) with
  | none =>
    rw [q] at c2
    cases c2
  | some o =>
    obtain ⟨oc, od, dt, osl⟩ := o
    rw [q] at c2 e
    cases dt with
    | func fd =>
      obtain ⟨n1, n2, n3, n4, n5, n6, n7, n8, n9, n10, n11, n12, n13, n14, n15⟩ := fd
      have e2 : (some (n1, n2, n3, n4, n5, n6, n7, n15) : He.FnW) = some (d.x, d.qual, defArgs d.st, .stmts (defBody d.st), defScope d.st, mainGlobals, [], builtinsNs) := e
      simp only [Option.some.injEq, Prod.mk.injEq] at e2
      obtain ⟨h1, h2, h3, h4, h5, h6, h7, h8⟩ := e2
      subst h1 h2 h3 h4 h5 h6 h7 h8
      have c3 : (PySem.W.codeIn K n13 d.qual && (He.dflB K n8 [] && He.kwdB K n9 [])) = true := c2
      obtain ⟨k1, k2⟩ := He.ba c3
      obtain ⟨k3, k4⟩ := He.ba k2
      exact ⟨_, ⟨He.eqO_ok p1, He.eqO_ok p2, of_decide_eq_true p3, rec_⟩, ⟨oc, od, n8, n9, n10, n11, n12, n13, n14, osl, rfl, q, k1, He.dflB_ok k3, He.kwdB_ok k4⟩, kp⟩
    | _ => cases c2
def moreB (K : PySem.W.Frag) : Bool := He.tupB K "PAY" [.str "pay"] && (He.tupB K "NIGHT" [.str "night"] && ((["Pack", "Plan", "Drawn"] : List Str).all (tyB K) && getL.all fun d => d.ok K))
abbrev AlN : Type := He.AlD × (Bool × List He.FnW)
def obsN (K : PySem.W.Frag) : AlN := (He.obsD faL defL K, (moreB K, getL.map (getW K)))
def valN : AlN := (He.valD defL, (true, getL.map GetD.val))
/-- what an object names, as far as the end asks: a def's code and defaults, a class's names, a property's getter -/
def refsK (o : Obj) : List Addr := match o.data with
  | .func fd => He.refV fd.code ++ He.refV fd.defaults
  | .cls cd => [cd.ns]
  | .dict es _ => es.toList.flatMap fun e => He.refV e.val
  | .fields vs => (match o.cls with
    | .type n => if n == "property" then vs.toList.flatMap He.refV else []
    | _ => [])
  | _ => []
def nextK (g : Addr → Option Obj) (as : List Addr) : List Addr := as.flatMap fun a => match g a with
  | some o => refsK o
  | none => []
def layK (g : Addr → Option Obj) : Nat → List Addr → List Addr
  | 0, as => as
  | n + 1, as => as ++ layK g n (nextK g as)
def obsNG (g : Addr → Option Obj) : AlN := obsN (He.frG g (layK g 5 [mainGlobals]))
def hookN : PySem.W.Hook where
  α := AlN
  obs := fun s => obsNG s.heap.get?
  val := fun _ => valN
  says := fun _ h => ∃ K : PySem.W.Frag, K.In h ∧ obsN K = valN
  of := fun _ _ e => ⟨_, He.frG_in, e⟩
  keeps := fun _ _ _ ⟨K, hK, c⟩ k => ⟨K, PySem.W.Frag.In.keeps hK k, c⟩
theorem obsNG_eq {g : Addr → Option Obj} {s : Shared} (h : ∀ a, g a = s.heap.get? a) : obsNG g = hookN.obs s := by
  have e : g = s.heap.get? := funext h
  rw [e] <;> rfl
end Nd
set_option Elab.async false
set_option linter.all false
set_option maxRecDepth 100000
set_option maxHeartbeats 0
namespace Nd
open PySem PySem.Spec PyProof.Rows L2
theorem in_of {α : Type} {a : α} {l m : List α} (h : a ∈ l) : a ∈ l ++ m := List.mem_append_left _ h
theorem fa_mem1 {p : Str × Nat} (h : p ∈ fnL) : He.Fa.glo p.1 ∈ faL := by
  unfold faL
  exact in_of <| in_of <| in_of <| in_of <| in_of <| in_of <| in_of <| in_of <| in_of <| List.mem_map.mpr ⟨p, h, rfl⟩
theorem fa_mem2 {x : Str} (h : x ∈ (["PAY", "NIGHT", "Pack", "Plan", "Drawn"] : List Str)) : He.Fa.glo x ∈ faL := by
  unfold faL
  exact in_of <| in_of <| in_of <| in_of <| in_of <| in_of <| in_of <| in_of <| List.mem_append_right _ <| List.mem_map.mpr ⟨x, h, rfl⟩
theorem fa_mem3 {x : Str} (h : x ∈ freeL) : He.Fa.free x ∈ faL := by
  unfold faL
  exact in_of <| in_of <| in_of <| in_of <| in_of <| in_of <| in_of <| List.mem_append_right _ <| List.mem_map.mpr ⟨x, h, rfl⟩
theorem fa_mem4 {p : Str × Int} (h : p ∈ intL) : He.Fa.int p.1 p.2 ∈ faL := by
  unfold faL
  exact in_of <| in_of <| in_of <| in_of <| in_of <| in_of <| List.mem_append_right _ <| List.mem_map.mpr ⟨p, h, rfl⟩
theorem fa_mem5 : He.Fa.str "LETTERS" letters ∈ faL := by
  unfold faL
  exact in_of <| in_of <| in_of <| in_of <| in_of <| List.mem_append_right _ <| List.mem_singleton.mpr rfl
theorem fa_mem6 {x : Str} (h : x ∈ (["Pack", "Plan", "Drawn"] : List Str)) : He.Fa.cls x ∈ faL := by
  unfold faL
  exact in_of <| in_of <| in_of <| in_of <| List.mem_append_right _ <| List.mem_map.mpr ⟨x, h, rfl⟩
theorem fa_mem7 {x : Str} (h : x ∈ (["Pack", "Plan", "Drawn"] : List Str)) : He.Fa.mkr x ∈ faL := by
  unfold faL
  exact in_of <| in_of <| in_of <| List.mem_append_right _ <| List.mem_map.mpr ⟨x, h, rfl⟩
theorem fa_mem8 {f : Str} (h : f ∈ attrP) : He.Fa.noat "Pack" f ∈ faL := by
  unfold faL
  exact in_of <| in_of <| List.mem_append_right _ <| List.mem_map.mpr ⟨f, h, rfl⟩
theorem fa_mem9 {f : Str} (h : f ∈ attrL) : He.Fa.noat "Plan" f ∈ faL := by
  unfold faL
  exact in_of <| List.mem_append_right _ <| List.mem_map.mpr ⟨f, h, rfl⟩
theorem fa_mem10 {f : Str} (h : f ∈ attrD) : He.Fa.noat "Drawn" f ∈ faL := by
  unfold faL
  exact List.mem_append_right _ <| List.mem_map.mpr ⟨f, h, rfl⟩
section
variable {K : PySem.W.Frag} {h : Heap} {mg : Str → Option Value}
theorem fact_of (c : He.SaysD faL defL K) {f : He.Fa} (hf : f ∈ faL) : f.ok K = true := by
  obtain ⟨i, hi, e⟩ := List.mem_iff_getElem.mp hf
  exact c.fact i (f := f) (by rw [List.getElem?_eq_getElem hi, e])
theorem def_of (c : He.SaysD faL defL K) {d : He.DefD} (hd : d ∈ defL) : ∃ fd, FunD K d.name d.qual d.params d.body d.scope (d.dvs K) (d.kws K) (He.fAd K d.at_) fd := by
  obtain ⟨i, hi, e⟩ := List.mem_iff_getElem.mp hd
  exact c.def_ i (d := d) (by rw [List.getElem?_eq_getElem hi, e])
theorem cls_of (X : K.In h) (G : h.Ns mainGlobals mg) (c : He.SaysD faL defL K) {x : Str} {fs : List Str} (hx : x ∈ (["Pack", "Plan", "Drawn"] : List Str)) (ht : tyB K x = true) (hn : ∀ f ∈ fs, He.Fa.noat x f ∈ faL) : ClsT K mg x (He.ga K x) fs := by
  obtain ⟨t1, ht⟩ := He.ba ht
  obtain ⟨t2, ht⟩ := He.ba ht
  obtain ⟨t3, t4⟩ := He.ba ht
  have cl : Cls K (He.ga K x) := He.cls_ok (fact_of c (fa_mem6 hx))
  exact ⟨cl, He.glo_ok X G (fact_of c (fa_mem2 (List.mem_cons_of_mem _ (List.mem_cons_of_mem _ hx)))), fun H a dx fs e => .ins e cl (He.eqO_ok t1) (He.eqO_ok t2) (of_decide_eq_true t3) (of_decide_eq_true t4), fun f hf => He.noat_ok (fact_of c (hn f hf))⟩
theorem init_of (c : He.SaysD faL defL K) {x : Str} {d : He.DefD} (hx : x ∈ (["Pack", "Plan", "Drawn"] : List Str)) (hd : d ∈ inits) (ha : d.at_ = (x, some ("__init__" : Str))) (hn : d.name = "__init__") (hk : d.kwd = []) {qual : Str} {st : Stmt} {dvs : List V} (hq : d.qual = qual) (h1 : d.params = defArgs st) (h2 : d.body = defBody st) (h3 : d.scope = defScope st) (h4 : d.dvs K = dvs) :
    HasI K (He.ga K x) qual st dvs := by
  obtain ⟨fd, F⟩ := def_of c (d := d) (by unfold defL; exact in_of hd)
  have hk2 : d.kws K = [] := by unfold He.DefD.kws; rw [hk] <;> rfl
  rw [hn, hq, h1, h2, h3, h4, hk2, ha] at F
  exact ⟨_, fd, He.mkr_ok (fact_of c (fa_mem7 hx)), F⟩
theorem tx_of (X : K.In h) (G : h.Ns mainGlobals mg) (e : obsN K = valN) : Tx K mg := by
  have c : He.SaysD faL defL K := congrArg (fun z : AlN => z.1) e
  have m : moreB K = true := congrArg (fun z : AlN => z.2.1) e
  have g : getL.map (getW K) = getL.map GetD.val := congrArg (fun z : AlN => z.2.2) e
  obtain ⟨mp, m⟩ := He.ba m
  obtain ⟨mn, m⟩ := He.ba m
  obtain ⟨mt, mg'⟩ := He.ba m
  have ty : ∀ x ∈ (["Pack", "Plan", "Drawn"] : List Str), tyB K x = true := fun x hx => List.all_eq_true.mp mt x hx
  have pr : ∀ (i : Nat) (d : GetD), getL[i]? = some d → HasP K (He.ga K d.C) d.x d.qual d.st := fun i d hi => by
    have e2 : (getL.map (getW K))[i]? = (getL.map GetD.val)[i]? := by rw [g]
    rw [List.getElem?_map, List.getElem?_map, hi] at e2
    exact GetD.has (Option.some.inj e2) (List.all_eq_true.mp mg' d (List.mem_of_getElem? hi))
  exact {
    fn := fun p hp => by
      obtain ⟨fd, F⟩ := def_of c (d := ⟨(p.1, none), p.1, p.1, defArgs (top p.2), defBody (top p.2), defScope (top p.2), [], []⟩) (by unfold defL; exact List.mem_append_right _ (List.mem_map.mpr ⟨p, hp, rfl⟩))
      exact ⟨_, fd, F, He.glo_ok X G (fact_of c (fa_mem1 hp))⟩
    free := fun x hx => He.free_ok X G (fact_of c (fa_mem3 hx))
    int := fun p hp => by
      obtain ⟨t, e⟩ := He.int_ok X G (fact_of c (fa_mem4 hp))
      exact ⟨_, e, t, rfl⟩
    let_ := by
      obtain ⟨t, e⟩ := He.str_ok X G (fact_of c fa_mem5)
      exact ⟨_, e, t, rfl⟩
    pay := ⟨_, He.glo_ok X G (fact_of c (fa_mem2 (by simp))), fun H => He.tupB_ok mp H⟩
    night := ⟨_, He.glo_ok X G (fact_of c (fa_mem2 (by simp))), fun H => He.tupB_ok mn H⟩
    P := cls_of X G c (by simp) (ty _ (by simp)) fun f hf => fa_mem8 hf
    L := cls_of X G c (by simp) (ty _ (by simp)) fun f hf => fa_mem9 hf
    D := cls_of X G c (by simp) (ty _ (by simp)) fun f hf => fa_mem10 hf
    iP := init_of c (by simp) (List.mem_cons_self) rfl rfl rfl rfl rfl rfl rfl rfl
    iL := init_of c (by simp) (List.mem_cons_of_mem _ List.mem_cons_self) rfl rfl rfl rfl rfl rfl rfl rfl
    iD := init_of c (by simp) (List.mem_cons_of_mem _ (List.mem_cons_of_mem _ List.mem_cons_self)) rfl rfl rfl rfl rfl rfl rfl rfl
    pLast := pr 0 _ rfl
    pPrices := pr 1 _ rfl
    pDays := pr 2 _ rfl
    pPacks := pr 3 _ rfl
    pNames := pr 4 _ rfl }
end
end Nd
set_option Elab.async false
set_option linter.all false
set_option maxRecDepth 100000
set_option maxHeartbeats 0
namespace Nd
open PySem PySem.W PySem.Calls PyProof.Rows
abbrev RR : OpenRow := OpenLaw.row PySem.Challenge.rw_narrowdraws_k11_whole_units_kept
abbrev qv : Program := view RR.prog [89]
def names1 : List PySem.Str := ["_wall", "PackError", "BadPack", "BadPlan", "BadFit", "TooMany", "NoCell", "BadState", "NoNight", "BadOrder", "BadChoice", "BadDeed", "LETTERS", "LONGEST_NAME", "MOST_CELLS", "MOST_DAYS", "MOST_PACKS", "MOST_SLOTS", "MOST_AMOUNT", "MOST_UNITS", "MOST_PRICE", "MOST_COST", "is_number", "is_within", "is_list", "is_name", "is_slot", "are_slots", "is_roll", "Pack"]
def names2 : List PySem.Str := ["are_prices", "are_packs", "does_fit", "Plan", "need_plan", "start_of", "start", "are_rests", "is_state", "need_state", "rolled", "night_behind", "night", "lost_at", "lost", "PAY", "NIGHT", "is_order", "need_order", "need_cell", "covering", "can_buy", "choices_of", "choice_of", "taken_of", "is_choice", "taken"]
def names3 : List PySem.Str := ["is_deed", "can_do", "need_deeds", "Drawn", "drawn", "along", "paid", "behind", "wasted", "_law_begun", "_law_mixed", "_law_take", "_law_pick", "_law_any_of", "_law_shuffled", "_law_names", "_law_all_spots", "_law_spots", "_law_last", "_law_flows", "_law_sheet", "_law_plan", "_law_wares", "_law_kinds", "_law_ranks", "_law_acts", "_law_walked", "_law_is_kept"]
def names : List PySem.Str := names1 ++ (names2 ++ names3)
def obR (s : SharedT) : AlN := obsNG (HandSHeadRun.getT s)
theorem obR_eq (s : SharedT) : obR s = hookN.obs s.abs := obsNG_eq (HandSHeadRun.getT_eq s)
theorem run (w : World) : HandSHeadRun.RunEq RR qv hookN obR 8000 names w := by
  intro os
  kernel_rfl
end Nd
set_option Elab.async false
set_option linter.all false
set_option maxRecDepth 100000
set_option maxHeartbeats 0
open PySem PySem.W PySem.Calls PyProof.Rows
theorem PySem.Challenge.cw_narrowdraws_k11_whole_units_kept_holds : PySem.Challenge.rw_narrowdraws_k11_whole_units_kept.Holds := by
  w_on; o_law
  refine HandSHeadRun.head_any (r := OpenLaw.row PySem.Challenge.rw_narrowdraws_k11_whole_units_kept) (q := view (OpenLaw.row PySem.Challenge.rw_narrowdraws_k11_whole_units_kept).prog [89]) (H := Nd.hookN) (ob := Nd.obR) (M := 8000) (loose := Nd.names) (d := HandSHeadRun.topDef (OpenLaw.row PySem.Challenge.rw_narrowdraws_k11_whole_units_kept).prog 89) (kwd := []) Nd.obR_eq
    (by kernel_rfl) (fun s => by kernel_rfl) Nd.run (by kernel_rfl) (by kernel_rfl) (by kernel_rfl) (by rfl) (by first | assumption | decide +kernel) (by decide +kernel) ⟨rfl, rfl, rfl, rfl, rfl, by decide +kernel⟩ ?hw ?hc
  case hw => w_witness2
  case hc =>
    refine L2.walk_ofE (l := PySem.Challenge.rw_narrowdraws_k11_whole_units_kept) (n := 63) (k := 8) (x := "_law_script") (CX := L2.CX0) rfl (by decide) (by kernel_rfl) ⟨rfl, by decide, by decide⟩ ?F (fun _ _ _ _ z => z)
    intro w mg fa h Y G hmg0
    obtain ⟨K, KX, c⟩ := Y
    have hmg : mg ("law" : PySem.Str) = some (.ref fa) := by
      have e : (HandSHeadRun.topDef (OpenLaw.row PySem.Challenge.rw_narrowdraws_k11_whole_units_kept).prog 89).name = ("law" : PySem.Str) := by kernel_rfl
      rw [← e]
      exact hmg0
    obtain ⟨f, fd, F, hf⟩ := (Nd.tx_of KX G c).f ("law", 89)
    have hfa : f = fa := Value.ref.inj (Option.some.inj (hf.symm.trans hmg))
    subst hfa
    have b := L2.FunD.bindsA (ps := ["_law_script"]) F fun _ _ _ _ _ _ us hl => match us, hl with | [_], _ => rfl
    refine ⟨K, fd, Nd.spLaw K, KX, fun s v => b s [v] rfl, fun H a ns hl _ hS => ⟨a, ns, rfl, hS, Nat.le_trans hl (by decide), fun _ => rfl⟩, fun base hK hG => ?_⟩
    have T : Nd.Tx K mg := Nd.tx_of hK hG c
    exact Nd.ok_law T (Nd.ok_are_slots T) F
