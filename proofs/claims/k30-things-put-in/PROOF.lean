import PyProof.Rows.All
import Wide.All
import OpenK.AllK
import Wide.FinOn
import HandS.ForMost
import HandS.EndBits
import HandS.IsInst
import HandS.ClsMeth
import HandS.Strs
import HandS.Conv
import HandS.NoneIn
import HandS.CallRecv
import HandS.Wide
import HandS.Walk
import PySem.Challenge.RW_heapsafe_k30_things_put_in
set_option Elab.async false
set_option linter.all false
set_option maxRecDepth 100000
set_option maxHeartbeats 4000000
/-! Common ground: the text by places, calls in short, heaps, things, the memory, what a shape is. -/
namespace Hk
open PySem L2

/-! ### the text by places -/
def top (i : Nat) : Stmt := PySem.Challenge.pw_heapsafe_k30_things_put_in.main.body.getD i (.Pass ⟨0, 0, 0, 0⟩)
abbrev sHeader : Stmt := top 2
abbrev sKindIn : Stmt := top 3
abbrev sSizeIn : Stmt := top 4
abbrev sIsMarked : Stmt := top 5
abbrev sHasWords : Stmt := top 6
abbrev sRInit : Stmt := inClass (top 8) 0
abbrev sGapIn : Stmt := inClass (top 8) 1
abbrev sGap : Stmt := inClass (top 8) 2
abbrev sFillIn : Stmt := inClass (top 8) 3
abbrev sRead : Stmt := inClass (top 8) 5
abbrev sTInit : Stmt := inClass (top 12) 0
abbrev sTSort : Stmt := inClass (top 12) 1
abbrev sTFields : Stmt := inClass (top 12) 2
abbrev sTWords : Stmt := inClass (top 12) 5
abbrev sPInit : Stmt := inClass (top 13) 0
abbrev sPSort : Stmt := inClass (top 13) 1
abbrev sPWords : Stmt := inClass (top 13) 3
abbrev sQSort : Stmt := inClass (top 14) 0
abbrev sPlain : Stmt := top 15
abbrev sWeak : Stmt := top 16
abbrev sPair : Stmt := top 17
abbrev sMadeOf : Stmt := top 18
abbrev sWordsCell : Stmt := top 21
abbrev sLaid : Stmt := top 22
abbrev sMInit : Stmt := inClass (top 23) 0
abbrev sPutIn : Stmt := inClass (top 23) 3
abbrev sSizeAt : Stmt := inClass (top 23) 4
abbrev sSerialAt : Stmt := inClass (top 23) 5
abbrev sSortAt : Stmt := inClass (top 23) 6
abbrev sFirst : Stmt := inClass (top 23) 7
abbrev sThingAt : Stmt := inClass (top 23) 8
abbrev sMarkedAt : Stmt := inClass (top 23) 9
abbrev sCellAt : Stmt := top 25
abbrev sDrawn : Stmt := top 26
abbrev sValue : Stmt := top 27
abbrev sShape : Stmt := top 28
abbrev sThing : Stmt := top 29
abbrev sSize : Stmt := top 30
abbrev sWhole : Stmt := top 31
abbrev sHeld : Stmt := top 32
abbrev sLaw : Stmt := top 33

/-! ### one of two readings of the same expression -/
theorem pe_either {X : Cx} {e : Expr} {t u : TE} (h : PE X e t) (h' : PE X e u) : PE X e (fun σ H Q => t σ H Q ∨ u σ H Q) :=
  ⟨fun pins s σ H Q I q => q.elim (h.run pins s σ H Q I) (h'.run pins s σ H Q I)⟩

/-! ### calls in short -/
structure GFn (P : Program) (w : World) (K : PySem.W.Frag) (mg : Str → Option Value) (base : Heap) (k : Nat) (x : Str) (ps : List Str) (sp : Sp) (f : Addr) (fd : FuncData) : Prop where
  g : mg x = some (.ref f)
  ok : FnOk P w K mg base CX0 k f fd ps sp
  b : Binds K fd ps []
  kp : PySem.W.keepIn K (.ref f) = true
structure GMt (P : Program) (w : World) (K : PySem.W.Frag) (mg : Str → Option Value) (base : Heap) (k : Nat) (C : Addr) (m : Str) (ps : List Str) (sp : Sp) (f : Addr) (fd : FuncData) : Prop where
  cl : Cls K C
  mt : Meth K C m f
  ok : FnOk P w K mg base CX0 k f fd ps sp
  b : Binds K fd ps []
structure GMk (P : Program) (w : World) (K : PySem.W.Frag) (mg : Str → Option Value) (base : Heap) (k : Nat) (x : Str) (C : Addr) (ps : List Str) (sp : Sp) (f : Addr) (fd : FuncData) : Prop where
  g : mg x = some (.ref C)
  mkr : Mk K C f
  ok : FnOk P w K mg base CX0 k f fd ps sp
  b : Binds K fd ps []
section
variable {X : Cx} {k : Nat} {x m : Str} {ps : List Str} {sp : Sp} {f C : Addr} {fd : FuncData} {p pos apos : Pos} {e o : Expr} {es : List Expr} {t : TA} {ta : TE}
/-- o.m(..) runs by its method, as pe_meth asks it -/
abbrev ByMethod (X : Cx) (o : Expr) (m : Str) (apos : Pos) (es : List Expr) (pos : Pos) (pl : Sem Bool) : Prop := eval (.Call (.Attribute o m apos) es [] pos) X.env =
  (eval o X.env >>= fun v => standAt apos.atName >>= fun _ => holding [v] (getMethod v m pl) >>= fun y => callWith pos y.1 y.2 (backTo pos (starEach es X.env)) (backToKw pos (keywordEach [] X.env)))
theorem pcall (G : GFn X.prog X.w X.K X.mg X.base k x ps sp f fd) (hr : Room k X.A) (ha : PA X (e :: es) t) (hg : Gl X x := by rfl) (hdb : (x == ("__debug__" : Str)) = false := by decide)
    (he : starEach (e :: es) X.env = (false, eval e X.env) :: starEach es X.env := by rfl) (hpl : (backTo pos (starEach es X.env)).any (·.1) = false := by rfl) :
    PE X (.Call (.Name x p) (e :: es) [] pos) (tCall sp [] E0 t) := pe_call G.ok hr hg G.g G.kp G.b .nil pass0 ha hdb he hpl
theorem pmake (G : GMk X.prog X.w X.K X.mg X.base k x C ps sp f fd) (hr : Room (k + 1) X.A) (ha : PA X (e :: es) t) (hg : Gl X x := by rfl) (hdb : (x == ("__debug__" : Str)) = false := by decide)
    (he : starEach (e :: es) X.env = (false, eval e X.env) :: starEach es X.env := by rfl) (hpl : (backTo pos (starEach es X.env)).any (·.1) = false := by rfl) :
    PE X (.Call (.Name x p) (e :: es) [] pos) (tMake C sp [] E0 t) := pe_make G.mkr G.ok hr hg G.g G.b .nil pass0 ha hdb he hpl
theorem pmeth {pl : Sem Bool} (G : GMt X.prog X.w X.K X.mg X.base k C m ps sp f fd) (hr : Room k X.A) (he : PE X o ta) (ha : PA X (e :: es) t)
    (hst : starEach (e :: es) X.env = (false, eval e X.env) :: starEach es X.env := by rfl) (hpl : (backTo pos (starEach es X.env)).any (·.1) = false := by rfl)
    (ht : ByMethod X o m apos (e :: es) pos pl := by rfl) :
    PE X (.Call (.Attribute o m apos) (e :: es) [] pos) (tMeth C m sp [] E0 ta t) := pe_meth he G.cl G.mt G.ok hr G.b .nil pass0 ha hst hpl ht
theorem pmeth0 {pl : Sem Bool} (G : GMt X.prog X.w X.K X.mg X.base k C m ps sp f fd) (hr : Room k X.A) (he : PE X o ta)
    (ht : ByMethod X o m apos [] pos pl := by rfl) :
    PE X (.Call (.Attribute o m apos) [] [] pos) (tMeth C m sp [] E0 ta tNil) := pe_meth0 he G.cl G.mt G.ok hr G.b .nil pass0 ht
/-- C.m(e, ..), m a def of the class at C, called with all its arguments -/
def tClsFn (C : Addr) (sp : Sp) (E : XK) (ta : TE) (t : TA) : TE := fun σ H Q => ta σ H fun y H1 => y = .ref C ∧ t σ H1 fun vs H2 => sp (vs ++ []) H2 Q E
theorem pe_clsfn {mc : Value} {pl : Sem Bool} (he : PE X o ta) (r : ClX.CRead X.K C mc) (c : PySem.W.findCls X.K (.ref C) mc m = some (.val (.ref f))) (hk : PySem.W.keepIn X.K (.ref f) = true)
    (F : FnOk X.prog X.w X.K X.mg X.base CX0 k f fd ps sp) (hr : Room k X.A) (hb : Binds X.K fd ps []) (ha : PA X (e :: es) t)
    (hst : starEach (e :: es) X.env = (false, eval e X.env) :: starEach es X.env := by rfl) (hpl : (backTo pos (starEach es X.env)).any (·.1) = false := by rfl)
    (ht : ByMethod X o m apos (e :: es) pos pl := by rfl) :
    PE X (.Call (.Attribute o m apos) (e :: es) [] pos) (tClsFn C sp E0 ta t) := by
  refine ⟨fun pins s σ H Q I h => ?_⟩
  refine PySem.W.methodCall_KW (pl := pl) (thn (he.run pins s σ H _ I h) fun u s1 ⟨y, H1, I1, rx, ex, q⟩ => ?_) ht
  subst ex
  obtain rfl : u = Value.ref C := rx
  refine PySem.W.method_cls I1.kIn r.ga (PySem.W.cls_value I1.kIn r.rd c rfl ?_)
  have I2 : Inv X pins σ H1 { s1 with toks := s1.toks + 1 } := I1.tok _
  refine PySem.W.callWith_K (first := []) (h₀ := X.base) I.ok.mod.kin hk (thn (ha.run pos pins _ σ H1 _ I2 q) fun us s2 ⟨vs, H2, I3, r2, q2⟩ => ⟨I3.kIn, ?_⟩) hst hpl
  exact run_fn F hr hb .nil pass0 I3 r2 q2
end

/-! ### tests -/
theorem iteN {c A B : Prop} [Decidable c] (hc : ¬ c) (h : A) : if (!decide c) = true then A else B := by
  rw [decide_eq_false hc]
  exact iteT h
theorem iteD {c A B : Prop} [Decidable c] (hc : c) (h : A) : if decide c = true then A else B := by
  rw [decide_eq_true hc]
  exact iteT h
theorem iteDN {c A B : Prop} [Decidable c] (hc : ¬ c) (h : B) : if decide c = true then A else B := by
  rw [decide_eq_false hc]
  exact iteF h
theorem iteB {b : Bool} {A B : Prop} (h1 : b = true → A) (h2 : b = false → B) : if b = true then A else B := by
  cases b with
  | true => exact iteT (h1 rfl)
  | false => exact iteF (h2 rfl)

/-! ### heaps -/
/-- all that was tracked is as it was, but at l -/
def Kept (H H' : Hp) (l : Addr) : Prop := ∀ b o, H b = some o → b ≠ l → H' b = some o
theorem _root_.L2.Same.seqT {K : PySem.W.Frag} {H H' : Hp} {a : Addr} {xs : List V} (e : Same H H') (h : SqT K H a xs) : SqT K H' a xs := by
  rcases h with (h | ⟨o, h⟩) | h
  · exact .inl (.inl (e _ _ h))
  · exact .inl (.inr ⟨o, e _ _ h⟩)
  · exact .inr h
theorem _root_.L2.Same.new {H : Hp} {p : Addr} {o : HO} (hn : H p = none) : Same H (upd H p o) := fun b u e => by
  rw [upd_ne (ne_of_none e hn)]
  exact e
theorem _root_.L2.Same.then {H H' : Hp} {p : Addr} {o : HO} (s : Same H H') (hn : H' p = none) : Same H (upd H' p o) := s.trans (Same.new hn)
/-- a store to what was new -/
theorem _root_.L2.Same.store {H H' : Hp} {p : Addr} {o : HO} (s : Same H H') (hn : H p = none) : Same H (upd H' p o) := fun b u e => by
  rw [upd_ne (ne_of_none e hn)]
  exact s _ _ e
theorem _root_.L2.Same.kept {H H' : Hp} {l : Addr} (s : Same H H') : Kept H H' l := fun b o e _ => s b o e
/-- what was new changed: all that was there before is as it was -/
theorem _root_.L2.Same.keptNew {H H1 H2 : Hp} {l : Addr} (s : Same H H1) (k : Kept H1 H2 l) (hn : H l = none) : Same H H2 := fun b o e => k b o (s b o e) (ne_of_none e hn)
theorem Kept.trans {H H1 H2 : Hp} {l : Addr} (a : Kept H H1 l) (b : Kept H1 H2 l) : Kept H H2 l := fun c o e n => b c o (a c o e n) n
theorem Kept.upd {H : Hp} {l : Addr} {o : HO} : Kept H (upd H l o) l := fun b u e n => by
  rw [upd_ne n]
  exact e

/-! ### addresses of the top; sorts of things -/
structure Cs where
  T : Addr
  P : Addr
  Q : Addr
  R : Addr
  M : Addr
  nN : Addr
  nS : Addr
inductive Kd where
  | plain | weak | pair
  deriving DecidableEq
def Kd.num : Kd → Nat
  | .plain => 0
  | .weak => 1
  | .pair => 2
def Kd.txt : Kd → Str
  | .plain => "plain"
  | .weak => "weak"
  | .pair => "pair"
def sorts : List Str := ["plain", "weak", "pair"]
theorem Kd.at_ (k : Kd) : sorts[k.num]? = some k.txt := by cases k <;> rfl
def Cs.of (c : Cs) : Kd → Addr
  | .plain => c.P
  | .weak => c.T
  | .pair => c.Q
theorem pw_ : ¬ (("plain" : Str) = "weak") := by decide +kernel
theorem pp_ : ¬ (("plain" : Str) = "pair") := by decide +kernel
theorem wp_ : ¬ (("weak" : Str) = "plain") := by decide +kernel
theorem wq_ : ¬ (("weak" : Str) = "pair") := by decide +kernel
theorem qp_ : ¬ (("pair" : Str) = "plain") := by decide +kernel
theorem qw_ : ¬ (("pair" : Str) = "weak") := by decide +kernel
theorem Kd.txt_inj {a b : Kd} (h : a.txt = b.txt) : a = b := by
  cases a <;> cases b <;> first | rfl | exact absurd h pw_ | exact absurd h pp_ | exact absurd h wp_ | exact absurd h wq_ | exact absurd h qp_ | exact absurd h qw_

/-! ### attributes -/
theorem lr_ : ¬ (("last_words" : Str) = "row") := by decide +kernel
theorem rl_ : ¬ (("row" : Str) = "last_words") := by decide +kernel
def tf (k : Kd) (l : Addr) (wv : V) : List (Str × V) := match k with
  | .plain => putF "last_words" wv (putF "row" (.ref l) [])
  | _ => putF "row" (.ref l) []
theorem tf_row (k : Kd) (l : Addr) (wv : V) : (tf k l wv).lookup ("row" : Str) = some (.ref l) := by
  cases k
  · show (putF "last_words" wv (putF "row" (.ref l) [])).lookup ("row" : Str) = some (.ref l)
    rw [lookup_putF, if_neg rl_, lookup_putF, if_pos rfl]
  · show (putF "row" (.ref l) []).lookup ("row" : Str) = some (.ref l)
    rw [lookup_putF, if_pos rfl]
  · show (putF "row" (.ref l) []).lookup ("row" : Str) = some (.ref l)
    rw [lookup_putF, if_pos rfl]
theorem tf_words (l : Addr) (wv : V) : (tf .plain l wv).lookup ("last_words" : Str) = some wv := by
  show (putF "last_words" wv (putF "row" (.ref l) [])).lookup ("last_words" : Str) = some wv
  rw [lookup_putF, if_pos rfl]
theorem tf_no (k : Kd) (l : Addr) (wv : V) {m : Str} (h1 : ¬ m = "row") (h2 : ¬ m = "last_words") : (tf k l wv).lookup m = none := by
  cases k
  · show (putF "last_words" wv (putF "row" (.ref l) [])).lookup m = none
    rw [lookup_putF, if_neg h2, lookup_putF, if_neg h1]
    all_goals rfl
  · show (putF "row" (.ref l) []).lookup m = none
    rw [lookup_putF, if_neg h1]
    all_goals rfl
  · show (putF "row" (.ref l) []).lookup m = none
    rw [lookup_putF, if_neg h1]
    all_goals rfl
theorem cm_ : ¬ (("cells" : Str) = "many") := by decide +kernel
theorem im_ : ¬ (("inside" : Str) = "many") := by decide +kernel
theorem ic_ : ¬ (("inside" : Str) = "cells") := by decide +kernel
theorem mc_ : ¬ (("many" : Str) = "cells") := by decide +kernel
theorem mi_ : ¬ (("many" : Str) = "inside") := by decide +kernel
theorem ci_ : ¬ (("cells" : Str) = "inside") := by decide +kernel
def rf (m n : Int) (l : Addr) : List (Str × V) := putF "inside" (.ref l) (putF "cells" (.int n) (putF "many" (.int m) []))
theorem rf_many (m n : Int) (l : Addr) : (rf m n l).lookup ("many" : Str) = some (.int m) := by
  unfold rf
  rw [lookup_putF, if_neg mi_, lookup_putF, if_neg mc_, lookup_putF, if_pos rfl]
theorem rf_cells (m n : Int) (l : Addr) : (rf m n l).lookup ("cells" : Str) = some (.int n) := by
  unfold rf
  rw [lookup_putF, if_neg ci_, lookup_putF, if_pos rfl]
theorem rf_inside (m n : Int) (l : Addr) : (rf m n l).lookup ("inside" : Str) = some (.ref l) := by
  unfold rf
  rw [lookup_putF, if_pos rfl]
theorem rf_no (m n : Int) (l : Addr) {x : Str} (h1 : ¬ x = "inside") (h2 : ¬ x = "cells") (h3 : ¬ x = "many") : (rf m n l).lookup x = none := by
  unfold rf
  rw [lookup_putF, if_neg h1, lookup_putF, if_neg h2, lookup_putF, if_neg h3]
  all_goals rfl
def mf (r : Addr) : List (Str × V) := putF "rooms" (.ref r) []
theorem mf_rooms (r : Addr) : (mf r).lookup ("rooms" : Str) = some (.ref r) := by
  unfold mf
  rw [lookup_putF, if_pos rfl]
theorem mf_no (r : Addr) {x : Str} (h1 : ¬ x = "rooms") : (mf r).lookup x = none := by
  unfold mf
  rw [lookup_putF, if_neg h1]
  all_goals rfl

/-! ### what stands in the heap -/
/-- a thing at x, of sort k, its row at l, its last words wv -/
def ThingAt (c : Cs) (H : Hp) (x : Addr) (k : Kd) (l : Addr) (fs : List V) (wv : V) : Prop := (∃ dx, H x = some (.ins (c.of k) dx (tf k l wv))) ∧ H l = some (.lst fs)
theorem ThingAt.same {c : Cs} {H H' : Hp} {x l : Addr} {k : Kd} {fs : List V} {wv : V} (h : ThingAt c H x k l fs wv) (s : Same H H') : ThingAt c H' x k l fs wv := by
  obtain ⟨⟨dx, h1⟩, h2⟩ := h
  exact ⟨⟨dx, s _ _ h1⟩, s _ _ h2⟩
/-- rooms at r, m of n cells, their list at l, its items xs -/
structure RoomsAt (c : Cs) (H : Hp) (r : Addr) (m n : Nat) (l : Addr) (xs : List V) : Prop where
  ob : ∃ dx, H r = some (.ins c.R dx (rf m n l))
  lst : H l = some (.lst xs)
  len : xs.length = m * n
  m0 : 0 < m
  m6 : m ≤ 6
  n0 : 0 < n
  n20 : n ≤ 20
theorem RoomsAt.same {c : Cs} {H H' : Hp} {r l : Addr} {m n : Nat} {xs : List V} (h : RoomsAt c H r m n l xs) (s : Same H H') : RoomsAt c H' r m n l xs := by
  obtain ⟨⟨dx, h1⟩, h2, h3, h4, h5, h6, h7⟩ := h
  exact ⟨⟨dx, s _ _ h1⟩, s _ _ h2, h3, h4, h5, h6, h7⟩
theorem RoomsAt.le {c : Cs} {H : Hp} {r l : Addr} {m n : Nat} {xs : List V} (h : RoomsAt c H r m n l xs) : xs.length ≤ 120 := by
  rw [h.len]
  exact Nat.mul_le_mul h.m6 h.n20
/-- a memory at a over such rooms -/
structure MemAt (c : Cs) (H : Hp) (a r : Addr) (m n : Nat) (l : Addr) (xs : List V) : Prop where
  ob : ∃ dx, H a = some (.ins c.M dx (mf r))
  rm : RoomsAt c H r m n l xs
theorem MemAt.same {c : Cs} {H H' : Hp} {a r l : Addr} {m n : Nat} {xs : List V} (h : MemAt c H a r m n l xs) (s : Same H H') : MemAt c H' a r m n l xs := by
  obtain ⟨⟨dx, h1⟩, h2⟩ := h
  exact ⟨⟨dx, s _ _ h1⟩, h2.same s⟩

/-! ### values of fields, last words -/
/-- a field's value: a tuple of a text, and a number or none -/
def IsF (K : PySem.W.Frag) (H : Hp) (v : V) : Prop := ∃ a z xs, v = .ref a ∧ SqT K H a (.str z :: xs) ∧ (xs = [] ∨ ∃ n, xs = [.int n]) ∧ PyData.canLay0 (.str z) = true
theorem IsF.same {K : PySem.W.Frag} {H H' : Hp} {v : V} (h : IsF K H v) (s : Same H H') : IsF K H' v := by
  obtain ⟨a, z, xs, e, h, q⟩ := h
  exact ⟨a, z, xs, e, Same.seqT s h, q⟩
/-- last words: none, or a number -/
def IsW (wv : V) : Prop := wv = .non ∨ ∃ n, wv = .int n
/-- the cell of last words -/
def WCell (K : PySem.W.Frag) (H : Hp) (wv v : V) : Prop := ∃ a, v = .ref a ∧ (wv = .non ∨ ∃ n, wv = .int n ∧ SqT K H a [.str "number", .int n])
theorem WCell.same {K : PySem.W.Frag} {H H' : Hp} {wv v : V} (h : WCell K H wv v) (s : Same H H') : WCell K H' wv v := by
  obtain ⟨a, e, h | ⟨n, e2, h⟩⟩ := h
  · exact ⟨a, e, .inl h⟩
  · exact ⟨a, e, .inr ⟨n, e2, Same.seqT s h⟩⟩
/-- how many fields; which sorts have last words -/
def FitK (k : Kd) (fs : List V) (wv : V) : Prop := IsW wv ∧ match k with
  | .plain => fs.length ≤ 8
  | .weak => fs.length = 1 ∧ wv = .non
  | .pair => fs.length = 2 ∧ wv = .non
theorem FitK.le {k : Kd} {fs : List V} {wv : V} (h : FitK k fs wv) : fs.length ≤ 8 := by
  cases k
  · exact h.2
  · have := h.2.1; omega
  · have := h.2.1; omega
end Hk
/-! Headers and rooms. -/
namespace Hk
open PySem L2

/-! ### headers: the mathematics -/
def hdr (k : Int) (m w : Bool) (n : Int) : Int :=
  Builtin.bitOr (Builtin.bitOr (Builtin.bitOr k ((if m = true then 1 else 0) * 2 ^ (2 : Int).toNat)) ((if w = true then 1 else 0) * 2 ^ (3 : Int).toNat)) (n * 2 ^ (4 : Int).toNat)
theorem hdr_kind_ : ∀ (k : Fin 3) (m w : Bool) (n : Fin 12), Builtin.bitAnd (hdr ((k.val : Nat) : Int) m w ((n.val : Nat) : Int)) 3 = ((k.val : Nat) : Int) := by decide +kernel
theorem hdr_size_ : ∀ (k : Fin 3) (m w : Bool) (n : Fin 12), hdr ((k.val : Nat) : Int) m w ((n.val : Nat) : Int) / 2 ^ (4 : Int).toNat = ((n.val : Nat) : Int) := by decide +kernel
theorem hdr_mark_ : ∀ (k : Fin 3) (m w : Bool) (n : Fin 12), Builtin.bitAnd (hdr ((k.val : Nat) : Int) m w ((n.val : Nat) : Int) / 2 ^ (2 : Int).toNat) 1 = if m = true then 1 else 0 := by decide +kernel
theorem hdr_words_ : ∀ (k : Fin 3) (m w : Bool) (n : Fin 12), Builtin.bitAnd (hdr ((k.val : Nat) : Int) m w ((n.val : Nat) : Int) / 2 ^ (3 : Int).toNat) 1 = if w = true then 1 else 0 := by decide +kernel
theorem hdr_kind {k n : Nat} (hk : k < 3) (hn : n < 12) (m w : Bool) : Builtin.bitAnd (hdr (k : Int) m w (n : Int)) 3 = (k : Int) := hdr_kind_ ⟨k, hk⟩ m w ⟨n, hn⟩
theorem hdr_size {k n : Nat} (hk : k < 3) (hn : n < 12) (m w : Bool) : hdr (k : Int) m w (n : Int) / 2 ^ (4 : Int).toNat = (n : Int) := hdr_size_ ⟨k, hk⟩ m w ⟨n, hn⟩
theorem hdr_mark {k n : Nat} (hk : k < 3) (hn : n < 12) (m w : Bool) : decide (V.int (Builtin.bitAnd (hdr (k : Int) m w (n : Int) / 2 ^ (2 : Int).toNat) 1) = V.int 1) = m := by
  rw [hdr_mark_ ⟨k, hk⟩ m w ⟨n, hn⟩]
  cases m <;> decide
theorem hdr_words {k n : Nat} (hk : k < 3) (hn : n < 12) (m w : Bool) : decide (V.int (Builtin.bitAnd (hdr (k : Int) m w (n : Int) / 2 ^ (3 : Int).toNat) 1) = V.int 1) = w := by
  rw [hdr_words_ ⟨k, hk⟩ m w ⟨n, hn⟩]
  cases w <;> decide
theorem Kd.lt (k : Kd) : k.num < 3 := by cases k <;> decide

/-! ### what the walk asks of the names -/
structure TxtB (mg : Str → Option Value) : Prop where
  int : mg "int" = none
  list : mg "list" = none
  range : mg "range" = none
  len : mg "len" = none
  enumerate : mg "enumerate" = none
structure TxtR (K : PySem.W.Frag) (c : Cs) : Prop where
  cl : Cls K c.R
  nMany : NoAttr K c.R "many"
  nCells : NoAttr K c.R "cells"
  nInside : NoAttr K c.R "inside"

/-! ### promises -/
def spHeader : Sp := fun vs H Q _ => ∃ (k n : Nat) (m w : Bool), vs = [.int (k : Int), .bl m, .bl w, .int (n : Int)] ∧ n < 1000 ∧ Q (.int (hdr (k : Int) m w (n : Int))) H
def spKindIn : Sp := fun vs H Q _ => ∃ i : Int, vs = [.int i] ∧ Q (.int (Builtin.bitAnd i 3)) H
def spSizeIn : Sp := fun vs H Q _ => ∃ i : Int, vs = [.int i] ∧ Q (.int (i / 2 ^ (4 : Int).toNat)) H
def spIsMarked : Sp := fun vs H Q _ => ∃ i : Int, vs = [.int i] ∧ Q (.bl (decide (V.int (Builtin.bitAnd (i / 2 ^ (2 : Int).toNat) 1) = V.int 1))) H
def spHasWords : Sp := fun vs H Q _ => ∃ i : Int, vs = [.int i] ∧ Q (.bl (decide (V.int (Builtin.bitAnd (i / 2 ^ (3 : Int).toNat) 1) = V.int 1))) H
def spRInit (c : Cs) : Sp := fun vs H Q _ => ∃ (p dx : Addr) (m n : Nat), vs = [.ref p, .int (m : Int), .int (n : Int)] ∧ 0 < m ∧ m ≤ 6 ∧ 0 < n ∧ n ≤ 20 ∧ H p = some (.ins c.R dx []) ∧
  ∀ (l : Addr) (H' : Hp), H l = none → RoomsAt c H' p m n l (List.replicate (m * n) .non) → Kept H H' p → Q .non H'
/-- the least place isn't told: some place from which on so many cells are free, or none -/
def GapQ (xs : List V) (len : Nat) (H : Hp) (Q : VK) : Prop := (∀ p : Nat, p + len ≤ xs.length → (∀ j, j < len → xs[p + j]? = some .non) → Q (.int (p : Int)) H) ∧ Q .non H
def spGapIn (c : Cs) : Sp := fun vs H Q _ => ∃ (r l : Addr) (m n i len : Nat) (xs : List V), vs = [.ref r, .int (i : Int), .int (len : Int)] ∧ RoomsAt c H r m n l xs ∧ i < m ∧ 0 < len ∧ GapQ xs len H Q
def spGap (c : Cs) : Sp := fun vs H Q _ => ∃ (r l : Addr) (m n len : Nat) (xs : List V), vs = [.ref r, .int (len : Int)] ∧ RoomsAt c H r m n l xs ∧ 0 < len ∧ GapQ xs len H Q
/-- ys written into xs from p on -/
structure Filled (xs : List V) (p : Nat) (ys : List V) (k : Nat) (zs : List V) : Prop where
  len : zs.length = xs.length
  new : ∀ j, j < k → zs[p + j]? = ys[j]?
  old : ∀ j, j < p ∨ p + k ≤ j → zs[j]? = xs[j]?
def spFillIn (c : Cs) : Sp := fun vs H Q _ => ∃ (r l b : Addr) (m n p : Nat) (xs ys : List V), vs = [.ref r, .int (p : Int), .ref b] ∧ RoomsAt c H r m n l xs ∧ H b = some (.lst ys) ∧ b ≠ l ∧ p + ys.length ≤ xs.length ∧
  ∀ (zs : List V) (H' : Hp), Filled xs p ys ys.length zs → RoomsAt c H' r m n l zs → Kept H H' l → Q .non H'
def spRead (c : Cs) : Sp := fun vs H Q _ => ∃ (r l : Addr) (m n p : Nat) (xs : List V) (v : V), vs = [.ref r, .int (p : Int)] ∧ RoomsAt c H r m n l xs ∧ xs[p]? = some v ∧ Q v H

section
variable {P : Program} {w : World} {K : PySem.W.Frag} {mg : Str → Option Value} {base : Heap} {c : Cs}
/-! ### headers -/
theorem scHeader : FnScope ["kind", "marked", "words", "size"] ["kind", "marked", "words", "size"] (defScope sHeader) := ⟨rfl, rfl, rfl, by decide +kernel, rfl, by decide +kernel, by decide +kernel⟩
theorem ok_header {f : Addr} {fd : FuncData} (F : Fun K "header" "header" sHeader f fd) (B : TxtB mg) : FnOk P w K mg base CX0 1 f fd ["kind", "marked", "words", "size"] spHeader := by
  refine F.ok scHeader (fun vs H Q E h => ?_) (fun cdv A outer s H vs Q E hr h => ?_)
  · obtain ⟨k, n, m, w, rfl, _⟩ := h
    rfl
  · obtain ⟨k, n, m, ww, rfl, hn, q⟩ := h
    refine ⟨_, pss_one (ps_ret (pe_op op_or (pe_op op_or (pe_op op_or (pv 0) (pe_op op_shl (pe_callTy call_int1 (by rfl) B.int (by decide +kernel) (pa_cons (pv 1) pa_nil)) pe_int))
      (pe_op op_shl (pe_callTy call_int1 (by rfl) B.int (by decide +kernel) (pa_cons (pv 2) pa_nil)) pe_int)) (pe_op op_shl (pv 3) pe_int))), ?_⟩
    have s1 : ∀ b : Bool, (if b = true then (1 : Int) else 0).natAbs < 2 ^ 64 := fun b => by cases b <;> decide
    refine ⟨_, rfl, _, rfl, .inr ⟨_, rfl, _, _, rfl, rfl, ⟨by decide, by decide, s1 _⟩, _, _, rfl, rfl, _, rfl, .inr ⟨_, rfl, _, _, rfl, rfl, ⟨by decide, by decide, s1 _⟩, _, _, rfl, rfl, _, rfl, _, _, rfl, rfl, ⟨by decide, by decide, ?_⟩, _, _, rfl, rfl, ?_⟩⟩⟩
    · rw [Int.natAbs_natCast]
      exact Nat.lt_trans hn (by decide)
    · exact q
theorem scNumber {st : Stmt} (h : defScope st = defScope sKindIn) : FnScope ["number"] ["number"] (defScope st) := by
  rw [h]
  exact ⟨rfl, rfl, rfl, by decide +kernel, rfl, by decide +kernel, by decide +kernel⟩
theorem scKindIn : FnScope ["number"] ["number"] (defScope sKindIn) := ⟨rfl, rfl, rfl, by decide +kernel, rfl, by decide +kernel, by decide +kernel⟩
theorem ok_kind_in {f : Addr} {fd : FuncData} (F : Fun K "kind_in" "kind_in" sKindIn f fd) : FnOk P w K mg base CX0 1 f fd ["number"] spKindIn := by
  refine F.ok scKindIn (fun vs H Q E h => ?_) (fun cdv A outer s H vs Q E hr h => ?_)
  · obtain ⟨i, rfl, _⟩ := h
    rfl
  · obtain ⟨i, rfl, q⟩ := h
    exact ⟨_, pss_one (ps_ret (pe_op op_and (pv 0) pe_int)), ⟨_, rfl, _, _, rfl, rfl, q⟩⟩
theorem scSizeIn : FnScope ["number"] ["number"] (defScope sSizeIn) := ⟨rfl, rfl, rfl, by decide +kernel, rfl, by decide +kernel, by decide +kernel⟩
theorem ok_size_in {f : Addr} {fd : FuncData} (F : Fun K "size_in" "size_in" sSizeIn f fd) : FnOk P w K mg base CX0 1 f fd ["number"] spSizeIn := by
  refine F.ok scSizeIn (fun vs H Q E h => ?_) (fun cdv A outer s H vs Q E hr h => ?_)
  · obtain ⟨i, rfl, _⟩ := h
    rfl
  · obtain ⟨i, rfl, q⟩ := h
    exact ⟨_, pss_one (ps_ret (pe_op op_shr (pv 0) pe_int)), ⟨_, rfl, _, _, rfl, rfl, (by show (0 : Int) ≤ 4; decide), q⟩⟩
theorem scIsMarked : FnScope ["number"] ["number"] (defScope sIsMarked) := ⟨rfl, rfl, rfl, by decide +kernel, rfl, by decide +kernel, by decide +kernel⟩
theorem ok_is_marked {f : Addr} {fd : FuncData} (F : Fun K "is_marked" "is_marked" sIsMarked f fd) : FnOk P w K mg base CX0 1 f fd ["number"] spIsMarked := by
  refine F.ok scIsMarked (fun vs H Q E h => ?_) (fun cdv A outer s H vs Q E hr h => ?_)
  · obtain ⟨i, rfl, _⟩ := h
    rfl
  · obtain ⟨i, rfl, q⟩ := h
    exact ⟨_, pss_one (ps_ret (pe_cmpR op_eq (pe_op op_and (pe_op op_shr (pv 0) pe_int) pe_int) pe_int (nomark _))), ⟨_, rfl, _, _, rfl, rfl, (by show (0 : Int) ≤ 2; decide), _, _, rfl, rfl, rfl, q⟩⟩
theorem scHasWords : FnScope ["number"] ["number"] (defScope sHasWords) := ⟨rfl, rfl, rfl, by decide +kernel, rfl, by decide +kernel, by decide +kernel⟩
theorem ok_has_words {f : Addr} {fd : FuncData} (F : Fun K "has_words" "has_words" sHasWords f fd) : FnOk P w K mg base CX0 1 f fd ["number"] spHasWords := by
  refine F.ok scHasWords (fun vs H Q E h => ?_) (fun cdv A outer s H vs Q E hr h => ?_)
  · obtain ⟨i, rfl, _⟩ := h
    rfl
  · obtain ⟨i, rfl, q⟩ := h
    exact ⟨_, pss_one (ps_ret (pe_cmpR op_eq (pe_op op_and (pe_op op_shr (pv 0) pe_int) pe_int) pe_int (nomark _))), ⟨_, rfl, _, _, rfl, rfl, (by show (0 : Int) ≤ 3; decide), _, _, rfl, rfl, rfl, q⟩⟩

/-! ### rooms -/
theorem scRInit : FnScope ["self", "many", "cells"] ["self", "many", "cells"] (defScope sRInit) := ⟨rfl, rfl, rfl, by decide +kernel, rfl, by decide +kernel, by decide +kernel⟩
theorem flat_rep (k : Nat) : (List.replicate k [V.non]).flatten = List.replicate k V.non := by
  induction k with
  | zero => rfl
  | succ k ih => rw [List.replicate_succ, List.flatten_cons, ih, List.replicate_succ]; rfl
theorem ok_rinit {f : Addr} {fd : FuncData} (F : Fun K "__init__" "Rooms.__init__" sRInit f fd) (T : TxtR K c) : FnOk P w K mg base CX0 1 f fd ["self", "many", "cells"] (spRInit c) := by
  refine F.ok scRInit (fun vs H Q E h => ?_) (fun cdv A outer s H vs Q E hr h => ?_)
  · obtain ⟨p, dx, m, n, rfl, _⟩ := h
    rfl
  · obtain ⟨p, dx, m, n, rfl, m0, m6, n0, n20, hp, q⟩ := h
    refine ⟨_, pss_cons (ps_fld (pv 0) (pv 1) rfl) (pss_cons (ps_fld (pv 0) (pv 2) rfl) (pss_one (ps_fld (pv 0) (pe_op op_rep (pe_lst (pa_cons pe_non pa_nil)) (pe_op op_mul (pv 1) (pv 2))) rfl))), ?_⟩
    refine ⟨_, rfl, _, rfl, p, c.R, dx, _, rfl, hp, T.cl, T.nMany, (by show 0 < 1000; decide), ?_⟩
    refine ⟨_, rfl, _, rfl, p, c.R, dx, _, rfl, upd_same, T.cl, T.nCells, (by show 1 < 1000; decide), ?_⟩
    rw [upd_upd]
    refine ⟨(by show 1 ≤ sizeLine; decide), fun q1 h1 => ?_⟩
    have hmn : m * n ≤ 120 := Nat.mul_le_mul m6 n20
    have e1 : ((m : Int) * (n : Int)) = ((m * n : Nat) : Int) := (Int.natCast_mul m n).symm
    refine ⟨_, rfl, _, rfl, _, _, rfl, rfl, .inl ⟨by omega, by omega⟩, _, _, _, rfl, rfl, upd_same, ?_, ?_, ?_, fun l hl => ?_⟩
    · rw [e1]; omega
    · rw [e1]; omega
    · rw [e1, Int.toNat_natCast]
      show 1 * (m * n) ≤ sizeLine
      exact Nat.le_trans (by omega) (show 120 ≤ sizeLine by decide)
    · have np : p ≠ q1 := fun z => by
        rw [z, upd_same] at h1
        cases h1
      have npl : p ≠ l := ne_of_none (by rw [upd_ne np]; exact upd_same) hl
      have hq1 : H q1 = none := by rw [upd_ne np.symm] at h1; exact h1
      have nql : l ≠ q1 := fun z => by
        rw [z, upd_same] at hl
        cases hl
      have hl0 : H l = none := by
        rw [upd_ne nql, upd_ne npl.symm] at hl
        exact hl
      refine ⟨_, rfl, p, c.R, dx, putF "cells" (.int (n : Int)) (putF "many" (.int (m : Int)) []), rfl, ?_, T.cl, T.nInside, Nat.lt_of_le_of_lt (length_putF _ _ _) (by show 1 + 1 < 1000; decide), ?_⟩
      · rw [upd_ne npl, upd_ne np]
        exact upd_same
      · refine q l _ hl0 ⟨⟨dx, upd_same⟩, ?_, ?_, m0, m6, n0, n20⟩ fun b o e hb => ?_
        · rw [upd_ne npl.symm, upd_same, e1, Int.toNat_natCast, flat_rep]
        · rw [List.length_replicate]
        · rw [upd_ne hb, upd_ne (ne_of_none e hl0), upd_ne (ne_of_none e hq1), upd_ne hb]
          exact e
theorem scGapIn : FnScope ["self", "room", "length", "free", "place"] ["self", "room", "length"] (defScope sGapIn) := ⟨rfl, rfl, rfl, by decide +kernel, rfl, by decide +kernel, by decide +kernel⟩
theorem ok_gap_in {f : Addr} {fd : FuncData} (F : Fun K "gap_in" "Rooms.gap_in" sGapIn f fd) (T : TxtR K c) (B : TxtB mg) : FnOk P w K mg base CX0 1 f fd ["self", "room", "length"] (spGapIn c) := by
  refine F.ok scGapIn (fun vs H Q E h => ?_) (fun cdv A outer s H vs Q E hr h => ?_)
  · obtain ⟨r, l, m, n, i, len, xs, rfl, _⟩ := h
    rfl
  · obtain ⟨r, l, m, n, i, len, xs, rfl, R, him, hlen, q1, q2⟩ := h
    obtain ⟨⟨dx, h1⟩, hL, hxl, m0, m6, n0, n20⟩ := id R
    refine ⟨_, pss_cons (ps_set (i := 3) scGapIn.nd rfl (Or.inl rfl) pe_int)
      (pss_cons (ps_for PassesOwn.never rfl (pi_range2 (by rfl) B.range (pa_cons (pe_op op_mul (pv 1) (pe_fld (pv 0) rfl)) (pa_cons (pe_op op_mul (pe_op op_add (pv 1) pe_int) (pe_fld (pv 0) rfl)) pa_nil))) (pg_name (i := 4) scGapIn.nd rfl (Or.inl rfl))
        (pss_cons (ps_aug (i := 3) scGapIn.nd rfl (Or.inl rfl) pe_int ip_add)
        (pss_cons (ps_if (pt_cmpR op_notN (pe_ix ix_list (pe_fld (pv 0) rfl) (pv 4) (fun _ _ => rfl)) pe_non (nomark _)) (pss_one (ps_set (i := 3) scGapIn.nd rfl (Or.inl rfl) pe_int)) pss_nil)
        (pss_one (ps_if (pt_cmpR op_eq (pv 3) (pv 2) (nomark _)) (pss_one (ps_ret (pe_op op_add (pe_op op_sub (pv 4) (pv 2)) pe_int))) pss_nil)))))
      (pss_one (ps_ret pe_non))), ?_⟩
    have e1 : ((i : Int) * (n : Int)) = ((i * n : Nat) : Int) := (Int.natCast_mul i n).symm
    have e2 : (((i : Int) + 1) * (n : Int)) = (((i + 1) * n : Nat) : Int) := by rw [Int.natCast_mul]; rfl
    have e3 : (i + 1) * n = i * n + n := Nat.succ_mul i n
    have e4 : (i + 1) * n ≤ m * n := Nat.mul_le_mul_right n him
    have e5 : m * n ≤ 120 := Nat.mul_le_mul m6 n20
    refine ⟨_, rfl, _, rfl, r, c.R, dx, _, _, rfl, h1, T.cl, T.nCells, rf_cells _ _ _, _, _, rfl, rfl, .inl ⟨by omega, by omega⟩, ?_⟩
    refine ⟨_, rfl, _, _, rfl, rfl, _, rfl, r, c.R, dx, _, _, rfl, h1, T.cl, T.nCells, rf_cells _ _ _, _, _, rfl, rfl, .inl ⟨by omega, by omega⟩, ?_⟩
    refine ⟨((i * n : Nat) : Int), (((i + 1) * n : Nat) : Int), ?_, ⟨by omega, by omega, by omega, by omega⟩, ?_⟩
    · show [V.int ((i : Int) * (n : Int)), V.int (((i : Int) + 1) * (n : Int))] = _
      rw [e1, e2]
    have e6 : (((((i + 1) * n : Nat) : Int) - ((i * n : Nat) : Int))).toNat = n := by omega
    rw [e6]
    refine for_range (lo := ((i * n : Nat) : Int)) (n := n) (fun t σ H' => H' = H ∧ ∃ (fr : Nat) (v4 : Option V), σ = [some (.ref r), some (.int (i : Int)), some (.int (len : Int)), some (.int (fr : Int)), v4] ∧ fr ≤ t ∧ ∀ j, j < fr → xs[i * n + t - 1 - j]? = some .non) ?_ ?_ ?_
    · exact ⟨rfl, 0, none, rfl, Nat.le_refl _, fun j hj => absurd hj (Nat.not_lt_zero _)⟩
    · rintro t σ H' ht ⟨rfl, fr, v4, rfl, hf, hfree⟩
      have hx : i * n + t < xs.length := by omega
      have e7 : ((i * n : Nat) : Int) + (t : Int) = ((i * n + t : Nat) : Int) := (Int.natCast_add _ _).symm
      have hat : atI xs (((i * n : Nat) : Int) + (t : Int)) = some xs[i * n + t] := at_of e7 (List.getElem?_eq_getElem hx)
      refine ⟨_, rfl, _, _, rfl, rfl, ?_⟩
      refine ⟨_, rfl, r, c.R, dx, _, _, rfl, h1, T.cl, T.nInside, rf_inside _ _ _, _, rfl, l, _, _, _, rfl, rfl, SqL.of hL, hat, rfl, _, rfl, ?_⟩
      have fin : ∀ g : Nat, g ≤ t + 1 → (∀ j, j < g → xs[i * n + t - j]? = some .non) → g = len → Q (.int ((((i * n : Nat) : Int) + (t : Int)) - (len : Int) + 1)) H' := fun g hg hfr e => by
        have ez : ((((i * n : Nat) : Int) + (t : Int)) - (len : Int) + 1) = ((i * n + t + 1 - len : Nat) : Int) := by omega
        rw [ez]
        refine q1 _ (by omega) fun j hj => ?_
        have := hfr (len - 1 - j) (by omega)
        rw [show i * n + t + 1 - len + j = i * n + t - (len - 1 - j) by omega]
        exact this
      by_cases hv : xs[i * n + t] = .non
      · refine iteNS hv ?_
        refine ⟨_, rfl, _, rfl, rfl, _, rfl, ?_⟩
        have hall : ∀ j, j < fr + 1 → xs[i * n + t - j]? = some .non := fun j hj => by
          cases j with
          | zero => rw [Nat.sub_zero, List.getElem?_eq_getElem hx, hv]
          | succ j =>
            have := hfree j (by omega)
            rw [show i * n + t - (j + 1) = i * n + t - 1 - j by omega]
            exact this
        have ef : ((fr : Int) + 1) = ((fr + 1 : Nat) : Int) := rfl
        refine ite2 (fun he => ?_) (fun he => ?_)
        · have he2 : V.int ((fr : Int) + 1) = V.int (len : Int) := of_decide_eq_true he
          have he3 : fr + 1 = len := by
            injection he2 with he2
            omega
          refine ⟨_, rfl, _, rfl, _, _, rfl, rfl, _, _, rfl, rfl, ?_⟩
          exact fin (fr + 1) (by omega) hall he3
        · refine ⟨rfl, fr + 1, _, rfl, by omega, fun j hj => ?_⟩
          rw [show i * n + (t + 1) - 1 - j = i * n + t - j by omega]
          exact hall j hj
      · refine iteN hv ?_
        refine ⟨_, rfl, _, rfl, rfl, _, rfl, ?_⟩
        refine ite2 (fun he => ?_) (fun he => ?_)
        · have he2 : V.int 0 = V.int (len : Int) := of_decide_eq_true he
          injection he2 with he2
          omega
        · exact ⟨rfl, 0, _, rfl, by omega, fun j hj => absurd hj (Nat.not_lt_zero _)⟩
    · rintro σ H' ⟨rfl, _⟩
      exact q2
theorem scGap : FnScope ["self", "length", "room", "place"] ["self", "length"] (defScope sGap) := ⟨rfl, rfl, rfl, by decide +kernel, rfl, by decide +kernel, by decide +kernel⟩
theorem ok_gap {f g : Addr} {fd gd : FuncData} (F : Fun K "gap" "Rooms.gap" sGap f fd) (T : TxtR K c) (B : TxtB mg) (G : GMt P w K mg base 1 c.R "gap_in" ["self", "room", "length"] (spGapIn c) g gd) : FnOk P w K mg base CX0 2 f fd ["self", "length"] (spGap c) := by
  refine F.ok scGap (fun vs H Q E h => ?_) (fun cdv A outer s H vs Q E hr h => ?_)
  · obtain ⟨r, l, m, n, len, xs, rfl, _⟩ := h
    rfl
  · obtain ⟨r, l, m, n, len, xs, rfl, R, hlen, q1, q2⟩ := h
    obtain ⟨⟨dx, h1⟩, hL, hxl, m0, m6, n0, n20⟩ := id R
    refine ⟨_, pss_cons (ps_for PassesOwn.never rfl (pi_range1 (by rfl) B.range (pa_cons (pe_fld (pv 0) rfl) pa_nil)) (pg_name (i := 2) scGap.nd rfl (Or.inl rfl))
        (pss_cons (ps_set (i := 3) scGap.nd rfl (Or.inl rfl) (pmeth G hr (pv 0) (pa_cons (pv 2) (pa_cons (pv 1) pa_nil))))
        (pss_one (ps_if (pt_cmpR op_notN (pv 3) pe_non (nomark _)) (pss_one (ps_ret (pv 3))) pss_nil))))
      (pss_one (ps_ret pe_non)), ?_⟩
    refine ⟨_, rfl, r, c.R, dx, _, _, rfl, h1, T.cl, T.nMany, rf_many _ _ _, _, rfl, by omega, by omega, ?_⟩
    refine for_range (lo := 0) (n := (m : Int).toNat) (fun t σ H' => H' = H ∧ ∃ (v2 v3 : Option V), σ = [some (.ref r), some (.int (len : Int)), v2, v3]) ?_ ?_ ?_
    · exact ⟨rfl, none, none, rfl⟩
    · rintro t σ H' ht ⟨rfl, v2, v3, rfl⟩
      have ht2 : t < m := by omega
      refine ⟨_, rfl, r, dx, _, rfl, h1, rf_no _ _ _ (by decide +kernel) (by decide +kernel) (by decide +kernel), _, rfl, _, rfl, ?_⟩
      refine ⟨r, l, m, n, t, len, xs, by rw [Int.zero_add]; rfl, R, ht2, hlen, fun p hp hfr => ?_, ?_⟩
      · exact ⟨_, rfl, rfl, _, rfl, iteT ⟨_, rfl, q1 p hp hfr⟩⟩
      · exact ⟨_, rfl, rfl, _, rfl, iteF ⟨rfl, _, _, rfl⟩⟩
    · rintro σ H' ⟨rfl, _⟩
      exact q2
theorem scFillIn : FnScope ["self", "place", "some", "at", "value"] ["self", "place", "some"] (defScope sFillIn) := ⟨rfl, rfl, rfl, by decide +kernel, rfl, by decide +kernel, by decide +kernel⟩
theorem Filled.zero {xs ys : List V} {p : Nat} : Filled xs p ys 0 xs := ⟨rfl, fun j hj => absurd hj (Nat.not_lt_zero _), fun _ _ => rfl⟩
theorem Filled.succ {xs ys zs : List V} {p k : Nat} {v : V} (h : Filled xs p ys k zs) (hv : ys[k]? = some v) (hp : p + k < xs.length) : Filled xs p ys (k + 1) (zs.set (p + k) v) := by
  refine ⟨by rw [List.length_set]; exact h.len, fun j hj => ?_, fun j hj => ?_⟩
  · by_cases e : j = k
    · subst e
      rw [List.getElem?_set_self (by rw [h.len]; exact hp), hv]
    · rw [List.getElem?_set_ne (by omega)]
      exact h.new j (by omega)
  · rw [List.getElem?_set_ne (by omega)]
    exact h.old j (by omega)
theorem ixN_at {n p : Nat} {i : Int} (e : i = (p : Int)) (h : p < n) : ixN n i = some p := by
  subst e
  unfold ixN
  rw [if_pos (show (0 : Int) ≤ (p : Int) by omega), if_pos (show (p : Int) < (n : Int) by omega), Int.toNat_natCast]
theorem ok_fill_in {f : Addr} {fd : FuncData} (F : Fun K "fill_in" "Rooms.fill_in" sFillIn f fd) (T : TxtR K c) (B : TxtB mg) : FnOk P w K mg base CX0 1 f fd ["self", "place", "some"] (spFillIn c) := by
  refine F.ok scFillIn (fun vs H Q E h => ?_) (fun cdv A outer s H vs Q E hr h => ?_)
  · obtain ⟨r, l, b, m, n, p, xs, ys, rfl, _⟩ := h
    rfl
  · obtain ⟨r, l, b, m, n, p, xs, ys, rfl, R, hb, nbl, hpl, q⟩ := h
    obtain ⟨⟨dx, h1⟩, hL, hxl, m0, m6, n0, n20⟩ := id R
    refine ⟨_, pss_one (ps_for PassesOwn.never rfl (pi_enum (by rfl) B.enumerate (pa_cons (pv 2) pa_nil)) (pg_tup (by rfl) (pgs_cons (pg_name (i := 3) scFillIn.nd rfl (Or.inl rfl)) (pgs_cons (pg_name (i := 4) scFillIn.nd rfl (Or.inl rfl)) pgs_nil)))
      (pss_one (ps_asg (pv 4) (pg_sub (pe_fld (pv 0) rfl) (pe_op op_add (pv 1) (pv 3)) set_list)))), ?_⟩
    refine ⟨_, rfl, b, ys, rfl, SqL.of hb, ?_⟩
    refine for_it (walk_enum (K := K) (a := b) (xs := ys)) (fun t σ H' => Kept H H' l ∧ ∃ (v3 v4 : Option V) (zs : List V), σ = [some (.ref r), some (.int (p : Int)), some (.ref b), v3, v4] ∧ H' l = some (.lst zs) ∧ Filled xs p ys t zs) ?_ ?_ ?_ ?_
    · exact ⟨fun _ _ e _ => e, none, none, xs, rfl, hL, Filled.zero⟩
    · rintro t σ H' _ ⟨kp, _⟩
      exact SqL.of (kp _ _ hb nbl)
    · rintro t x σ H' H2 ht ⟨kp, v3, v4, zs, rfl, hz, fz⟩ ⟨T0, x0, x1, rfl, hT, rfl, e3, e4⟩
      have e3 : x0 = V.int (t : Nat) := (Option.some.inj e3).symm
      subst e3
      have nTl : l ≠ T0 := ne_of_none hz hT
      have nrl : r ≠ l := ne_of h1 hL (by intro z; cases z)
      have h1' : H' r = some (.ins c.R dx (rf m n l)) := kp _ _ h1 nrl
      have nrT : r ≠ T0 := ne_of_none h1' hT
      refine ⟨T0, _, rfl, SqT.of upd_same, rfl, _, _, rfl, _, _, rfl, rfl, ?_⟩
      refine ⟨_, rfl, _, rfl, r, c.R, dx, _, _, rfl, (by rw [upd_ne nrT]; exact h1'), T.cl, T.nInside, rf_inside _ _ _, _, rfl, _, rfl, _, _, rfl, rfl, ?_⟩
      refine ⟨l, zs, _, p + t, rfl, rfl, (by rw [upd_ne nTl]; exact hz), ixN_at (by rw [Int.natCast_add]) (by rw [fz.len]; omega), ?_⟩
      refine ⟨?_, _, _, _, rfl, upd_same, fz.succ e4 (by omega)⟩
      intro z o e hn
      rw [upd_ne hn, upd_ne (ne_of_none (kp _ _ e hn) hT)]
      exact kp _ _ e hn
    · rintro σ H' ⟨kp, v3, v4, zs, rfl, hz, fz⟩
      have nrl : r ≠ l := ne_of h1 hL (by intro z; cases z)
      exact q zs H' fz ⟨⟨dx, kp _ _ h1 nrl⟩, hz, by rw [fz.len]; exact hxl, m0, m6, n0, n20⟩ kp
theorem scRead : FnScope ["self", "place"] ["self", "place"] (defScope sRead) := ⟨rfl, rfl, rfl, by decide +kernel, rfl, by decide +kernel, by decide +kernel⟩
theorem ok_read {f : Addr} {fd : FuncData} (F : Fun K "read" "Rooms.read" sRead f fd) (T : TxtR K c) : FnOk P w K mg base CX0 1 f fd ["self", "place"] (spRead c) := by
  refine F.ok scRead (fun vs H Q E h => ?_) (fun cdv A outer s H vs Q E hr h => ?_)
  · obtain ⟨r, l, m, n, p, xs, v, rfl, _⟩ := h
    rfl
  · obtain ⟨r, l, m, n, p, xs, v, rfl, R, hv, q⟩ := h
    obtain ⟨⟨dx, h1⟩, hL, _⟩ := id R
    refine ⟨_, pss_one (ps_ret (pe_ix ix_list (pe_fld (pv 0) rfl) (pv 1) (fun _ _ => rfl))), ?_⟩
    exact ⟨_, rfl, r, c.R, dx, _, _, rfl, h1, T.cl, T.nInside, rf_inside _ _ _, _, rfl, l, _, _, _, rfl, rfl, SqL.of hL, atI_nat hv, q⟩
end
end Hk
/-! Things: their classes, the defs that make them, the cells of a thing. -/
namespace Hk
open PySem L2

def HasF (P : Program) (w : World) (K : PySem.W.Frag) (mg : Str → Option Value) (base : Heap) (k : Nat) (x : Str) (ps : List Str) (sp : Sp) : Prop := ∃ f fd, GFn P w K mg base k x ps sp f fd
def HasM (P : Program) (w : World) (K : PySem.W.Frag) (mg : Str → Option Value) (base : Heap) (k : Nat) (C : Addr) (m : Str) (ps : List Str) (sp : Sp) : Prop := ∃ f fd, GMt P w K mg base k C m ps sp f fd
def HasC (P : Program) (w : World) (K : PySem.W.Frag) (mg : Str → Option Value) (base : Heap) (k : Nat) (x : Str) (C : Addr) (ps : List Str) (sp : Sp) : Prop := ∃ f fd, GMk P w K mg base k x C ps sp f fd

structure TxtT (K : PySem.W.Frag) (mg : Str → Option Value) (c : Cs) : Prop where
  cl : ∀ k, Cls K (c.of k)
  nRow : ∀ k, NoAttr K (c.of k) "row"
  nLast : NoAttr K c.P "last_words"
  gT : mg "Thing" = some (.ref c.T)
  rdT : ∃ mc, ClX.CRead K c.T mc ∧ ∃ f, PySem.W.findIn K (.ref c.T) "__init__" = some (some (.ref f)) ∧ PySem.W.findCls K (.ref c.T) mc "__init__" = some (.val (.ref f)) ∧ PySem.W.keepIn K (.ref f) = true
  gN : mg "NOTHING" = some (.ref c.nN)
  gS : mg "SORTS" = some (.ref c.nS)
  sS : ∀ H, SqT K H c.nS (sorts.map V.str)
  tS : ∃ o, K.lookup c.nS = some o ∧ o.cls = .type "tuple" ∧ o.dict = none

/-! ### promises -/
def spTInit (K : PySem.W.Frag) (c : Cs) (k : Kd) : Sp := fun vs H Q _ => ∃ (x a dx : Addr) (fs : List V), vs = [.ref x, .ref a] ∧ H x = some (.ins (c.of k) dx []) ∧ SqL K H a fs ∧
  ∀ (l : Addr) (H' : Hp), H l = none → H' x = some (.ins (c.of k) dx (putF "row" (.ref l) [])) → H' l = some (.lst fs) → Kept H H' x → Q .non H'
def spPInit (K : PySem.W.Frag) (c : Cs) : Sp := fun vs H Q _ => ∃ (x a dx : Addr) (fs : List V) (wv : V), vs = [.ref x, .ref a, wv] ∧ H x = some (.ins c.P dx []) ∧ SqL K H a fs ∧
  ∀ (l : Addr) (H' : Hp), H l = none → ThingAt c H' x .plain l fs wv → Kept H H' x → Q .non H'
def spSort (k : Kd) : Sp := fun vs H Q _ => ∃ x : Addr, vs = [.ref x] ∧ Q (.str k.txt) H
def spFields (c : Cs) (k : Kd) : Sp := fun vs H Q _ => ∃ (x l : Addr) (fs : List V) (wv : V), vs = [.ref x] ∧ ThingAt c H x k l fs wv ∧ ∀ p, H p = none → Q (.ref p) (upd H p (.lst fs))
def spWords (c : Cs) (k : Kd) : Sp := fun vs H Q _ => ∃ (x l : Addr) (fs : List V) (wv : V), vs = [.ref x] ∧ ThingAt c H x k l fs wv ∧ (k ≠ .plain → wv = .non) ∧ Q wv H
/-- a new thing is handed back -/
def NewThing (c : Cs) (H : Hp) (Q : VK) (k : Kd) (fs : List V) (wv : V) : Prop := ∀ (x l : Addr) (H' : Hp), Same H H' → H x = none → H l = none → ThingAt c H' x k l fs wv → Q (.ref x) H'
def spPlain (K : PySem.W.Frag) (c : Cs) : Sp := fun vs H Q _ => ∃ (a : Addr) (fs : List V) (wv : V), vs = [.ref a, wv] ∧ SqL K H a fs ∧ NewThing c H Q .plain fs wv
def spWeak (c : Cs) : Sp := fun vs H Q _ => ∃ v wv : V, vs = [v] ∧ NewThing c H Q .weak [v] wv
def spPair (c : Cs) : Sp := fun vs H Q _ => ∃ v u wv : V, vs = [v, u] ∧ NewThing c H Q .pair [v, u] wv
def spMadeOf (K : PySem.W.Frag) (c : Cs) : Sp := fun vs H Q _ => ∃ (k : Kd) (a : Addr) (fs : List V) (wv : V), vs = [.str k.txt, .ref a, wv] ∧ SqL K H a fs ∧ NewThing c H Q k fs wv
def spWordsCell (K : PySem.W.Frag) : Sp := fun vs H Q _ => ∃ wv : V, vs = [wv] ∧ IsW wv ∧ ∀ (v : V) (H' : Hp), Same H H' → WCell K H' wv v → Q v H'
def hw (wv : V) : Bool := !decide (wv = .non)
/-- the cell of last words, of a plain thing alone -/
def Mid (K : PySem.W.Frag) (H : Hp) (wv : V) (mid : List V) : Kd → Prop
  | .plain => ∃ wc, mid = [wc] ∧ WCell K H wv wc
  | _ => mid = []
/-- the cells of a thing -/
def Laid (K : PySem.W.Frag) (H : Hp) (k : Kd) (se : Int) (mk : Bool) (fs : List V) (wv : V) (cs : List V) : Prop :=
  ∃ mid : List V, cs = .int (hdr (k.num : Int) mk (hw wv) ((mid.length + fs.length + 2 : Nat) : Int)) :: .int se :: (mid ++ fs) ∧ Mid K H wv mid k
theorem Mid.same {K : PySem.W.Frag} {H H' : Hp} {wv : V} {mid : List V} {k : Kd} (h : Mid K H wv mid k) (s : Same H H') : Mid K H' wv mid k := by
  cases k
  · obtain ⟨wc, e, h⟩ := h
    exact ⟨wc, e, h.same s⟩
  · exact h
  · exact h
theorem Mid.le {K : PySem.W.Frag} {H : Hp} {wv : V} {mid : List V} {k : Kd} (h : Mid K H wv mid k) : mid.length ≤ 1 := by
  cases k
  · obtain ⟨wc, e, h⟩ := h
    rw [e]
    exact Nat.le_refl _
  · have e : mid = [] := h
    rw [e]
    exact Nat.zero_le _
  · have e : mid = [] := h
    rw [e]
    exact Nat.zero_le _
theorem Laid.same {K : PySem.W.Frag} {H H' : Hp} {k : Kd} {se : Int} {mk : Bool} {fs : List V} {wv : V} {cs : List V} (h : Laid K H k se mk fs wv cs) (s : Same H H') : Laid K H' k se mk fs wv cs := by
  obtain ⟨mid, e, h⟩ := h
  exact ⟨mid, e, h.same s⟩
def spLaid (K : PySem.W.Frag) (c : Cs) : Sp := fun vs H Q _ => ∃ (x l : Addr) (k : Kd) (fs : List V) (wv : V) (se : Int) (mk : Bool), vs = [.ref x, .int se, .bl mk] ∧ ThingAt c H x k l fs wv ∧ FitK k fs wv ∧
  ∀ (q : Addr) (cs : List V) (H' : Hp), H q = none → Same H H' → H' q = some (.lst cs) → Laid K H' k se mk fs wv cs → Q (.ref q) H'

section
variable {P : Program} {w : World} {K : PySem.W.Frag} {mg : Str → Option Value} {base : Heap} {c : Cs}
/-! ### the classes -/
theorem scTInit : FnScope ["self", "row"] ["self", "row"] (defScope sTInit) := ⟨rfl, rfl, rfl, by decide +kernel, rfl, by decide +kernel, by decide +kernel⟩
theorem ok_tinit {f : Addr} {fd : FuncData} (k : Kd) (F : Fun K "__init__" "Thing.__init__" sTInit f fd) (T : TxtT K mg c) (B : TxtB mg) : FnOk P w K mg base CX0 1 f fd ["self", "row"] (spTInit K c k) := by
  refine F.ok scTInit (fun vs H Q E h => ?_) (fun cdv A outer s H vs Q E hr h => ?_)
  · obtain ⟨x, a, dx, fs, rfl, _⟩ := h
    rfl
  · obtain ⟨x, a, dx, fs, rfl, hx, hS, q⟩ := h
    refine ⟨_, pss_one (ps_fld (pv 0) (pe_callTy call_list_of (by rfl) B.list (by decide +kernel) (pa_cons (pv 1) pa_nil)) rfl), ?_⟩
    refine ⟨_, rfl, _, _, rfl, .inl hS, fun l hl => ?_⟩
    have nxl : x ≠ l := ne_of_none hx hl
    refine ⟨_, rfl, x, c.of k, dx, [], rfl, (by rw [upd_ne nxl]; exact hx), T.cl k, T.nRow k, (by show 0 < 1000; decide), ?_⟩
    refine q l _ hl upd_same (by rw [upd_ne nxl.symm]; exact upd_same) fun b o e hb => ?_
    rw [upd_ne hb, upd_ne (ne_of_none e hl)]
    exact e
theorem scTSort : FnScope ["self"] ["self"] (defScope sTSort) := ⟨rfl, rfl, rfl, by decide +kernel, rfl, by decide +kernel, by decide +kernel⟩
theorem ok_tsort {f : Addr} {fd : FuncData} (F : Fun K "sort_of" "Thing.sort_of" sTSort f fd) : FnOk P w K mg base CX0 1 f fd ["self"] (spSort .weak) := by
  refine F.ok scTSort (fun vs H Q E h => ?_) (fun cdv A outer s H vs Q E hr h => ?_)
  · obtain ⟨x, rfl, _⟩ := h
    rfl
  · obtain ⟨x, rfl, q⟩ := h
    exact ⟨_, pss_one (ps_ret pe_str), q⟩
theorem scPSort : FnScope ["self"] ["self"] (defScope sPSort) := ⟨rfl, rfl, rfl, by decide +kernel, rfl, by decide +kernel, by decide +kernel⟩
theorem ok_psort {f : Addr} {fd : FuncData} (F : Fun K "sort_of" "Plain.sort_of" sPSort f fd) : FnOk P w K mg base CX0 1 f fd ["self"] (spSort .plain) := by
  refine F.ok scPSort (fun vs H Q E h => ?_) (fun cdv A outer s H vs Q E hr h => ?_)
  · obtain ⟨x, rfl, _⟩ := h
    rfl
  · obtain ⟨x, rfl, q⟩ := h
    exact ⟨_, pss_one (ps_ret pe_str), q⟩
theorem scQSort : FnScope ["self"] ["self"] (defScope sQSort) := ⟨rfl, rfl, rfl, by decide +kernel, rfl, by decide +kernel, by decide +kernel⟩
theorem ok_qsort {f : Addr} {fd : FuncData} (F : Fun K "sort_of" "Pair.sort_of" sQSort f fd) : FnOk P w K mg base CX0 1 f fd ["self"] (spSort .pair) := by
  refine F.ok scQSort (fun vs H Q E h => ?_) (fun cdv A outer s H vs Q E hr h => ?_)
  · obtain ⟨x, rfl, _⟩ := h
    rfl
  · obtain ⟨x, rfl, q⟩ := h
    exact ⟨_, pss_one (ps_ret pe_str), q⟩
theorem scTFields : FnScope ["self"] ["self"] (defScope sTFields) := ⟨rfl, rfl, rfl, by decide +kernel, rfl, by decide +kernel, by decide +kernel⟩
theorem ok_tfields {f : Addr} {fd : FuncData} (k : Kd) (F : Fun K "fields" "Thing.fields" sTFields f fd) (T : TxtT K mg c) (B : TxtB mg) : FnOk P w K mg base CX0 1 f fd ["self"] (spFields c k) := by
  refine F.ok scTFields (fun vs H Q E h => ?_) (fun cdv A outer s H vs Q E hr h => ?_)
  · obtain ⟨x, l, fs, wv, rfl, _⟩ := h
    rfl
  · obtain ⟨x, l, fs, wv, rfl, ⟨⟨dx, h1⟩, h2⟩, q⟩ := h
    refine ⟨_, pss_one (ps_ret (pe_callTy call_list_of (by rfl) B.list (by decide +kernel) (pa_cons (pe_fld (pv 0) rfl) pa_nil))), ?_⟩
    exact ⟨_, rfl, x, c.of k, dx, _, _, rfl, h1, T.cl k, T.nRow k, tf_row _ _ _, _, _, rfl, .inl (SqL.of h2), q⟩
theorem scTWords : FnScope ["self"] ["self"] (defScope sTWords) := ⟨rfl, rfl, rfl, by decide +kernel, rfl, by decide +kernel, by decide +kernel⟩
theorem ok_twords {f : Addr} {fd : FuncData} (k : Kd) (hk : k ≠ .plain) (F : Fun K "words" "Thing.words" sTWords f fd) : FnOk P w K mg base CX0 1 f fd ["self"] (spWords c k) := by
  refine F.ok scTWords (fun vs H Q E h => ?_) (fun cdv A outer s H vs Q E hr h => ?_)
  · obtain ⟨x, l, fs, wv, rfl, _⟩ := h
    rfl
  · obtain ⟨x, l, fs, wv, rfl, _, e, q⟩ := h
    have e2 := e hk
    subst e2
    exact ⟨_, pss_one (ps_ret pe_non), q⟩
theorem scPWords : FnScope ["self"] ["self"] (defScope sPWords) := ⟨rfl, rfl, rfl, by decide +kernel, rfl, by decide +kernel, by decide +kernel⟩
theorem ok_pwords {f : Addr} {fd : FuncData} (F : Fun K "words" "Plain.words" sPWords f fd) (T : TxtT K mg c) : FnOk P w K mg base CX0 1 f fd ["self"] (spWords c .plain) := by
  refine F.ok scPWords (fun vs H Q E h => ?_) (fun cdv A outer s H vs Q E hr h => ?_)
  · obtain ⟨x, l, fs, wv, rfl, _⟩ := h
    rfl
  · obtain ⟨x, l, fs, wv, rfl, ⟨⟨dx, h1⟩, h2⟩, _, q⟩ := h
    exact ⟨_, pss_one (ps_ret (pe_fld (pv 0) rfl)), ⟨_, rfl, x, c.P, dx, _, _, rfl, h1, T.cl .plain, T.nLast, tf_words _ _, q⟩⟩
theorem scPInit : FnScope ["self", "row", "last_words"] ["self", "row", "last_words"] (defScope sPInit) := ⟨rfl, rfl, rfl, by decide +kernel, rfl, by decide +kernel, by decide +kernel⟩
theorem ok_pinit {f g : Addr} {fd gd : FuncData} (F : Fun K "__init__" "Plain.__init__" sPInit f fd) (T : TxtT K mg c)
    (hi : PySem.W.findIn K (.ref c.T) "__init__" = some (some (.ref g))) (G : FnOk P w K mg base CX0 1 g gd ["self", "row"] (spTInit K c .plain)) (gb : Binds K gd ["self", "row"] []) : FnOk P w K mg base CX0 2 f fd ["self", "row", "last_words"] (spPInit K c) := by
  refine F.ok scPInit (fun vs H Q E h => ?_) (fun cdv A outer s H vs Q E hr h => ?_)
  · obtain ⟨x, a, dx, fs, wv, rfl, _⟩ := h
    rfl
  · obtain ⟨x, a, dx, fs, wv, rfl, hx, hS, q⟩ := h
    obtain ⟨mc, rd, g2, hf, hc, kp⟩ := T.rdT
    have eg : g2 = g := by
      rw [hf] at hi
      injection hi with hi
      injection hi with hi
      injection hi
    subst eg
    refine ⟨_, pss_cons (ps_expr (pe_clsfn (pe_glob (v := V.ref c.T) (by rfl) T.gT rfl) rd hc kp G hr gb (pa_cons (pv 0) (pa_cons (pv 1) pa_nil)))) (pss_one (ps_fld (pv 0) (pv 2) rfl)), ?_⟩
    refine ⟨rfl, _, rfl, _, rfl, x, a, dx, fs, rfl, hx, hS, fun l H' hl hx' hl' kp' => ?_⟩
    have nxl : x ≠ l := ne_of_none hx hl
    refine ⟨_, rfl, _, rfl, x, c.P, dx, _, rfl, hx', T.cl .plain, T.nLast, (by show 1 < 1000; decide), ?_⟩
    refine q l _ hl ⟨⟨dx, upd_same⟩, by rw [upd_ne nxl.symm]; exact hl'⟩ fun b o e hb => ?_
    rw [upd_ne hb]
    exact kp' b o e hb
/-! ### the makers -/
/-- a thing's making by its class -/
theorem made_plain {H : Hp} {Q : VK} {a : Addr} {fs : List V} {wv : V} (hS : SqL K H a fs) (q : NewThing c H Q .plain fs wv) (x dx : Addr) (nx : H x = none) (nd : H dx = none) :
    spPInit K c (.ref x :: ([V.ref a, wv] ++ [])) (upd (upd H dx (.own x)) x (.ins c.P dx [])) (fun v H2 => v = .non ∧ Q (.ref x) H2) E0 := by
  have s0 : Same H (upd (upd H dx (.own x)) x (.ins c.P dx [])) := fun b o e => by
    rw [upd_ne (ne_of_none e nx), upd_ne (ne_of_none e nd)]
    exact e
  exact ⟨x, a, dx, fs, wv, rfl, upd_same, s0.seq hS, fun l H' hl ht kp => ⟨rfl, q x l H' (s0.keptNew kp nx) nx (s0.free hl) ht⟩⟩
theorem made_other {H : Hp} {Q : VK} {a : Addr} {fs : List V} {wv : V} (k : Kd) (hk : k ≠ .plain) (hS : SqL K H a fs) (q : NewThing c H Q k fs wv) (x dx : Addr) (nx : H x = none) (nd : H dx = none) :
    spTInit K c k (.ref x :: ([V.ref a] ++ [])) (upd (upd H dx (.own x)) x (.ins (c.of k) dx [])) (fun v H2 => v = .non ∧ Q (.ref x) H2) E0 := by
  have s0 : Same H (upd (upd H dx (.own x)) x (.ins (c.of k) dx [])) := fun b o e => by
    rw [upd_ne (ne_of_none e nx), upd_ne (ne_of_none e nd)]
    exact e
  refine ⟨x, a, dx, fs, rfl, upd_same, s0.seq hS, fun l H' hl hx hl' kp => ⟨rfl, q x l H' (s0.keptNew kp nx) nx (s0.free hl) ⟨⟨dx, ?_⟩, hl'⟩⟩⟩
  cases k with
  | plain => exact absurd rfl hk
  | weak => exact hx
  | pair => exact hx
theorem scPlain : FnScope ["fields", "words"] ["fields", "words"] (defScope sPlain) := ⟨rfl, rfl, rfl, by decide +kernel, rfl, by decide +kernel, by decide +kernel⟩
theorem ok_plain {f : Addr} {fd : FuncData} (F : Fun K "plain" "plain" sPlain f fd) (G : HasC P w K mg base 2 "Plain" c.P ["self", "row", "last_words"] (spPInit K c)) : FnOk P w K mg base CX0 4 f fd ["fields", "words"] (spPlain K c) := by
  refine F.ok scPlain (fun vs H Q E h => ?_) (fun cdv A outer s H vs Q E hr h => ?_)
  · obtain ⟨a, fs, wv, rfl, _⟩ := h
    rfl
  · obtain ⟨a, fs, wv, rfl, hS, q⟩ := h
    obtain ⟨g, gd, G⟩ := G
    refine ⟨_, pss_one (ps_ret (pmake G hr (pa_cons (pv 0) (pa_cons (pv 1) pa_nil)))), ?_⟩
    exact ⟨_, rfl, _, rfl, fun x dx nx nd _ => made_plain hS q x dx nx nd⟩
theorem scWeak : FnScope ["field"] ["field"] (defScope sWeak) := ⟨rfl, rfl, rfl, by decide +kernel, rfl, by decide +kernel, by decide +kernel⟩
theorem NewThing.same {H H1 : Hp} {Q : VK} {k : Kd} {fs : List V} {wv : V} (q : NewThing c H Q k fs wv) (s : Same H H1) : NewThing c H1 Q k fs wv := fun x l H' s' nx nl ht => q x l H' (s.trans s') (s.free nx) (s.free nl) ht
theorem ok_weak {f : Addr} {fd : FuncData} (F : Fun K "weak" "weak" sWeak f fd) (G : HasC P w K mg base 1 "Thing" c.T ["self", "row"] (spTInit K c .weak)) : FnOk P w K mg base CX0 3 f fd ["field"] (spWeak c) := by
  refine F.ok scWeak (fun vs H Q E h => ?_) (fun cdv A outer s H vs Q E hr h => ?_)
  · obtain ⟨v, wv, rfl, _⟩ := h
    rfl
  · obtain ⟨v, wv, rfl, q⟩ := h
    obtain ⟨g, gd, G⟩ := G
    refine ⟨_, pss_one (ps_ret (pmake G hr (pa_cons (pe_lst (pa_cons (pv 0) pa_nil)) pa_nil))), ?_⟩
    refine ⟨_, rfl, (by show 1 ≤ sizeLine; decide), fun a ha => ?_⟩
    exact fun x dx nx nd _ => made_other (K := K) .weak (by decide) (SqL.of upd_same) (q.same (Same.new ha)) x dx nx nd
theorem scPair : FnScope ["key", "value"] ["key", "value"] (defScope sPair) := ⟨rfl, rfl, rfl, by decide +kernel, rfl, by decide +kernel, by decide +kernel⟩
theorem ok_pair {f : Addr} {fd : FuncData} (F : Fun K "pair" "pair" sPair f fd) (G : HasC P w K mg base 1 "Pair" c.Q ["self", "row"] (spTInit K c .pair)) : FnOk P w K mg base CX0 3 f fd ["key", "value"] (spPair c) := by
  refine F.ok scPair (fun vs H Q E h => ?_) (fun cdv A outer s H vs Q E hr h => ?_)
  · obtain ⟨v, u, wv, rfl, _⟩ := h
    rfl
  · obtain ⟨v, u, wv, rfl, q⟩ := h
    obtain ⟨g, gd, G⟩ := G
    refine ⟨_, pss_one (ps_ret (pmake G hr (pa_cons (pe_lst (pa_cons (pv 0) (pa_cons (pv 1) pa_nil))) pa_nil))), ?_⟩
    refine ⟨_, rfl, _, rfl, (by show 2 ≤ sizeLine; decide), fun a ha => ?_⟩
    exact fun x dx nx nd _ => made_other (K := K) .pair (by decide) (SqL.of upd_same) (q.same (Same.new ha)) x dx nx nd
theorem scMadeOf : FnScope ["sort", "fields", "words"] ["sort", "fields", "words"] (defScope sMadeOf) := ⟨rfl, rfl, rfl, by decide +kernel, rfl, by decide +kernel, by decide +kernel⟩
theorem ok_made_of {f : Addr} {fd : FuncData} (F : Fun K "made_of" "made_of" sMadeOf f fd) (GP : HasC P w K mg base 2 "Plain" c.P ["self", "row", "last_words"] (spPInit K c))
    (GT : HasC P w K mg base 1 "Thing" c.T ["self", "row"] (spTInit K c .weak)) (GQ : HasC P w K mg base 1 "Pair" c.Q ["self", "row"] (spTInit K c .pair)) : FnOk P w K mg base CX0 4 f fd ["sort", "fields", "words"] (spMadeOf K c) := by
  refine F.ok scMadeOf (fun vs H Q E h => ?_) (fun cdv A outer s H vs Q E hr h => ?_)
  · obtain ⟨k, a, fs, wv, rfl, _⟩ := h
    rfl
  · obtain ⟨k, a, fs, wv, rfl, hS, q⟩ := h
    obtain ⟨g1, gd1, GP⟩ := GP
    obtain ⟨g2, gd2, GT⟩ := GT
    obtain ⟨g3, gd3, GQ⟩ := GQ
    have hr2 : Room 2 _ := hr.mono (by decide)
    refine ⟨_, pss_cons (ps_if (pt_cmpR op_eq (pv 0) pe_str (nomark _)) (pss_one (ps_ret (pmake GP hr (pa_cons (pv 1) (pa_cons (pv 2) pa_nil))))) pss_nil)
      (pss_cons (ps_if (pt_cmpR op_eq (pv 0) pe_str (nomark _)) (pss_one (ps_ret (pmake GT hr2 (pa_cons (pv 1) pa_nil)))) pss_nil)
      (pss_one (ps_ret (pmake GQ hr2 (pa_cons (pv 1) pa_nil))))), ?_⟩
    refine ⟨_, rfl, rfl, _, rfl, ?_⟩
    cases k with
    | plain => exact iteD rfl ⟨_, rfl, _, rfl, fun x dx nx nd _ => made_plain hS q x dx nx nd⟩
    | weak =>
      refine iteDN (fun z => wp_ (V.str.inj z)) ⟨_, rfl, rfl, _, rfl, iteD rfl ?_⟩
      exact ⟨_, rfl, fun x dx nx nd _ => made_other .weak (by decide) hS q x dx nx nd⟩
    | pair =>
      refine iteDN (fun z => qp_ (V.str.inj z)) ⟨_, rfl, rfl, _, rfl, iteDN (fun z => qw_ (V.str.inj z)) ?_⟩
      exact ⟨_, rfl, fun x dx nx nd _ => made_other .pair (by decide) hS q x dx nx nd⟩
/-! ### the cells of a thing -/
theorem scWordsCell : FnScope ["words"] ["words"] (defScope sWordsCell) := ⟨rfl, rfl, rfl, by decide +kernel, rfl, by decide +kernel, by decide +kernel⟩
theorem ok_words_cell {f : Addr} {fd : FuncData} (F : Fun K "words_cell" "words_cell" sWordsCell f fd) (T : TxtT K mg c) : FnOk P w K mg base CX0 1 f fd ["words"] (spWordsCell K) := by
  refine F.ok scWordsCell (fun vs H Q E h => ?_) (fun cdv A outer s H vs Q E hr h => ?_)
  · obtain ⟨wv, rfl, _⟩ := h
    rfl
  · obtain ⟨wv, rfl, hw, q⟩ := h
    refine ⟨_, pss_cons (ps_if (pt_cmpR op_isN (pv 0) pe_non (nomark _)) (pss_one (ps_ret (pe_glob (v := V.ref c.nN) (by rfl) T.gN rfl))) pss_nil) (pss_one (ps_ret (pe_tup (pa_cons pe_str (pa_cons (pv 0) pa_nil))))), ?_⟩
    refine ⟨_, rfl, rfl, _, rfl, ?_⟩
    rcases hw with e | ⟨n, e⟩
    · exact iteD e (q _ _ (Same.refl _) ⟨_, rfl, .inl e⟩)
    · refine iteDN (by rw [e]; intro z; cases z) ?_
      refine ⟨_, rfl, (by show 2 ≤ sizeLine; decide), fun p hp => q _ _ (Same.new hp) ⟨p, rfl, .inr ⟨n, e, ?_⟩⟩⟩
      subst e
      exact SqT.of upd_same
theorem scLaid : FnScope ["thing", "serial", "marked", "some", "kind"] ["thing", "serial", "marked"] (defScope sLaid) := ⟨rfl, rfl, rfl, by decide +kernel, rfl, by decide +kernel, by decide +kernel⟩
theorem ok_laid {f : Addr} {fd : FuncData} (F : Fun K "laid" "laid" sLaid f fd) (T : TxtT K mg c) (B : TxtB mg) (GS : ∀ k, HasM P w K mg base 1 (c.of k) "sort_of" ["self"] (spSort k)) (GF : ∀ k, HasM P w K mg base 1 (c.of k) "fields" ["self"] (spFields c k))
    (GW : ∀ k, HasM P w K mg base 1 (c.of k) "words" ["self"] (spWords c k)) (GC : HasF P w K mg base 1 "words_cell" ["words"] (spWordsCell K)) (GH : HasF P w K mg base 1 "header" ["kind", "marked", "words", "size"] spHeader) :
    FnOk P w K mg base CX0 2 f fd ["thing", "serial", "marked"] (spLaid K c) := by
  refine F.ok scLaid (fun vs H Q E h => ?_) (fun cdv A outer s H vs Q E hr h => ?_)
  · obtain ⟨x, l, k, fs, wv, se, mk, rfl, _⟩ := h
    rfl
  · obtain ⟨x, l, k, fs, wv, se, mk, rfl, TA, FK, q⟩ := h
    obtain ⟨g1, gd1, GS⟩ := GS k
    obtain ⟨g2, gd2, GF⟩ := GF k
    obtain ⟨g3, gd3, GW⟩ := GW k
    obtain ⟨g4, gd4, GC⟩ := GC
    obtain ⟨g5, gd5, GH⟩ := GH
    refine ⟨_, pss_cons (ps_set (i := 3) scLaid.nd rfl (Or.inl rfl) (pe_lst (pa_cons (pv 1) pa_nil)))
      (pss_cons (ps_if (pt_cmpR op_eq (pmeth0 GS hr (pv 0)) pe_str (nomark _)) (pss_one (ps_expr (pe_bm PySem.F.plainAttrs_list PySem.F.slot_list_append PySem.F.type_list_append mt_append (pv 3) (pa_cons (pcall GC hr (pa_cons (pmeth0 GW hr (pv 0)) pa_nil)) pa_nil)))) pss_nil)
      (pss_cons (ps_expr (pe_bm PySem.F.plainAttrs_list PySem.F.slot_list_extend PySem.F.type_list_extend mt_extend (pv 3) (pa_cons (pmeth0 GF hr (pv 0)) pa_nil)))
      (pss_cons (ps_set (i := 4) scLaid.nd rfl (Or.inl rfl) (pe_bm PySem.F.plainAttrs_tuple PySem.F.slot_tuple_index PySem.F.type_tuple_index mt_tup_index (pe_glob (v := V.ref c.nS) (by rfl) T.gS rfl) (pa_cons (pmeth0 GS hr (pv 0)) pa_nil)))
      (pss_one (ps_ret (pe_op op_cat (pe_lst (pa_cons (pcall GH hr (pa_cons (pv 4) (pa_cons (pv 2) (pa_cons (pe_cmpR op_notN (pmeth0 GW hr (pv 0)) pe_non (nomark _)) (pa_cons (pe_op op_add (pe_callB call_len_seq (by rfl) B.len PySem.boot_len (pa_cons (pv 3) pa_nil)) pe_int) pa_nil))))) pa_nil)) (pv 3))))))), ?_⟩
    obtain ⟨⟨dx, h1⟩, h2⟩ := id TA
    have noS : (tf k l wv).lookup ("sort_of" : Str) = none := tf_no _ _ _ (by decide +kernel) (by decide +kernel)
    have noF : (tf k l wv).lookup ("fields" : Str) = none := tf_no _ _ _ (by decide +kernel) (by decide +kernel)
    have noW : (tf k l wv).lookup ("words" : Str) = none := tf_no _ _ _ (by decide +kernel) (by decide +kernel)
    have hwn : k ≠ .plain → wv = .non := fun z => by
      cases k with
      | plain => exact absurd rfl z
      | weak => exact FK.2.2
      | pair => exact FK.2.2
    have hfl : fs.length ≤ 8 := FK.le
    -- some = [serial]
    refine ⟨_, rfl, (by show 1 ≤ sizeLine; decide), fun a ha => ?_⟩
    have s1 : Same H (upd H a (.lst [V.int se])) := Same.new ha
    have nax : a ≠ x := (ne_of_none h1 ha).symm
    have nal : a ≠ l := (ne_of_none h2 ha).symm
    -- if thing.sort_of() == 'plain':
    refine ⟨_, rfl, x, dx, _, rfl, s1 _ _ h1, noS, x, rfl, rfl, _, rfl, ?_⟩
    -- what follows the if
    have tail : ∀ (mid : List V) (H1 : Hp), Same H H1 → H1 a = some (.lst (V.int se :: mid)) → Mid K H1 wv mid k →
        ((tSeq (tDrop (tBM K "list" rExtend (tVar 3) (tCons (tMeth (c.of k) "fields" (spFields c k) [] E0 (tVar 0) tNil) tNil)))
          (tSeq (tAsg (tBM K "tuple" (fun x xs H Q => ∃ p, ∃ ys : List Str, ∃ z j, x = V.ref p ∧ xs = [V.str z] ∧ SqT K H p (ys.map V.str) ∧ ys[j]? = some z ∧ (∀ m, m < j → ys[m]? ≠ some z) ∧ Q (.int (j : Nat)) H) (tC (V.ref c.nS))
              (tCons (tMeth (c.of k) "sort_of" (spSort k) [] E0 (tVar 0) tNil) tNil)) (gName 4))
            (tRet (tOp rCat (tLst (tCons (tCall spHeader [] E0 (tCons (tVar 4) (tCons (tVar 2) (tCons (tOp (fun x y H Q => y = .non ∧ Q (.bl (!decide (x = .non))) H) (tMeth (c.of k) "words" (spWords c k) [] E0 (tVar 0) tNil) (tC .non))
              (tCons (tOp (rI0 fun i j => .int (i + j)) (tCB (fun xs H Q => ∃ p ys, xs = [.ref p] ∧ (SqL K H p ys ∨ SqT K H p ys) ∧ Q (.int ys.length) H) (tCons (tVar 3) tNil)) (tC (.int 1))) tNil))))) tNil)) (tVar 3)))))
          { nx := fun _ H' => Q .non H', rt := Q } [some (.ref x), some (.int se), some (.bl mk), some (.ref a), none] H1) := fun mid H1 sm ha1 hm => by
      have hml := hm.le
      have x1 := sm _ _ h1
      have l1 := sm _ _ h2
      refine ⟨_, rfl, .inl ⟨rfl, _, SqL.of ha1⟩, _, rfl, x, dx, _, rfl, x1, noF, x, l, fs, wv, rfl, TA.same sm, fun p hp => ?_⟩
      have nap : a ≠ p := ne_of_none ha1 hp
      refine ⟨a, p, _, _, rfl, rfl, (by rw [upd_ne nap]; exact ha1), upd_same, Nat.le_trans (show (V.int se :: mid).length + fs.length ≤ 1000 by rw [List.length_cons]; omega) (by decide), ?_⟩
      have sm2 : Same H (upd (upd H1 p (.lst fs)) a (.lst (V.int se :: mid ++ fs))) := fun b o e => by
        rw [upd_ne (ne_of_none e ha), upd_ne (ne_of_none (sm _ _ e) hp)]
        exact sm _ _ e
      have sm12 : ∀ b o, H1 b = some o → b ≠ a → (upd (upd H1 p (.lst fs)) a (.lst (V.int se :: mid ++ fs))) b = some o := fun b o e hb => by
        rw [upd_ne hb, upd_ne (ne_of_none e hp)]
        exact e
      -- kind = SORTS.index(..)
      refine ⟨.inr (.inl ⟨rfl, T.tS⟩), _, rfl, x, dx, _, rfl, sm2 _ _ h1, noS, x, rfl, c.nS, sorts, k.txt, k.num, rfl, rfl, T.sS _, k.at_, ?_, ?_⟩
      · intro m hm e
        have e2 := k.at_
        cases k with
        | plain => exact absurd hm (Nat.not_lt_zero _)
        | weak =>
          match m, hm, e with
          | 0, _, e => exact pw_ (Option.some.inj e)
        | pair =>
          match m, hm, e with
          | 0, _, e => exact pp_ (Option.some.inj e)
          | 1, _, e => exact wq_ (Option.some.inj e)
      -- return [header(..)] + some
      refine ⟨_, rfl, _, rfl, _, rfl, x, dx, _, rfl, sm2 _ _ h1, noW, x, l, fs, wv, rfl, TA.same sm2, hwn, rfl, _, rfl, a, _, rfl, .inl (SqL.of upd_same), _, _, rfl, rfl, ?_⟩
      have elen : (((V.int se :: mid ++ fs).length : Nat) : Int) + 1 = ((mid.length + fs.length + 2 : Nat) : Int) := by
        rw [List.length_append, List.length_cons]
        omega
      refine ⟨k.num, mid.length + fs.length + 2, mk, hw wv, ?_, by omega, ?_⟩
      · show [V.int ((k.num : Nat) : Int), V.bl mk, V.bl (!decide (wv = V.non)), V.int ((((V.int se :: mid ++ fs).length : Nat) : Int) + 1)] = _
        rw [elen]
        rfl
      refine ⟨(by show 1 ≤ sizeLine; decide), fun u hu => ?_⟩
      have nau : a ≠ u := ne_of_none upd_same hu
      refine ⟨_, rfl, u, a, _, _, rfl, rfl, upd_same, (by rw [upd_ne nau]; exact upd_same), Nat.le_trans (show 1 + (V.int se :: mid ++ fs).length ≤ 1000 by rw [List.length_append, List.length_cons]; omega) (by decide), fun z hz => ?_⟩
      have sm3 : Same H (upd (upd (upd (upd H1 p (.lst fs)) a (.lst (V.int se :: mid ++ fs))) u (.lst [V.int (hdr (k.num : Int) mk (hw wv) ((mid.length + fs.length + 2 : Nat) : Int))])) z (.lst ([V.int (hdr (k.num : Int) mk (hw wv) ((mid.length + fs.length + 2 : Nat) : Int))] ++ (V.int se :: mid ++ fs)))) := (sm2.then hu).then hz
      have hz0 : H z = none := (sm2.then hu).free hz
      refine q z _ _ hz0 sm3 upd_same ⟨mid, rfl, ?_⟩
      cases k with
      | plain =>
        obtain ⟨wc, e, w1, e1, hwc⟩ := hm
        refine ⟨wc, e, w1, e1, ?_⟩
        rcases hwc with e2 | ⟨n, e2, hq⟩
        · exact .inl e2
        · refine .inr ⟨n, e2, ?_⟩
          rcases hq with (hq | ⟨o, hq⟩) | hq
          · have na : w1 ≠ a := ne_of hq ha1 (by intro z; cases z)
            have h3 := sm12 _ _ hq na
            refine .inl (.inl ?_)
            rw [upd_ne (ne_of_none (Same.new hu _ _ h3) hz), upd_ne (ne_of_none h3 hu)]
            exact h3
          · have na : w1 ≠ a := ne_of hq ha1 (by intro z; cases z)
            have h3 := sm12 _ _ hq na
            refine .inl (.inr ⟨o, ?_⟩)
            rw [upd_ne (ne_of_none (Same.new hu _ _ h3) hz), upd_ne (ne_of_none h3 hu)]
            exact h3
          · exact .inr hq
      | weak => exact hm
      | pair => exact hm
    cases k with
    | plain =>
      refine iteD rfl ?_
      refine ⟨_, rfl, .inl ⟨rfl, _, SqL.of upd_same⟩, _, rfl, x, dx, _, rfl, s1 _ _ h1, noW, x, l, fs, wv, rfl, TA.same s1, hwn, wv, rfl, FK.1, fun v H2 s2 hwc => ?_⟩
      have ha2 := s2 _ _ (upd_same (H := H) (a := a) (o := .lst [V.int se]))
      refine ⟨a, _, _, rfl, rfl, ha2, (by show 1 < sizeLine; decide), ?_⟩
      refine tail [v] _ ((s1.trans s2).store ha) upd_same ⟨v, rfl, ?_⟩
      obtain ⟨w1, e1, hwc⟩ := hwc
      refine ⟨w1, e1, ?_⟩
      rcases hwc with e2 | ⟨n, e2, hq⟩
      · exact .inl e2
      · refine .inr ⟨n, e2, ?_⟩
        rcases hq with (hq | ⟨o, hq⟩) | hq
        · refine .inl (.inl ?_)
          rw [upd_ne (ne_of hq ha2 (by intro z; cases z))]
          exact hq
        · refine .inl (.inr ⟨o, ?_⟩)
          rw [upd_ne (ne_of hq ha2 (by intro z; cases z))]
          exact hq
        · exact .inr hq
    | weak => exact iteDN (fun z => wp_ (V.str.inj z)) (tail [] _ s1 upd_same rfl)
    | pair => exact iteDN (fun z => qp_ (V.str.inj z)) (tail [] _ s1 upd_same rfl)
end
end Hk
/-! The memory: a thing put in, a thing told. -/
namespace Hk
open PySem L2

structure TxtM (K : PySem.W.Frag) (c : Cs) : Prop where
  cl : Cls K c.M
  nRooms : NoAttr K c.M "rooms"

/-! ### entries -/
def Kd.off : Kd → Nat
  | .plain => 3
  | _ => 2
theorem Kd.off_le (k : Kd) : k.off ≤ 3 := by cases k <;> decide
/-- the cells xs hold, from p on, a thing of sort k, with serial, mark, fields, last words -/
structure Entry (K : PySem.W.Frag) (H : Hp) (xs : List V) (p : Nat) (k : Kd) (se : Int) (mk : Bool) (fs : List V) (wv : V) : Prop where
  hd : xs[p]? = some (.int (hdr (k.num : Int) mk (hw wv) ((k.off + fs.length : Nat) : Int)))
  se : xs[p + 1]? = some (.int se)
  wc : k = .plain → ∃ v, xs[p + 2]? = some v ∧ WCell K H wv v
  fl : ∀ j, j < fs.length → xs[p + k.off + j]? = fs[j]?
  fit : FitK k fs wv
theorem Entry.same {K : PySem.W.Frag} {H H' : Hp} {xs : List V} {p : Nat} {k : Kd} {se : Int} {mk : Bool} {fs : List V} {wv : V} (E : Entry K H xs p k se mk fs wv) (s : Same H H') : Entry K H' xs p k se mk fs wv :=
  ⟨E.hd, E.se, fun e => let ⟨v, h, w⟩ := E.wc e; ⟨v, h, w.same s⟩, E.fl, E.fit⟩
theorem Entry.lt {K : PySem.W.Frag} {H : Hp} {xs : List V} {p : Nat} {k : Kd} {se : Int} {mk : Bool} {fs : List V} {wv : V} (E : Entry K H xs p k se mk fs wv) : k.off + fs.length < 12 := by
  have h1 := E.fit.le
  have h2 := k.off_le
  omega
theorem Kept.seqT {K : PySem.W.Frag} {H H' : Hp} {l a : Addr} {xs ys : List V} (k : Kept H H' l) (hl : H l = some (.lst xs)) (h : SqT K H a ys) : SqT K H' a ys := by
  rcases h with (h | ⟨o, h⟩) | h
  · exact .inl (.inl (k _ _ h (ne_of h hl (by intro z; cases z))))
  · exact .inl (.inr ⟨o, k _ _ h (ne_of h hl (by intro z; cases z))⟩)
  · exact .inr h
theorem Kept.wcell {K : PySem.W.Frag} {H H' : Hp} {l : Addr} {xs : List V} {wv v : V} (k : Kept H H' l) (hl : H l = some (.lst xs)) (h : WCell K H wv v) : WCell K H' wv v := by
  obtain ⟨a, e, h | ⟨n, e2, h⟩⟩ := h
  · exact ⟨a, e, .inl h⟩
  · exact ⟨a, e, .inr ⟨n, e2, k.seqT hl h⟩⟩
theorem Kept.mid {K : PySem.W.Frag} {H H' : Hp} {l : Addr} {xs mid : List V} {wv : V} {kd : Kd} (k : Kept H H' l) (hl : H l = some (.lst xs)) (h : Mid K H wv mid kd) : Mid K H' wv mid kd := by
  cases kd
  · obtain ⟨wc, e, h⟩ := h
    exact ⟨wc, e, k.wcell hl h⟩
  · exact h
  · exact h
/-- a cell of an entry isn't free -/
theorem Entry.full {K : PySem.W.Frag} {H : Hp} {xs : List V} {p : Nat} {k : Kd} {se : Int} {mk : Bool} {fs : List V} {wv : V} (E : Entry K H xs p k se mk fs wv) (hf : ∀ v ∈ fs, v ≠ .non) {j : Nat} (hj : j < k.off + fs.length) : xs[p + j]? ≠ some .non := by
  intro e
  match j, hj, e with
  | 0, _, e =>
    have h := E.hd
    rw [Nat.add_zero] at e
    rw [e] at h
    cases h
  | 1, _, e =>
    have h := E.se
    rw [e] at h
    cases h
  | j + 2, hj, e =>
    have fld : ∀ i, i < fs.length → xs[p + k.off + i]? ≠ some .non := fun i hi z => by
      rw [E.fl i hi] at z
      exact hf _ (List.mem_of_getElem? z) rfl
    cases k with
    | plain =>
      have hj : j + 2 < 3 + fs.length := hj
      match j, hj, e with
      | 0, _, e =>
        obtain ⟨v, h, a, e2, _⟩ := E.wc rfl
        rw [h, e2] at e
        cases e
      | i + 1, hj, e =>
        refine fld i (by omega) ?_
        show xs[p + 3 + i]? = some .non
        rw [show p + 3 + i = p + (i + 1 + 2) by omega]
        exact e
    | weak =>
      have hj : j + 2 < 2 + fs.length := hj
      refine fld j (by omega) ?_
      show xs[p + 2 + j]? = some .non
      rw [show p + 2 + j = p + (j + 2) by omega]
      exact e
    | pair =>
      have hj : j + 2 < 2 + fs.length := hj
      refine fld j (by omega) ?_
      show xs[p + 2 + j]? = some .non
      rw [show p + 2 + j = p + (j + 2) by omega]
      exact e
/-- what an entry says leans on its own cells -/
theorem Entry.move {K : PySem.W.Frag} {H H' : Hp} {xs zs : List V} {p : Nat} {k : Kd} {se : Int} {mk : Bool} {fs : List V} {wv : V} (E : Entry K H xs p k se mk fs wv)
    (hx : ∀ j, j < k.off + fs.length → zs[p + j]? = xs[p + j]?) (hw' : ∀ v, WCell K H wv v → WCell K H' wv v) : Entry K H' zs p k se mk fs wv := by
  have h2 : 2 ≤ k.off := by cases k <;> decide
  refine ⟨?_, ?_, fun e => ?_, fun j hj => ?_, E.fit⟩
  · have h := hx 0 (by omega)
    rw [Nat.add_zero] at h
    rw [h]
    exact E.hd
  · rw [hx 1 (by omega)]
    exact E.se
  · obtain ⟨v, h, w⟩ := E.wc e
    refine ⟨v, ?_, hw' v w⟩
    rw [hx 2 (by subst e; show 2 < 3 + fs.length; omega)]
    exact h
  · rw [show p + k.off + j = p + (k.off + j) by omega, hx (k.off + j) (by omega), show p + (k.off + j) = p + k.off + j by omega]
    exact E.fl j hj
/-- the cells of a thing put in are its entry -/
theorem Entry.of {K : PySem.W.Frag} {H : Hp} {xs zs cs : List V} {p : Nat} {k : Kd} {se : Int} {mk : Bool} {fs : List V} {wv : V} (L : Laid K H k se mk fs wv cs) (F : Filled xs p cs cs.length zs) (fit : FitK k fs wv) :
    Entry K H zs p k se mk fs wv ∧ cs.length = k.off + fs.length := by
  obtain ⟨mid, e, hm⟩ := L
  have key : mid.length + 2 = k.off ∧ (k = .plain → ∃ v, mid = [v] ∧ WCell K H wv v) := by
    cases k with
    | plain =>
      obtain ⟨wc, e, h⟩ := hm
      subst e
      exact ⟨rfl, fun _ => ⟨wc, rfl, h⟩⟩
    | weak =>
      have e : mid = [] := hm
      subst e
      exact ⟨rfl, fun z => by cases z⟩
    | pair =>
      have e : mid = [] := hm
      subst e
      exact ⟨rfl, fun z => by cases z⟩
  obtain ⟨hml, hmp⟩ := key
  have hcl : cs.length = k.off + fs.length := by
    rw [e, List.length_cons, List.length_cons, List.length_append]
    omega
  refine ⟨⟨?_, ?_, fun ek => ?_, fun j hj => ?_, fit⟩, hcl⟩
  · have h := F.new 0 (by omega)
    rw [Nat.add_zero] at h
    rw [h, e]
    show some (V.int (hdr _ mk (hw wv) ((mid.length + fs.length + 2 : Nat) : Int))) = _
    rw [show mid.length + fs.length + 2 = k.off + fs.length by omega]
  · rw [F.new 1 (by omega), e]
    rfl
  · obtain ⟨v, ev, hv⟩ := hmp ek
    refine ⟨v, ?_, hv⟩
    rw [F.new 2 (by subst ek; rw [hcl]; show 2 < 3 + fs.length; omega), e, ev]
    rfl
  · rw [show p + k.off + j = p + (k.off + j) by omega, F.new (k.off + j) (by omega), e, ← hml]
    show (V.int _ :: V.int se :: (mid ++ fs))[mid.length + 2 + j]? = fs[j]?
    rw [show mid.length + 2 + j = mid.length + j + 2 by omega, List.getElem?_cons_succ, List.getElem?_cons_succ, List.getElem?_append_right (by omega), show mid.length + j - mid.length = j by omega]

/-! ### promises -/
def spMInit (c : Cs) : Sp := fun vs H Q _ => ∃ (a dx : Addr) (m n : Nat), vs = [.ref a, .int (m : Int), .int (n : Int)] ∧ 0 < m ∧ m ≤ 6 ∧ 0 < n ∧ n ≤ 20 ∧ H a = some (.ins c.M dx []) ∧
  ∀ (r l : Addr) (H' : Hp), H r = none → H l = none → MemAt c H' a r m n l (List.replicate (m * n) .non) → Kept H H' a → Q .non H'
def spPutIn (K : PySem.W.Frag) (c : Cs) : Sp := fun vs H Q _ => ∃ (a x r l tl : Addr) (m n : Nat) (xs : List V) (k : Kd) (fs : List V) (wv : V) (se : Int) (mk : Bool), vs = [.ref a, .ref x, .int se, .bl mk] ∧ MemAt c H a r m n l xs ∧ ThingAt c H x k tl fs wv ∧ FitK k fs wv ∧
  (∀ H' : Hp, Same H H' → Q .non H') ∧
  (∀ (p : Nat) (zs cs : List V) (H' : Hp), (∀ j, j < cs.length → xs[p + j]? = some .non) → Filled xs p cs cs.length zs → cs.length = k.off + fs.length → MemAt c H' a r m n l zs → Entry K H' zs p k se mk fs wv → Kept H H' l → Q (.int (p : Int)) H')
/-- a method asks of a memory about a thing in it -/
def spTells (K : PySem.W.Frag) (c : Cs) (q : Nat → Kd → Int → Bool → List V → V → Hp → VK → Prop) : Sp := fun vs H Q _ => ∃ (a r l : Addr) (m n : Nat) (xs : List V) (p : Nat) (k : Kd) (se : Int) (mk : Bool) (fs : List V) (wv : V),
  vs = [.ref a, .int (p : Int)] ∧ MemAt c H a r m n l xs ∧ Entry K H xs p k se mk fs wv ∧ q p k se mk fs wv H Q
def qSize : Nat → Kd → Int → Bool → List V → V → Hp → VK → Prop := fun _ k _ _ fs _ H Q => Q (.int ((k.off + fs.length : Nat) : Int)) H
def qSerial : Nat → Kd → Int → Bool → List V → V → Hp → VK → Prop := fun _ _ se _ _ _ H Q => Q (.int se) H
def qSort : Nat → Kd → Int → Bool → List V → V → Hp → VK → Prop := fun _ k _ _ _ _ H Q => Q (.str k.txt) H
def qFirst : Nat → Kd → Int → Bool → List V → V → Hp → VK → Prop := fun p k _ _ _ _ H Q => Q (.int ((p + k.off : Nat) : Int)) H
def qMark : Nat → Kd → Int → Bool → List V → V → Hp → VK → Prop := fun _ _ _ mk _ _ H Q => Q (.bl mk) H
def qThing (c : Cs) : Nat → Kd → Int → Bool → List V → V → Hp → VK → Prop := fun _ k _ _ fs wv H Q => NewThing c H Q k fs wv

section
variable {P : Program} {w : World} {K : PySem.W.Frag} {mg : Str → Option Value} {base : Heap} {c : Cs}
theorem scMInit : FnScope ["self", "many", "cells"] ["self", "many", "cells"] (defScope sMInit) := ⟨rfl, rfl, rfl, by decide +kernel, rfl, by decide +kernel, by decide +kernel⟩
theorem ok_minit {f : Addr} {fd : FuncData} (F : Fun K "__init__" "Memory.__init__" sMInit f fd) (T : TxtM K c) (G : HasC P w K mg base 1 "Rooms" c.R ["self", "many", "cells"] (spRInit c)) : FnOk P w K mg base CX0 3 f fd ["self", "many", "cells"] (spMInit c) := by
  refine F.ok scMInit (fun vs H Q E h => ?_) (fun cdv A outer s H vs Q E hr h => ?_)
  · obtain ⟨a, dx, m, n, rfl, _⟩ := h
    rfl
  · obtain ⟨a, dx, m, n, rfl, m0, m6, n0, n20, ha, q⟩ := h
    obtain ⟨g, gd, G⟩ := G
    refine ⟨_, pss_one (ps_fld (pv 0) (pmake G hr (pa_cons (pv 1) (pa_cons (pv 2) pa_nil))) rfl), ?_⟩
    refine ⟨_, rfl, _, rfl, fun x dy nx ny nxy => ?_⟩
    have s0 : Same H (upd (upd H dy (.own x)) x (.ins c.R dy [])) := fun b o e => by
      rw [upd_ne (ne_of_none e nx), upd_ne (ne_of_none e ny)]
      exact e
    refine ⟨x, dy, m, n, rfl, m0, m6, n0, n20, upd_same, fun l H' hl R kp => ⟨rfl, ?_⟩⟩
    have s1 : Same H H' := s0.keptNew kp nx
    have ha' := s1 _ _ ha
    refine ⟨_, rfl, a, c.M, dx, [], rfl, ha', T.cl, T.nRooms, (by show 0 < 1000; decide), ?_⟩
    obtain ⟨⟨dz, r1⟩, r2, r3, r4, r5, r6, r7⟩ := R
    have nxa : x ≠ a := (ne_of_none ha nx).symm
    have nla : l ≠ a := (ne_of_none ha (s0.free hl)).symm
    refine q x l _ nx (s0.free hl) ⟨⟨dx, upd_same⟩, ⟨⟨dz, by rw [upd_ne nxa]; exact r1⟩, by rw [upd_ne nla]; exact r2, r3, r4, r5, r6, r7⟩⟩ fun b o e hb => ?_
    rw [upd_ne hb]
    exact s1 _ _ e
theorem scPutIn : FnScope ["self", "thing", "serial", "marked", "some", "place"] ["self", "thing", "serial", "marked"] (defScope sPutIn) := ⟨rfl, rfl, rfl, by decide +kernel, rfl, by decide +kernel, by decide +kernel⟩
theorem ok_put_in {f : Addr} {fd : FuncData} (F : Fun K "put_in" "Memory.put_in" sPutIn f fd) (T : TxtM K c) (B : TxtB mg) (GL : HasF P w K mg base 2 "laid" ["thing", "serial", "marked"] (spLaid K c))
    (GG : HasM P w K mg base 2 c.R "gap" ["self", "length"] (spGap c)) (GF : HasM P w K mg base 1 c.R "fill_in" ["self", "place", "some"] (spFillIn c)) : FnOk P w K mg base CX0 3 f fd ["self", "thing", "serial", "marked"] (spPutIn K c) := by
  refine F.ok scPutIn (fun vs H Q E h => ?_) (fun cdv A outer s H vs Q E hr h => ?_)
  · obtain ⟨a, x, r, l, tl, m, n, xs, k, fs, wv, se, mk, rfl, _⟩ := h
    rfl
  · obtain ⟨a, x, r, l, tl, m, n, xs, k, fs, wv, se, mk, rfl, M, TA, FK, q1, q2⟩ := h
    obtain ⟨g1, gd1, GL⟩ := GL
    obtain ⟨g2, gd2, GG⟩ := GG
    obtain ⟨g3, gd3, GF⟩ := GF
    have hr1 : Room 1 _ := hr.mono (by decide)
    refine ⟨_, pss_cons (ps_set (i := 4) scPutIn.nd rfl (Or.inl rfl) (pcall GL hr (pa_cons (pv 1) (pa_cons (pv 2) (pa_cons (pv 3) pa_nil)))))
      (pss_cons (ps_set (i := 5) scPutIn.nd rfl (Or.inl rfl) (pmeth GG hr (pe_fld (pv 0) rfl) (pa_cons (pe_callB call_len_seq (by rfl) B.len PySem.boot_len (pa_cons (pv 4) pa_nil)) pa_nil)))
      (pss_cons (ps_if (pt_cmpR op_notN (pv 5) pe_non (nomark _)) (pss_one (ps_expr (pmeth GF hr1 (pe_fld (pv 0) rfl) (pa_cons (pv 5) (pa_cons (pv 4) pa_nil))))) pss_nil)
      (pss_one (ps_ret (pv 5))))), ?_⟩
    refine ⟨_, rfl, _, rfl, _, rfl, x, tl, k, fs, wv, se, mk, rfl, TA, FK, fun u cs H1 hu s1 hu1 L => ?_⟩
    have M1 := M.same s1
    obtain ⟨⟨dx, h1⟩, R1⟩ := id M1
    obtain ⟨⟨dy, h2⟩, hL, hxl, _⟩ := id R1
    have noG : (rf (m : Int) (n : Int) l).lookup ("gap" : Str) = none := rf_no _ _ _ (by decide +kernel) (by decide +kernel) (by decide +kernel)
    have noF : (rf (m : Int) (n : Int) l).lookup ("fill_in" : Str) = none := rf_no _ _ _ (by decide +kernel) (by decide +kernel) (by decide +kernel)
    have hcs : 0 < cs.length := by
      obtain ⟨mid, e, _⟩ := id L
      rw [e, List.length_cons]
      omega
    refine ⟨_, rfl, a, c.M, dx, _, _, rfl, h1, T.cl, T.nRooms, mf_rooms _, r, dy, _, rfl, h2, noG, _, rfl, u, _, rfl, .inl (SqL.of hu1), ?_⟩
    refine ⟨r, l, m, n, cs.length, xs, rfl, R1, hcs, fun p hp hfr => ?_, ?_⟩
    · refine ⟨_, rfl, rfl, _, rfl, iteT ?_⟩
      have nul : u ≠ l := fun z => by
        rw [z] at hu
        obtain ⟨_, R⟩ := M
        rw [R.lst] at hu
        cases hu
      refine ⟨_, rfl, a, c.M, dx, _, _, rfl, h1, T.cl, T.nRooms, mf_rooms _, r, dy, _, rfl, h2, noF, _, rfl, _, rfl, ?_⟩
      refine ⟨r, l, u, m, n, p, xs, cs, rfl, R1, hu1, nul, hp, fun zs H2 FZ R2 kp => ?_⟩
      obtain ⟨E2, ecl⟩ := Entry.of L FZ FK
      refine ⟨_, rfl, q2 p zs cs H2 hfr FZ ecl ⟨⟨dx, kp _ _ h1 (ne_of h1 hL (by intro z; cases z))⟩, R2⟩ ?_ fun b o e hb => kp _ _ (s1 _ _ e) hb⟩
      exact E2.move (fun _ _ => rfl) fun v hv => kp.wcell hL hv
    · exact ⟨_, rfl, rfl, _, rfl, iteF ⟨_, rfl, q1 H1 s1⟩⟩
theorem tells_len {q : Nat → Kd → Int → Bool → List V → V → Hp → VK → Prop} {vs : List V} {H : Hp} {Q : VK} {E : XK} (h : spTells K c q vs H Q E) : vs.length = 2 := by
  obtain ⟨a, r, l, m, n, xs, p, k, se, mk, fs, wv, rfl, _⟩ := h
  rfl
theorem rf_read (m n : Int) (l : Addr) : (rf m n l).lookup ("read" : Str) = none := rf_no _ _ _ (by decide +kernel) (by decide +kernel) (by decide +kernel)
theorem scSizeAt : FnScope ["self", "place"] ["self", "place"] (defScope sSizeAt) := ⟨rfl, rfl, rfl, by decide +kernel, rfl, by decide +kernel, by decide +kernel⟩
theorem ok_size_at {f : Addr} {fd : FuncData} (F : Fun K "size_at" "Memory.size_at" sSizeAt f fd) (T : TxtM K c) (GR : HasM P w K mg base 1 c.R "read" ["self", "place"] (spRead c)) (GS : HasF P w K mg base 1 "size_in" ["number"] spSizeIn) :
    FnOk P w K mg base CX0 2 f fd ["self", "place"] (spTells K c qSize) := by
  refine F.ok scSizeAt (fun vs H Q E h => tells_len h) (fun cdv A outer s H vs Q E hr h => ?_)
  obtain ⟨a, r, l, m, n, xs, p, k, se, mk, fs, wv, rfl, M, EN, q⟩ := h
  obtain ⟨g1, gd1, GR⟩ := GR
  obtain ⟨g2, gd2, GS⟩ := GS
  obtain ⟨⟨dx, h1⟩, R⟩ := M
  obtain ⟨⟨dy, h2⟩, _⟩ := id R
  refine ⟨_, pss_one (ps_ret (pcall GS hr (pa_cons (pmeth GR hr (pe_fld (pv 0) rfl) (pa_cons (pv 1) pa_nil)) pa_nil))), ?_⟩
  refine ⟨_, rfl, a, c.M, dx, _, _, rfl, h1, T.cl, T.nRooms, mf_rooms _, r, dy, _, rfl, h2, rf_read _ _ _, _, rfl, r, l, m, n, p, xs, _, rfl, R, EN.hd, _, rfl, ?_⟩
  rw [hdr_size k.lt EN.lt]
  exact q
theorem scSerialAt : FnScope ["self", "place"] ["self", "place"] (defScope sSerialAt) := ⟨rfl, rfl, rfl, by decide +kernel, rfl, by decide +kernel, by decide +kernel⟩
theorem ok_serial_at {f : Addr} {fd : FuncData} (F : Fun K "serial_at" "Memory.serial_at" sSerialAt f fd) (T : TxtM K c) (GR : HasM P w K mg base 1 c.R "read" ["self", "place"] (spRead c)) :
    FnOk P w K mg base CX0 2 f fd ["self", "place"] (spTells K c qSerial) := by
  refine F.ok scSerialAt (fun vs H Q E h => tells_len h) (fun cdv A outer s H vs Q E hr h => ?_)
  obtain ⟨a, r, l, m, n, xs, p, k, se, mk, fs, wv, rfl, M, EN, q⟩ := h
  obtain ⟨g1, gd1, GR⟩ := GR
  obtain ⟨⟨dx, h1⟩, R⟩ := M
  obtain ⟨⟨dy, h2⟩, _⟩ := id R
  refine ⟨_, pss_one (ps_ret (pmeth GR hr (pe_fld (pv 0) rfl) (pa_cons (pe_op op_add (pv 1) pe_int) pa_nil))), ?_⟩
  exact ⟨_, rfl, a, c.M, dx, _, _, rfl, h1, T.cl, T.nRooms, mf_rooms _, r, dy, _, rfl, h2, rf_read _ _ _, _, rfl, _, _, rfl, rfl, r, l, m, n, p + 1, xs, _, rfl, R, EN.se, q⟩
theorem scSortAt : FnScope ["self", "place"] ["self", "place"] (defScope sSortAt) := ⟨rfl, rfl, rfl, by decide +kernel, rfl, by decide +kernel, by decide +kernel⟩
theorem ok_sort_at {f : Addr} {fd : FuncData} (F : Fun K "sort_at" "Memory.sort_at" sSortAt f fd) (T : TxtM K c) (TT : TxtT K mg c) (GR : HasM P w K mg base 1 c.R "read" ["self", "place"] (spRead c)) (GK : HasF P w K mg base 1 "kind_in" ["number"] spKindIn) :
    FnOk P w K mg base CX0 2 f fd ["self", "place"] (spTells K c qSort) := by
  refine F.ok scSortAt (fun vs H Q E h => tells_len h) (fun cdv A outer s H vs Q E hr h => ?_)
  obtain ⟨a, r, l, m, n, xs, p, k, se, mk, fs, wv, rfl, M, EN, q⟩ := h
  obtain ⟨g1, gd1, GR⟩ := GR
  obtain ⟨g2, gd2, GK⟩ := GK
  obtain ⟨⟨dx, h1⟩, R⟩ := M
  obtain ⟨⟨dy, h2⟩, _⟩ := id R
  refine ⟨_, pss_one (ps_ret (pe_ix ix_tup (pe_glob (v := V.ref c.nS) (by rfl) TT.gS rfl) (pcall GK hr (pa_cons (pmeth GR hr (pe_fld (pv 0) rfl) (pa_cons (pv 1) pa_nil)) pa_nil)) (fun _ _ => rfl))), ?_⟩
  refine ⟨_, rfl, a, c.M, dx, _, _, rfl, h1, T.cl, T.nRooms, mf_rooms _, r, dy, _, rfl, h2, rf_read _ _ _, _, rfl, r, l, m, n, p, xs, _, rfl, R, EN.hd, _, rfl, ?_⟩
  refine ⟨c.nS, _, _, .str k.txt, rfl, rfl, TT.sS _, ?_, q⟩
  rw [hdr_kind k.lt EN.lt]
  refine atI_nat ?_
  rw [List.getElem?_map, k.at_]
  rfl
theorem scFirst : FnScope ["self", "place"] ["self", "place"] (defScope sFirst) := ⟨rfl, rfl, rfl, by decide +kernel, rfl, by decide +kernel, by decide +kernel⟩
theorem mf_sort_at (r : Addr) : (mf r).lookup ("sort_at" : Str) = none := mf_no _ (by decide +kernel)
theorem mf_size_at (r : Addr) : (mf r).lookup ("size_at" : Str) = none := mf_no _ (by decide +kernel)
theorem mf_first (r : Addr) : (mf r).lookup ("first_field" : Str) = none := mf_no _ (by decide +kernel)
theorem ok_first {f : Addr} {fd : FuncData} (F : Fun K "first_field" "Memory.first_field" sFirst f fd) (GS : HasM P w K mg base 2 c.M "sort_at" ["self", "place"] (spTells K c qSort)) :
    FnOk P w K mg base CX0 3 f fd ["self", "place"] (spTells K c qFirst) := by
  refine F.ok scFirst (fun vs H Q E h => tells_len h) (fun cdv A outer s H vs Q E hr h => ?_)
  obtain ⟨a, r, l, m, n, xs, p, k, se, mk, fs, wv, rfl, M, EN, q⟩ := h
  obtain ⟨g1, gd1, GS⟩ := GS
  obtain ⟨⟨dx, h1⟩, R⟩ := id M
  refine ⟨_, pss_cons (ps_if (pt_cmpR op_eq (pmeth GS hr (pv 0) (pa_cons (pv 1) pa_nil)) pe_str (nomark _)) (pss_one (ps_ret (pe_op op_add (pv 1) pe_int))) pss_nil) (pss_one (ps_ret (pe_op op_add (pv 1) pe_int))), ?_⟩
  refine ⟨_, rfl, a, dx, _, rfl, h1, mf_sort_at _, _, rfl, a, r, l, m, n, xs, p, k, se, mk, fs, wv, rfl, M, EN, rfl, _, rfl, ?_⟩
  cases k with
  | plain => exact iteD rfl ⟨_, rfl, _, _, rfl, rfl, q⟩
  | weak => exact iteDN (fun z => wp_ (V.str.inj z)) ⟨_, rfl, _, _, rfl, rfl, q⟩
  | pair => exact iteDN (fun z => qp_ (V.str.inj z)) ⟨_, rfl, _, _, rfl, rfl, q⟩
theorem scMarkedAt : FnScope ["self", "place"] ["self", "place"] (defScope sMarkedAt) := ⟨rfl, rfl, rfl, by decide +kernel, rfl, by decide +kernel, by decide +kernel⟩
theorem ok_marked_at {f : Addr} {fd : FuncData} (F : Fun K "marked_at" "Memory.marked_at" sMarkedAt f fd) (T : TxtM K c) (GR : HasM P w K mg base 1 c.R "read" ["self", "place"] (spRead c)) (GK : HasF P w K mg base 1 "is_marked" ["number"] spIsMarked) :
    FnOk P w K mg base CX0 2 f fd ["self", "place"] (spTells K c qMark) := by
  refine F.ok scMarkedAt (fun vs H Q E h => tells_len h) (fun cdv A outer s H vs Q E hr h => ?_)
  obtain ⟨a, r, l, m, n, xs, p, k, se, mk, fs, wv, rfl, M, EN, q⟩ := h
  obtain ⟨g1, gd1, GR⟩ := GR
  obtain ⟨g2, gd2, GK⟩ := GK
  obtain ⟨⟨dx, h1⟩, R⟩ := M
  obtain ⟨⟨dy, h2⟩, _⟩ := id R
  refine ⟨_, pss_one (ps_ret (pcall GK hr (pa_cons (pmeth GR hr (pe_fld (pv 0) rfl) (pa_cons (pv 1) pa_nil)) pa_nil))), ?_⟩
  refine ⟨_, rfl, a, c.M, dx, _, _, rfl, h1, T.cl, T.nRooms, mf_rooms _, r, dy, _, rfl, h2, rf_read _ _ _, _, rfl, r, l, m, n, p, xs, _, rfl, R, EN.hd, _, rfl, ?_⟩
  rw [hdr_mark k.lt EN.lt]
  exact q
theorem scThingAt : FnScope ["self", "place", "fields", "words", "at"] ["self", "place"] (defScope sThingAt) := ⟨rfl, rfl, rfl, by decide +kernel, rfl, by decide +kernel, by decide +kernel⟩
theorem ok_thing_at {f : Addr} {fd : FuncData} (F : Fun K "thing_at" "Memory.thing_at" sThingAt f fd) (T : TxtM K c) (B : TxtB mg) (GR : HasM P w K mg base 1 c.R "read" ["self", "place"] (spRead c)) (GW : HasF P w K mg base 1 "has_words" ["number"] spHasWords)
    (GF : HasM P w K mg base 3 c.M "first_field" ["self", "place"] (spTells K c qFirst)) (GZ : HasM P w K mg base 2 c.M "size_at" ["self", "place"] (spTells K c qSize)) (GS : HasM P w K mg base 2 c.M "sort_at" ["self", "place"] (spTells K c qSort))
    (GM : HasF P w K mg base 4 "made_of" ["sort", "fields", "words"] (spMadeOf K c)) : FnOk P w K mg base CX0 5 f fd ["self", "place"] (spTells K c (qThing c)) := by
  refine F.ok scThingAt (fun vs H Q E h => tells_len h) (fun cdv A outer s H vs Q E hr h => ?_)
  obtain ⟨a, r, l, m, n, xs, p, k, se, mk, fs, wv, rfl, M, EN, q⟩ := h
  obtain ⟨g1, gd1, GR⟩ := GR
  obtain ⟨g2, gd2, GW⟩ := GW
  obtain ⟨g3, gd3, GF⟩ := GF
  obtain ⟨g4, gd4, GZ⟩ := GZ
  obtain ⟨g5, gd5, GS⟩ := GS
  obtain ⟨g6, gd6, GM⟩ := GM
  have hr1 : Room 1 _ := hr.mono (by decide)
  have hr2 : Room 2 _ := hr.mono (by decide)
  have hr3 : Room 3 _ := hr.mono (by decide)
  obtain ⟨⟨dx, h1⟩, R⟩ := id M
  obtain ⟨⟨dy, h2⟩, hL, hxl, m0, m6, n0, n20⟩ := id R
  refine ⟨_, pss_cons (ps_setLc (i := 2) (own := [("at", 4)]) (g := gName 4) (tt := tYes) (te := tMeth c.R "read" (spRead c) [] E0 (tFld K (tVar 0) "rooms") (tCons (tVar 4) tNil)) rfl scThingAt.nd rfl rfl (sw_true rfl rfl rfl (by decide +kernel))
      (pi_range2 (by rfl) B.range (pa_cons (pmeth GF hr3 (pv 0) (pa_cons (pv 1) pa_nil)) (pa_cons (pe_op op_add (pv 1) (pmeth GZ hr2 (pv 0) (pa_cons (pv 1) pa_nil))) pa_nil)))
      (blkOk_by (N := ["self", "place", "fields", "words", "at"]) (sc := defScope sThingAt) (by decide +kernel)) (fun _ _ _ _ _ => pg_name (i := 4) scThingAt.nd rfl (Or.inl rfl)) (fun _ _ _ _ _ => pts_nil)
      (fun _ _ _ _ _ => pmeth GR hr1 (pe_fld (pv 0) rfl) (pa_cons (pv 4) pa_nil)))
    (pss_cons (ps_set (i := 3) scThingAt.nd rfl (Or.inl rfl) pe_non)
    (pss_cons (ps_if (pt_val (pcall GW hr1 (pa_cons (pmeth GR hr1 (pe_fld (pv 0) rfl) (pa_cons (pv 1) pa_nil)) pa_nil)))
      (pss_one (ps_set (i := 3) scThingAt.nd rfl (Or.inl rfl) (pe_ix ix_tup (pmeth GR hr1 (pe_fld (pv 0) rfl) (pa_cons (pe_op op_add (pv 1) pe_int) pa_nil)) pe_int (fun _ _ => rfl)))) pss_nil)
    (pss_one (ps_ret (pcall GM hr (pa_cons (pmeth GS hr2 (pv 0) (pa_cons (pv 1) pa_nil)) (pa_cons (pv 2) (pa_cons (pv 3) pa_nil)))))))), ?_⟩
  have hfl := EN.fit.le
  have hxlen : xs.length ≤ 120 := R.le
  have hp : p < xs.length := (List.getElem?_eq_some_iff.mp EN.hd).1
  have hof := k.off_le
  -- range(self.first_field(place), place + self.size_at(place))
  refine ⟨_, rfl, a, dx, _, rfl, h1, mf_first _, _, rfl, a, r, l, m, n, xs, p, k, se, mk, fs, wv, rfl, M, EN, ?_⟩
  refine ⟨_, rfl, _, rfl, a, dx, _, rfl, h1, mf_size_at _, _, rfl, a, r, l, m, n, xs, p, k, se, mk, fs, wv, rfl, M, EN, _, _, rfl, rfl, ?_⟩
  refine ⟨_, _, rfl, ⟨by omega, by omega, by omega, by omega⟩, fun D hD => ?_⟩
  rw [show ((p : Int) + ((k.off + fs.length : Nat) : Int) - ((p + k.off : Nat) : Int)).toNat = fs.length by omega]
  refine lc_range (lo := ((p + k.off : Nat) : Int)) (n := fs.length) (fun i H' => Same H H' ∧ H' D = some (.lst (fs.take i))) ⟨Same.new hD, upd_same⟩ ?_ ?_
  · rintro i H' hi ⟨s1, hd1⟩
    have e1 : xs[p + k.off + i]? = some fs[i] := by rw [EN.fl i hi, List.getElem?_eq_getElem hi]
    refine ⟨rfl, ?_⟩
    refine ⟨_, rfl, a, c.M, dx, _, _, rfl, s1 _ _ h1, T.cl, T.nRooms, mf_rooms _, r, dy, _, rfl, s1 _ _ h2, rf_read _ _ _, _, rfl, r, l, m, n, p + k.off + i, xs, _, rfl, R.same s1, e1, ?_⟩
    refine ⟨_, hd1, Nat.lt_of_le_of_lt (List.length_take_le _ _) (small1000 (by omega) : i < sizeLine), s1.store hD, ?_⟩
    rw [upd_same, List.take_add_one, List.getElem?_eq_getElem hi]
    rfl
  · rintro H' ⟨s1, hd1⟩
    rw [List.take_length] at hd1
    -- words = None; if has_words(..): words = ..
    have tail : ∀ H2 : Hp, H2 = H' → tRet (tCall (spMadeOf K c) [] E0 (tCons (tMeth c.M "sort_at" (spTells K c qSort) [] E0 (tVar 0) (tCons (tVar 1) tNil)) (tCons (tVar 2) (tCons (tVar 3) tNil)))) { nx := fun _ H' => Q .non H', rt := Q } [some (.ref a), some (.int (p : Int)), some (.ref D), some wv, none] H2 := fun H2 e => by
      subst e
      refine ⟨_, rfl, a, dx, _, rfl, s1 _ _ h1, mf_sort_at _, _, rfl, a, r, l, m, n, xs, p, k, se, mk, fs, wv, rfl, M.same s1, EN.same s1, _, rfl, _, rfl, k, D, fs, wv, rfl, SqL.of hd1, q.same s1⟩
    refine ⟨_, rfl, a, c.M, dx, _, _, rfl, s1 _ _ h1, T.cl, T.nRooms, mf_rooms _, r, dy, _, rfl, s1 _ _ h2, rf_read _ _ _, _, rfl, r, l, m, n, p, xs, _, rfl, R.same s1, EN.hd, _, rfl, _, rfl, ?_⟩
    rw [hdr_words k.lt EN.lt]
    have hk : wv ≠ .non → k = .plain := fun z => by
      cases k with
      | plain => rfl
      | weak => exact absurd EN.fit.2.2 z
      | pair => exact absurd EN.fit.2.2 z
    by_cases e : wv = .non
    · have e2 : hw wv = false := by unfold hw; rw [decide_eq_true e]; rfl
      rw [e2]
      refine iteF ?_
      subst e
      exact tail _ rfl
    · have e2 : hw wv = true := by unfold hw; rw [decide_eq_false e]; rfl
      rw [e2]
      refine iteT ?_
      obtain ⟨v, hv, b, eb, hb⟩ := EN.wc (hk e)
      rcases hb with z | ⟨z, ez, hz⟩
      · exact absurd z e
      · subst eb
        refine ⟨_, rfl, a, c.M, dx, _, _, rfl, s1 _ _ h1, T.cl, T.nRooms, mf_rooms _, r, dy, _, rfl, s1 _ _ h2, rf_read _ _ _, _, rfl, _, _, rfl, rfl, r, l, m, n, p + 2, xs, _, rfl, R.same s1, hv, ?_⟩
        refine ⟨b, _, _, .int z, rfl, rfl, s1.seqT hz, atI_nat (j := 1) rfl, ?_⟩
        subst ez
        exact tail _ rfl
end
end Hk
/-! The law's own helpers. -/
namespace Hk
open PySem L2

structure TxtL (K : PySem.W.Frag) (mg : Str → Option Value) (c : Cs) : Prop where
  abs : mg "abs" = none
  isi : mg "isinstance" = none
  bool : mg "bool" = none
  min : mg "min" = none
  cA : ∀ k, PySem.W.findIn K (.ref (c.of k)) "__class__" = some (some (.builtin "object.__class__"))
  cG : PySem.W.specialIn K (.builtin "object.__class__") "__get__" = some (some (.builtin "getset_descriptor.__get__"))
  cT : PySem.W.takesIn K (.builtin "object.__class__") = some true
  cM : ∀ k, PySem.W.mroIn K (c.of k) (.type "object") = some true
  cK : ∀ k, PySem.W.kitOne K (.ref (c.of k)) (.ref c.T) = some true

/-! ### data -/
theorem IsF.data {K : PySem.W.Frag} {H : Hp} {v : V} (h : IsF K H v) : ∃ d, Dp K H v d ∧ d.canLay0 = true ∧ d.depth ≤ 1 := by
  obtain ⟨a, z, xs, rfl, hS, hx, hz⟩ := h
  rcases hx with rfl | ⟨n, rfl⟩
  · exact ⟨.tuple [.str z], .tup hS (.cons (.str z) .nil), by simp [PyData.canLay0, PyData.canLayAll0] at hz ⊢; exact hz, by simp [PyData.depth, PyData.depthAll]⟩
  · exact ⟨.tuple [.str z, .int n], .tup hS (.cons (.str z) (.cons (.int n) .nil)), by simp [PyData.canLay0, PyData.canLayAll0] at hz ⊢; exact hz, by simp [PyData.depth, PyData.depthAll]⟩
theorem data_all {K : PySem.W.Frag} {H : Hp} : ∀ {fs : List V}, (∀ v ∈ fs, IsF K H v) → ∃ ds, DpAll K H fs ds ∧ PyData.canLayAll0 ds = true ∧ PyData.depthAll ds ≤ 1
  | [], _ => ⟨[], .nil, by simp [PyData.canLayAll0], by simp [PyData.depthAll]⟩
  | v :: r, h => by
    obtain ⟨d, h1, h2, h3⟩ := IsF.data (h v (List.mem_cons_self ..))
    obtain ⟨ds, h4, h5, h6⟩ := data_all fun u hu => h u (List.mem_cons_of_mem _ hu)
    refine ⟨d :: ds, .cons h1 h4, ?_, ?_⟩
    · rw [PyData.canLayAll0, h2, h5]
      rfl
    · rw [PyData.depthAll]
      omega
theorem data_list {K : PySem.W.Frag} {H : Hp} {fs : List V} (h : ∀ v ∈ fs, IsF K H v) : ∃ ds, DpAll K H fs ds ∧ SeqAt.shaped (.list ds) = true ∧ PyData.eqv (.list ds) (.list ds) = true := by
  obtain ⟨ds, h1, h2, h3⟩ := data_all h
  have c : PyData.canLay0 (.list ds) = true := by rw [PyData.canLay0]; exact h2
  refine ⟨ds, h1, ?_, SeqAt.eqv_refl _ c⟩
  unfold SeqAt.shaped
  rw [c, Bool.true_and]
  refine decide_eq_true ?_
  rw [PyData.depth]
  omega
theorem ints_all {K : PySem.W.Frag} {H : Hp} : ∀ ns : List Int, DpAll K H (ns.map V.int) (ns.map PyData.int) ∧ PyData.canLayAll0 (ns.map PyData.int) = true ∧ PyData.depthAll (ns.map PyData.int) ≤ 1
  | [] => ⟨.nil, by simp [PyData.canLayAll0], by simp [PyData.depthAll]⟩
  | n :: r => by
    obtain ⟨h1, h2, h3⟩ := ints_all (K := K) (H := H) r
    refine ⟨.cons (.int n) h1, ?_, ?_⟩
    · rw [List.map_cons, PyData.canLayAll0, h2]
      simp [PyData.canLay0]
    · rw [List.map_cons, PyData.depthAll]
      simp [PyData.depth]
      exact h3
theorem ints_shaped (ns : List Int) : SeqAt.shaped (.list (ns.map PyData.int)) = true := by
  obtain ⟨_, h2, h3⟩ := ints_all (K := []) (H := fun _ => none) ns
  have c : PyData.canLay0 (.list (ns.map PyData.int)) = true := by rw [PyData.canLay0]; exact h2
  unfold SeqAt.shaped
  rw [c, Bool.true_and]
  refine decide_eq_true ?_
  rw [PyData.depth]
  omega
theorem Kept.isF {K : PySem.W.Frag} {H H' : Hp} {l : Addr} {xs : List V} {v : V} (k : Kept H H' l) (hl : H l = some (.lst xs)) (h : IsF K H v) : IsF K H' v := by
  obtain ⟨a, z, ys, e, h, q⟩ := h
  exact ⟨a, z, ys, e, k.seqT hl h, q⟩
theorem IsF.ne {K : PySem.W.Frag} {H : Hp} {v : V} (h : IsF K H v) : v ≠ .non := by
  obtain ⟨a, _, _, e, _⟩ := h
  rw [e]
  intro z
  cases z
theorem isF1 {K : PySem.W.Frag} {H : Hp} {a : Addr} {z : Str} (hz : PyData.canLay0 (.str z) = true) (h : H a = some (.tup [.str z])) : IsF K H (.ref a) := ⟨a, z, [], rfl, SqT.of h, .inl rfl, hz⟩
theorem isF2 {K : PySem.W.Frag} {H : Hp} {a : Addr} {z : Str} {n : Int} (hz : PyData.canLay0 (.str z) = true) (h : H a = some (.tup [.str z, .int n])) : IsF K H (.ref a) := ⟨a, z, _, rfl, SqT.of h, .inr ⟨n, rfl⟩, hz⟩
theorem ok_nothing : PyData.canLay0 (.str ("nothing" : Str)) = true := by rw [PyData.canLay0]; decide +kernel
theorem ok_number : PyData.canLay0 (.str ("number" : Str)) = true := by rw [PyData.canLay0]; decide +kernel
theorem ok_thing : PyData.canLay0 (.str ("thing" : Str)) = true := by rw [PyData.canLay0]; decide +kernel

/-! ### what is drawn -/
structure Drawn (sz fd : List Int) : Prop where
  len : fd.length = sz.length
  lt : ∀ (i : Nat) (s z : Int), sz[i]? = some s → fd[i]? = some z → 0 ≤ z ∧ z < s
theorem Drawn.at_ {sz fd : List Int} (D : Drawn sz fd) {i : Nat} {s : Int} (h : sz[i]? = some s) : ∃ z, fd[i]? = some z ∧ 0 ≤ z ∧ z < s := by
  have hi : i < fd.length := by rw [D.len]; exact (List.getElem?_eq_some_iff.mp h).1
  exact ⟨fd[i], List.getElem?_eq_getElem hi, D.lt i s _ h (List.getElem?_eq_getElem hi)⟩
theorem Drawn.nil (sz : List Int) : Drawn (sz.take 0) [] := ⟨by simp, fun i s z _ h => by simp at h⟩
theorem Drawn.snoc {sz fd : List Int} {i : Nat} {s z : Int} (D : Drawn (sz.take i) fd) (hs : sz[i]? = some s) (h0 : 0 ≤ z) (h1 : z < s) : Drawn (sz.take (i + 1)) (fd ++ [z]) := by
  have hi : i < sz.length := (List.getElem?_eq_some_iff.mp hs).1
  have hl : fd.length = i := by rw [D.len, List.length_take]; omega
  refine ⟨?_, fun j u y hu hy => ?_⟩
  · rw [List.length_append, hl, List.length_take, List.length_singleton]
    omega
  · by_cases e : j < i
    · rw [List.getElem?_append_left (by omega)] at hy
      rw [List.getElem?_take_of_lt (by omega)] at hu
      exact D.lt j u y (by rw [List.getElem?_take_of_lt e]; exact hu) hy
    · have hj : j < (fd ++ [z]).length := (List.getElem?_eq_some_iff.mp hy).1
      rw [List.length_append, List.length_singleton, hl] at hj
      have ej : j = i := by omega
      subst ej
      rw [List.getElem?_take_of_lt (by omega), hs] at hu
      rw [List.getElem?_append_right (by omega), hl, Nat.sub_self] at hy
      have e1 : s = u := Option.some.inj hu
      have e2 : z = y := Option.some.inj hy
      subst e1 e2
      exact ⟨h0, h1⟩
def szs : List Int := [4, 9, 4, 10 ^ (60 : Int).toNat] ++ (List.replicate (8 : Int).toNat [6, 10 ^ (60 : Int).toNat, 500]).flatten
theorem szs_len : szs.length = 28 := by decide +kernel
theorem szs_ok : ∀ s ∈ szs, 0 < s ∧ s.natAbs < 2 ^ 300 := by decide +kernel
theorem szs_way : ∀ k : Fin 8, szs[4 + 3 * k.val]? = some 6 := by decide +kernel
theorem szs_num : ∀ k : Fin 8, szs[4 + 3 * k.val + 1]? = some (10 ^ (60 : Int).toNat) := by decide +kernel
theorem szs_at : ∀ k : Fin 8, szs[4 + 3 * k.val + 2]? = some 500 := by decide +kernel

/-! ### shapes -/
structure ShapeAt (K : PySem.W.Frag) (H : Hp) (sh : Addr) (k : Kd) (fl : Addr) (fs : List V) (wv : V) : Prop where
  tp : H sh = some (.tup [.str k.txt, .ref fl, wv])
  ls : H fl = some (.lst fs)
  isf : ∀ v ∈ fs, IsF K H v
  fit : FitK k fs wv
theorem ShapeAt.same {K : PySem.W.Frag} {H H' : Hp} {sh fl : Addr} {k : Kd} {fs : List V} {wv : V} (S : ShapeAt K H sh k fl fs wv) (s : Same H H') : ShapeAt K H' sh k fl fs wv :=
  ⟨s _ _ S.tp, s _ _ S.ls, fun v hv => (S.isf v hv).same s, S.fit⟩

/-! ### promises -/
def spCellAt (K : PySem.W.Frag) : Sp := fun vs H Q _ => ∃ (a : Addr) (ns : List Int) (k : Nat), vs = [.ref a, .int (k : Int)] ∧ SqL K H a (ns.map V.int) ∧ ∀ z : Int, Q (.int z) H
def spDrawn (K : PySem.W.Frag) : Sp := fun vs H Q _ => ∃ (ce : Int) (b : Addr) (fr : Bool) (sz : List Int), vs = [.int ce, .ref b, .bl fr] ∧ SqL K H b (sz.map V.int) ∧ sz.length ≤ 100 ∧ (∀ s ∈ sz, 0 < s ∧ s.natAbs < 2 ^ 300) ∧
  ∀ (fd : List Int) (p : Addr) (H' : Hp), H p = none → Same H H' → H' p = some (.lst (fd.map V.int)) → Drawn sz fd → Q (.ref p) H'
def spValue (K : PySem.W.Frag) : Sp := fun vs H Q _ => ∃ (pa th : Addr) (w n t : Int) (ns : List Int), vs = [.ref pa, .ref th] ∧ SqL K H pa [.int w, .int n, .int t] ∧ 0 ≤ w ∧ w < 6 ∧ 0 ≤ t ∧ SqL K H th (ns.map V.int) ∧
  ∀ (v : V) (H' : Hp), Same H H' → IsF K H' v → Q v H'
def spShape (K : PySem.W.Frag) : Sp := fun vs H Q _ => ∃ (ce : Int) (th : Addr) (fr : Bool) (ns : List Int), vs = [.int ce, .ref th, .bl fr] ∧ SqL K H th (ns.map V.int) ∧
  ∀ (sh fl : Addr) (k : Kd) (fs : List V) (wv : V) (H' : Hp), Same H H' → H fl = none → ShapeAt K H' sh k fl fs wv → Q (.ref sh) H'
def spThing (K : PySem.W.Frag) (c : Cs) : Sp := fun vs H Q _ => ∃ (sh fl : Addr) (k : Kd) (fs : List V) (wv : V), vs = [.ref sh] ∧ ShapeAt K H sh k fl fs wv ∧ NewThing c H Q k fs wv
def spSize (K : PySem.W.Frag) : Sp := fun vs H Q _ => ∃ (sh fl : Addr) (k : Kd) (fs : List V) (wv : V), vs = [.ref sh] ∧ ShapeAt K H sh k fl fs wv ∧ ∀ H' : Hp, Same H H' → Q (.int ((k.off + fs.length : Nat) : Int)) H'
def spWhole : Sp := fun vs H Q _ => ∃ i : Int, vs = [.int i] ∧ Q (.bl true) H
def spHeld (K : PySem.W.Frag) (c : Cs) : Sp := fun vs H Q _ => ∃ (a r l t sh fl : Addr) (m n p : Nat) (xs fs : List V) (k : Kd) (se : Int) (mk : Bool) (wv : V), vs = [.ref a, .int (p : Int), .ref t] ∧ MemAt c H a r m n l xs ∧ Entry K H xs p k se mk fs wv ∧
  H t = some (.tup [.ref sh, .int se, .bl mk]) ∧ ShapeAt K H sh k fl fs wv ∧ ∀ H' : Hp, Same H H' → Q (.bl true) H'

section
variable {P : Program} {w : World} {K : PySem.W.Frag} {mg : Str → Option Value} {base : Heap} {c : Cs}
theorem scCellAt : FnScope ["_law_script", "_law_k"] ["_law_script", "_law_k"] (defScope sCellAt) := ⟨rfl, rfl, rfl, by decide +kernel, rfl, by decide +kernel, by decide +kernel⟩
theorem ok_cell_at {f : Addr} {fd : FuncData} (F : Fun K "_law_cell_at" "_law_cell_at" sCellAt f fd) (B : TxtB mg) : FnOk P w K mg base CX0 1 f fd ["_law_script", "_law_k"] (spCellAt K) := by
  refine F.ok scCellAt (fun vs H Q E h => ?_) (fun cdv A outer s H vs Q E hr h => ?_)
  · obtain ⟨a, ns, k, rfl, _⟩ := h
    rfl
  · obtain ⟨a, ns, k, rfl, hS, q⟩ := h
    refine ⟨_, pss_cons (ps_if (pt_cmpR op_lt (pv 1) (pe_callB call_len_seq (by rfl) B.len PySem.boot_len (pa_cons (pv 0) pa_nil)) (nomark _)) (pss_one (ps_ret (pe_ix ix_list (pv 0) (pv 1) (fun _ _ => rfl)))) pss_nil) (pss_one (ps_ret pe_int)), ?_⟩
    refine ⟨_, rfl, _, rfl, a, _, rfl, .inl hS, _, _, rfl, rfl, _, rfl, ?_⟩
    refine ite2 (fun h => ?_) (fun _ => q 0)
    have h2 : (k : Int) < ((ns.map V.int).length : Nat) := of_decide_eq_true h
    rw [List.length_map] at h2
    have h3 : k < ns.length := by omega
    refine ⟨_, rfl, _, rfl, a, _, _, _, rfl, rfl, hS, atI_nat (j := k) (v := .int ns[k]) ?_, q _⟩
    rw [List.getElem?_map, List.getElem?_eq_getElem h3]
    rfl
theorem scDrawn : FnScope ["_law_cell", "_law_sizes", "_law_free", "_law_found", "_law_number", "_law_size_here"] ["_law_cell", "_law_sizes", "_law_free"] (defScope sDrawn) := ⟨rfl, rfl, rfl, by decide +kernel, rfl, by decide +kernel, by decide +kernel⟩
theorem int_at {ns : List Int} {i : Nat} {y : V} (hi : (ns.map V.int)[i]? = some y) : ∃ u, y = V.int u ∧ ns[i]? = some u := by
  rw [List.getElem?_map] at hi
  cases e : ns[i]? with
  | none =>
    rw [e] at hi
    cases hi
  | some u =>
    rw [e] at hi
    exact ⟨u, (Option.some.inj hi).symm, rfl⟩
theorem ok_drawn {f : Addr} {fd : FuncData} (F : Fun K "_law_drawn" "_law_drawn" sDrawn f fd) (L : TxtL K mg c) : FnOk P w K mg base CX0 1 f fd ["_law_cell", "_law_sizes", "_law_free"] (spDrawn K) := by
  refine F.ok scDrawn (fun vs H Q E h => ?_) (fun cdv A outer s H vs Q E hr h => ?_)
  · obtain ⟨ce, b, fr, sz, rfl, _⟩ := h
    rfl
  · obtain ⟨ce, b, fr, sz, rfl, hS, hlen, hsz, q⟩ := h
    refine ⟨_, pss_cons (ps_set (i := 3) scDrawn.nd rfl (Or.inl rfl) (pe_lst pa_nil))
      (pss_cons (ps_set (i := 4) scDrawn.nd rfl (Or.inl rfl) (pe_callB call_abs (by rfl) L.abs (by decide +kernel) (pa_cons (pv 0) pa_nil)))
      (pss_cons (ps_if (pt_not (pt_val (pv 2))) (pss_one (ps_set (i := 4) scDrawn.nd rfl (Or.inl rfl) (pe_op op_mod (pe_op op_add (pe_op op_mul (pv 0) pe_int) pe_int) pe_int))) pss_nil)
      (pss_cons (ps_for PassesOwn.never rfl (pi_list (pv 1)) (pg_name (i := 5) scDrawn.nd rfl (Or.inl rfl))
        (pss_one (ps_if (pt_val (pv 2))
          (pss_cons (ps_expr (pe_bm PySem.F.plainAttrs_list PySem.F.slot_list_append PySem.F.type_list_append mt_append (pv 3) (pa_cons (pe_op op_mod (pv 4) (pv 5)) pa_nil)))
            (pss_one (ps_set (i := 4) scDrawn.nd rfl (Or.inl rfl) (pe_op op_fdivW (pv 4) (pv 5)))))
          (pss_cons (ps_set (i := 4) scDrawn.nd rfl (Or.inl rfl) (pe_op op_mod (pe_op op_add (pe_op op_mul (pv 4) pe_int) pe_int) pe_int))
            (pss_one (ps_expr (pe_bm PySem.F.plainAttrs_list PySem.F.slot_list_append PySem.F.type_list_append mt_append (pv 3) (pa_cons (pe_op op_mod (pe_op op_fdiv (pv 4) pe_int) (pv 5)) pa_nil))))))))
      (pss_one (ps_ret (pv 3)))))), ?_⟩
    refine ⟨Nat.zero_le _, fun p hp => ?_⟩
    have sp : Same H (upd H p (.lst [])) := Same.new hp
    refine ⟨_, rfl, _, rfl, ?_⟩
    have loop : ∀ num : Int, tFor (iList K (tVar 1)) (gName 5) (tIfS (tB (tVar 2))
        (tSeq (tDrop (tBM K "list" rAppend (tVar 3) (tCons (tOp (rI (fun _ j => 0 < j) fun i j => .int (i % j)) (tVar 4) (tVar 5)) tNil))) (tAsg (tOp (rI CDivW fun i j => .int (i / j)) (tVar 4) (tVar 5)) (gName 4)))
        (tSeq (tAsg (tOp (rI (fun _ j => 0 < j) fun i j => .int (i % j)) (tOp (rI0 fun i j => .int (i + j)) (tOp (rI CMul fun i j => .int (i * j)) (tVar 4) (tC (.int 982451653))) (tC (.int 12345))) (tC (.int 2305843009213693951))) (gName 4))
          (tDrop (tBM K "list" rAppend (tVar 3) (tCons (tOp (rI (fun _ j => 0 < j) fun i j => .int (i % j)) (tOp (rI CDiv fun i j => .int (i / j)) (tVar 4) (tC (.int 1009))) (tVar 5)) tNil)))))
        { nx := tRet (tVar 3) { nx := fun _ H' => Q .non H', rt := Q }, rt := Q } [some (.int ce), some (.ref b), some (.bl fr), some (.ref p), some (.int num), none] (upd H p (.lst [])) := fun num => by
      refine ⟨_, rfl, b, rfl, ⟨_, sp.seq hS⟩, ?_⟩
      refine for_list (K := K) (a := b) (xs := sz.map V.int) (fun i σ H' => Same H H' ∧ ∃ (fd : List Int) (num : Int) (v5 : Option V), σ = [some (.int ce), some (.ref b), some (.bl fr), some (.ref p), some (.int num), v5] ∧ H' p = some (.lst (fd.map V.int)) ∧ Drawn (sz.take i) fd ∧ fd.length ≤ i) ?_ ?_ ?_ ?_
      · exact ⟨sp, [], num, none, rfl, upd_same, Drawn.nil sz, Nat.zero_le _⟩
      · rintro i σ H' _ ⟨s1, _⟩
        exact s1.seq hS
      · rintro i y σ H' hi ⟨s1, fd, num, v5, rfl, hd, D, hl⟩
        obtain ⟨u, rfl, hu⟩ := int_at hi
        have hu2 := hsz u (List.mem_of_getElem? hu)
        have hi2 : i < sz.length := (List.getElem?_eq_some_iff.mp hu).1
        refine ⟨_, rfl, _, rfl, ?_⟩
        cases fr with
        | true =>
          refine iteT ?_
          refine ⟨_, rfl, .inl ⟨rfl, _, SqL.of hd⟩, _, rfl, _, rfl, _, _, rfl, rfl, hu2.1, p, _, _, rfl, rfl, hd, small1000 (by rw [List.length_map]; omega), ?_⟩
          refine ⟨_, rfl, _, rfl, _, _, rfl, rfl, wide_div hu2.1 hu2.2 (by decide) (by decide), ?_⟩
          refine ⟨s1.store hp, fd ++ [num % u], _, _, rfl, ?_, D.snoc hu (Int.emod_nonneg _ (by omega)) (Int.emod_lt_of_pos _ hu2.1), ?_⟩
          · rw [upd_same, List.map_append]
            rfl
          · rw [List.length_append, List.length_singleton]
            omega
        | false =>
          refine iteF ?_
          refine ⟨_, rfl, _, _, rfl, rfl, .inr ⟨by decide, by decide⟩, _, _, rfl, rfl, _, _, rfl, rfl, (by show (0 : Int) < 2305843009213693951; decide), ?_⟩
          refine ⟨_, rfl, .inl ⟨rfl, _, SqL.of hd⟩, _, rfl, _, _, rfl, rfl, ⟨by decide, by decide⟩, _, rfl, _, _, rfl, rfl, hu2.1, p, _, _, rfl, rfl, hd, small1000 (by rw [List.length_map]; omega), ?_⟩
          refine ⟨s1.store hp, fd ++ [(num * 982451653 + 12345) % 2305843009213693951 / 1009 % u], _, _, rfl, ?_, D.snoc hu (Int.emod_nonneg _ (by omega)) (Int.emod_lt_of_pos _ hu2.1), ?_⟩
          · rw [upd_same, List.map_append]
            rfl
          · rw [List.length_append, List.length_singleton]
            omega
      · rintro σ H' ⟨s1, fd, num, v5, rfl, hd, D, hl⟩
        rw [List.length_map, List.take_length] at D
        exact ⟨_, rfl, q fd p H' hp s1 hd D⟩
    refine ⟨_, rfl, _, rfl, ?_⟩
    cases fr with
    | true => exact iteF (loop _)
    | false =>
      refine iteT ?_
      refine ⟨_, rfl, _, _, rfl, rfl, .inr ⟨by decide, by decide⟩, _, _, rfl, rfl, _, _, rfl, rfl, (by show (0 : Int) < 2305843009213693951; decide), ?_⟩
      exact loop _
theorem scValue : FnScope ["_law_parts", "_law_there", "_law_way", "_law_number", "_law_at"] ["_law_parts", "_law_there"] (defScope sValue) := ⟨rfl, rfl, rfl, by decide +kernel, rfl, by decide +kernel, by decide +kernel⟩
theorem ok_value {f : Addr} {fd : FuncData} (F : Fun K "_law_value" "_law_value" sValue f fd) (B : TxtB mg) : FnOk P w K mg base CX0 1 f fd ["_law_parts", "_law_there"] (spValue K) := by
  refine F.ok scValue (fun vs H Q E h => ?_) (fun cdv A outer s H vs Q E hr h => ?_)
  · obtain ⟨pa, th, w, n, t, ns, rfl, _⟩ := h
    rfl
  · obtain ⟨pa, th, wy, n, t, ns, rfl, hS, w0, w6, t0, hT, q⟩ := h
    refine ⟨_, pss_cons (ps_asg (pv 0) (pg_unl rfl (pgs_cons (pg_name (i := 2) scValue.nd rfl (Or.inl rfl)) (pgs_cons (pg_name (i := 3) scValue.nd rfl (Or.inl rfl)) (pgs_cons (pg_name (i := 4) scValue.nd rfl (Or.inl rfl)) pgs_nil)))))
      (pss_cons (ps_if (PW.pt (pw_and (pt_cmpR op_eq (pe_op op_mod (pv 2) pe_int) pe_int (nomark _)) (pw_and1 (pt_cmpR (op_neD hr.units) (pv 1) (pe_lst pa_nil) (nomark _)))))
        (pss_one (ps_ret (pe_tup (pa_cons pe_str (pa_cons (pe_ix ix_list (pv 1) (pe_op op_mod (pv 4) (pe_callB call_len_seq (by rfl) B.len PySem.boot_len (pa_cons (pv 1) pa_nil))) (fun _ _ => rfl)) pa_nil))))) pss_nil)
      (pss_cons (ps_if (pt_cmpR op_eq (pe_op op_mod (pv 2) pe_int) pe_int (nomark _))
        (pss_one (ps_ret (pe_tup (pa_cons pe_str (pa_cons (pe_ix ix_list (pe_lst (pa_cons (pe_op op_mod (pv 3) pe_int) (pa_cons (pv 3) pa_nil))) (pe_op op_fdiv (pv 2) pe_int) (fun _ _ => rfl)) pa_nil))))) pss_nil)
      (pss_one (ps_ret (pe_tup (pa_cons pe_str pa_nil)))))), ?_⟩
    refine ⟨_, rfl, pa, _, rfl, hS, rfl, _, _, rfl, _, _, rfl, _, _, rfl, rfl, ?_⟩
    have tail : ∀ H1 : Hp, Same H H1 → tSeq (tIfS (tTest (tOp rEq (tOp (rI (fun _ j => 0 < j) fun i j => .int (i % j)) (tVar 2) (tC (.int 3))) (tC (.int 1))))
        (tRet (tTup (tCons (tC (.str "number")) (tCons (tOp (rIxL K) (tLst (tCons (tOp (rI (fun _ j => 0 < j) fun i j => .int (i % j)) (tVar 3) (tC (.int 7))) (tCons (tVar 3) tNil))) (tOp (rI CDiv fun i j => .int (i / j)) (tVar 2) (tC (.int 3)))) tNil)))) tNext)
        (tRet (tTup (tCons (tC (.str "nothing")) tNil))) { nx := fun _ H' => Q .non H', rt := Q } [some (.ref pa), some (.ref th), some (.int wy), some (.int n), some (.int t)] H1 := fun H1 s1 => by
      refine ⟨_, rfl, _, _, rfl, rfl, (by show (0 : Int) < 3; decide), rfl, _, rfl, ?_⟩
      refine ite2 (fun _ => ?_) (fun _ => ?_)
      · refine ⟨_, rfl, _, _, rfl, rfl, (by show (0 : Int) < 7; decide), _, rfl, (by show 2 ≤ sizeLine; decide), fun p hp => ?_⟩
        refine ⟨_, rfl, _, _, rfl, rfl, ⟨by decide, by decide⟩, ?_⟩
        have hz : ∃ z : Int, atI [V.int (n % 7), V.int n] (wy / 3) = some (.int z) := by
          have h3 : wy / 3 = 0 ∨ wy / 3 = 1 := by omega
          rcases h3 with e | e
          · exact ⟨n % 7, at_of (j := 0) e rfl⟩
          · exact ⟨n, at_of (j := 1) e rfl⟩
        obtain ⟨z, hz⟩ := hz
        refine ⟨p, _, _, .int z, rfl, rfl, SqL.of upd_same, hz, (by show 2 ≤ sizeLine; decide), fun u hu => ?_⟩
        exact q _ _ ((s1.then hp).then hu) (isF2 ok_number upd_same)
      · exact ⟨(by show 1 ≤ sizeLine; decide), fun u hu => q _ _ (s1.then hu) (isF1 ok_nothing upd_same)⟩
    refine ⟨_, rfl, _, _, rfl, rfl, (by show (0 : Int) < 3; decide), rfl, _, rfl, ?_⟩
    refine iteB (fun _ => ?_) (fun _ => iteF (tail _ (Same.refl _)))
    refine ⟨_, rfl, Nat.zero_le _, fun p hp => ?_⟩
    have s1 : Same H (upd H p (.lst [])) := Same.new hp
    refine ⟨.list (ns.map .int), .list [], .lst (s1.seq hT) (ints_all ns).1, .lst (SqL.of upd_same) .nil, ints_shaped ns, ints_shaped [], _, rfl, ?_⟩
    cases ns with
    | nil => exact iteF (tail _ s1)
    | cons z r =>
      refine iteB (fun _ => ?_) (fun _ => tail _ s1)
      have hl : (0 : Int) < (((z :: r).map V.int).length : Nat) := by
        rw [List.length_map, List.length_cons]
        omega
      refine ⟨_, rfl, _, rfl, _, rfl, th, _, rfl, .inl (s1.seq hT), _, _, rfl, rfl, hl, ?_⟩
      have h1 := Int.emod_nonneg t (Int.ne_of_gt hl)
      have h2 := Int.emod_lt_of_pos t hl
      have h3 : (t % (((z :: r).map V.int).length : Nat)).toNat < (z :: r).length := by
        rw [List.length_map] at h1 h2 ⊢
        omega
      have hat : atI ((z :: r).map V.int) (t % (((z :: r).map V.int).length : Nat)) = some (.int (z :: r)[(t % (((z :: r).map V.int).length : Nat)).toNat]) := by
        refine at_of (j := (t % (((z :: r).map V.int).length : Nat)).toNat) (by omega) ?_
        rw [List.getElem?_map, List.getElem?_eq_getElem h3]
        rfl
      refine ⟨th, _, _, _, rfl, rfl, s1.seq hT, hat, (by show 2 ≤ sizeLine; decide), fun u hu => ?_⟩
      exact q _ _ (s1.then hu) (isF2 ok_thing upd_same)
end
end Hk
/-! The law's shapes, and what it asks of a thing that was put in. -/
namespace Hk
open PySem L2

theorem cut3 {xs : List V} {n : Nat} {a b d : V} (ha : xs[n]? = some a) (hb : xs[n + 1]? = some b) (hd : xs[n + 2]? = some d) {i j : Int} (ei : i = (n : Int)) (ej : j = ((n + 3 : Nat) : Int)) : cutV xs (some i) (some j) = [a, b, d] := by
  have h1 : n + 2 < xs.length := (List.getElem?_eq_some_iff.mp hd).1
  subst ei ej
  unfold cutV
  rw [HT.sIx_nat, HT.sIx_nat, Nat.min_eq_left (by omega), Nat.min_eq_left (by omega), show n + 3 - n = 3 by omega]
  rw [List.drop_eq_getElem_cons (by omega), List.drop_eq_getElem_cons (by omega), List.drop_eq_getElem_cons (by omega)]
  rw [List.getElem?_eq_getElem (by omega)] at ha hb hd
  rw [Option.some.inj ha, Option.some.inj hb, Option.some.inj hd]
  rfl
theorem cut_mem {xs : List V} {lo hi : Option Int} {v : V} (h : v ∈ cutV xs lo hi) : v ∈ xs := by
  unfold cutV at h
  exact List.mem_of_mem_drop (List.mem_of_mem_take h)
theorem at_list {xs : List V} {z : Int} {n : Nat} (h0 : 0 ≤ z) (h1 : z < (n : Int)) (hl : xs.length = n) : ∃ v, atI xs z = some v ∧ v ∈ xs := by
  have h2 : z.toNat < xs.length := by omega
  exact ⟨xs[z.toNat], at_of (j := z.toNat) (by omega) (List.getElem?_eq_getElem h2), List.getElem_mem h2⟩

section
variable {P : Program} {w : World} {K : PySem.W.Frag} {mg : Str → Option Value} {base : Heap} {c : Cs}
theorem scShape : FnScope ["_law_cell", "_law_there", "_law_free", "_law_row", "_law_values", "_law_k", "_law_words", "_law_key"] ["_law_cell", "_law_there", "_law_free"] (defScope sShape) := ⟨rfl, rfl, rfl, by decide +kernel, rfl, by decide +kernel, by decide +kernel⟩
theorem ok_shape {f : Addr} {fd : FuncData} (F : Fun K "_law_shape" "_law_shape" sShape f fd) (B : TxtB mg) (GD : HasF P w K mg base 1 "_law_drawn" ["_law_cell", "_law_sizes", "_law_free"] (spDrawn K)) (GV : HasF P w K mg base 1 "_law_value" ["_law_parts", "_law_there"] (spValue K)) :
    FnOk P w K mg base CX0 2 f fd ["_law_cell", "_law_there", "_law_free"] (spShape K) := by
  refine F.ok scShape (fun vs H Q E h => ?_) (fun cdv A outer s H vs Q E hr h => ?_)
  · obtain ⟨ce, th, fr, ns, rfl, _⟩ := h
    rfl
  · obtain ⟨ce, th, fr, ns, rfl, hT, q⟩ := h
    obtain ⟨g1, gd1, GD⟩ := GD
    obtain ⟨g2, gd2, GV⟩ := GV
    refine ⟨_, pss_cons (ps_set (i := 3) scShape.nd rfl (Or.inl rfl) (pcall GD hr (pa_cons (pv 0) (pa_cons (pe_op op_cat (pe_lst (pa_cons pe_int (pa_cons pe_int (pa_cons pe_int (pa_cons (pe_op op_pow pe_int pe_int) pa_nil)))))
          (pe_op op_rep (pe_lst (pa_cons pe_int (pa_cons (pe_op op_pow pe_int pe_int) (pa_cons pe_int pa_nil)))) pe_int)) (pa_cons (pv 2) pa_nil)))))
      (pss_cons (ps_set (i := 4) scShape.nd rfl (Or.inl rfl) (pe_lst pa_nil))
      (pss_cons (ps_for PassesOwn.never rfl (pi_range1 (by rfl) B.range (pa_cons pe_int pa_nil)) (pg_name (i := 5) scShape.nd rfl (Or.inl rfl))
        (pss_one (ps_expr (pe_bm PySem.F.plainAttrs_list PySem.F.slot_list_append PySem.F.type_list_append mt_append (pv 4)
          (pa_cons (pcall GV hr (pa_cons (pe_slice sl_list (pv 3) (po_some (pe_op op_add pe_int (pe_op op_mul pe_int (pv 5)))) (po_some (pe_op op_add pe_int (pe_op op_mul pe_int (pv 5))))) (pa_cons (pv 1) pa_nil))) pa_nil)))))
      (pss_cons (ps_set (i := 6) scShape.nd rfl (Or.inl rfl) (pe_ix ix_list (pe_lst (pa_cons pe_non (pa_cons (pe_ix ix_list (pv 3) pe_int (fun _ _ => rfl)) (pa_cons (pe_op op_mod (pe_ix ix_list (pv 3) pe_int (fun _ _ => rfl)) pe_int) (pa_cons pe_non pa_nil)))))
          (pe_ix ix_list (pv 3) pe_int (fun _ _ => rfl)) (fun _ _ => rfl)))
      (pss_cons (ps_if (pt_cmpR op_lt (pe_ix ix_list (pv 3) pe_int (fun _ _ => rfl)) pe_int (nomark _))
        (pss_one (ps_ret (pe_tup (pa_cons pe_str (pa_cons (pe_slice sl_list (pv 4) po_none (po_some (pe_ix ix_list (pe_lst (pa_cons (pe_ix ix_list (pv 3) pe_int (fun _ _ => rfl)) (pa_cons (pe_op op_mod (pe_ix ix_list (pv 3) pe_int (fun _ _ => rfl)) pe_int) pa_nil)))
          (pe_ix ix_list (pv 3) pe_int (fun _ _ => rfl)) (fun _ _ => rfl)))) (pa_cons (pv 6) pa_nil)))))) pss_nil)
      (pss_cons (ps_set (i := 7) scShape.nd rfl (Or.inl rfl) (pe_ix ix_list (pv 4) pe_int (fun _ _ => rfl)))
      (pss_cons (ps_if (pt_cmpR op_ne (pe_ix ix_tup (pv 7) pe_int (fun _ _ => rfl)) pe_str (nomark _)) (pss_one (ps_set (i := 7) scShape.nd rfl (Or.inl rfl) (pe_tup (pa_cons pe_str pa_nil)))) pss_nil)
      (pss_cons (ps_if (pt_cmpR op_eq (pe_ix ix_list (pv 3) pe_int (fun _ _ => rfl)) pe_int (nomark _))
        (pss_one (ps_ret (pe_tup (pa_cons pe_str (pa_cons (pe_lst (pa_cons (pv 7) pa_nil)) (pa_cons pe_non pa_nil)))))) pss_nil)
      (pss_one (ps_ret (pe_tup (pa_cons pe_str (pa_cons (pe_lst (pa_cons (pv 7) (pa_cons (pe_ix ix_list (pv 4) pe_int (fun _ _ => rfl)) pa_nil))) (pa_cons pe_non pa_nil))))))))))))), ?_⟩
    -- row = _law_drawn(..)
    refine ⟨_, rfl, _, _, rfl, rfl, ⟨by decide, by decide, by decide⟩, (by show 4 ≤ sizeLine; decide), fun p1 h1 => ?_⟩
    refine ⟨_, _, rfl, rfl, ⟨by decide, by decide, by decide⟩, (by show 3 ≤ sizeLine; decide), fun p2 h2 => ?_⟩
    refine ⟨_, _, _, rfl, rfl, upd_same, by decide, by decide, (by show 3 * 8 ≤ sizeLine; decide), fun p3 h3 => ?_⟩
    have s1 := Same.new (H := H) (o := .lst [V.int 4, V.int 9, V.int 4, V.int (10 ^ (60 : Int).toNat)]) h1
    have s2 := s1.then (o := .lst [V.int 6, V.int (10 ^ (60 : Int).toNat), V.int 500]) h2
    have s3 := s2.then (o := .lst (List.replicate (8 : Int).toNat [V.int 6, V.int (10 ^ (60 : Int).toNat), V.int 500]).flatten) h3
    have n12 : p1 ≠ p2 := ne_of_none upd_same h2
    have e1 : ∀ {o : HO}, (upd (upd H p1 (.lst [V.int 4, V.int 9, V.int 4, V.int (10 ^ (60 : Int).toNat)])) p2 o) p1 = some (.lst [V.int 4, V.int 9, V.int 4, V.int (10 ^ (60 : Int).toNat)]) := fun {o} => by
      rw [upd_ne n12]
      exact upd_same
    have n13 : p1 ≠ p3 := ne_of_none e1 h3
    refine ⟨p1, p3, _, _, rfl, rfl, (by rw [upd_ne n13]; exact e1), upd_same, (by show 28 ≤ sizeLine; decide), fun p4 h4 => ?_⟩
    refine ⟨_, rfl, ce, p4, fr, szs, rfl, SqL.of ?_, (by rw [szs_len]; decide), szs_ok, fun fd rp H1 hrp0 s5 hrp D => ?_⟩
    · rw [upd_same]
      rfl
    have s4 := s3.then (o := .lst ([V.int 4, V.int 9, V.int 4, V.int (10 ^ (60 : Int).toNat)] ++ (List.replicate (8 : Int).toNat [V.int 6, V.int (10 ^ (60 : Int).toNat), V.int 500]).flatten)) h4
    have sH : Same H H1 := s4.trans s5
    -- values = []
    refine ⟨Nat.zero_le _, fun vp hvp => ?_⟩
    have row : ∀ {i : Nat} {s : Int}, szs[i]? = some s → ∃ z, (fd.map V.int)[i]? = some (.int z) ∧ 0 ≤ z ∧ z < s := fun {i s} h => by
      obtain ⟨z, h1, h2, h3⟩ := D.at_ h
      refine ⟨z, ?_, h2, h3⟩
      rw [List.getElem?_map, h1]
      rfl
    refine ⟨_, rfl, by decide, by decide, ?_⟩
    refine for_range (lo := 0) (n := (8 : Int).toNat) (fun i σ H' => Same H1 H' ∧ ∃ (us : List V) (v5 : Option V), σ = [some (.int ce), some (.ref th), some (.bl fr), some (.ref rp), some (.ref vp), v5, none, none] ∧ H' vp = some (.lst us) ∧ us.length = i ∧ ∀ v ∈ us, IsF K H' v) ?_ ?_ ?_
    · exact ⟨Same.new hvp, [], none, rfl, upd_same, rfl, fun v hv => by cases hv⟩
    · rintro i σ H' hi ⟨t1, us, v5, rfl, hus, hul, hF⟩
      have hi8 : i < 8 := hi
      obtain ⟨za, wa, wa0, wa1⟩ := row (szs_way ⟨i, hi8⟩)
      obtain ⟨zb, wb, _, _⟩ := row (szs_num ⟨i, hi8⟩)
      obtain ⟨zc, wc, wc0, _⟩ := row (szs_at ⟨i, hi8⟩)
      have ecut : cutV (fd.map V.int) (some (4 + 3 * (0 + (i : Int)))) (some (7 + 3 * (0 + (i : Int)))) = [.int za, .int zb, .int zc] :=
        cut3 (n := 4 + 3 * i) wa wb wc (by omega) (by omega)
      refine ⟨_, rfl, .inl ⟨rfl, _, SqL.of hus⟩, _, rfl, ?_⟩
      refine ⟨_, rfl, _, _, rfl, rfl, .inl ⟨by decide, by decide⟩, _, _, rfl, rfl, _, rfl, ?_⟩
      refine ⟨_, rfl, _, _, rfl, rfl, .inl ⟨by decide, by decide⟩, _, _, rfl, rfl, _, rfl, ?_⟩
      have hrp' := t1 _ _ hrp
      refine ⟨rp, _, rfl, SqL.of hrp', fun cp hcp => ?_⟩
      have s6 : Same H' (upd H' cp (.lst (cutV (fd.map V.int) (some (4 + 3 * (0 + (i : Int)))) (some (7 + 3 * (0 + (i : Int))))))) := Same.new hcp
      refine ⟨_, rfl, cp, th, za, zb, zc, ns, rfl, SqL.of (by rw [upd_same, ecut]), wa0, wa1, wc0, s6.seq (t1.seq (sH.seq hT)), fun v H2 s7 hv => ?_⟩
      have s8 : Same H' H2 := s6.trans s7
      have hus2 := s8 _ _ hus
      refine ⟨vp, _, _, rfl, rfl, hus2, small1000 (by omega), ?_⟩
      refine ⟨(t1.trans s8).store hvp, us ++ [v], _, rfl, upd_same, by rw [List.length_append, List.length_singleton, hul], fun u hu => ?_⟩
      have kp : Kept H2 (upd H2 vp (.lst (us ++ [v]))) vp := Kept.upd
      rcases List.mem_append.mp hu with hu | hu
      · exact kp.isF hus2 ((hF u hu).same s8)
      · rw [List.mem_singleton.mp hu]
        exact kp.isF hus2 hv
    · rintro σ H2 ⟨t1, us, v5, rfl, hus, hul, hF⟩
      have hul : us.length = 8 := hul
      have hrp2 := t1 _ _ hrp
      have sH2 : Same H H2 := sH.trans t1
      obtain ⟨z0, r0, r00, r01⟩ := row (i := 0) (s := 4) (by decide +kernel)
      obtain ⟨z1, r1, r10, r11⟩ := row (i := 1) (s := 9) (by decide +kernel)
      obtain ⟨z2, r2, r20, r21⟩ := row (i := 2) (s := 4) (by decide +kernel)
      obtain ⟨z3, r3, r30, r31⟩ := row (i := 3) (s := 10 ^ (60 : Int).toNat) (by decide +kernel)
      have a0 : atI (fd.map V.int) 0 = some (.int z0) := atI_nat (j := 0) r0
      have a1 : atI (fd.map V.int) 1 = some (.int z1) := atI_nat (j := 1) r1
      have a2 : atI (fd.map V.int) 2 = some (.int z2) := atI_nat (j := 2) r2
      have a3 : atI (fd.map V.int) 3 = some (.int z3) := atI_nat (j := 3) r3
      -- words
      refine ⟨_, rfl, rp, _, _, _, rfl, rfl, SqL.of hrp2, a3, _, rfl, rp, _, _, _, rfl, rfl, SqL.of hrp2, a3, _, _, rfl, rfl, (by show (0 : Int) < 5; decide), (by show 4 ≤ sizeLine; decide), fun wp hwp => ?_⟩
      have s3 : Same H2 (upd H2 wp (.lst [V.non, V.int z3, V.int (z3 % 5), V.non])) := Same.new hwp
      obtain ⟨wv, hwv, hwm⟩ := at_list (xs := [V.non, V.int z3, V.int (z3 % 5), V.non]) r20 r21 rfl
      have hW : IsW wv := by
        rcases List.mem_cons.mp hwm with e | hwm
        · exact .inl e
        rcases List.mem_cons.mp hwm with e | hwm
        · exact .inr ⟨_, e⟩
        rcases List.mem_cons.mp hwm with e | hwm
        · exact .inr ⟨_, e⟩
        · exact .inl (List.mem_singleton.mp hwm)
      refine ⟨_, rfl, rp, _, _, _, rfl, rfl, SqL.of (s3 _ _ hrp2), a2, wp, _, _, wv, rfl, rfl, SqL.of upd_same, hwv, ?_⟩
      have sH3 := sH2.trans s3
      have hrp3 := s3 _ _ hrp2
      have hus3 := s3 _ _ hus
      have hF3 : ∀ v ∈ us, IsF K (upd H2 wp (.lst [V.non, V.int z3, V.int (z3 % 5), V.non])) v := fun v hv => (hF v hv).same s3
      generalize upd H2 wp (.lst [V.non, V.int z3, V.int (z3 % 5), V.non]) = H3 at *
      -- if row[0] < 2
      refine ⟨_, rfl, rp, _, _, _, rfl, rfl, SqL.of hrp3, a0, _, _, rfl, rfl, _, rfl, ?_⟩
      refine ite2 (fun hlt => ?_) (fun hge => ?_)
      · have hlt2 : z0 < 2 := of_decide_eq_true hlt
        refine ⟨_, rfl, _, rfl, rp, _, _, _, rfl, rfl, SqL.of hrp3, a1, _, rfl, rp, _, _, _, rfl, rfl, SqL.of hrp3, a1, _, _, rfl, rfl, (by show (0 : Int) < 3; decide), (by show 2 ≤ sizeLine; decide), fun np hnp => ?_⟩
        have s4' : Same H3 (upd H3 np (.lst [V.int z1, V.int (z1 % 3)])) := Same.new hnp
        obtain ⟨nv, hnv, hnm⟩ := at_list (xs := [V.int z1, V.int (z1 % 3)]) (n := 2) r00 hlt2 rfl
        obtain ⟨nz, rfl⟩ : ∃ nz, nv = V.int nz := by
          rcases List.mem_cons.mp hnm with e | hnm
          · exact ⟨_, e⟩
          · exact ⟨_, List.mem_singleton.mp hnm⟩
        refine ⟨_, rfl, rp, _, _, _, rfl, rfl, SqL.of (s4' _ _ hrp3), a0, np, _, _, _, rfl, rfl, SqL.of upd_same, hnv, nz, rfl, vp, us, rfl, SqL.of (s4' _ _ hus3), fun fl hfl => ?_⟩
        refine ⟨_, rfl, (by show 3 ≤ sizeLine; decide), fun sh hsh => ?_⟩
        have s5' := (s4'.then hfl).then (o := .tup [V.str "plain", V.ref fl, wv]) hsh
        refine q sh fl .plain (cutV us none (some nz)) wv _ (sH3.trans s5') ((sH3.trans s4').free hfl) ⟨upd_same, ?_, fun v hv => ?_, hW, ?_⟩
        · rw [upd_ne (ne_of_none upd_same hsh)]
          exact upd_same
        · exact (hF3 v (cut_mem hv)).same s5'
        · show (cutV us none (some nz)).length ≤ 8
          exact Nat.le_trans (cutV_length _ _ _) (by omega)
      · -- key = values[0]
        obtain ⟨u0, hu0, hm0⟩ := at_list (xs := us) (z := 0) (n := 8) (by omega) (by omega) hul
        obtain ⟨u1, hu1, hm1⟩ := at_list (xs := us) (z := 1) (n := 8) (by omega) (by omega) hul
        have tail : ∀ (key : V) (H4 : Hp), Same H3 H4 → IsF K H4 key → tSeq (tIfS (tTest (tOp rEq (tOp (rIxL K) (tVar 3) (tC (.int 0))) (tC (.int 2)))) (tRet (tTup (tCons (tC (.str "weak")) (tCons (tLst (tCons (tVar 7) tNil)) (tCons (tC .non) tNil))))) tNext)
            (tRet (tTup (tCons (tC (.str "pair")) (tCons (tLst (tCons (tVar 7) (tCons (tOp (rIxL K) (tVar 4) (tC (.int 1))) tNil))) (tCons (tC .non) tNil))))) { nx := fun _ H' => Q .non H', rt := Q }
            [some (.int ce), some (.ref th), some (.bl fr), some (.ref rp), some (.ref vp), v5, some wv, some key] H4 := fun key H4 s4' hk => by
          refine ⟨_, rfl, rp, _, _, _, rfl, rfl, SqL.of (s4' _ _ hrp3), a0, rfl, _, rfl, ?_⟩
          refine iteB (fun _ => ?_) (fun _ => ?_)
          · refine ⟨_, rfl, (by show 1 ≤ sizeLine; decide), fun fl hfl => ⟨(by show 3 ≤ sizeLine; decide), fun sh hsh => ?_⟩⟩
            have s5' := (Same.new (H := H4) (o := .lst [key]) hfl).then (o := .tup [V.str "weak", V.ref fl, V.non]) hsh
            refine q sh fl .weak [key] .non _ ((sH3.trans s4').trans s5') ((sH3.trans s4').free hfl) ⟨upd_same, ?_, fun v hv => ?_, .inl rfl, rfl, rfl⟩
            · rw [upd_ne (ne_of_none upd_same hsh)]
              exact upd_same
            · rw [List.mem_singleton.mp hv]
              exact hk.same s5'
          · refine ⟨_, rfl, _, rfl, vp, _, _, _, rfl, rfl, SqL.of (s4' _ _ hus3), hu1, (by show 2 ≤ sizeLine; decide), fun fl hfl => ⟨(by show 3 ≤ sizeLine; decide), fun sh hsh => ?_⟩⟩
            have s5' := (Same.new (H := H4) (o := .lst [key, u1]) hfl).then (o := .tup [V.str "pair", V.ref fl, V.non]) hsh
            refine q sh fl .pair [key, u1] .non _ ((sH3.trans s4').trans s5') ((sH3.trans s4').free hfl) ⟨upd_same, ?_, fun v hv => ?_, .inl rfl, rfl, rfl⟩
            · rw [upd_ne (ne_of_none upd_same hsh)]
              exact upd_same
            · rcases List.mem_cons.mp hv with e | hv
              · rw [e]
                exact hk.same s5'
              · rw [List.mem_singleton.mp hv]
                exact ((hF3 u1 hm1).same s4').same s5'
        refine ⟨_, rfl, vp, _, _, _, rfl, rfl, SqL.of hus3, hu0, ?_⟩
        obtain ⟨ka, kz, kxs, ek, hk, _⟩ := id (hF3 u0 hm0)
        refine ⟨_, rfl, ka, _, _, .str kz, ek, rfl, hk, atI_nat (j := 0) rfl, rfl, _, rfl, ?_⟩
        refine iteB (fun _ => ?_) (fun _ => ?_)
        · refine ⟨(by show 1 ≤ sizeLine; decide), fun kp hkp => ?_⟩
          exact tail _ _ (Same.new hkp) (isF1 ok_nothing upd_same)
        · exact tail _ _ (Same.refl _) (hF3 u0 hm0)
theorem scThing : FnScope ["_law_shape_here"] ["_law_shape_here"] (defScope sThing) := ⟨rfl, rfl, rfl, by decide +kernel, rfl, by decide +kernel, by decide +kernel⟩
theorem ok_thing_ {f : Addr} {fd : FuncData} (F : Fun K "_law_thing" "_law_thing" sThing f fd) (B : TxtB mg) (GP : HasF P w K mg base 4 "plain" ["fields", "words"] (spPlain K c)) (GW : HasF P w K mg base 3 "weak" ["field"] (spWeak c))
    (GQ : HasF P w K mg base 3 "pair" ["key", "value"] (spPair c)) : FnOk P w K mg base CX0 5 f fd ["_law_shape_here"] (spThing K c) := by
  refine F.ok scThing (fun vs H Q E h => ?_) (fun cdv A outer s H vs Q E hr h => ?_)
  · obtain ⟨sh, fl, k, fs, wv, rfl, _⟩ := h
    rfl
  · obtain ⟨sh, fl, k, fs, wv, rfl, S, q⟩ := h
    obtain ⟨g1, gd1, GP⟩ := GP
    obtain ⟨g2, gd2, GW⟩ := GW
    obtain ⟨g3, gd3, GQ⟩ := GQ
    have hr3 : Room 3 _ := hr.mono (by decide)
    refine ⟨_, pss_cons (ps_if (pt_cmpR op_eq (pe_ix ix_tup (pv 0) pe_int (fun _ _ => rfl)) pe_str (nomark _))
        (pss_one (ps_ret (pcall GP hr (pa_cons (pe_callTy call_list_of (by rfl) B.list (by decide +kernel) (pa_cons (pe_ix ix_tup (pv 0) pe_int (fun _ _ => rfl)) pa_nil)) (pa_cons (pe_ix ix_tup (pv 0) pe_int (fun _ _ => rfl)) pa_nil))))) pss_nil)
      (pss_cons (ps_if (pt_cmpR op_eq (pe_ix ix_tup (pv 0) pe_int (fun _ _ => rfl)) pe_str (nomark _))
        (pss_one (ps_ret (pcall GW hr3 (pa_cons (pe_ix ix_list (pe_ix ix_tup (pv 0) pe_int (fun _ _ => rfl)) pe_int (fun _ _ => rfl)) pa_nil)))) pss_nil)
      (pss_one (ps_ret (pcall GQ hr3 (pa_cons (pe_ix ix_list (pe_ix ix_tup (pv 0) pe_int (fun _ _ => rfl)) pe_int (fun _ _ => rfl)) (pa_cons (pe_ix ix_list (pe_ix ix_tup (pv 0) pe_int (fun _ _ => rfl)) pe_int (fun _ _ => rfl)) pa_nil)))))), ?_⟩
    have i0 : atI [V.str k.txt, V.ref fl, wv] 0 = some (.str k.txt) := atI_nat (j := 0) rfl
    have i1 : atI [V.str k.txt, V.ref fl, wv] 1 = some (.ref fl) := atI_nat (j := 1) rfl
    have i2 : atI [V.str k.txt, V.ref fl, wv] 2 = some wv := atI_nat (j := 2) rfl
    refine ⟨_, rfl, sh, _, _, _, rfl, rfl, SqT.of S.tp, i0, rfl, _, rfl, ?_⟩
    cases k with
    | plain =>
      refine iteD rfl ?_
      refine ⟨_, rfl, sh, _, _, _, rfl, rfl, SqT.of S.tp, i1, fl, _, rfl, .inl (SqL.of S.ls), fun p hp => ?_⟩
      have s1 : Same H (upd H p (.lst fs)) := Same.new hp
      refine ⟨_, rfl, sh, _, _, _, rfl, rfl, SqT.of (s1 _ _ S.tp), i2, p, fs, wv, rfl, SqL.of upd_same, q.same s1⟩
    | weak =>
      refine iteDN (fun z => wp_ (V.str.inj z)) ?_
      refine ⟨_, rfl, sh, _, _, _, rfl, rfl, SqT.of S.tp, i0, rfl, _, rfl, iteD rfl ?_⟩
      have hl : fs.length = 1 := S.fit.2.1
      match fs, hl, S, q with
      | [v], _, S, q =>
        refine ⟨_, rfl, sh, _, _, _, rfl, rfl, SqT.of S.tp, i1, fl, _, _, v, rfl, rfl, SqL.of S.ls, atI_nat (j := 0) rfl, v, wv, rfl, q⟩
    | pair =>
      refine iteDN (fun z => qp_ (V.str.inj z)) ?_
      refine ⟨_, rfl, sh, _, _, _, rfl, rfl, SqT.of S.tp, i0, rfl, _, rfl, iteDN (fun z => qw_ (V.str.inj z)) ?_⟩
      have hl : fs.length = 2 := S.fit.2.1
      match fs, hl, S, q with
      | [v, u], _, S, q =>
        refine ⟨_, rfl, sh, _, _, _, rfl, rfl, SqT.of S.tp, i1, fl, _, _, v, rfl, rfl, SqL.of S.ls, atI_nat (j := 0) rfl, ?_⟩
        refine ⟨_, rfl, sh, _, _, _, rfl, rfl, SqT.of S.tp, i1, fl, _, _, u, rfl, rfl, SqL.of S.ls, atI_nat (j := 1) rfl, v, u, wv, rfl, q⟩
theorem scSize : FnScope ["_law_shape_here"] ["_law_shape_here"] (defScope sSize) := ⟨rfl, rfl, rfl, by decide +kernel, rfl, by decide +kernel, by decide +kernel⟩
theorem ok_size_ {f : Addr} {fd : FuncData} (F : Fun K "_law_size" "_law_size" sSize f fd) (B : TxtB mg) : FnOk P w K mg base CX0 1 f fd ["_law_shape_here"] (spSize K) := by
  refine F.ok scSize (fun vs H Q E h => ?_) (fun cdv A outer s H vs Q E hr h => ?_)
  · obtain ⟨sh, fl, k, fs, wv, rfl, _⟩ := h
    rfl
  · obtain ⟨sh, fl, k, fs, wv, rfl, S, q⟩ := h
    refine ⟨_, pss_one (ps_ret (pe_op op_add (pe_callB call_len_seq (by rfl) B.len PySem.boot_len (pa_cons (pe_ix ix_tup (pv 0) pe_int (fun _ _ => rfl)) pa_nil))
      (pe_ix ix_list (pe_lst (pa_cons pe_int (pa_cons pe_int pa_nil))) (pe_callTy call_int1 (by rfl) B.int (by decide +kernel) (pa_cons (pe_cmpR op_eq (pe_ix ix_tup (pv 0) pe_int (fun _ _ => rfl)) pe_str (nomark _)) pa_nil)) (fun _ _ => rfl)))), ?_⟩
    have i0 : atI [V.str k.txt, V.ref fl, wv] 0 = some (.str k.txt) := atI_nat (j := 0) rfl
    have i1 : atI [V.str k.txt, V.ref fl, wv] 1 = some (.ref fl) := atI_nat (j := 1) rfl
    refine ⟨_, rfl, sh, _, _, _, rfl, rfl, SqT.of S.tp, i1, fl, _, rfl, .inl (SqL.of S.ls), (by show 2 ≤ sizeLine; decide), fun p hp => ?_⟩
    have s1 : Same H (upd H p (.lst [V.int 2, V.int 3])) := Same.new hp
    refine ⟨_, rfl, sh, _, _, _, rfl, rfl, SqT.of (s1 _ _ S.tp), i0, rfl, .inr ⟨_, rfl, ?_⟩⟩
    refine ⟨p, _, _, .int (k.off : Int), rfl, rfl, SqL.of upd_same, ?_, _, _, rfl, rfl, ?_⟩
    · cases k with
      | plain =>
        rw [decide_eq_true (show V.str Kd.plain.txt = V.str ("plain" : Str) from rfl)]
        exact atI_nat (j := 1) rfl
      | weak =>
        rw [decide_eq_false (show ¬ V.str Kd.weak.txt = V.str ("plain" : Str) from fun z => wp_ (V.str.inj z))]
        exact atI_nat (j := 0) rfl
      | pair =>
        rw [decide_eq_false (show ¬ V.str Kd.pair.txt = V.str ("plain" : Str) from fun z => qp_ (V.str.inj z))]
        exact atI_nat (j := 0) rfl
    · have e : ((fs.length : Nat) : Int) + (k.off : Int) = ((k.off + fs.length : Nat) : Int) := by omega
      show Q (.int (((fs.length : Nat) : Int) + (k.off : Int))) _
      rw [e]
      exact q _ s1
theorem scWhole : FnScope ["_law_found"] ["_law_found"] (defScope sWhole) := ⟨rfl, rfl, rfl, by decide +kernel, rfl, by decide +kernel, by decide +kernel⟩
theorem ok_whole {f : Addr} {fd : FuncData} (F : Fun K "_law_whole" "_law_whole" sWhole f fd) (B : TxtB mg) (L : TxtL K mg c) : FnOk P w K mg base CX0 1 f fd ["_law_found"] spWhole := by
  refine F.ok scWhole (fun vs H Q E h => ?_) (fun cdv A outer s H vs Q E hr h => ?_)
  · obtain ⟨i, rfl, _⟩ := h
    rfl
  · obtain ⟨i, rfl, q⟩ := h
    refine ⟨_, pss_one (ps_ret (pe_and (pe_callB call_isi (by rfl) L.isi (by decide +kernel) (pa_cons (pv 0) (pa_cons (pe_bltn (v := V.ty "int") (by rfl) B.int (by decide +kernel) rfl) pa_nil)))
      (pe_one (pe_not (pe_callB call_isi (by rfl) L.isi (by decide +kernel) (pa_cons (pv 0) (pa_cons (pe_bltn (v := V.ty "bool") (by rfl) L.bool (by decide +kernel) rfl) pa_nil))))))), ?_⟩
    refine ⟨_, rfl, _, _, _, _, true, rfl, .ty "int", .base (.int i), kit_ty (by decide +kernel), _, rfl, iteT ?_⟩
    exact ⟨_, rfl, _, _, _, _, false, rfl, .ty "bool", .base (.int i), kit_ty (by decide +kernel), _, rfl, q⟩
end
end Hk
/-! What is held, and the law. -/
namespace Hk
open PySem L2

theorem pe_some {X : Cx} {ι : Type} {e : Expr} {t : ι → TE} (h : ∀ i, PE X e (t i)) : PE X e (fun σ H Q => ∃ i, t i σ H Q) :=
  ⟨fun pins s σ H Q I q => q.elim fun i q => (h i).run pins s σ H Q I q⟩

section
variable {P : Program} {w : World} {K : PySem.W.Frag} {mg : Str → Option Value} {base : Heap} {c : Cs}
theorem mf_thing_at (r : Addr) : (mf r).lookup ("thing_at" : Str) = none := mf_no _ (by decide +kernel)
theorem mf_serial_at (r : Addr) : (mf r).lookup ("serial_at" : Str) = none := mf_no _ (by decide +kernel)
theorem mf_marked_at (r : Addr) : (mf r).lookup ("marked_at" : Str) = none := mf_no _ (by decide +kernel)
theorem mf_put_in (r : Addr) : (mf r).lookup ("put_in" : Str) = none := mf_no _ (by decide +kernel)
theorem tf_sort (k : Kd) (l : Addr) (wv : V) : (tf k l wv).lookup ("sort_of" : Str) = none := tf_no _ _ _ (by decide +kernel) (by decide +kernel)
theorem tf_fields (k : Kd) (l : Addr) (wv : V) : (tf k l wv).lookup ("fields" : Str) = none := tf_no _ _ _ (by decide +kernel) (by decide +kernel)
theorem tf_wordsN (k : Kd) (l : Addr) (wv : V) : (tf k l wv).lookup ("words" : Str) = none := tf_no _ _ _ (by decide +kernel) (by decide +kernel)
theorem scal_w {wv : V} (h : IsW wv) : scal wv wv = true := by
  rcases h with rfl | ⟨n, rfl⟩ <;> rfl
theorem FitK.non {k : Kd} {fs : List V} {wv : V} (h : FitK k fs wv) : k ≠ .plain → wv = .non := fun z => by
  cases k with
  | plain => exact absurd rfl z
  | weak => exact h.2.2
  | pair => exact h.2.2
theorem scHeld : FnScope ["_law_memory", "_law_place", "_law_row", "_law_shape_here", "_law_serial", "_law_marked", "_law_thing_here"] ["_law_memory", "_law_place", "_law_row"] (defScope sHeld) := ⟨rfl, rfl, rfl, by decide +kernel, rfl, by decide +kernel, by decide +kernel⟩
theorem ok_held {f : Addr} {fd : FuncData} (F : Fun K "_law_held" "_law_held" sHeld f fd) (TT : TxtT K mg c) (B : TxtB mg) (L : TxtL K mg c)
    (GT : HasM P w K mg base 5 c.M "thing_at" ["self", "place"] (spTells K c (qThing c))) (GS : ∀ k, HasM P w K mg base 1 (c.of k) "sort_of" ["self"] (spSort k)) (GF : ∀ k, HasM P w K mg base 1 (c.of k) "fields" ["self"] (spFields c k))
    (GW : ∀ k, HasM P w K mg base 1 (c.of k) "words" ["self"] (spWords c k)) (GA : HasM P w K mg base 2 c.M "sort_at" ["self", "place"] (spTells K c qSort)) (GE : HasM P w K mg base 2 c.M "serial_at" ["self", "place"] (spTells K c qSerial))
    (GZ : HasM P w K mg base 2 c.M "size_at" ["self", "place"] (spTells K c qSize)) (GK : HasM P w K mg base 2 c.M "marked_at" ["self", "place"] (spTells K c qMark)) (GH : HasF P w K mg base 1 "_law_whole" ["_law_found"] spWhole)
    (GI : HasF P w K mg base 1 "_law_size" ["_law_shape_here"] (spSize K)) : FnOk P w K mg base CX0 6 f fd ["_law_memory", "_law_place", "_law_row"] (spHeld K c) := by
  refine F.ok scHeld (fun vs H Q E h => ?_) (fun cdv A outer s H vs Q E hr h => ?_)
  · obtain ⟨a, r, l, t, sh, fl, m, n, p, xs, fs, k, se, mk, wv, rfl, _⟩ := h
    rfl
  · obtain ⟨a, r, l, t, sh, fl, m, n, p, xs, fs, k, se, mk, wv, rfl, M, EN, ht, S, q⟩ := h
    obtain ⟨g1, gd1, GT⟩ := GT
    obtain ⟨g2, gd2, GS⟩ := GS k
    obtain ⟨g3, gd3, GF⟩ := GF k
    obtain ⟨g4, gd4, GW⟩ := GW k
    obtain ⟨g5, gd5, GA⟩ := GA
    obtain ⟨g6, gd6, GE⟩ := GE
    obtain ⟨g7, gd7, GZ⟩ := GZ
    obtain ⟨g8, gd8, GK⟩ := GK
    obtain ⟨g9, gd9, GH⟩ := GH
    obtain ⟨g0, gd0, GI⟩ := GI
    have hr1 : Room 1 _ := hr.mono (by decide)
    have hr2 : Room 2 _ := hr.mono (by decide)
    refine ⟨_, pss_cons (ps_asg (pv 2) (pg_tup (by rfl) (pgs_cons (pg_name (i := 3) scHeld.nd rfl (Or.inl rfl)) (pgs_cons (pg_name (i := 4) scHeld.nd rfl (Or.inl rfl)) (pgs_cons (pg_name (i := 5) scHeld.nd rfl (Or.inl rfl)) pgs_nil)))))
      (pss_cons (ps_set (i := 6) scHeld.nd rfl (Or.inl rfl) (pmeth GT hr (pv 0) (pa_cons (pv 1) pa_nil)))
      (pss_cons (ps_if (PW.pt (pw_or (pt_not (pt_val (pe_callB call_isi (by rfl) L.isi (by decide +kernel) (pa_cons (pv 6) (pa_cons (pe_glob (v := V.ref c.T) (by rfl) TT.gT rfl) pa_nil)))))
          (pw_or (pt_cmpR op_ne (pmeth0 GS hr1 (pv 6)) (pe_ix ix_tup (pv 3) pe_int (fun _ _ => rfl)) (nomark _))
          (pw_or1 (pt_cmpR (op_neD hr.units) (pmeth0 GF hr1 (pv 6)) (pe_ix ix_tup (pv 3) pe_int (fun _ _ => rfl)) (nomark _)))))) (pss_one (ps_ret pe_bl)) pss_nil)
      (pss_cons (ps_if (PW.pt (pw_or (pt_cmpR op_ne (pmeth0 GW hr1 (pv 6)) (pe_ix ix_tup (pv 3) pe_int (fun _ _ => rfl)) (nomark _))
          (pw_or1 (pt_cmpR op_ne (pmeth GA hr2 (pv 0) (pa_cons (pv 1) pa_nil)) (pe_ix ix_tup (pv 3) pe_int (fun _ _ => rfl)) (nomark _))))) (pss_one (ps_ret pe_bl)) pss_nil)
      (pss_cons (ps_if (PW.pt (pw_or (pt_not (pt_val (pcall GH hr1 (pa_cons (pmeth GE hr2 (pv 0) (pa_cons (pv 1) pa_nil)) pa_nil))))
          (pw_or1 (pt_cmpR op_ne (pmeth GE hr2 (pv 0) (pa_cons (pv 1) pa_nil)) (pv 4) (nomark _))))) (pss_one (ps_ret pe_bl)) pss_nil)
      (pss_cons (ps_if (PW.pt (pw_or (pt_not (pt_val (pcall GH hr1 (pa_cons (pmeth GZ hr2 (pv 0) (pa_cons (pv 1) pa_nil)) pa_nil))))
          (pw_or1 (pt_cmpR op_ne (pmeth GZ hr2 (pv 0) (pa_cons (pv 1) pa_nil)) (pcall GI hr1 (pa_cons (pv 3) pa_nil)) (nomark _))))) (pss_one (ps_ret pe_bl)) pss_nil)
      (pss_one (ps_ret (pe_and (pe_callB call_isi (by rfl) L.isi (by decide +kernel) (pa_cons (pmeth GK hr2 (pv 0) (pa_cons (pv 1) pa_nil)) (pa_cons (pe_bltn (v := V.ty "bool") (by rfl) L.bool (by decide +kernel) rfl) pa_nil)))
          (pe_one (pe_cmpR op_eq (pmeth GK hr2 (pv 0) (pa_cons (pv 1) pa_nil)) (pv 5) (nomark _))))))))))), ?_⟩
    obtain ⟨⟨dm, h1⟩, _⟩ := id M
    have i0 : atI [V.str k.txt, V.ref fl, wv] 0 = some (.str k.txt) := atI_nat (j := 0) rfl
    have i1 : atI [V.str k.txt, V.ref fl, wv] 1 = some (.ref fl) := atI_nat (j := 1) rfl
    have i2 : atI [V.str k.txt, V.ref fl, wv] 2 = some wv := atI_nat (j := 2) rfl
    -- shape, serial, marked = row
    refine ⟨_, rfl, t, _, rfl, SqT.of ht, rfl, _, _, rfl, _, _, rfl, _, _, rfl, rfl, ?_⟩
    -- thing = memory.thing_at(place)
    refine ⟨_, rfl, a, dm, _, rfl, h1, mf_thing_at _, _, rfl, a, r, l, m, n, xs, p, k, se, mk, fs, wv, rfl, M, EN, fun x tl H1 s1 nx nl TA => ?_⟩
    obtain ⟨⟨dx, x1⟩, x2⟩ := id TA
    have S1 := S.same s1
    have M1 := M.same s1
    have EN1 := EN.same s1
    -- isinstance(thing, Thing)
    refine ⟨_, rfl, _, _, _, _, true, rfl, .own _, .base (.ins x1 (TT.cl k) (L.cA k) L.cG L.cT (L.cM k)), L.cK k, _, rfl, iteF ?_⟩
    -- thing.sort_of() != shape[0]
    refine ⟨_, rfl, x, dx, _, rfl, x1, tf_sort _ _ _, x, rfl, _, rfl, sh, _, _, _, rfl, rfl, SqT.of S1.tp, i0, rfl, _, rfl, iteNS rfl ?_⟩
    -- thing.fields() != shape[1]
    refine ⟨_, rfl, x, dx, _, rfl, x1, tf_fields _ _ _, x, tl, fs, wv, rfl, TA, fun u hu => ?_⟩
    have s2 : Same H1 (upd H1 u (.lst fs)) := Same.new hu
    obtain ⟨ds, d1, d2, d3⟩ := data_list (S1.same s2).isf
    refine ⟨_, rfl, sh, _, _, _, rfl, rfl, SqT.of (s2 _ _ S1.tp), i1, .list ds, .list ds, .lst (SqL.of upd_same) d1, .lst (SqL.of (s2 _ _ S1.ls)) d1, d2, d2, false, by rw [d3]; rfl, iteF ?_⟩
    have sH := s1.trans s2
    have S2 := S1.same s2
    have M2 := M1.same s2
    have EN2 := EN1.same s2
    have TA2 := TA.same s2
    generalize upd H1 u (.lst fs) = H2 at *
    obtain ⟨⟨dx2, y1⟩, y2⟩ := id TA2
    obtain ⟨⟨dm2, m1⟩, _⟩ := id M2
    -- words, sort_at
    refine ⟨_, rfl, x, dx2, _, rfl, y1, tf_wordsN _ _ _, x, tl, fs, wv, rfl, TA2, FitK.non S.fit, _, rfl, sh, _, _, _, rfl, rfl, SqT.of S2.tp, i2, scal_w S.fit.1, _, rfl, iteNS rfl ?_⟩
    refine ⟨_, rfl, a, dm2, _, rfl, m1, mf_sort_at _, _, rfl, a, r, l, m, n, xs, p, k, se, mk, fs, wv, rfl, M2, EN2, _, rfl, sh, _, _, _, rfl, rfl, SqT.of S2.tp, i0, rfl, _, rfl, iteNS rfl ?_⟩
    -- serial_at
    refine ⟨_, rfl, a, dm2, _, rfl, m1, mf_serial_at _, _, rfl, a, r, l, m, n, xs, p, k, se, mk, fs, wv, rfl, M2, EN2, _, rfl, _, rfl, iteF ?_⟩
    refine ⟨_, rfl, a, dm2, _, rfl, m1, mf_serial_at _, _, rfl, a, r, l, m, n, xs, p, k, se, mk, fs, wv, rfl, M2, EN2, _, rfl, rfl, _, rfl, iteNS rfl ?_⟩
    -- size_at
    refine ⟨_, rfl, a, dm2, _, rfl, m1, mf_size_at _, _, rfl, a, r, l, m, n, xs, p, k, se, mk, fs, wv, rfl, M2, EN2, _, rfl, _, rfl, iteF ?_⟩
    refine ⟨_, rfl, a, dm2, _, rfl, m1, mf_size_at _, _, rfl, a, r, l, m, n, xs, p, k, se, mk, fs, wv, rfl, M2, EN2, _, rfl, sh, fl, k, fs, wv, rfl, S2, fun H3 s3 => ⟨rfl, _, rfl, iteNS rfl ?_⟩⟩
    have M3 := M2.same s3
    have EN3 := EN2.same s3
    have m3 := s3 _ _ m1
    -- marked_at
    refine ⟨_, rfl, a, dm2, _, rfl, m3, mf_marked_at _, _, rfl, a, r, l, m, n, xs, p, k, se, mk, fs, wv, rfl, M3, EN3, _, _, _, _, true, rfl, .ty "bool", .base (.bl mk), kit_ty (by decide +kernel), _, rfl, iteT ?_⟩
    refine ⟨_, rfl, a, dm2, _, rfl, m3, mf_marked_at _, _, rfl, a, r, l, m, n, xs, p, k, se, mk, fs, wv, rfl, M3, EN3, _, rfl, rfl, ?_⟩
    rw [decide_eq_true (show V.bl mk = V.bl mk from rfl)]
    exact q _ (sH.trans s3)
end
end Hk
/-! The law. -/
namespace Hk
open PySem L2

structure NoTup (o : HO) : Prop where
  t : ∀ xs, o ≠ .tup xs
  f : ∀ ob xs, o ≠ .frz ob (.tup xs)
theorem NoTup.lst (xs : List V) : NoTup (.lst xs) := ⟨(by intro _ z; cases z), (by intro _ _ z; cases z)⟩
theorem NoTup.dK (kvs : List (Key × V)) : NoTup (.dK kvs) := ⟨(by intro _ z; cases z), (by intro _ _ z; cases z)⟩
section
variable {K : PySem.W.Frag} {H H' : Hp} {b : Addr} {o : HO}
theorem Kept.seqT2 {a : Addr} {ys : List V} (k : Kept H H' b) (hb : H b = some o) (no : NoTup o) (h : SqT K H a ys) : SqT K H' a ys := by
  rcases h with (h | ⟨ob, h⟩) | h
  · exact .inl (.inl (k _ _ h (ne_of h hb fun z => no.t _ z.symm)))
  · exact .inl (.inr ⟨ob, k _ _ h (ne_of h hb fun z => no.f _ _ z.symm)⟩)
  · exact .inr h
theorem Kept.isF2 {v : V} (k : Kept H H' b) (hb : H b = some o) (no : NoTup o) (h : IsF K H v) : IsF K H' v := by
  obtain ⟨a, z, ys, e, h, q⟩ := h
  exact ⟨a, z, ys, e, k.seqT2 hb no h, q⟩
theorem Kept.wcell2 {wv v : V} (k : Kept H H' b) (hb : H b = some o) (no : NoTup o) (h : WCell K H wv v) : WCell K H' wv v := by
  obtain ⟨a, e, h | ⟨n, e2, h⟩⟩ := h
  · exact ⟨a, e, .inl h⟩
  · exact ⟨a, e, .inr ⟨n, e2, k.seqT2 hb no h⟩⟩
theorem Kept.shape {sh fl : Addr} {k : Kd} {fs : List V} {wv : V} (kp : Kept H H' b) (hb : H b = some o) (no : NoTup o) (nf : fl ≠ b) (S : ShapeAt K H sh k fl fs wv) : ShapeAt K H' sh k fl fs wv :=
  ⟨kp _ _ S.tp (ne_of S.tp hb fun z => no.t _ z.symm), kp _ _ S.ls nf, fun v hv => kp.isF2 hb no (S.isf v hv), S.fit⟩
end

/-- a row of the law's dict: a place, and the shape, the serial and the mark of what was put in there -/
def RowOk (K : PySem.W.Frag) (H : Hp) (xs : List V) (l : Addr) (kv : Key × V) : Prop :=
  ∃ (p : Nat) (t sh fl : Addr) (k : Kd) (fs : List V) (se : Int) (mk : Bool) (wv : V), kv = (Sum.inl (p : Int), V.ref t) ∧ H t = some (.tup [.ref sh, .int se, .bl mk]) ∧ ShapeAt K H sh k fl fs wv ∧ fl ≠ l ∧ Entry K H xs p k se mk fs wv
theorem RowOk.same {K : PySem.W.Frag} {H H' : Hp} {xs : List V} {l : Addr} {kv : Key × V} (R : RowOk K H xs l kv) (s : Same H H') : RowOk K H' xs l kv := by
  obtain ⟨p, t, sh, fl, k, fs, se, mk, wv, e, ht, S, nf, E⟩ := R
  exact ⟨p, t, sh, fl, k, fs, se, mk, wv, e, s _ _ ht, S.same s, nf, E.same s⟩
theorem RowOk.kept {K : PySem.W.Frag} {H H' : Hp} {xs : List V} {l b : Addr} {o : HO} {kv : Key × V} (R : RowOk K H xs l kv) (kp : Kept H H' b) (hb : H b = some o) (no : NoTup o) (hl : b = l ∨ ∀ ys, o ≠ .lst ys) : RowOk K H' xs l kv := by
  obtain ⟨p, t, sh, fl, k, fs, se, mk, wv, e, ht, S, nf, E⟩ := R
  have nb : fl ≠ b := by
    rcases hl with z | z
    · rw [z]
      exact nf
    · exact ne_of S.ls hb fun q => z _ q.symm
  exact ⟨p, t, sh, fl, k, fs, se, mk, wv, e, kp _ _ ht (ne_of ht hb fun z => no.t _ z.symm), kp.shape hb no nb S, nf, E.move (fun _ _ => rfl) fun v hv => kp.wcell2 hb no hv⟩
theorem RowOk.filled {K : PySem.W.Frag} {H : Hp} {xs zs cs : List V} {l : Addr} {q : Nat} {kv : Key × V} (R : RowOk K H xs l kv) (F : Filled xs q cs cs.length zs) (free : ∀ j, j < cs.length → xs[q + j]? = some .non) : RowOk K H zs l kv := by
  obtain ⟨p, t, sh, fl, k, fs, se, mk, wv, e, ht, S, nf, E⟩ := R
  refine ⟨p, t, sh, fl, k, fs, se, mk, wv, e, ht, S, nf, E.move (fun j hj => ?_) fun _ h => h⟩
  have hfull := E.full (fun v hv => (S.isf v hv).ne) hj
  by_cases h1 : p + j < q
  · exact F.old _ (.inl h1)
  · by_cases h2 : q + cs.length ≤ p + j
    · exact F.old _ (.inr h2)
    · have h3 := free (p + j - q) (by omega)
      rw [show q + (p + j - q) = p + j by omega] at h3
      exact absurd h3 hfull
/-- a place that was free isn't told yet -/
theorem valV_mem {kvs : List (Key × V)} {k : Key} {v : V} (h : valV kvs k = some v) : (k, v) ∈ kvs := by
  unfold valV at h
  cases e : kvs.find? fun kv => decide (kv.1 = k) with
  | none =>
    rw [e] at h
    cases h
  | some kv =>
    rw [e] at h
    have h1 : kv.2 = v := Option.some.inj h
    have h2 : kv.1 = k := of_decide_eq_true (List.find?_some (p := fun kv : Key × V => decide (kv.1 = k)) e)
    subst h1 h2
    exact List.mem_of_find?_eq_some e
theorem rows_none {K : PySem.W.Frag} {H : Hp} {xs : List V} {l : Addr} {kvs : List (Key × V)} {q : Nat} (R : ∀ kv ∈ kvs, RowOk K H xs l kv) (h : xs[q]? = some .non) : valV kvs (Sum.inl (q : Int)) = none := by
  cases e : valV kvs (Sum.inl (q : Int)) with
  | none => rfl
  | some v =>
    obtain ⟨p, t, sh, fl, k, fs, se, mk, wv, e1, _, _, _, E⟩ := R _ (valV_mem e)
    injection e1 with e1 _
    injection e1 with e1
    have e2 : q = p := by omega
    subst e2
    have h2 := E.hd
    rw [h] at h2
    cases h2
theorem rows_keys {K : PySem.W.Frag} {H : Hp} {xs : List V} {l : Addr} : ∀ {kvs : List (Key × V)}, (∀ kv ∈ kvs, RowOk K H xs l kv) → ∃ ks : List Int, (kvs.map fun kv => kV kv.1) = ks.map V.int
  | [], _ => ⟨[], rfl⟩
  | kv :: r, h => by
    obtain ⟨p, t, _, _, _, _, _, _, _, e, _⟩ := h kv (List.mem_cons_self ..)
    obtain ⟨ks, e2⟩ := rows_keys fun u hu => h u (List.mem_cons_of_mem _ hu)
    refine ⟨(p : Int) :: ks, ?_⟩
    rw [List.map_cons, e2, e]
    rfl

/-- the law's own things, amid its loops -/
structure Live (K : PySem.W.Frag) (c : Cs) (H : Hp) (a r d l : Addr) (m n : Nat) (xs : List V) (kvs : List (Key × V)) : Prop where
  M : MemAt c H a r m n l xs
  D : H d = some (.dK kvs)
  R : ∀ kv ∈ kvs, RowOk K H xs l kv
theorem Live.same {K : PySem.W.Frag} {c : Cs} {H H' : Hp} {a r d l : Addr} {m n : Nat} {xs : List V} {kvs : List (Key × V)} (L : Live K c H a r d l m n xs kvs) (s : Same H H') : Live K c H' a r d l m n xs kvs :=
  ⟨L.M.same s, s _ _ L.D, fun kv h => (L.R kv h).same s⟩

def spLaw (K : PySem.W.Frag) : Sp := fun vs H Q _ => ∃ (a : Addr) (ns : List Int), vs = [.ref a] ∧ SqL K H a (ns.map V.int) ∧ ns.length ≤ 63 ∧ ∀ H' : Hp, Q (.bl true) H'

section
variable {P : Program} {w : World} {K : PySem.W.Frag} {mg : Str → Option Value} {base : Heap} {c : Cs}
theorem scLaw : FnScope ["_law_script", "_law_first", "_law_memory", "_law_rows", "_law_k", "_law_shape_here", "_law_serial", "_law_marked", "_law_thing_here", "_law_place"] ["_law_script"] (defScope sLaw) := ⟨rfl, rfl, rfl, by decide +kernel, rfl, by decide +kernel, by decide +kernel⟩
theorem ok_law {f : Addr} {fd : FuncData} (F : Fun K "law" "law" sLaw f fd) (B : TxtB mg) (L : TxtL K mg c) (GC : HasF P w K mg base 1 "_law_cell_at" ["_law_script", "_law_k"] (spCellAt K)) (GM : HasC P w K mg base 3 "Memory" c.M ["self", "many", "cells"] (spMInit c))
    (GS : HasF P w K mg base 2 "_law_shape" ["_law_cell", "_law_there", "_law_free"] (spShape K)) (GT : HasF P w K mg base 5 "_law_thing" ["_law_shape_here"] (spThing K c)) (GP : HasM P w K mg base 3 c.M "put_in" ["self", "thing", "serial", "marked"] (spPutIn K c))
    (GW : HasF P w K mg base 1 "_law_whole" ["_law_found"] spWhole) (GH : HasF P w K mg base 6 "_law_held" ["_law_memory", "_law_place", "_law_row"] (spHeld K c)) (GA : HasM P w K mg base 5 c.M "thing_at" ["self", "place"] (spTells K c (qThing c)))
    (GF : ∀ k, HasM P w K mg base 1 (c.of k) "fields" ["self"] (spFields c k)) : FnOk P w K mg base CX0 7 f fd ["_law_script"] (spLaw K) := by
  refine F.ok scLaw (fun vs H Q E h => ?_) (fun cdv A outer s H vs Q E hr h => ?_)
  · obtain ⟨a, ns, rfl, _⟩ := h
    rfl
  · obtain ⟨a, ns, rfl, hS, hlen, q⟩ := h
    obtain ⟨g1, gd1, GC⟩ := GC
    obtain ⟨g2, gd2, GM⟩ := GM
    obtain ⟨g3, gd3, GS⟩ := GS
    obtain ⟨g4, gd4, GT⟩ := GT
    obtain ⟨g5, gd5, GP⟩ := GP
    obtain ⟨g6, gd6, GW⟩ := GW
    obtain ⟨g7, gd7, GH⟩ := GH
    obtain ⟨g8, gd8, GA⟩ := GA
    have hr1 : Room 1 _ := hr.mono (by decide)
    have hr2 : Room 2 _ := hr.mono (by decide)
    have hr3 : Room 3 _ := hr.mono (by decide)
    have hr4 : Room 4 _ := hr.mono (by decide)
    have hr5 : Room 5 _ := hr.mono (by decide)
    have hu := hu_of hr
    refine ⟨_, pss_cons (ps_set (i := 1) scLaw.nd rfl (Or.inl rfl) (pcall GC hr1 (pa_cons (pv 0) (pa_cons pe_int pa_nil))))
      (pss_cons (ps_set (i := 2) scLaw.nd rfl (Or.inl rfl) (pmake GM hr4 (pa_cons (pe_op op_add pe_int (pe_op op_mod (pe_op op_fdiv (pv 1) pe_int) pe_int)) (pa_cons (pe_op op_add pe_int (pe_op op_mod (pe_op op_fdiv (pv 1) pe_int) pe_int)) pa_nil))))
      (pss_cons (ps_set (i := 3) scLaw.nd rfl (Or.inl rfl) pe_dnewK)
      (pss_cons (ps_for PassesOwn.never rfl (pi_range2 (by rfl) B.range (pa_cons pe_int (pa_cons (pe_callB (call_min2 rfl) (by rfl) L.min (by decide +kernel) (pa_cons (pe_callB call_len_seq (by rfl) B.len PySem.boot_len (pa_cons (pv 0) pa_nil)) (pa_cons pe_int pa_nil))) pa_nil)))
          (pg_name (i := 4) scLaw.nd rfl (Or.inl rfl))
        (pss_cons (ps_set (i := 5) scLaw.nd rfl (Or.inl rfl) (pcall GS hr2 (pa_cons (pe_ix ix_list (pv 0) (pv 4) (fun _ _ => rfl)) (pa_cons (pe_callTy (call_list_dK rfl) (by rfl) B.list (by decide +kernel) (pa_cons (pv 3) pa_nil))
            (pa_cons (pe_cmpR op_eq (pe_op op_mod (pv 1) pe_int) pe_int (nomark _)) pa_nil)))))
        (pss_cons (ps_set (i := 6) scLaw.nd rfl (Or.inl rfl) (pe_op op_add pe_int (pe_op op_mod (pe_op op_add (pe_op op_mul (pv 4) pe_int) (pe_op op_fdiv (pv 1) pe_int)) pe_int)))
        (pss_cons (ps_set (i := 7) scLaw.nd rfl (Or.inl rfl) (pe_cmpR op_eq (pe_op op_mod (pe_ix ix_list (pv 0) (pv 4) (fun _ _ => rfl)) pe_int) pe_int (nomark _)))
        (pss_cons (ps_set (i := 8) scLaw.nd rfl (Or.inl rfl) (pcall GT hr5 (pa_cons (pv 5) pa_nil)))
        (pss_cons (ps_set (i := 9) scLaw.nd rfl (Or.inl rfl) (pmeth GP hr3 (pv 2) (pa_cons (pv 8) (pa_cons (pv 6) (pa_cons (pv 7) pa_nil)))))
        (pss_cons (ps_if (pt_cmpR op_notN (pv 9) pe_non (nomark _))
          (pss_cons (ps_if (PW.pt (pw_or (pt_not (pt_val (pcall GW hr1 (pa_cons (pv 9) pa_nil)))) (pw_or1 (pt_cmp (pc_din hu (pv 9) (pv 3)))))) (pss_one (ps_ret pe_bl)) pss_nil)
          (pss_cons (ps_dput hu (pv 3) (pv 9) (pe_tup (pa_cons (pv 5) (pa_cons (pv 6) (pa_cons (pv 7) pa_nil)))) rfl)
          (pss_cons (ps_if (pt_not (pt_val (pcall GH hr (pa_cons (pv 2) (pa_cons (pv 9) (pa_cons (pe_dget hu (pv 3) (pv 9) (fun _ _ => rfl)) pa_nil)))))) (pss_one (ps_ret pe_bl)) pss_nil)
          (pss_one (ps_expr (pe_bm PySem.F.plainAttrs_list PySem.F.slot_list_append PySem.F.type_list_append mt_append
            (pe_some (t := fun k => tMeth (c.of k) "fields" (spFields c k) [] E0 (tMeth c.M "thing_at" (spTells K c (qThing c)) [] E0 (tVar 2) (tCons (tVar 9) tNil)) tNil)
              (fun k => let ⟨g, gd, G⟩ := GF k; pmeth0 G hr1 (pmeth GA hr5 (pv 2) (pa_cons (pv 9) pa_nil))))
            (pa_cons (pe_tup (pa_cons pe_str pa_nil)) pa_nil)))))))
          pss_nil)
        (pss_one (ps_if (pt_cmpR (op_neD hr.units) (pe_some (t := fun k => tMeth (c.of k) "fields" (spFields c k) [] E0 (tVar 8) tNil) (fun k => let ⟨g, gd, G⟩ := GF k; pmeth0 G hr1 (pv 8))) (pe_ix ix_tup (pv 5) pe_int (fun _ _ => rfl)) (nomark _))
          (pss_one (ps_ret pe_bl)) pss_nil)))))))))
      (pss_cons (ps_lock (ps_for PassesOwn.never rfl (pi_keys (pv 3)) (pg_name (i := 9) scLaw.nd rfl (Or.inl rfl))
        (pss_one (ps_if (pt_not (pt_val (pcall GH hr (pa_cons (pv 2) (pa_cons (pv 9) (pa_cons (pe_dget hu (pv 3) (pv 9) (fun _ _ => rfl)) pa_nil)))))) (pss_one (ps_ret pe_bl)) pss_nil))))
      (pss_one (ps_ret pe_bl)))))), ?_⟩
    -- first = _law_cell_at(script, 0)
    refine ⟨_, rfl, a, ns, 0, rfl, hS, fun fi => ?_⟩
    -- memory = Memory(..)
    refine ⟨_, rfl, _, _, rfl, rfl, ⟨by decide, by decide⟩, _, _, rfl, rfl, (by show (0 : Int) < 6; decide), _, _, rfl, rfl, ?_⟩
    refine ⟨_, rfl, _, _, rfl, rfl, ⟨by decide, by decide⟩, _, _, rfl, rfl, (by show (0 : Int) < 20; decide), _, _, rfl, rfl, ?_⟩
    intro me dx nx ndx nex
    have em : (1 : Int) + fi / 2 % 6 = (((1 + fi / 2 % 6).toNat : Nat) : Int) := by omega
    have en : (1 : Int) + fi / 12 % 20 = (((1 + fi / 12 % 20).toNat : Nat) : Int) := by omega
    refine ⟨me, dx, (1 + fi / 2 % 6).toNat, (1 + fi / 12 % 20).toNat, ?_, by omega, by omega, by omega, by omega, upd_same, fun r l H1 hr0 hl0 M1 kp1 => ⟨rfl, ?_⟩⟩
    · show [V.ref me, V.int (1 + fi / 2 % 6), V.int (1 + fi / 12 % 20)] = _
      rw [← em, ← en]
    generalize (1 + fi / 2 % 6).toNat = m at *
    generalize (1 + fi / 12 % 20).toNat = n at *
    have s0 : Same H (upd (upd H dx (.own me)) me (.ins c.M dx [])) := fun b o e => by
      rw [upd_ne (ne_of_none e nx), upd_ne (ne_of_none e ndx)]
      exact e
    have s1 : Same H H1 := s0.keptNew kp1 nx
    have hr0 : H r = none := s0.free hr0
    have hl0 : H l = none := s0.free hl0
    -- rows = {}
    intro d hd
    have hd0 : H d = none := s1.free hd
    have s2 : Same H (upd H1 d (.dK [])) := s1.then hd
    have L0 : Live K c (upd H1 d (.dK [])) me r d l m n (List.replicate (m * n) .non) [] := ⟨M1.same (Same.new hd), upd_same, fun kv h => by cases h⟩
    -- for k in range(1, min(len(script), 63))
    refine ⟨_, rfl, a, _, rfl, .inl (s2.seq hS), _, _, rfl, ?_⟩
    have elen : ((ns.map V.int).length : Nat) = ns.length := List.length_map ..
    have hN : ∃ N : Int, (if (63 : Int) < (((ns.map V.int).length : Nat) : Int) then (63 : Int) else (((ns.map V.int).length : Nat) : Int)) = N ∧ N ≤ (ns.length : Int) ∧ 0 ≤ N ∧ N ≤ 63 := by
      rw [elen]
      refine ⟨_, rfl, ?_⟩
      by_cases h : (63 : Int) < (ns.length : Int)
      · rw [if_pos h]
        omega
      · rw [if_neg h]
        omega
    obtain ⟨N, eN, hN1, hN2, hN3⟩ := hN
    refine ⟨1, N, ?_, ⟨by omega, by omega, by omega, by omega⟩, ?_⟩
    · rw [← eN]
    refine for_range (lo := 1) (n := (N - 1).toNat) (fun i σ H' => Same H H' ∧ ∃ (xs : List V) (kvs : List (Key × V)) (v4 v5 v6 v7 v8 v9 : Option V), σ = [some (.ref a), some (.int fi), some (.ref me), some (.ref d), v4, v5, v6, v7, v8, v9] ∧ Live K c H' me r d l m n xs kvs ∧ kvs.length ≤ i) ?_ ?_ ?_
    · exact ⟨s2, _, [], none, none, none, none, none, none, rfl, L0, Nat.le_refl _⟩
    · rintro i σ H2 hi ⟨sH, xs, kvs, v4, v5, v6, v7, v8, v9, rfl, LV, hkl⟩
      have hi2 : 1 + i < ns.length := by omega
      have hat : ∀ {H'' : Hp}, Same H H'' → SqL K H'' a (ns.map V.int) ∧ atI (ns.map V.int) (1 + (i : Int)) = some (.int ns[1 + i]) := fun {H''} s' =>
        ⟨s'.seq hS, at_of (j := 1 + i) (by omega) (by rw [List.getElem?_map, List.getElem?_eq_getElem hi2]; rfl)⟩
      -- shape_here
      refine ⟨_, rfl, _, rfl, a, _, _, _, rfl, rfl, (hat sH).1, (hat sH).2, ?_⟩
      refine ⟨_, rfl, d, kvs, rfl, LV.D, fun lp hlp => ?_⟩
      have s3 : Same H2 (upd H2 lp (.lst (kvs.map fun kv => kV kv.1))) := Same.new hlp
      obtain ⟨ks, eks⟩ := rows_keys LV.R
      refine ⟨_, rfl, _, _, rfl, rfl, (by show (0 : Int) < 2; decide), rfl, ?_⟩
      refine ⟨_, lp, _, ks, rfl, SqL.of (by rw [← eks]; exact upd_same), fun sh fl k fs wv H3 s4 nfl S3 => ?_⟩
      have s34 := s3.trans s4
      have LV3 := LV.same s34
      have sH3 := sH.trans s34
      have nfl2 : H2 fl = none := s3.free nfl
      have nfl_l : fl ≠ l := fun z => by
        rw [z, LV.M.rm.lst] at nfl2
        cases nfl2
      -- serial, marked
      refine ⟨_, rfl, _, _, rfl, rfl, .inr ⟨by decide, by decide⟩, _, rfl, _, _, rfl, rfl, ⟨by decide, by decide⟩, _, _, rfl, rfl, _, _, rfl, rfl, (by show (0 : Int) < 64; decide), _, _, rfl, rfl, ?_⟩
      refine ⟨_, rfl, _, rfl, a, _, _, _, rfl, rfl, (hat sH3).1, (hat sH3).2, _, _, rfl, rfl, (by show (0 : Int) < 2; decide), rfl, ?_⟩
      -- thing_here
      refine ⟨_, rfl, sh, fl, k, fs, wv, rfl, S3, fun x tl H4 s5 nx4 ntl TA4 => ?_⟩
      have LV4 := LV3.same s5
      have S4 := S3.same s5
      have sH4 := sH3.trans s5
      have ntl_l : tl ≠ l := fun z => by
        rw [z, LV3.M.rm.lst] at ntl
        cases ntl
      have ntl_fl : True := trivial
      -- place
      obtain ⟨⟨dm, m4⟩, _⟩ := id LV4.M
      refine ⟨_, rfl, me, dm, _, rfl, m4, mf_put_in _, _, rfl, _, rfl, _, rfl, ?_⟩
      -- the last statement of a turn
      have tail : ∀ (D : Ends) (H5 : Hp) (pv9 : V), ThingAt c H5 x k tl fs wv → ShapeAt K H5 sh k fl fs wv → (∀ H6 : Hp, Same H5 H6 → D.nx [some (.ref a), some (.int fi), some (.ref me), some (.ref d), some (.int (1 + (i : Int))), some (.ref sh), some (.int (1 + ((1 + (i : Int)) * 37 + fi / 240) % 64)), some (.bl (decide (V.int (ns[1 + i] % 2) = V.int 1))), some (.ref x), some pv9] H6) →
          tIfS (tTest (tOp (rNeD K) (fun σ H Q => ∃ k, (fun k => tMeth (c.of k) "fields" (spFields c k) [] E0 (tVar 8) tNil) k σ H Q) (tOp (rIxT K) (tVar 5) (tC (.int 1))))) (tRet (tC (.bl false))) tNext D
            [some (.ref a), some (.int fi), some (.ref me), some (.ref d), some (.int (1 + (i : Int))), some (.ref sh), some (.int (1 + ((1 + (i : Int)) * 37 + fi / 240) % 64)), some (.bl (decide (V.int (ns[1 + i] % 2) = V.int 1))), some (.ref x), some pv9] H5 := fun D H5 pv9 TA5 S5 hD => by
        obtain ⟨⟨dx5, x5⟩, _⟩ := id TA5
        refine ⟨k, _, rfl, x, dx5, _, rfl, x5, tf_fields _ _ _, x, tl, fs, wv, rfl, TA5, fun u hu5 => ?_⟩
        have s6 : Same H5 (upd H5 u (.lst fs)) := Same.new hu5
        obtain ⟨ds, d1, d2, d3⟩ := data_list (S5.same s6).isf
        refine ⟨_, rfl, sh, _, _, _, rfl, rfl, SqT.of (s6 _ _ S5.tp), atI_nat (j := 1) rfl, .list ds, .list ds, .lst (SqL.of upd_same) d1, .lst (SqL.of (s6 _ _ S5.ls)) d1, d2, d2, false, by rw [d3]; rfl, iteF ?_⟩
        exact hD _ s6
      refine ⟨me, x, r, l, tl, m, n, xs, k, fs, wv, (1 + ((1 + (i : Int)) * 37 + fi / 240) % 64), (decide (V.int (ns[1 + i] % 2) = V.int 1)), rfl, LV4.M, TA4, S4.fit, fun H5 s6 => ?_, fun p zs cs H5 hfr FZ ecl M5 E5 kp5 => ?_⟩
      · -- no gap
        refine ⟨_, rfl, rfl, _, rfl, iteF ?_⟩
        refine tail _ H5 _ (TA4.same s6) (S4.same s6) fun H6 s7 => ?_
        exact ⟨(sH4.trans s6).trans s7, xs, kvs, _, _, _, _, _, _, rfl, (LV4.same s6).same s7, by omega⟩
      · -- put in at p
        have hLl := LV4.M.rm.lst
        have hcs : 0 < cs.length := by
          rw [ecl]
          have h2 : 2 ≤ k.off := by cases k <;> decide
          omega
        have hp0 : xs[p]? = some .non := by
          have h := hfr 0 hcs
          rw [Nat.add_zero] at h
          exact h
        have sH5 : Same H H5 := sH4.keptNew kp5 hl0
        have D5 : H5 d = some (.dK kvs) := kp5 _ _ LV4.D (ne_of LV4.D hLl (by intro z; cases z))
        have R5 : ∀ kv ∈ kvs, RowOk K H5 zs l kv := fun kv h => ((LV4.R kv h).kept kp5 hLl (NoTup.lst _) (.inl rfl)).filled FZ hfr
        have S5 : ShapeAt K H5 sh k fl fs wv := kp5.shape hLl (NoTup.lst _) nfl_l S4
        obtain ⟨⟨dx4, x4⟩, y4⟩ := id TA4
        have TA5 : ThingAt c H5 x k tl fs wv := ⟨⟨dx4, kp5 _ _ x4 (ne_of x4 hLl (by intro z; cases z))⟩, kp5 _ _ y4 ntl_l⟩
        have hno : valV kvs (Sum.inl (p : Int)) = none := rows_none LV4.R hp0
        refine ⟨_, rfl, rfl, _, rfl, iteT ?_⟩
        -- if not _law_whole(place) or place in rows
        refine ⟨_, rfl, _, rfl, _, rfl, iteF ?_⟩
        refine ⟨_, rfl, _, rfl, d, none, rfl, ?_, false, rfl, iteF ?_⟩
        · have h := DGet.k (k := Sum.inl (p : Int)) D5
          rw [hno] at h
          exact h
        -- rows[place] = (shape, serial, marked)
        refine ⟨_, rfl, _, rfl, _, rfl, (by show 3 ≤ sizeLine; decide), fun t ht => ?_⟩
        have s6 : Same H5 (upd H5 t (.tup [.ref sh, .int (1 + ((1 + (i : Int)) * 37 + fi / 240) % 64), .bl (decide (V.int (ns[1 + i] % 2) = V.int 1))])) := Same.new ht
        refine ⟨_, rfl, _, rfl, d, _, rfl, DPut.k (k := Sum.inl (p : Int)) (s6 _ _ D5) (small1000 (by omega)), ?_⟩
        have kp7 : Kept (upd H5 t (.tup [.ref sh, .int (1 + ((1 + (i : Int)) * 37 + fi / 240) % 64), .bl (decide (V.int (ns[1 + i] % 2) = V.int 1))])) (upd (upd H5 t (.tup [.ref sh, .int (1 + ((1 + (i : Int)) * 37 + fi / 240) % 64), .bl (decide (V.int (ns[1 + i] % 2) = V.int 1))])) d (.dK (putK kvs (Sum.inl (p : Int)) (.ref t)))) d := Kept.upd
        have D6 := s6 _ _ D5
        have nfd : ∀ {b : Addr} {ys : List V}, (upd H5 t (.tup [.ref sh, .int (1 + ((1 + (i : Int)) * 37 + fi / 240) % 64), .bl (decide (V.int (ns[1 + i] % 2) = V.int 1))])) b = some (.lst ys) → b ≠ d := fun h => ne_of h D6 (by intro z; cases z)
        have ht6 : (upd H5 t (.tup [.ref sh, .int (1 + ((1 + (i : Int)) * 37 + fi / 240) % 64), .bl (decide (V.int (ns[1 + i] % 2) = V.int 1))])) t = some (.tup [.ref sh, .int (1 + ((1 + (i : Int)) * 37 + fi / 240) % 64), .bl (decide (V.int (ns[1 + i] % 2) = V.int 1))]) := upd_same
        have S6 := S5.same s6
        have M6 := M5.same s6
        have E6 := E5.same s6
        have TA6 := TA5.same s6
        have sH6 := sH5.trans s6
        have R6 : ∀ kv ∈ kvs, RowOk K (upd H5 t (.tup [.ref sh, .int (1 + ((1 + (i : Int)) * 37 + fi / 240) % 64), .bl (decide (V.int (ns[1 + i] % 2) = V.int 1))])) zs l kv := fun kv h => (R5 kv h).same s6
        have D7 : (upd (upd H5 t (.tup [.ref sh, .int (1 + ((1 + (i : Int)) * 37 + fi / 240) % 64), .bl (decide (V.int (ns[1 + i] % 2) = V.int 1))])) d (.dK (putK kvs (Sum.inl (p : Int)) (.ref t)))) d = some (.dK (putK kvs (Sum.inl (p : Int)) (.ref t))) := upd_same
        generalize upd H5 t (.tup [.ref sh, .int (1 + ((1 + (i : Int)) * 37 + fi / 240) % 64), .bl (decide (V.int (ns[1 + i] % 2) = V.int 1))]) = H6 at *
        generalize upd H6 d (.dK (putK kvs (Sum.inl (p : Int)) (.ref t))) = H7 at *
        have noD := NoTup.dK kvs
        have noL : ∀ ys, HO.dK kvs ≠ .lst ys := fun ys z => by cases z
        have sH7 : Same H H7 := sH6.keptNew kp7 hd0
        have t7 : H7 t = some (.tup [.ref sh, .int (1 + ((1 + (i : Int)) * 37 + fi / 240) % 64), .bl (decide (V.int (ns[1 + i] % 2) = V.int 1))]) := kp7 _ _ ht6 (ne_of ht6 D6 (by intro z; cases z))
        have S7 : ShapeAt K H7 sh k fl fs wv := kp7.shape D6 noD (nfd S6.ls) S6
        have E7 : Entry K H7 zs p k (1 + ((1 + (i : Int)) * 37 + fi / 240) % 64) (decide (V.int (ns[1 + i] % 2) = V.int 1)) fs wv := E6.move (fun _ _ => rfl) fun v hv => kp7.wcell2 D6 noD hv
        have TA7 : ThingAt c H7 x k tl fs wv := by
          obtain ⟨⟨dz, q1⟩, q2⟩ := TA6
          exact ⟨⟨dz, kp7 _ _ q1 (ne_of q1 D6 (by intro z; cases z))⟩, kp7 _ _ q2 (nfd q2)⟩
        have M7 : MemAt c H7 me r m n l zs := by
          obtain ⟨⟨dz, q1⟩, ⟨dy, q2⟩, q3, q4, q5, q6, q7, q8⟩ := M6
          exact ⟨⟨dz, kp7 _ _ q1 (ne_of q1 D6 (by intro z; cases z))⟩, ⟨dy, kp7 _ _ q2 (ne_of q2 D6 (by intro z; cases z))⟩, kp7 _ _ q3 (nfd q3), q4, q5, q6, q7, q8⟩
        have R7 : ∀ kv ∈ putK kvs (Sum.inl (p : Int)) (.ref t), RowOk K H7 zs l kv := fun kv h => by
          rw [putK_new _ hno] at h
          rcases List.mem_append.mp h with h | h
          · exact (R6 kv h).kept kp7 D6 noD (.inr noL)
          · rw [List.mem_singleton.mp h]
            exact ⟨p, t, sh, fl, k, fs, (1 + ((1 + (i : Int)) * 37 + fi / 240) % 64), (decide (V.int (ns[1 + i] % 2) = V.int 1)), wv, rfl, t7, S7, nfl_l, E7⟩
        have L7 : Live K c H7 me r d l m n zs (putK kvs (Sum.inl (p : Int)) (.ref t)) := ⟨M7, D7, R7⟩
        have hlen7 : (putK kvs (Sum.inl (p : Int)) (.ref t)).length ≤ i + 1 := by
          rw [putK_new _ hno, List.length_append, List.length_singleton]
          omega
        -- if not _law_held(memory, place, rows[place])
        have g7 : DGet H7 d (.int (p : Int)) (some (.ref t)) := by
          have h := DGet.k (k := Sum.inl (p : Int)) D7
          rw [valV_put, if_pos rfl] at h
          exact h
        generalize putK kvs (Sum.inl (p : Int)) (.ref t) = kvs7 at *
        refine ⟨_, rfl, _, rfl, _, rfl, _, rfl, d, _, rfl, g7, ?_⟩
        refine ⟨me, r, l, t, sh, fl, m, n, p, zs, fs, k, (1 + ((1 + (i : Int)) * 37 + fi / 240) % 64), (decide (V.int (ns[1 + i] % 2) = V.int 1)), wv, rfl, M7, E7, t7, S7, fun H8 s8 => ⟨_, rfl, iteF ?_⟩⟩
        -- memory.thing_at(place).fields().append(..)
        have M8 := M7.same s8
        have E8 := E7.same s8
        obtain ⟨⟨dm8, m8⟩, _⟩ := id M8
        refine ⟨k, _, rfl, me, dm8, _, rfl, m8, mf_thing_at _, _, rfl, me, r, l, m, n, zs, p, k, (1 + ((1 + (i : Int)) * 37 + fi / 240) % 64), (decide (V.int (ns[1 + i] % 2) = V.int 1)), fs, wv, rfl, M8, E8, fun y yl H9 s9 ny nyl TA9 => ?_⟩
        obtain ⟨⟨dy9, y9⟩, _⟩ := id TA9
        refine ⟨y, dy9, _, rfl, y9, tf_fields _ _ _, y, yl, fs, wv, rfl, TA9, fun u hu9 => ?_⟩
        refine ⟨.inl ⟨rfl, _, SqL.of upd_same⟩, (by show 1 ≤ sizeLine; decide), fun z hz => ?_⟩
        have nuz : u ≠ z := ne_of_none upd_same hz
        have hfl := S7.fit.le
        refine ⟨u, _, _, rfl, rfl, (by rw [upd_ne nuz]; exact upd_same), small1000 (by omega), ?_⟩
        have s10 : Same H9 (upd (upd (upd H9 u (.lst fs)) z (.tup [.str "nothing"])) u (.lst (fs ++ [.ref z]))) := ((Same.new hu9).then hz).store hu9
        have s78 : Same H7 (upd (upd (upd H9 u (.lst fs)) z (.tup [.str "nothing"])) u (.lst (fs ++ [.ref z]))) := (s8.trans s9).trans s10
        refine tail _ _ _ (TA7.same s78) (S7.same s78) fun H10 s11 => ?_
        exact ⟨(sH7.trans s78).trans s11, zs, kvs7, _, _, _, _, _, _, rfl, (L7.same s78).same s11, hlen7⟩
    · -- for place in rows
      rintro σ H2 ⟨sH, xs, kvs, v4, v5, v6, v7, v8, v9, rfl, LV, hkl⟩
      refine ⟨d, _, LV.D, trivial, fun od => ?_⟩
      have kpL : Kept H2 (upd H2 d (.frz od (.dK kvs))) d := Kept.upd
      have noD := NoTup.dK kvs
      have noL : ∀ ys, HO.dK kvs ≠ .lst ys := fun ys z => by cases z
      have RL : ∀ kv ∈ kvs, RowOk K (upd H2 d (.frz od (.dK kvs))) xs l kv := fun kv h => (LV.R kv h).kept kpL LV.D noD (.inr noL)
      have ML : MemAt c (upd H2 d (.frz od (.dK kvs))) me r m n l xs := by
        obtain ⟨⟨dz, q1⟩, ⟨dy, q2⟩, q3, q4, q5, q6, q7, q8⟩ := LV.M
        exact ⟨⟨dz, kpL _ _ q1 (ne_of q1 LV.D (by intro z; cases z))⟩, ⟨dy, kpL _ _ q2 (ne_of q2 LV.D (by intro z; cases z))⟩, kpL _ _ q3 (ne_of q3 LV.D (by intro z; cases z)), q4, q5, q6, q7, q8⟩
      have DL : (upd H2 d (.frz od (.dK kvs))) d = some (.frz od (.dK kvs)) := upd_same
      generalize upd H2 d (.frz od (.dK kvs)) = HL at *
      refine ⟨_, rfl, d, od, rfl, .inl ⟨kvs, DL, ?_⟩⟩
      refine for_it walk_keys (fun i σ H' => Same HL H' ∧ ∃ w9 : Option V, σ = [some (.ref a), some (.int fi), some (.ref me), some (.ref d), v4, v5, v6, v7, v8, w9]) ?_ ?_ ?_ ?_
      · exact ⟨Same.refl _, _, rfl⟩
      · rintro i σ H' _ ⟨s3, _⟩
        exact s3 _ _ DL
      · rintro i y σ H' H3 hi ⟨s3, w9, rfl⟩ ⟨rfl, ky, vy, hk, rfl⟩
        obtain ⟨p, t, sh, fl, k, fs, se, mk, wv, e1, _⟩ := RL _ (List.mem_of_getElem? hk)
        injection e1 with e1 _
        subst e1
        obtain ⟨v, hv⟩ : ∃ v, valV kvs (Sum.inl (p : Int)) = some v := by
          cases e : valV kvs (Sum.inl (p : Int)) with
          | some v => exact ⟨v, rfl⟩
          | none => exact absurd (List.mem_map.mpr ⟨_, List.mem_of_getElem? hk, rfl⟩) (valV_not e)
        obtain ⟨p', t, sh, fl, k, fs, se, mk, wv, e1, ht, S, nf, EN⟩ := RL _ (valV_mem hv)
        injection e1 with e1 e2
        injection e1 with e1
        have e3 : p = p' := by omega
        subst e3
        subst e2
        refine ⟨_, rfl, _, rfl, _, rfl, _, rfl, d, _, rfl, .inl ⟨kvs, Sum.inl (p : Int), .inr ⟨od, s3 _ _ DL⟩, rfl, hv.symm⟩, ?_⟩
        refine ⟨me, r, l, t, sh, fl, m, n, p, xs, fs, k, se, mk, wv, rfl, ML.same s3, EN.same s3, s3 _ _ ht, S.same s3, fun H4 s4 => ⟨_, rfl, iteF ?_⟩⟩
        exact ⟨s3.trans s4, _, rfl⟩
      · rintro σ H' ⟨s3, w9, rfl⟩
        exact ⟨s3 _ _ DL, q _⟩
end
end Hk
/-! What the top has written, the head. -/
namespace Hk
open PySem L2
theorem all_mk {l : PySem.W.OpenLaw} {w : World} {K : PySem.W.Frag} {h : Heap} {mg : Str → Option Value} {fa T P Q R M nN nS fHeader fKindIn fSizeIn fIsMarked fHasWords fRInit fGapIn fGap fFillIn fRead fTInit fTSort fTFields fTWords fPInit fPSort fPWords fQSort fPlain fWeak fPair fMadeOf fWordsCell fLaid fMInit fPutIn fSizeAt fSerialAt fSortAt fFirst fThingAt fMarkedAt fCellAt fDrawn fValue fShape fLThing fLSize fWhole fHeld fLaw : Addr} (X : K.In h) (G : h.Ns mainGlobals mg) (hfa : mg "law" = some (.ref fa))
    {t0 t1 t2 : Tok} {sn : Nat} {ssl : Array (Option Value)}
    {odHeader anHeader odKindIn anKindIn odSizeIn anSizeIn odIsMarked anIsMarked odHasWords anHasWords odRInit anRInit odGapIn anGapIn odGap anGap odFillIn anFillIn odRead anRead odTInit anTInit odTSort anTSort odTFields anTFields odTWords anTWords odPInit anPInit odPSort anPSort odPWords anPWords odQSort anQSort odPlain anPlain odWeak anWeak odPair anPair odMadeOf anMadeOf odWordsCell anWordsCell odLaid anLaid odMInit anMInit odPutIn anPutIn odSizeAt anSizeAt odSerialAt anSerialAt odSortAt anSortAt odFirst anFirst odThingAt anThingAt odMarkedAt anMarkedAt odCellAt anCellAt odDrawn anDrawn odValue anValue odShape anShape odLThing anLThing odLSize anLSize odWhole anWhole odHeld anHeld odLaw anLaw : Option Addr} {slHeader slKindIn slSizeIn slIsMarked slHasWords slRInit slGapIn slGap slFillIn slRead slTInit slTSort slTFields slTWords slPInit slPSort slPWords slQSort slPlain slWeak slPair slMadeOf slWordsCell slLaid slMInit slPutIn slSizeAt slSerialAt slSortAt slFirst slThingAt slMarkedAt slCellAt slDrawn slValue slShape slLThing slLSize slWhole slHeld slLaw : Array (Option Value)}
    {ocHeader kVHeader dcHeader pmHeader cdHeader ctHeader ocKindIn kVKindIn dcKindIn pmKindIn cdKindIn ctKindIn ocSizeIn kVSizeIn dcSizeIn pmSizeIn cdSizeIn ctSizeIn ocIsMarked kVIsMarked dcIsMarked pmIsMarked cdIsMarked ctIsMarked ocHasWords kVHasWords dcHasWords pmHasWords cdHasWords ctHasWords ocRInit kVRInit dcRInit pmRInit cdRInit ctRInit ocGapIn kVGapIn dcGapIn pmGapIn cdGapIn ctGapIn ocGap kVGap dcGap pmGap cdGap ctGap ocFillIn kVFillIn dcFillIn pmFillIn cdFillIn ctFillIn ocRead kVRead dcRead pmRead cdRead ctRead ocTInit kVTInit dcTInit pmTInit cdTInit ctTInit ocTSort kVTSort dcTSort pmTSort cdTSort ctTSort ocTFields kVTFields dcTFields pmTFields cdTFields ctTFields ocTWords kVTWords dcTWords pmTWords cdTWords ctTWords ocPInit kVPInit dcPInit pmPInit cdPInit ctPInit ocPSort kVPSort dcPSort pmPSort cdPSort ctPSort ocPWords kVPWords dcPWords pmPWords cdPWords ctPWords ocQSort kVQSort dcQSort pmQSort cdQSort ctQSort ocPlain kVPlain dcPlain pmPlain cdPlain ctPlain ocWeak kVWeak dcWeak pmWeak cdWeak ctWeak ocPair kVPair dcPair pmPair cdPair ctPair ocMadeOf kVMadeOf dcMadeOf pmMadeOf cdMadeOf ctMadeOf ocWordsCell kVWordsCell dcWordsCell pmWordsCell cdWordsCell ctWordsCell ocLaid kVLaid dcLaid pmLaid cdLaid ctLaid ocMInit kVMInit dcMInit pmMInit cdMInit ctMInit ocPutIn kVPutIn dcPutIn pmPutIn cdPutIn ctPutIn ocSizeAt kVSizeAt dcSizeAt pmSizeAt cdSizeAt ctSizeAt ocSerialAt kVSerialAt dcSerialAt pmSerialAt cdSerialAt ctSerialAt ocSortAt kVSortAt dcSortAt pmSortAt cdSortAt ctSortAt ocFirst kVFirst dcFirst pmFirst cdFirst ctFirst ocThingAt kVThingAt dcThingAt pmThingAt cdThingAt ctThingAt ocMarkedAt kVMarkedAt dcMarkedAt pmMarkedAt cdMarkedAt ctMarkedAt ocCellAt kVCellAt dcCellAt pmCellAt cdCellAt ctCellAt ocDrawn kVDrawn dcDrawn pmDrawn cdDrawn ctDrawn ocValue kVValue dcValue pmValue cdValue ctValue ocShape kVShape dcShape pmShape cdShape ctShape ocLThing kVLThing dcLThing pmLThing cdLThing ctLThing ocLSize kVLSize dcLSize pmLSize cdLSize ctLSize ocWhole kVWhole dcWhole pmWhole cdWhole ctWhole ocHeld kVHeld dcHeld pmHeld cdHeld ctHeld ocLaw kVLaw dcLaw pmLaw cdLaw ctLaw : Value}
    (aT : PySem.W.nsIn K mainGlobals "Thing" = some (some (.ref T)))
    (aP : PySem.W.nsIn K mainGlobals "Plain" = some (some (.ref P)))
    (aQ : PySem.W.nsIn K mainGlobals "Pair" = some (some (.ref Q)))
    (aR : PySem.W.nsIn K mainGlobals "Rooms" = some (some (.ref R)))
    (aM : PySem.W.nsIn K mainGlobals "Memory" = some (some (.ref M)))
    (aN : PySem.W.nsIn K mainGlobals "NOTHING" = some (some (.ref nN)))
    (aS : PySem.W.nsIn K mainGlobals "SORTS" = some (some (.ref nS)))
    (lS : K.lookup nS = some ⟨.type "tuple", none, .seq #[.str "plain" t0, .str "weak" t1, .str "pair" t2] sn, ssl⟩)
    (aHeader : PySem.W.nsIn K mainGlobals "header" = some (some (.ref fHeader)))
    (lHeader : K.lookup fHeader = some ⟨ocHeader, odHeader, .func (PySem.W.fnOf "header" "header" (defArgs sHeader) (defBody sHeader) (defScope sHeader) .none kVHeader dcHeader pmHeader anHeader cdHeader ctHeader), slHeader⟩)
    (cHeader : PySem.W.codeIn K cdHeader "header" = true)
    (kHeader : PySem.W.keepIn K (.ref fHeader) = true)
    (aKindIn : PySem.W.nsIn K mainGlobals "kind_in" = some (some (.ref fKindIn)))
    (lKindIn : K.lookup fKindIn = some ⟨ocKindIn, odKindIn, .func (PySem.W.fnOf "kind_in" "kind_in" (defArgs sKindIn) (defBody sKindIn) (defScope sKindIn) .none kVKindIn dcKindIn pmKindIn anKindIn cdKindIn ctKindIn), slKindIn⟩)
    (cKindIn : PySem.W.codeIn K cdKindIn "kind_in" = true)
    (kKindIn : PySem.W.keepIn K (.ref fKindIn) = true)
    (aSizeIn : PySem.W.nsIn K mainGlobals "size_in" = some (some (.ref fSizeIn)))
    (lSizeIn : K.lookup fSizeIn = some ⟨ocSizeIn, odSizeIn, .func (PySem.W.fnOf "size_in" "size_in" (defArgs sSizeIn) (defBody sSizeIn) (defScope sSizeIn) .none kVSizeIn dcSizeIn pmSizeIn anSizeIn cdSizeIn ctSizeIn), slSizeIn⟩)
    (cSizeIn : PySem.W.codeIn K cdSizeIn "size_in" = true)
    (kSizeIn : PySem.W.keepIn K (.ref fSizeIn) = true)
    (aIsMarked : PySem.W.nsIn K mainGlobals "is_marked" = some (some (.ref fIsMarked)))
    (lIsMarked : K.lookup fIsMarked = some ⟨ocIsMarked, odIsMarked, .func (PySem.W.fnOf "is_marked" "is_marked" (defArgs sIsMarked) (defBody sIsMarked) (defScope sIsMarked) .none kVIsMarked dcIsMarked pmIsMarked anIsMarked cdIsMarked ctIsMarked), slIsMarked⟩)
    (cIsMarked : PySem.W.codeIn K cdIsMarked "is_marked" = true)
    (kIsMarked : PySem.W.keepIn K (.ref fIsMarked) = true)
    (aHasWords : PySem.W.nsIn K mainGlobals "has_words" = some (some (.ref fHasWords)))
    (lHasWords : K.lookup fHasWords = some ⟨ocHasWords, odHasWords, .func (PySem.W.fnOf "has_words" "has_words" (defArgs sHasWords) (defBody sHasWords) (defScope sHasWords) .none kVHasWords dcHasWords pmHasWords anHasWords cdHasWords ctHasWords), slHasWords⟩)
    (cHasWords : PySem.W.codeIn K cdHasWords "has_words" = true)
    (kHasWords : PySem.W.keepIn K (.ref fHasWords) = true)
    (aRInit : PySem.W.findIn K (.ref R) "__init__" = some (some (.ref fRInit)))
    (iRInit : PySem.W.isFn K (.ref fRInit) = true)
    (lRInit : K.lookup fRInit = some ⟨ocRInit, odRInit, .func (PySem.W.fnOf "__init__" "Rooms.__init__" (defArgs sRInit) (defBody sRInit) (defScope sRInit) .none kVRInit dcRInit pmRInit anRInit cdRInit ctRInit), slRInit⟩)
    (cRInit : PySem.W.codeIn K cdRInit "Rooms.__init__" = true)
    (kRInit : PySem.W.keepIn K (.ref fRInit) = true)
    (aGapIn : PySem.W.findIn K (.ref R) "gap_in" = some (some (.ref fGapIn)))
    (iGapIn : PySem.W.isFn K (.ref fGapIn) = true)
    (lGapIn : K.lookup fGapIn = some ⟨ocGapIn, odGapIn, .func (PySem.W.fnOf "gap_in" "Rooms.gap_in" (defArgs sGapIn) (defBody sGapIn) (defScope sGapIn) .none kVGapIn dcGapIn pmGapIn anGapIn cdGapIn ctGapIn), slGapIn⟩)
    (cGapIn : PySem.W.codeIn K cdGapIn "Rooms.gap_in" = true)
    (kGapIn : PySem.W.keepIn K (.ref fGapIn) = true)
    (aGap : PySem.W.findIn K (.ref R) "gap" = some (some (.ref fGap)))
    (iGap : PySem.W.isFn K (.ref fGap) = true)
    (lGap : K.lookup fGap = some ⟨ocGap, odGap, .func (PySem.W.fnOf "gap" "Rooms.gap" (defArgs sGap) (defBody sGap) (defScope sGap) .none kVGap dcGap pmGap anGap cdGap ctGap), slGap⟩)
    (cGap : PySem.W.codeIn K cdGap "Rooms.gap" = true)
    (kGap : PySem.W.keepIn K (.ref fGap) = true)
    (aFillIn : PySem.W.findIn K (.ref R) "fill_in" = some (some (.ref fFillIn)))
    (iFillIn : PySem.W.isFn K (.ref fFillIn) = true)
    (lFillIn : K.lookup fFillIn = some ⟨ocFillIn, odFillIn, .func (PySem.W.fnOf "fill_in" "Rooms.fill_in" (defArgs sFillIn) (defBody sFillIn) (defScope sFillIn) .none kVFillIn dcFillIn pmFillIn anFillIn cdFillIn ctFillIn), slFillIn⟩)
    (cFillIn : PySem.W.codeIn K cdFillIn "Rooms.fill_in" = true)
    (kFillIn : PySem.W.keepIn K (.ref fFillIn) = true)
    (aRead : PySem.W.findIn K (.ref R) "read" = some (some (.ref fRead)))
    (iRead : PySem.W.isFn K (.ref fRead) = true)
    (lRead : K.lookup fRead = some ⟨ocRead, odRead, .func (PySem.W.fnOf "read" "Rooms.read" (defArgs sRead) (defBody sRead) (defScope sRead) .none kVRead dcRead pmRead anRead cdRead ctRead), slRead⟩)
    (cRead : PySem.W.codeIn K cdRead "Rooms.read" = true)
    (kRead : PySem.W.keepIn K (.ref fRead) = true)
    (aTInit : PySem.W.findIn K (.ref T) "__init__" = some (some (.ref fTInit)))
    (iTInit : PySem.W.isFn K (.ref fTInit) = true)
    (lTInit : K.lookup fTInit = some ⟨ocTInit, odTInit, .func (PySem.W.fnOf "__init__" "Thing.__init__" (defArgs sTInit) (defBody sTInit) (defScope sTInit) .none kVTInit dcTInit pmTInit anTInit cdTInit ctTInit), slTInit⟩)
    (cTInit : PySem.W.codeIn K cdTInit "Thing.__init__" = true)
    (kTInit : PySem.W.keepIn K (.ref fTInit) = true)
    (aTSort : PySem.W.findIn K (.ref T) "sort_of" = some (some (.ref fTSort)))
    (iTSort : PySem.W.isFn K (.ref fTSort) = true)
    (lTSort : K.lookup fTSort = some ⟨ocTSort, odTSort, .func (PySem.W.fnOf "sort_of" "Thing.sort_of" (defArgs sTSort) (defBody sTSort) (defScope sTSort) .none kVTSort dcTSort pmTSort anTSort cdTSort ctTSort), slTSort⟩)
    (cTSort : PySem.W.codeIn K cdTSort "Thing.sort_of" = true)
    (kTSort : PySem.W.keepIn K (.ref fTSort) = true)
    (aTFields : PySem.W.findIn K (.ref T) "fields" = some (some (.ref fTFields)))
    (iTFields : PySem.W.isFn K (.ref fTFields) = true)
    (lTFields : K.lookup fTFields = some ⟨ocTFields, odTFields, .func (PySem.W.fnOf "fields" "Thing.fields" (defArgs sTFields) (defBody sTFields) (defScope sTFields) .none kVTFields dcTFields pmTFields anTFields cdTFields ctTFields), slTFields⟩)
    (cTFields : PySem.W.codeIn K cdTFields "Thing.fields" = true)
    (kTFields : PySem.W.keepIn K (.ref fTFields) = true)
    (aTWords : PySem.W.findIn K (.ref T) "words" = some (some (.ref fTWords)))
    (iTWords : PySem.W.isFn K (.ref fTWords) = true)
    (lTWords : K.lookup fTWords = some ⟨ocTWords, odTWords, .func (PySem.W.fnOf "words" "Thing.words" (defArgs sTWords) (defBody sTWords) (defScope sTWords) .none kVTWords dcTWords pmTWords anTWords cdTWords ctTWords), slTWords⟩)
    (cTWords : PySem.W.codeIn K cdTWords "Thing.words" = true)
    (kTWords : PySem.W.keepIn K (.ref fTWords) = true)
    (aPInit : PySem.W.findIn K (.ref P) "__init__" = some (some (.ref fPInit)))
    (iPInit : PySem.W.isFn K (.ref fPInit) = true)
    (lPInit : K.lookup fPInit = some ⟨ocPInit, odPInit, .func (PySem.W.fnOf "__init__" "Plain.__init__" (defArgs sPInit) (defBody sPInit) (defScope sPInit) .none kVPInit dcPInit pmPInit anPInit cdPInit ctPInit), slPInit⟩)
    (cPInit : PySem.W.codeIn K cdPInit "Plain.__init__" = true)
    (kPInit : PySem.W.keepIn K (.ref fPInit) = true)
    (aPSort : PySem.W.findIn K (.ref P) "sort_of" = some (some (.ref fPSort)))
    (iPSort : PySem.W.isFn K (.ref fPSort) = true)
    (lPSort : K.lookup fPSort = some ⟨ocPSort, odPSort, .func (PySem.W.fnOf "sort_of" "Plain.sort_of" (defArgs sPSort) (defBody sPSort) (defScope sPSort) .none kVPSort dcPSort pmPSort anPSort cdPSort ctPSort), slPSort⟩)
    (cPSort : PySem.W.codeIn K cdPSort "Plain.sort_of" = true)
    (kPSort : PySem.W.keepIn K (.ref fPSort) = true)
    (aPWords : PySem.W.findIn K (.ref P) "words" = some (some (.ref fPWords)))
    (iPWords : PySem.W.isFn K (.ref fPWords) = true)
    (lPWords : K.lookup fPWords = some ⟨ocPWords, odPWords, .func (PySem.W.fnOf "words" "Plain.words" (defArgs sPWords) (defBody sPWords) (defScope sPWords) .none kVPWords dcPWords pmPWords anPWords cdPWords ctPWords), slPWords⟩)
    (cPWords : PySem.W.codeIn K cdPWords "Plain.words" = true)
    (kPWords : PySem.W.keepIn K (.ref fPWords) = true)
    (aQSort : PySem.W.findIn K (.ref Q) "sort_of" = some (some (.ref fQSort)))
    (iQSort : PySem.W.isFn K (.ref fQSort) = true)
    (lQSort : K.lookup fQSort = some ⟨ocQSort, odQSort, .func (PySem.W.fnOf "sort_of" "Pair.sort_of" (defArgs sQSort) (defBody sQSort) (defScope sQSort) .none kVQSort dcQSort pmQSort anQSort cdQSort ctQSort), slQSort⟩)
    (cQSort : PySem.W.codeIn K cdQSort "Pair.sort_of" = true)
    (kQSort : PySem.W.keepIn K (.ref fQSort) = true)
    (aPlain : PySem.W.nsIn K mainGlobals "plain" = some (some (.ref fPlain)))
    (lPlain : K.lookup fPlain = some ⟨ocPlain, odPlain, .func (PySem.W.fnOf "plain" "plain" (defArgs sPlain) (defBody sPlain) (defScope sPlain) .none kVPlain dcPlain pmPlain anPlain cdPlain ctPlain), slPlain⟩)
    (cPlain : PySem.W.codeIn K cdPlain "plain" = true)
    (kPlain : PySem.W.keepIn K (.ref fPlain) = true)
    (aWeak : PySem.W.nsIn K mainGlobals "weak" = some (some (.ref fWeak)))
    (lWeak : K.lookup fWeak = some ⟨ocWeak, odWeak, .func (PySem.W.fnOf "weak" "weak" (defArgs sWeak) (defBody sWeak) (defScope sWeak) .none kVWeak dcWeak pmWeak anWeak cdWeak ctWeak), slWeak⟩)
    (cWeak : PySem.W.codeIn K cdWeak "weak" = true)
    (kWeak : PySem.W.keepIn K (.ref fWeak) = true)
    (aPair : PySem.W.nsIn K mainGlobals "pair" = some (some (.ref fPair)))
    (lPair : K.lookup fPair = some ⟨ocPair, odPair, .func (PySem.W.fnOf "pair" "pair" (defArgs sPair) (defBody sPair) (defScope sPair) .none kVPair dcPair pmPair anPair cdPair ctPair), slPair⟩)
    (cPair : PySem.W.codeIn K cdPair "pair" = true)
    (kPair : PySem.W.keepIn K (.ref fPair) = true)
    (aMadeOf : PySem.W.nsIn K mainGlobals "made_of" = some (some (.ref fMadeOf)))
    (lMadeOf : K.lookup fMadeOf = some ⟨ocMadeOf, odMadeOf, .func (PySem.W.fnOf "made_of" "made_of" (defArgs sMadeOf) (defBody sMadeOf) (defScope sMadeOf) .none kVMadeOf dcMadeOf pmMadeOf anMadeOf cdMadeOf ctMadeOf), slMadeOf⟩)
    (cMadeOf : PySem.W.codeIn K cdMadeOf "made_of" = true)
    (kMadeOf : PySem.W.keepIn K (.ref fMadeOf) = true)
    (aWordsCell : PySem.W.nsIn K mainGlobals "words_cell" = some (some (.ref fWordsCell)))
    (lWordsCell : K.lookup fWordsCell = some ⟨ocWordsCell, odWordsCell, .func (PySem.W.fnOf "words_cell" "words_cell" (defArgs sWordsCell) (defBody sWordsCell) (defScope sWordsCell) .none kVWordsCell dcWordsCell pmWordsCell anWordsCell cdWordsCell ctWordsCell), slWordsCell⟩)
    (cWordsCell : PySem.W.codeIn K cdWordsCell "words_cell" = true)
    (kWordsCell : PySem.W.keepIn K (.ref fWordsCell) = true)
    (aLaid : PySem.W.nsIn K mainGlobals "laid" = some (some (.ref fLaid)))
    (lLaid : K.lookup fLaid = some ⟨ocLaid, odLaid, .func (PySem.W.fnOf "laid" "laid" (defArgs sLaid) (defBody sLaid) (defScope sLaid) .none kVLaid dcLaid pmLaid anLaid cdLaid ctLaid), slLaid⟩)
    (cLaid : PySem.W.codeIn K cdLaid "laid" = true)
    (kLaid : PySem.W.keepIn K (.ref fLaid) = true)
    (aMInit : PySem.W.findIn K (.ref M) "__init__" = some (some (.ref fMInit)))
    (iMInit : PySem.W.isFn K (.ref fMInit) = true)
    (lMInit : K.lookup fMInit = some ⟨ocMInit, odMInit, .func (PySem.W.fnOf "__init__" "Memory.__init__" (defArgs sMInit) (defBody sMInit) (defScope sMInit) .none kVMInit dcMInit pmMInit anMInit cdMInit ctMInit), slMInit⟩)
    (cMInit : PySem.W.codeIn K cdMInit "Memory.__init__" = true)
    (kMInit : PySem.W.keepIn K (.ref fMInit) = true)
    (aPutIn : PySem.W.findIn K (.ref M) "put_in" = some (some (.ref fPutIn)))
    (iPutIn : PySem.W.isFn K (.ref fPutIn) = true)
    (lPutIn : K.lookup fPutIn = some ⟨ocPutIn, odPutIn, .func (PySem.W.fnOf "put_in" "Memory.put_in" (defArgs sPutIn) (defBody sPutIn) (defScope sPutIn) .none kVPutIn dcPutIn pmPutIn anPutIn cdPutIn ctPutIn), slPutIn⟩)
    (cPutIn : PySem.W.codeIn K cdPutIn "Memory.put_in" = true)
    (kPutIn : PySem.W.keepIn K (.ref fPutIn) = true)
    (aSizeAt : PySem.W.findIn K (.ref M) "size_at" = some (some (.ref fSizeAt)))
    (iSizeAt : PySem.W.isFn K (.ref fSizeAt) = true)
    (lSizeAt : K.lookup fSizeAt = some ⟨ocSizeAt, odSizeAt, .func (PySem.W.fnOf "size_at" "Memory.size_at" (defArgs sSizeAt) (defBody sSizeAt) (defScope sSizeAt) .none kVSizeAt dcSizeAt pmSizeAt anSizeAt cdSizeAt ctSizeAt), slSizeAt⟩)
    (cSizeAt : PySem.W.codeIn K cdSizeAt "Memory.size_at" = true)
    (kSizeAt : PySem.W.keepIn K (.ref fSizeAt) = true)
    (aSerialAt : PySem.W.findIn K (.ref M) "serial_at" = some (some (.ref fSerialAt)))
    (iSerialAt : PySem.W.isFn K (.ref fSerialAt) = true)
    (lSerialAt : K.lookup fSerialAt = some ⟨ocSerialAt, odSerialAt, .func (PySem.W.fnOf "serial_at" "Memory.serial_at" (defArgs sSerialAt) (defBody sSerialAt) (defScope sSerialAt) .none kVSerialAt dcSerialAt pmSerialAt anSerialAt cdSerialAt ctSerialAt), slSerialAt⟩)
    (cSerialAt : PySem.W.codeIn K cdSerialAt "Memory.serial_at" = true)
    (kSerialAt : PySem.W.keepIn K (.ref fSerialAt) = true)
    (aSortAt : PySem.W.findIn K (.ref M) "sort_at" = some (some (.ref fSortAt)))
    (iSortAt : PySem.W.isFn K (.ref fSortAt) = true)
    (lSortAt : K.lookup fSortAt = some ⟨ocSortAt, odSortAt, .func (PySem.W.fnOf "sort_at" "Memory.sort_at" (defArgs sSortAt) (defBody sSortAt) (defScope sSortAt) .none kVSortAt dcSortAt pmSortAt anSortAt cdSortAt ctSortAt), slSortAt⟩)
    (cSortAt : PySem.W.codeIn K cdSortAt "Memory.sort_at" = true)
    (kSortAt : PySem.W.keepIn K (.ref fSortAt) = true)
    (aFirst : PySem.W.findIn K (.ref M) "first_field" = some (some (.ref fFirst)))
    (iFirst : PySem.W.isFn K (.ref fFirst) = true)
    (lFirst : K.lookup fFirst = some ⟨ocFirst, odFirst, .func (PySem.W.fnOf "first_field" "Memory.first_field" (defArgs sFirst) (defBody sFirst) (defScope sFirst) .none kVFirst dcFirst pmFirst anFirst cdFirst ctFirst), slFirst⟩)
    (cFirst : PySem.W.codeIn K cdFirst "Memory.first_field" = true)
    (kFirst : PySem.W.keepIn K (.ref fFirst) = true)
    (aThingAt : PySem.W.findIn K (.ref M) "thing_at" = some (some (.ref fThingAt)))
    (iThingAt : PySem.W.isFn K (.ref fThingAt) = true)
    (lThingAt : K.lookup fThingAt = some ⟨ocThingAt, odThingAt, .func (PySem.W.fnOf "thing_at" "Memory.thing_at" (defArgs sThingAt) (defBody sThingAt) (defScope sThingAt) .none kVThingAt dcThingAt pmThingAt anThingAt cdThingAt ctThingAt), slThingAt⟩)
    (cThingAt : PySem.W.codeIn K cdThingAt "Memory.thing_at" = true)
    (kThingAt : PySem.W.keepIn K (.ref fThingAt) = true)
    (aMarkedAt : PySem.W.findIn K (.ref M) "marked_at" = some (some (.ref fMarkedAt)))
    (iMarkedAt : PySem.W.isFn K (.ref fMarkedAt) = true)
    (lMarkedAt : K.lookup fMarkedAt = some ⟨ocMarkedAt, odMarkedAt, .func (PySem.W.fnOf "marked_at" "Memory.marked_at" (defArgs sMarkedAt) (defBody sMarkedAt) (defScope sMarkedAt) .none kVMarkedAt dcMarkedAt pmMarkedAt anMarkedAt cdMarkedAt ctMarkedAt), slMarkedAt⟩)
    (cMarkedAt : PySem.W.codeIn K cdMarkedAt "Memory.marked_at" = true)
    (kMarkedAt : PySem.W.keepIn K (.ref fMarkedAt) = true)
    (aCellAt : PySem.W.nsIn K mainGlobals "_law_cell_at" = some (some (.ref fCellAt)))
    (lCellAt : K.lookup fCellAt = some ⟨ocCellAt, odCellAt, .func (PySem.W.fnOf "_law_cell_at" "_law_cell_at" (defArgs sCellAt) (defBody sCellAt) (defScope sCellAt) .none kVCellAt dcCellAt pmCellAt anCellAt cdCellAt ctCellAt), slCellAt⟩)
    (cCellAt : PySem.W.codeIn K cdCellAt "_law_cell_at" = true)
    (kCellAt : PySem.W.keepIn K (.ref fCellAt) = true)
    (aDrawn : PySem.W.nsIn K mainGlobals "_law_drawn" = some (some (.ref fDrawn)))
    (lDrawn : K.lookup fDrawn = some ⟨ocDrawn, odDrawn, .func (PySem.W.fnOf "_law_drawn" "_law_drawn" (defArgs sDrawn) (defBody sDrawn) (defScope sDrawn) .none kVDrawn dcDrawn pmDrawn anDrawn cdDrawn ctDrawn), slDrawn⟩)
    (cDrawn : PySem.W.codeIn K cdDrawn "_law_drawn" = true)
    (kDrawn : PySem.W.keepIn K (.ref fDrawn) = true)
    (aValue : PySem.W.nsIn K mainGlobals "_law_value" = some (some (.ref fValue)))
    (lValue : K.lookup fValue = some ⟨ocValue, odValue, .func (PySem.W.fnOf "_law_value" "_law_value" (defArgs sValue) (defBody sValue) (defScope sValue) .none kVValue dcValue pmValue anValue cdValue ctValue), slValue⟩)
    (cValue : PySem.W.codeIn K cdValue "_law_value" = true)
    (kValue : PySem.W.keepIn K (.ref fValue) = true)
    (aShape : PySem.W.nsIn K mainGlobals "_law_shape" = some (some (.ref fShape)))
    (lShape : K.lookup fShape = some ⟨ocShape, odShape, .func (PySem.W.fnOf "_law_shape" "_law_shape" (defArgs sShape) (defBody sShape) (defScope sShape) .none kVShape dcShape pmShape anShape cdShape ctShape), slShape⟩)
    (cShape : PySem.W.codeIn K cdShape "_law_shape" = true)
    (kShape : PySem.W.keepIn K (.ref fShape) = true)
    (aLThing : PySem.W.nsIn K mainGlobals "_law_thing" = some (some (.ref fLThing)))
    (lLThing : K.lookup fLThing = some ⟨ocLThing, odLThing, .func (PySem.W.fnOf "_law_thing" "_law_thing" (defArgs sThing) (defBody sThing) (defScope sThing) .none kVLThing dcLThing pmLThing anLThing cdLThing ctLThing), slLThing⟩)
    (cLThing : PySem.W.codeIn K cdLThing "_law_thing" = true)
    (kLThing : PySem.W.keepIn K (.ref fLThing) = true)
    (aLSize : PySem.W.nsIn K mainGlobals "_law_size" = some (some (.ref fLSize)))
    (lLSize : K.lookup fLSize = some ⟨ocLSize, odLSize, .func (PySem.W.fnOf "_law_size" "_law_size" (defArgs sSize) (defBody sSize) (defScope sSize) .none kVLSize dcLSize pmLSize anLSize cdLSize ctLSize), slLSize⟩)
    (cLSize : PySem.W.codeIn K cdLSize "_law_size" = true)
    (kLSize : PySem.W.keepIn K (.ref fLSize) = true)
    (aWhole : PySem.W.nsIn K mainGlobals "_law_whole" = some (some (.ref fWhole)))
    (lWhole : K.lookup fWhole = some ⟨ocWhole, odWhole, .func (PySem.W.fnOf "_law_whole" "_law_whole" (defArgs sWhole) (defBody sWhole) (defScope sWhole) .none kVWhole dcWhole pmWhole anWhole cdWhole ctWhole), slWhole⟩)
    (cWhole : PySem.W.codeIn K cdWhole "_law_whole" = true)
    (kWhole : PySem.W.keepIn K (.ref fWhole) = true)
    (aHeld : PySem.W.nsIn K mainGlobals "_law_held" = some (some (.ref fHeld)))
    (lHeld : K.lookup fHeld = some ⟨ocHeld, odHeld, .func (PySem.W.fnOf "_law_held" "_law_held" (defArgs sHeld) (defBody sHeld) (defScope sHeld) .none kVHeld dcHeld pmHeld anHeld cdHeld ctHeld), slHeld⟩)
    (cHeld : PySem.W.codeIn K cdHeld "_law_held" = true)
    (kHeld : PySem.W.keepIn K (.ref fHeld) = true)
    (aLaw : PySem.W.nsIn K mainGlobals "law" = some (some (.ref fLaw)))
    (lLaw : K.lookup fLaw = some ⟨ocLaw, odLaw, .func (PySem.W.fnOf "law" "law" (defArgs sLaw) (defBody sLaw) (defScope sLaw) .none kVLaw dcLaw pmLaw anLaw cdLaw ctLaw), slLaw⟩)
    (cLaw : PySem.W.codeIn K cdLaw "law" = true)
    (kLaw : PySem.W.keepIn K (.ref fLaw) = true)
    (iPF : PySem.W.findIn K (.ref P) "fields" = some (some (.ref fTFields)))
    (iQI : PySem.W.findIn K (.ref Q) "__init__" = some (some (.ref fTInit)))
    (iQF : PySem.W.findIn K (.ref Q) "fields" = some (some (.ref fTFields)))
    (iQW : PySem.W.findIn K (.ref Q) "words" = some (some (.ref fTWords)))
    (pgT : PySem.W.plainGet K T Str.empty = true)
    (hdT : PySem.W.hasDictIn K T = true)
    (poT : PySem.W.plainOver K T = true)
    (saT : PySem.W.findIn K (.ref T) "__setattr__" = some (some (.builtin "object.__setattr__")))
    (mkT : PySem.W.makesIn K T = true)
    (kcT : PySem.W.keepIn K (.ref T) = true)
    (pgP : PySem.W.plainGet K P Str.empty = true)
    (hdP : PySem.W.hasDictIn K P = true)
    (poP : PySem.W.plainOver K P = true)
    (saP : PySem.W.findIn K (.ref P) "__setattr__" = some (some (.builtin "object.__setattr__")))
    (mkP : PySem.W.makesIn K P = true)
    (kcP : PySem.W.keepIn K (.ref P) = true)
    (pgQ : PySem.W.plainGet K Q Str.empty = true)
    (hdQ : PySem.W.hasDictIn K Q = true)
    (poQ : PySem.W.plainOver K Q = true)
    (saQ : PySem.W.findIn K (.ref Q) "__setattr__" = some (some (.builtin "object.__setattr__")))
    (mkQ : PySem.W.makesIn K Q = true)
    (kcQ : PySem.W.keepIn K (.ref Q) = true)
    (pgR : PySem.W.plainGet K R Str.empty = true)
    (hdR : PySem.W.hasDictIn K R = true)
    (poR : PySem.W.plainOver K R = true)
    (saR : PySem.W.findIn K (.ref R) "__setattr__" = some (some (.builtin "object.__setattr__")))
    (mkR : PySem.W.makesIn K R = true)
    (kcR : PySem.W.keepIn K (.ref R) = true)
    (pgM : PySem.W.plainGet K M Str.empty = true)
    (hdM : PySem.W.hasDictIn K M = true)
    (poM : PySem.W.plainOver K M = true)
    (saM : PySem.W.findIn K (.ref M) "__setattr__" = some (some (.builtin "object.__setattr__")))
    (mkM : PySem.W.makesIn K M = true)
    (kcM : PySem.W.keepIn K (.ref M) = true)
    (nR_many : PySem.W.findIn K (.ref R) "many" = some none)
    (nR_cells : PySem.W.findIn K (.ref R) "cells" = some none)
    (nR_inside : PySem.W.findIn K (.ref R) "inside" = some none)
    (nT_row : PySem.W.findIn K (.ref T) "row" = some none)
    (nP_row : PySem.W.findIn K (.ref P) "row" = some none)
    (nQ_row : PySem.W.findIn K (.ref Q) "row" = some none)
    (nP_last_words : PySem.W.findIn K (.ref P) "last_words" = some none)
    (nM_rooms : PySem.W.findIn K (.ref M) "rooms" = some none)
    (z_int : PySem.W.nsIn K mainGlobals "int" = some none)
    (z_list : PySem.W.nsIn K mainGlobals "list" = some none)
    (z_range : PySem.W.nsIn K mainGlobals "range" = some none)
    (z_len : PySem.W.nsIn K mainGlobals "len" = some none)
    (z_enumerate : PySem.W.nsIn K mainGlobals "enumerate" = some none)
    (z_abs : PySem.W.nsIn K mainGlobals "abs" = some none)
    (z_isinstance : PySem.W.nsIn K mainGlobals "isinstance" = some none)
    (z_bool : PySem.W.nsIn K mainGlobals "bool" = some none)
    (z_min : PySem.W.nsIn K mainGlobals "min" = some none)
    (rdT : PySem.W.readsIn K T (.type "type") = true)
    (gaT : PySem.W.specialIn K (.ref T) "__getattribute__" = some (some (.builtin "type.__getattribute__")))
    (fcT : PySem.W.findCls K (.ref T) (.type "type") "__init__" = some (.val (.ref fTInit)))
    (caT : PySem.W.findIn K (.ref T) "__class__" = some (some (.builtin "object.__class__")))
    (cmT : PySem.W.mroIn K T (.type "object") = some true)
    (ckT : PySem.W.kitOne K (.ref T) (.ref T) = some true)
    (caP : PySem.W.findIn K (.ref P) "__class__" = some (some (.builtin "object.__class__")))
    (cmP : PySem.W.mroIn K P (.type "object") = some true)
    (ckP : PySem.W.kitOne K (.ref P) (.ref T) = some true)
    (caQ : PySem.W.findIn K (.ref Q) "__class__" = some (some (.builtin "object.__class__")))
    (cmQ : PySem.W.mroIn K Q (.type "object") = some true)
    (ckQ : PySem.W.kitOne K (.ref Q) (.ref T) = some true)
    (cg : PySem.W.specialIn K (.builtin "object.__class__") "__get__" = some (some (.builtin "getset_descriptor.__get__")))
    (ct_ : PySem.W.takesIn K (.builtin "object.__class__") = some true)
    : ∃ fd : FuncData, (∀ (s : Shared) (v : Value), BindsTo s fd ⟨[v], []⟩ [("_law_script", v)]) ∧ ∀ base : Heap, K.In base → base.Ns mainGlobals mg → FnOk l.prog w K mg base CX0 7 fa fd ["_law_script"] (spLaw K) := by
  have e := hfa.symm.trans (PySem.W.mg_of X G aLaw)
  cases e
  have clT : Cls K T := ⟨pgT, hdT, poT, saT⟩
  have clP : Cls K P := ⟨pgP, hdP, poP, saP⟩
  have clQ : Cls K Q := ⟨pgQ, hdQ, poQ, saQ⟩
  have clR : Cls K R := ⟨pgR, hdR, poR, saR⟩
  have clM : Cls K M := ⟨pgM, hdM, poM, saM⟩
  have B : TxtB mg := ⟨PySem.W.mg_none_of X G z_int, PySem.W.mg_none_of X G z_list, PySem.W.mg_none_of X G z_range, PySem.W.mg_none_of X G z_len, PySem.W.mg_none_of X G z_enumerate⟩
  have TR : TxtR K (⟨T, P, Q, R, M, nN, nS⟩ : Cs) := ⟨clR, nR_many, nR_cells, nR_inside⟩
  have TM : TxtM K (⟨T, P, Q, R, M, nN, nS⟩ : Cs) := ⟨clM, nM_rooms⟩
  have TT : TxtT K mg (⟨T, P, Q, R, M, nN, nS⟩ : Cs) := ⟨fun k => match k with | .plain => clP | .weak => clT | .pair => clQ, fun k => match k with | .plain => nP_row | .weak => nT_row | .pair => nQ_row, nP_last_words, PySem.W.mg_of X G aT,
    ⟨.type "type", ⟨rdT, gaT⟩, fTInit, aTInit, fcT, kTInit⟩, PySem.W.mg_of X G aN, PySem.W.mg_of X G aS,
    fun H => .inr ⟨_, _, _, lS, rfl, rfl, (by show 3 ≤ sizeLine; decide), .cons ⟨t0, rfl⟩ (.cons ⟨t1, rfl⟩ (.cons ⟨t2, rfl⟩ .nil))⟩, ⟨_, lS, rfl, rfl⟩⟩
  have TL : TxtL K mg (⟨T, P, Q, R, M, nN, nS⟩ : Cs) := ⟨PySem.W.mg_none_of X G z_abs, PySem.W.mg_none_of X G z_isinstance, PySem.W.mg_none_of X G z_bool, PySem.W.mg_none_of X G z_min, fun k => match k with | .plain => caP | .weak => caT | .pair => caQ, cg, ct_, fun k => match k with | .plain => cmP | .weak => cmT | .pair => cmQ, fun k => match k with | .plain => ckP | .weak => ckT | .pair => ckQ⟩
  have FHeader := fun_mk (st := sHeader) lHeader cHeader kHeader
  have bHeader := FHeader.binds (ps := ["kind", "marked", "words", "size"]) fun _ _ _ _ _ _ us hl => match us, hl with | [_, _, _, _], _ => rfl
  have FKindIn := fun_mk (st := sKindIn) lKindIn cKindIn kKindIn
  have bKindIn := FKindIn.binds (ps := ["number"]) fun _ _ _ _ _ _ us hl => match us, hl with | [_], _ => rfl
  have FSizeIn := fun_mk (st := sSizeIn) lSizeIn cSizeIn kSizeIn
  have bSizeIn := FSizeIn.binds (ps := ["number"]) fun _ _ _ _ _ _ us hl => match us, hl with | [_], _ => rfl
  have FIsMarked := fun_mk (st := sIsMarked) lIsMarked cIsMarked kIsMarked
  have bIsMarked := FIsMarked.binds (ps := ["number"]) fun _ _ _ _ _ _ us hl => match us, hl with | [_], _ => rfl
  have FHasWords := fun_mk (st := sHasWords) lHasWords cHasWords kHasWords
  have bHasWords := FHasWords.binds (ps := ["number"]) fun _ _ _ _ _ _ us hl => match us, hl with | [_], _ => rfl
  have FRInit := fun_mk (st := sRInit) lRInit cRInit kRInit
  have bRInit := FRInit.binds (ps := ["self", "many", "cells"]) fun _ _ _ _ _ _ us hl => match us, hl with | [_, _, _], _ => rfl
  have FGapIn := fun_mk (st := sGapIn) lGapIn cGapIn kGapIn
  have bGapIn := FGapIn.binds (ps := ["self", "room", "length"]) fun _ _ _ _ _ _ us hl => match us, hl with | [_, _, _], _ => rfl
  have FGap := fun_mk (st := sGap) lGap cGap kGap
  have bGap := FGap.binds (ps := ["self", "length"]) fun _ _ _ _ _ _ us hl => match us, hl with | [_, _], _ => rfl
  have FFillIn := fun_mk (st := sFillIn) lFillIn cFillIn kFillIn
  have bFillIn := FFillIn.binds (ps := ["self", "place", "some"]) fun _ _ _ _ _ _ us hl => match us, hl with | [_, _, _], _ => rfl
  have FRead := fun_mk (st := sRead) lRead cRead kRead
  have bRead := FRead.binds (ps := ["self", "place"]) fun _ _ _ _ _ _ us hl => match us, hl with | [_, _], _ => rfl
  have FTInit := fun_mk (st := sTInit) lTInit cTInit kTInit
  have bTInit := FTInit.binds (ps := ["self", "row"]) fun _ _ _ _ _ _ us hl => match us, hl with | [_, _], _ => rfl
  have FTSort := fun_mk (st := sTSort) lTSort cTSort kTSort
  have bTSort := FTSort.binds (ps := ["self"]) fun _ _ _ _ _ _ us hl => match us, hl with | [_], _ => rfl
  have FTFields := fun_mk (st := sTFields) lTFields cTFields kTFields
  have bTFields := FTFields.binds (ps := ["self"]) fun _ _ _ _ _ _ us hl => match us, hl with | [_], _ => rfl
  have FTWords := fun_mk (st := sTWords) lTWords cTWords kTWords
  have bTWords := FTWords.binds (ps := ["self"]) fun _ _ _ _ _ _ us hl => match us, hl with | [_], _ => rfl
  have FPInit := fun_mk (st := sPInit) lPInit cPInit kPInit
  have bPInit := FPInit.binds (ps := ["self", "row", "last_words"]) fun _ _ _ _ _ _ us hl => match us, hl with | [_, _, _], _ => rfl
  have FPSort := fun_mk (st := sPSort) lPSort cPSort kPSort
  have bPSort := FPSort.binds (ps := ["self"]) fun _ _ _ _ _ _ us hl => match us, hl with | [_], _ => rfl
  have FPWords := fun_mk (st := sPWords) lPWords cPWords kPWords
  have bPWords := FPWords.binds (ps := ["self"]) fun _ _ _ _ _ _ us hl => match us, hl with | [_], _ => rfl
  have FQSort := fun_mk (st := sQSort) lQSort cQSort kQSort
  have bQSort := FQSort.binds (ps := ["self"]) fun _ _ _ _ _ _ us hl => match us, hl with | [_], _ => rfl
  have FPlain := fun_mk (st := sPlain) lPlain cPlain kPlain
  have bPlain := FPlain.binds (ps := ["fields", "words"]) fun _ _ _ _ _ _ us hl => match us, hl with | [_, _], _ => rfl
  have FWeak := fun_mk (st := sWeak) lWeak cWeak kWeak
  have bWeak := FWeak.binds (ps := ["field"]) fun _ _ _ _ _ _ us hl => match us, hl with | [_], _ => rfl
  have FPair := fun_mk (st := sPair) lPair cPair kPair
  have bPair := FPair.binds (ps := ["key", "value"]) fun _ _ _ _ _ _ us hl => match us, hl with | [_, _], _ => rfl
  have FMadeOf := fun_mk (st := sMadeOf) lMadeOf cMadeOf kMadeOf
  have bMadeOf := FMadeOf.binds (ps := ["sort", "fields", "words"]) fun _ _ _ _ _ _ us hl => match us, hl with | [_, _, _], _ => rfl
  have FWordsCell := fun_mk (st := sWordsCell) lWordsCell cWordsCell kWordsCell
  have bWordsCell := FWordsCell.binds (ps := ["words"]) fun _ _ _ _ _ _ us hl => match us, hl with | [_], _ => rfl
  have FLaid := fun_mk (st := sLaid) lLaid cLaid kLaid
  have bLaid := FLaid.binds (ps := ["thing", "serial", "marked"]) fun _ _ _ _ _ _ us hl => match us, hl with | [_, _, _], _ => rfl
  have FMInit := fun_mk (st := sMInit) lMInit cMInit kMInit
  have bMInit := FMInit.binds (ps := ["self", "many", "cells"]) fun _ _ _ _ _ _ us hl => match us, hl with | [_, _, _], _ => rfl
  have FPutIn := fun_mk (st := sPutIn) lPutIn cPutIn kPutIn
  have bPutIn := FPutIn.binds (ps := ["self", "thing", "serial", "marked"]) fun _ _ _ _ _ _ us hl => match us, hl with | [_, _, _, _], _ => rfl
  have FSizeAt := fun_mk (st := sSizeAt) lSizeAt cSizeAt kSizeAt
  have bSizeAt := FSizeAt.binds (ps := ["self", "place"]) fun _ _ _ _ _ _ us hl => match us, hl with | [_, _], _ => rfl
  have FSerialAt := fun_mk (st := sSerialAt) lSerialAt cSerialAt kSerialAt
  have bSerialAt := FSerialAt.binds (ps := ["self", "place"]) fun _ _ _ _ _ _ us hl => match us, hl with | [_, _], _ => rfl
  have FSortAt := fun_mk (st := sSortAt) lSortAt cSortAt kSortAt
  have bSortAt := FSortAt.binds (ps := ["self", "place"]) fun _ _ _ _ _ _ us hl => match us, hl with | [_, _], _ => rfl
  have FFirst := fun_mk (st := sFirst) lFirst cFirst kFirst
  have bFirst := FFirst.binds (ps := ["self", "place"]) fun _ _ _ _ _ _ us hl => match us, hl with | [_, _], _ => rfl
  have FThingAt := fun_mk (st := sThingAt) lThingAt cThingAt kThingAt
  have bThingAt := FThingAt.binds (ps := ["self", "place"]) fun _ _ _ _ _ _ us hl => match us, hl with | [_, _], _ => rfl
  have FMarkedAt := fun_mk (st := sMarkedAt) lMarkedAt cMarkedAt kMarkedAt
  have bMarkedAt := FMarkedAt.binds (ps := ["self", "place"]) fun _ _ _ _ _ _ us hl => match us, hl with | [_, _], _ => rfl
  have FCellAt := fun_mk (st := sCellAt) lCellAt cCellAt kCellAt
  have bCellAt := FCellAt.binds (ps := ["_law_script", "_law_k"]) fun _ _ _ _ _ _ us hl => match us, hl with | [_, _], _ => rfl
  have FDrawn := fun_mk (st := sDrawn) lDrawn cDrawn kDrawn
  have bDrawn := FDrawn.binds (ps := ["_law_cell", "_law_sizes", "_law_free"]) fun _ _ _ _ _ _ us hl => match us, hl with | [_, _, _], _ => rfl
  have FValue := fun_mk (st := sValue) lValue cValue kValue
  have bValue := FValue.binds (ps := ["_law_parts", "_law_there"]) fun _ _ _ _ _ _ us hl => match us, hl with | [_, _], _ => rfl
  have FShape := fun_mk (st := sShape) lShape cShape kShape
  have bShape := FShape.binds (ps := ["_law_cell", "_law_there", "_law_free"]) fun _ _ _ _ _ _ us hl => match us, hl with | [_, _, _], _ => rfl
  have FLThing := fun_mk (st := sThing) lLThing cLThing kLThing
  have bLThing := FLThing.binds (ps := ["_law_shape_here"]) fun _ _ _ _ _ _ us hl => match us, hl with | [_], _ => rfl
  have FLSize := fun_mk (st := sSize) lLSize cLSize kLSize
  have bLSize := FLSize.binds (ps := ["_law_shape_here"]) fun _ _ _ _ _ _ us hl => match us, hl with | [_], _ => rfl
  have FWhole := fun_mk (st := sWhole) lWhole cWhole kWhole
  have bWhole := FWhole.binds (ps := ["_law_found"]) fun _ _ _ _ _ _ us hl => match us, hl with | [_], _ => rfl
  have FHeld := fun_mk (st := sHeld) lHeld cHeld kHeld
  have bHeld := FHeld.binds (ps := ["_law_memory", "_law_place", "_law_row"]) fun _ _ _ _ _ _ us hl => match us, hl with | [_, _, _], _ => rfl
  have FLaw := fun_mk (st := sLaw) lLaw cLaw kLaw
  refine ⟨PySem.W.fnOf "law" "law" (defArgs sLaw) (defBody sLaw) (defScope sLaw) .none kVLaw dcLaw pmLaw anLaw cdLaw ctLaw, fun s v => .of_eq rfl, fun base _ _ => ?_⟩
  have GHeader : HasF l.prog w K mg base 1 "header" ["kind", "marked", "words", "size"] spHeader := ⟨fHeader, _, PySem.W.mg_of X G aHeader, ok_header FHeader B, bHeader, kHeader⟩
  have GKindIn : HasF l.prog w K mg base 1 "kind_in" ["number"] spKindIn := ⟨fKindIn, _, PySem.W.mg_of X G aKindIn, ok_kind_in FKindIn, bKindIn, kKindIn⟩
  have GSizeIn : HasF l.prog w K mg base 1 "size_in" ["number"] spSizeIn := ⟨fSizeIn, _, PySem.W.mg_of X G aSizeIn, ok_size_in FSizeIn, bSizeIn, kSizeIn⟩
  have GIsMarked : HasF l.prog w K mg base 1 "is_marked" ["number"] spIsMarked := ⟨fIsMarked, _, PySem.W.mg_of X G aIsMarked, ok_is_marked FIsMarked, bIsMarked, kIsMarked⟩
  have GHasWords : HasF l.prog w K mg base 1 "has_words" ["number"] spHasWords := ⟨fHasWords, _, PySem.W.mg_of X G aHasWords, ok_has_words FHasWords, bHasWords, kHasWords⟩
  have GGapIn : HasM l.prog w K mg base 1 (⟨T, P, Q, R, M, nN, nS⟩ : Cs).R "gap_in" ["self", "room", "length"] (spGapIn (⟨T, P, Q, R, M, nN, nS⟩ : Cs)) := ⟨fGapIn, _, clR, ⟨aGapIn, iGapIn, kGapIn⟩, ok_gap_in FGapIn TR B, bGapIn⟩
  have GGap : HasM l.prog w K mg base 2 (⟨T, P, Q, R, M, nN, nS⟩ : Cs).R "gap" ["self", "length"] (spGap (⟨T, P, Q, R, M, nN, nS⟩ : Cs)) := by
    obtain ⟨g, gd, G1⟩ := GGapIn
    exact ⟨fGap, _, clR, ⟨aGap, iGap, kGap⟩, ok_gap FGap TR B G1, bGap⟩
  have GFillIn : HasM l.prog w K mg base 1 (⟨T, P, Q, R, M, nN, nS⟩ : Cs).R "fill_in" ["self", "place", "some"] (spFillIn (⟨T, P, Q, R, M, nN, nS⟩ : Cs)) := ⟨fFillIn, _, clR, ⟨aFillIn, iFillIn, kFillIn⟩, ok_fill_in FFillIn TR B, bFillIn⟩
  have GRead : HasM l.prog w K mg base 1 (⟨T, P, Q, R, M, nN, nS⟩ : Cs).R "read" ["self", "place"] (spRead (⟨T, P, Q, R, M, nN, nS⟩ : Cs)) := ⟨fRead, _, clR, ⟨aRead, iRead, kRead⟩, ok_read FRead TR, bRead⟩
  have GRooms : HasC l.prog w K mg base 1 "Rooms" (⟨T, P, Q, R, M, nN, nS⟩ : Cs).R ["self", "many", "cells"] (spRInit (⟨T, P, Q, R, M, nN, nS⟩ : Cs)) := ⟨fRInit, _, PySem.W.mg_of X G aR, ⟨mkR, aRInit, iRInit, kcR⟩, ok_rinit FRInit TR, bRInit⟩
  have GPlainC : HasC l.prog w K mg base 2 "Plain" (⟨T, P, Q, R, M, nN, nS⟩ : Cs).P ["self", "row", "last_words"] (spPInit K (⟨T, P, Q, R, M, nN, nS⟩ : Cs)) := ⟨fPInit, _, PySem.W.mg_of X G aP, ⟨mkP, aPInit, iPInit, kcP⟩, ok_pinit FPInit TT aTInit (ok_tinit .plain FTInit TT B) bTInit, bPInit⟩
  have GThingC : HasC l.prog w K mg base 1 "Thing" (⟨T, P, Q, R, M, nN, nS⟩ : Cs).T ["self", "row"] (spTInit K (⟨T, P, Q, R, M, nN, nS⟩ : Cs) .weak) := ⟨fTInit, _, PySem.W.mg_of X G aT, ⟨mkT, aTInit, iTInit, kcT⟩, ok_tinit .weak FTInit TT B, bTInit⟩
  have GPairC : HasC l.prog w K mg base 1 "Pair" (⟨T, P, Q, R, M, nN, nS⟩ : Cs).Q ["self", "row"] (spTInit K (⟨T, P, Q, R, M, nN, nS⟩ : Cs) .pair) := ⟨fTInit, _, PySem.W.mg_of X G aQ, ⟨mkQ, iQI, iTInit, kcQ⟩, ok_tinit .pair FTInit TT B, bTInit⟩
  have GSort : ∀ k, HasM l.prog w K mg base 1 ((⟨T, P, Q, R, M, nN, nS⟩ : Cs).of k) "sort_of" ["self"] (spSort k) := fun k => match k with
    | .plain => ⟨fPSort, _, clP, ⟨aPSort, iPSort, kPSort⟩, ok_psort FPSort, bPSort⟩
    | .weak => ⟨fTSort, _, clT, ⟨aTSort, iTSort, kTSort⟩, ok_tsort FTSort, bTSort⟩
    | .pair => ⟨fQSort, _, clQ, ⟨aQSort, iQSort, kQSort⟩, ok_qsort FQSort, bQSort⟩
  have GFields : ∀ k, HasM l.prog w K mg base 1 ((⟨T, P, Q, R, M, nN, nS⟩ : Cs).of k) "fields" ["self"] (spFields (⟨T, P, Q, R, M, nN, nS⟩ : Cs) k) := fun k => match k with
    | .plain => ⟨fTFields, _, clP, ⟨iPF, iTFields, kTFields⟩, ok_tfields .plain FTFields TT B, bTFields⟩
    | .weak => ⟨fTFields, _, clT, ⟨aTFields, iTFields, kTFields⟩, ok_tfields .weak FTFields TT B, bTFields⟩
    | .pair => ⟨fTFields, _, clQ, ⟨iQF, iTFields, kTFields⟩, ok_tfields .pair FTFields TT B, bTFields⟩
  have GWords : ∀ k, HasM l.prog w K mg base 1 ((⟨T, P, Q, R, M, nN, nS⟩ : Cs).of k) "words" ["self"] (spWords (⟨T, P, Q, R, M, nN, nS⟩ : Cs) k) := fun k => match k with
    | .plain => ⟨fPWords, _, clP, ⟨aPWords, iPWords, kPWords⟩, ok_pwords FPWords TT, bPWords⟩
    | .weak => ⟨fTWords, _, clT, ⟨aTWords, iTWords, kTWords⟩, ok_twords .weak (by decide) FTWords, bTWords⟩
    | .pair => ⟨fTWords, _, clQ, ⟨iQW, iTWords, kTWords⟩, ok_twords .pair (by decide) FTWords, bTWords⟩
  have GPlain : HasF l.prog w K mg base 4 "plain" ["fields", "words"] (spPlain K (⟨T, P, Q, R, M, nN, nS⟩ : Cs)) := ⟨fPlain, _, PySem.W.mg_of X G aPlain, ok_plain FPlain GPlainC, bPlain, kPlain⟩
  have GWeak : HasF l.prog w K mg base 3 "weak" ["field"] (spWeak (⟨T, P, Q, R, M, nN, nS⟩ : Cs)) := ⟨fWeak, _, PySem.W.mg_of X G aWeak, ok_weak FWeak GThingC, bWeak, kWeak⟩
  have GPair : HasF l.prog w K mg base 3 "pair" ["key", "value"] (spPair (⟨T, P, Q, R, M, nN, nS⟩ : Cs)) := ⟨fPair, _, PySem.W.mg_of X G aPair, ok_pair FPair GPairC, bPair, kPair⟩
  have GMadeOf : HasF l.prog w K mg base 4 "made_of" ["sort", "fields", "words"] (spMadeOf K (⟨T, P, Q, R, M, nN, nS⟩ : Cs)) := ⟨fMadeOf, _, PySem.W.mg_of X G aMadeOf, ok_made_of FMadeOf GPlainC GThingC GPairC, bMadeOf, kMadeOf⟩
  have GWordsCell : HasF l.prog w K mg base 1 "words_cell" ["words"] (spWordsCell K) := ⟨fWordsCell, _, PySem.W.mg_of X G aWordsCell, ok_words_cell FWordsCell TT, bWordsCell, kWordsCell⟩
  have GLaid : HasF l.prog w K mg base 2 "laid" ["thing", "serial", "marked"] (spLaid K (⟨T, P, Q, R, M, nN, nS⟩ : Cs)) := ⟨fLaid, _, PySem.W.mg_of X G aLaid, ok_laid FLaid TT B GSort GFields GWords GWordsCell GHeader, bLaid, kLaid⟩
  have GMemory : HasC l.prog w K mg base 3 "Memory" (⟨T, P, Q, R, M, nN, nS⟩ : Cs).M ["self", "many", "cells"] (spMInit (⟨T, P, Q, R, M, nN, nS⟩ : Cs)) := ⟨fMInit, _, PySem.W.mg_of X G aM, ⟨mkM, aMInit, iMInit, kcM⟩, ok_minit FMInit TM GRooms, bMInit⟩
  have GPutIn : HasM l.prog w K mg base 3 (⟨T, P, Q, R, M, nN, nS⟩ : Cs).M "put_in" ["self", "thing", "serial", "marked"] (spPutIn K (⟨T, P, Q, R, M, nN, nS⟩ : Cs)) := ⟨fPutIn, _, clM, ⟨aPutIn, iPutIn, kPutIn⟩, ok_put_in FPutIn TM B GLaid GGap GFillIn, bPutIn⟩
  have GSizeAt : HasM l.prog w K mg base 2 (⟨T, P, Q, R, M, nN, nS⟩ : Cs).M "size_at" ["self", "place"] (spTells K (⟨T, P, Q, R, M, nN, nS⟩ : Cs) qSize) := ⟨fSizeAt, _, clM, ⟨aSizeAt, iSizeAt, kSizeAt⟩, ok_size_at FSizeAt TM GRead GSizeIn, bSizeAt⟩
  have GSerialAt : HasM l.prog w K mg base 2 (⟨T, P, Q, R, M, nN, nS⟩ : Cs).M "serial_at" ["self", "place"] (spTells K (⟨T, P, Q, R, M, nN, nS⟩ : Cs) qSerial) := ⟨fSerialAt, _, clM, ⟨aSerialAt, iSerialAt, kSerialAt⟩, ok_serial_at FSerialAt TM GRead, bSerialAt⟩
  have GSortAt : HasM l.prog w K mg base 2 (⟨T, P, Q, R, M, nN, nS⟩ : Cs).M "sort_at" ["self", "place"] (spTells K (⟨T, P, Q, R, M, nN, nS⟩ : Cs) qSort) := ⟨fSortAt, _, clM, ⟨aSortAt, iSortAt, kSortAt⟩, ok_sort_at FSortAt TM TT GRead GKindIn, bSortAt⟩
  have GFirst : HasM l.prog w K mg base 3 (⟨T, P, Q, R, M, nN, nS⟩ : Cs).M "first_field" ["self", "place"] (spTells K (⟨T, P, Q, R, M, nN, nS⟩ : Cs) qFirst) := ⟨fFirst, _, clM, ⟨aFirst, iFirst, kFirst⟩, ok_first FFirst GSortAt, bFirst⟩
  have GMarkedAt : HasM l.prog w K mg base 2 (⟨T, P, Q, R, M, nN, nS⟩ : Cs).M "marked_at" ["self", "place"] (spTells K (⟨T, P, Q, R, M, nN, nS⟩ : Cs) qMark) := ⟨fMarkedAt, _, clM, ⟨aMarkedAt, iMarkedAt, kMarkedAt⟩, ok_marked_at FMarkedAt TM GRead GIsMarked, bMarkedAt⟩
  have GThingAt : HasM l.prog w K mg base 5 (⟨T, P, Q, R, M, nN, nS⟩ : Cs).M "thing_at" ["self", "place"] (spTells K (⟨T, P, Q, R, M, nN, nS⟩ : Cs) (qThing (⟨T, P, Q, R, M, nN, nS⟩ : Cs))) := ⟨fThingAt, _, clM, ⟨aThingAt, iThingAt, kThingAt⟩, ok_thing_at FThingAt TM B GRead GHasWords GFirst GSizeAt GSortAt GMadeOf, bThingAt⟩
  have GCellAt : HasF l.prog w K mg base 1 "_law_cell_at" ["_law_script", "_law_k"] (spCellAt K) := ⟨fCellAt, _, PySem.W.mg_of X G aCellAt, ok_cell_at FCellAt B, bCellAt, kCellAt⟩
  have GDrawn : HasF l.prog w K mg base 1 "_law_drawn" ["_law_cell", "_law_sizes", "_law_free"] (spDrawn K) := ⟨fDrawn, _, PySem.W.mg_of X G aDrawn, ok_drawn FDrawn TL, bDrawn, kDrawn⟩
  have GValue : HasF l.prog w K mg base 1 "_law_value" ["_law_parts", "_law_there"] (spValue K) := ⟨fValue, _, PySem.W.mg_of X G aValue, ok_value FValue B, bValue, kValue⟩
  have GShape : HasF l.prog w K mg base 2 "_law_shape" ["_law_cell", "_law_there", "_law_free"] (spShape K) := ⟨fShape, _, PySem.W.mg_of X G aShape, ok_shape FShape B GDrawn GValue, bShape, kShape⟩
  have GLThing : HasF l.prog w K mg base 5 "_law_thing" ["_law_shape_here"] (spThing K (⟨T, P, Q, R, M, nN, nS⟩ : Cs)) := ⟨fLThing, _, PySem.W.mg_of X G aLThing, ok_thing_ FLThing B GPlain GWeak GPair, bLThing, kLThing⟩
  have GLSize : HasF l.prog w K mg base 1 "_law_size" ["_law_shape_here"] (spSize K) := ⟨fLSize, _, PySem.W.mg_of X G aLSize, ok_size_ FLSize B, bLSize, kLSize⟩
  have GWhole : HasF l.prog w K mg base 1 "_law_whole" ["_law_found"] spWhole := ⟨fWhole, _, PySem.W.mg_of X G aWhole, ok_whole FWhole B TL, bWhole, kWhole⟩
  have GHeld : HasF l.prog w K mg base 6 "_law_held" ["_law_memory", "_law_place", "_law_row"] (spHeld K (⟨T, P, Q, R, M, nN, nS⟩ : Cs)) := ⟨fHeld, _, PySem.W.mg_of X G aHeld, ok_held FHeld TT B TL GThingAt GSort GFields GWords GSortAt GSerialAt GSizeAt GMarkedAt GWhole GLSize, bHeld, kHeld⟩
  exact ok_law (c := (⟨T, P, Q, R, M, nN, nS⟩ : Cs)) FLaw B TL GCellAt GMemory GShape GLThing GPutIn GWhole GHeld GThingAt GFields
theorem walk {l : PySem.W.OpenLaw} {q : Program} {loose : List Str} {XP : (Str → Option Value) → Heap → Prop} {YP : World → Heap → Prop} {d : DefRec} {K : Params → PySem.W.Frag} (hn : l.most = some 63) (hdf : d.params.defaults = [])
    (hY : ∀ (w : World) (h : Heap), YP w h → (K w.params).In h)
    (F : ∀ (w : World) (mg : Str → Option Value) (fa : Addr) (h : Heap), (K w.params).In h → h.Ns mainGlobals mg → mg d.name = some (.ref fa) →
      ∃ fd : FuncData, (∀ (s : Shared) (u : Value), BindsTo s fd ⟨[u], []⟩ [("_law_script", u)]) ∧ ∀ base : Heap, (K w.params).In base → base.Ns mainGlobals mg → FnOk l.prog w (K w.params) mg base CX0 7 fa fd ["_law_script"] (spLaw (K w.params))) :
    PySem.W.WalkO q loose XP YP l.row.toRowW d [] (fun f vs => PySem.call f vs) :=
  L2.walk_of (n := 63) (k := 7) (x := "_law_script") (CX := fun _ => CX0) (sp := fun w => spLaw (K w.params)) hn (by decide) hdf ⟨rfl, by decide, by decide⟩ hY F (fun _ _ a ns hl _ hS => ⟨a, ns, rfl, hS, hl, fun _ => rfl⟩) fun _ _ _ _ _ z => z
end Hk
open PySem PySem.W PyProof.Rows
set_option maxRecDepth 100000 in
set_option maxHeartbeats 0 in
theorem PySem.Challenge.cw_heapsafe_k30_things_put_in_holds : PySem.Challenge.rw_heapsafe_k30_things_put_in.Holds := by
  w_on; o_law; k_head; (case hw => w_witness2)
  k_fill
  refine Hk.walk (l := PySem.Challenge.rw_heapsafe_k30_things_put_in) rfl rfl (fun w h Y => PySem.W.kIn_of Y) ?F
  case F =>
    intro w mg fa h KX G hmg
    refine' Hk.all_mk KX G hmg ?aT ?aP ?aQ ?aR ?aM ?aN ?aS ?lS ?aHeader ?lHeader ?cHeader ?kHeader ?aKindIn ?lKindIn ?cKindIn ?kKindIn ?aSizeIn ?lSizeIn ?cSizeIn ?kSizeIn ?aIsMarked ?lIsMarked ?cIsMarked ?kIsMarked ?aHasWords ?lHasWords ?cHasWords ?kHasWords ?aRInit ?iRInit ?lRInit ?cRInit ?kRInit ?aGapIn ?iGapIn ?lGapIn ?cGapIn ?kGapIn ?aGap ?iGap ?lGap ?cGap ?kGap ?aFillIn ?iFillIn ?lFillIn ?cFillIn ?kFillIn ?aRead ?iRead ?lRead ?cRead ?kRead ?aTInit ?iTInit ?lTInit ?cTInit ?kTInit ?aTSort ?iTSort ?lTSort ?cTSort ?kTSort ?aTFields ?iTFields ?lTFields ?cTFields ?kTFields ?aTWords ?iTWords ?lTWords ?cTWords ?kTWords ?aPInit ?iPInit ?lPInit ?cPInit ?kPInit ?aPSort ?iPSort ?lPSort ?cPSort ?kPSort ?aPWords ?iPWords ?lPWords ?cPWords ?kPWords ?aQSort ?iQSort ?lQSort ?cQSort ?kQSort ?aPlain ?lPlain ?cPlain ?kPlain ?aWeak ?lWeak ?cWeak ?kWeak ?aPair ?lPair ?cPair ?kPair ?aMadeOf ?lMadeOf ?cMadeOf ?kMadeOf ?aWordsCell ?lWordsCell ?cWordsCell ?kWordsCell ?aLaid ?lLaid ?cLaid ?kLaid ?aMInit ?iMInit ?lMInit ?cMInit ?kMInit ?aPutIn ?iPutIn ?lPutIn ?cPutIn ?kPutIn ?aSizeAt ?iSizeAt ?lSizeAt ?cSizeAt ?kSizeAt ?aSerialAt ?iSerialAt ?lSerialAt ?cSerialAt ?kSerialAt ?aSortAt ?iSortAt ?lSortAt ?cSortAt ?kSortAt ?aFirst ?iFirst ?lFirst ?cFirst ?kFirst ?aThingAt ?iThingAt ?lThingAt ?cThingAt ?kThingAt ?aMarkedAt ?iMarkedAt ?lMarkedAt ?cMarkedAt ?kMarkedAt ?aCellAt ?lCellAt ?cCellAt ?kCellAt ?aDrawn ?lDrawn ?cDrawn ?kDrawn ?aValue ?lValue ?cValue ?kValue ?aShape ?lShape ?cShape ?kShape ?aLThing ?lLThing ?cLThing ?kLThing ?aLSize ?lLSize ?cLSize ?kLSize ?aWhole ?lWhole ?cWhole ?kWhole ?aHeld ?lHeld ?cHeld ?kHeld ?aLaw ?lLaw ?cLaw ?kLaw ?iPF ?iQI ?iQF ?iQW ?pgT ?hdT ?poT ?saT ?mkT ?kcT ?pgP ?hdP ?poP ?saP ?mkP ?kcP ?pgQ ?hdQ ?poQ ?saQ ?mkQ ?kcQ ?pgR ?hdR ?poR ?saR ?mkR ?kcR ?pgM ?hdM ?poM ?saM ?mkM ?kcM ?nR_many ?nR_cells ?nR_inside ?nT_row ?nP_row ?nQ_row ?nP_last_words ?nM_rooms ?z_int ?z_list ?z_range ?z_len ?z_enumerate ?z_abs ?z_isinstance ?z_bool ?z_min ?rdT ?gaT ?fcT ?caT ?cmT ?ckT ?caP ?cmP ?ckP ?caQ ?cmQ ?ckQ ?cg ?ct_
    (case aT => k_is)
    (case aP => k_is)
    (case aQ => k_is)
    (case aR => k_is)
    (case aM => k_is)
    (case aN => k_is)
    (case aS => k_is)
    (case lS => k_is)
    (case aHeader => k_is)
    (case lHeader => k_is)
    (case cHeader => k_is)
    (case kHeader => k_is)
    (case aKindIn => k_is)
    (case lKindIn => k_is)
    (case cKindIn => k_is)
    (case kKindIn => k_is)
    (case aSizeIn => k_is)
    (case lSizeIn => k_is)
    (case cSizeIn => k_is)
    (case kSizeIn => k_is)
    (case aIsMarked => k_is)
    (case lIsMarked => k_is)
    (case cIsMarked => k_is)
    (case kIsMarked => k_is)
    (case aHasWords => k_is)
    (case lHasWords => k_is)
    (case cHasWords => k_is)
    (case kHasWords => k_is)
    (case aRInit => k_is)
    (case iRInit => k_is)
    (case lRInit => k_is)
    (case cRInit => k_is)
    (case kRInit => k_is)
    (case aGapIn => k_is)
    (case iGapIn => k_is)
    (case lGapIn => k_is)
    (case cGapIn => k_is)
    (case kGapIn => k_is)
    (case aGap => k_is)
    (case iGap => k_is)
    (case lGap => k_is)
    (case cGap => k_is)
    (case kGap => k_is)
    (case aFillIn => k_is)
    (case iFillIn => k_is)
    (case lFillIn => k_is)
    (case cFillIn => k_is)
    (case kFillIn => k_is)
    (case aRead => k_is)
    (case iRead => k_is)
    (case lRead => k_is)
    (case cRead => k_is)
    (case kRead => k_is)
    (case aTInit => k_is)
    (case iTInit => k_is)
    (case lTInit => k_is)
    (case cTInit => k_is)
    (case kTInit => k_is)
    (case aTSort => k_is)
    (case iTSort => k_is)
    (case lTSort => k_is)
    (case cTSort => k_is)
    (case kTSort => k_is)
    (case aTFields => k_is)
    (case iTFields => k_is)
    (case lTFields => k_is)
    (case cTFields => k_is)
    (case kTFields => k_is)
    (case aTWords => k_is)
    (case iTWords => k_is)
    (case lTWords => k_is)
    (case cTWords => k_is)
    (case kTWords => k_is)
    (case aPInit => k_is)
    (case iPInit => k_is)
    (case lPInit => k_is)
    (case cPInit => k_is)
    (case kPInit => k_is)
    (case aPSort => k_is)
    (case iPSort => k_is)
    (case lPSort => k_is)
    (case cPSort => k_is)
    (case kPSort => k_is)
    (case aPWords => k_is)
    (case iPWords => k_is)
    (case lPWords => k_is)
    (case cPWords => k_is)
    (case kPWords => k_is)
    (case aQSort => k_is)
    (case iQSort => k_is)
    (case lQSort => k_is)
    (case cQSort => k_is)
    (case kQSort => k_is)
    (case aPlain => k_is)
    (case lPlain => k_is)
    (case cPlain => k_is)
    (case kPlain => k_is)
    (case aWeak => k_is)
    (case lWeak => k_is)
    (case cWeak => k_is)
    (case kWeak => k_is)
    (case aPair => k_is)
    (case lPair => k_is)
    (case cPair => k_is)
    (case kPair => k_is)
    (case aMadeOf => k_is)
    (case lMadeOf => k_is)
    (case cMadeOf => k_is)
    (case kMadeOf => k_is)
    (case aWordsCell => k_is)
    (case lWordsCell => k_is)
    (case cWordsCell => k_is)
    (case kWordsCell => k_is)
    (case aLaid => k_is)
    (case lLaid => k_is)
    (case cLaid => k_is)
    (case kLaid => k_is)
    (case aMInit => k_is)
    (case iMInit => k_is)
    (case lMInit => k_is)
    (case cMInit => k_is)
    (case kMInit => k_is)
    (case aPutIn => k_is)
    (case iPutIn => k_is)
    (case lPutIn => k_is)
    (case cPutIn => k_is)
    (case kPutIn => k_is)
    (case aSizeAt => k_is)
    (case iSizeAt => k_is)
    (case lSizeAt => k_is)
    (case cSizeAt => k_is)
    (case kSizeAt => k_is)
    (case aSerialAt => k_is)
    (case iSerialAt => k_is)
    (case lSerialAt => k_is)
    (case cSerialAt => k_is)
    (case kSerialAt => k_is)
    (case aSortAt => k_is)
    (case iSortAt => k_is)
    (case lSortAt => k_is)
    (case cSortAt => k_is)
    (case kSortAt => k_is)
    (case aFirst => k_is)
    (case iFirst => k_is)
    (case lFirst => k_is)
    (case cFirst => k_is)
    (case kFirst => k_is)
    (case aThingAt => k_is)
    (case iThingAt => k_is)
    (case lThingAt => k_is)
    (case cThingAt => k_is)
    (case kThingAt => k_is)
    (case aMarkedAt => k_is)
    (case iMarkedAt => k_is)
    (case lMarkedAt => k_is)
    (case cMarkedAt => k_is)
    (case kMarkedAt => k_is)
    (case aCellAt => k_is)
    (case lCellAt => k_is)
    (case cCellAt => k_is)
    (case kCellAt => k_is)
    (case aDrawn => k_is)
    (case lDrawn => k_is)
    (case cDrawn => k_is)
    (case kDrawn => k_is)
    (case aValue => k_is)
    (case lValue => k_is)
    (case cValue => k_is)
    (case kValue => k_is)
    (case aShape => k_is)
    (case lShape => k_is)
    (case cShape => k_is)
    (case kShape => k_is)
    (case aLThing => k_is)
    (case lLThing => k_is)
    (case cLThing => k_is)
    (case kLThing => k_is)
    (case aLSize => k_is)
    (case lLSize => k_is)
    (case cLSize => k_is)
    (case kLSize => k_is)
    (case aWhole => k_is)
    (case lWhole => k_is)
    (case cWhole => k_is)
    (case kWhole => k_is)
    (case aHeld => k_is)
    (case lHeld => k_is)
    (case cHeld => k_is)
    (case kHeld => k_is)
    (case aLaw => k_is)
    (case lLaw => k_is)
    (case cLaw => k_is)
    (case kLaw => k_is)
    (case iPF => k_is)
    (case iQI => k_is)
    (case iQF => k_is)
    (case iQW => k_is)
    (case pgT => k_is)
    (case hdT => k_is)
    (case poT => k_is)
    (case saT => k_is)
    (case mkT => k_is)
    (case kcT => k_is)
    (case pgP => k_is)
    (case hdP => k_is)
    (case poP => k_is)
    (case saP => k_is)
    (case mkP => k_is)
    (case kcP => k_is)
    (case pgQ => k_is)
    (case hdQ => k_is)
    (case poQ => k_is)
    (case saQ => k_is)
    (case mkQ => k_is)
    (case kcQ => k_is)
    (case pgR => k_is)
    (case hdR => k_is)
    (case poR => k_is)
    (case saR => k_is)
    (case mkR => k_is)
    (case kcR => k_is)
    (case pgM => k_is)
    (case hdM => k_is)
    (case poM => k_is)
    (case saM => k_is)
    (case mkM => k_is)
    (case kcM => k_is)
    (case nR_many => k_is)
    (case nR_cells => k_is)
    (case nR_inside => k_is)
    (case nT_row => k_is)
    (case nP_row => k_is)
    (case nQ_row => k_is)
    (case nP_last_words => k_is)
    (case nM_rooms => k_is)
    (case z_int => k_is)
    (case z_list => k_is)
    (case z_range => k_is)
    (case z_len => k_is)
    (case z_enumerate => k_is)
    (case z_abs => k_is)
    (case z_isinstance => k_is)
    (case z_bool => k_is)
    (case z_min => k_is)
    (case rdT => k_is)
    (case gaT => k_is)
    (case fcT => k_is)
    (case caT => k_is)
    (case cmT => k_is)
    (case ckT => kit_is)
    (case caP => k_is)
    (case cmP => k_is)
    (case ckP => kit_is)
    (case caQ => k_is)
    (case cmQ => k_is)
    (case ckQ => kit_is)
    (case cg => k_is)
    (case ct_ => k_is)
