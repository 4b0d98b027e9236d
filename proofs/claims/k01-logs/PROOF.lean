import PyProof.Rows.All
import HandS.ExcIs
import Wide.All
import OpenK.AllK
import Wide.FinOn
import HandS.ForMost
import HandS.Wide
import HandS.IsInst
import HandS.Exc
import HandS.TryOnly
import HandS.ExcOwn
import HandS.WordsExc
import HandS.TryMany
import HandS.DictComp
import HandS.NoneIn
import HandS.Zip
import HandS.Conv
import HandS.Flow
import HandS.ListItems
import HandS.TupAny
import HandS.SetFor
import PyProof.EqAt
import PyProof.EqKinds
import PyProof.TupleCall
import KE.OsGo
import HandS.ForExc
import HandS.CallSlots
import KE.GoesEnumKw
import KE.GoesMore
import PySem.Challenge.RW_leastredo_k01_logs_hold_their_records
set_option Elab.async false
set_option linter.all false
set_option maxRecDepth 100000
set_option maxHeartbeats 8000000
/-! # A frozen world G, cells of one's own C, the heap H -/
namespace Lr
open PySem PySem.Spec PyProof.Rows L2

abbrev Cell := Addr × HO
/-- G: what stands for good; C: what is held alone and may change; both lie in H -/
structure WF (G : Hp) (C : List Cell) (H : Hp) : Prop where
  sub : Same G H
  own : ∀ c ∈ C, H c.1 = some c.2 ∧ G c.1 = none
  nd : (C.map Prod.fst).Nodup

theorem same_new {H : Hp} {p : Addr} {o : HO} (h : H p = none) : Same H (upd H p o) := fun b u e => by
  rw [upd_ne (ne_of_none e h)]
  exact e
namespace WF
variable {G H H' : Hp} {C : List Cell} {p q : Addr} {o u : HO}
theorem get (w : WF G C H) (h : (p, o) ∈ C) : H p = some o := (w.own _ h).1
theorem getG (w : WF G C H) (h : G p = some o) : H p = some o := w.sub _ _ h
theorem noG (w : WF G C H) (h : (p, o) ∈ C) : G p = none := (w.own _ h).2
theorem hd (w : WF G ((p, o) :: C) H) : H p = some o := w.get List.mem_cons_self
theorem gnone (w : WF G C H) (h : H p = none) : G p = none := w.sub.free h
theorem notin (w : WF G C H) (h : H p = none) : p ∉ C.map Prod.fst := fun hm => by
  obtain ⟨c, hc, e⟩ := List.mem_map.mp hm
  have q := (w.own c hc).1
  rw [e, h] at q
  cases q
theorem same (w : WF G C H) (s : Same H H') : WF G C H' := ⟨w.sub.trans s, fun c hc => ⟨s _ _ (w.own c hc).1, (w.own c hc).2⟩, w.nd⟩
/-- a new cell of one's own -/
theorem new (w : WF G C H) (h : H p = none) : WF G ((p, o) :: C) (upd H p o) := by
  have w' := w.same (same_new (o := o) h)
  refine ⟨w'.sub, fun c hc => ?_, ?_⟩
  · rcases List.mem_cons.mp hc with rfl | hc
    · exact ⟨upd_same, w.gnone h⟩
    · exact w'.own c hc
  · rw [List.map_cons]
    exact List.nodup_cons.mpr ⟨w.notin h, w.nd⟩
/-- a new thing that stands for good -/
theorem newG (w : WF G C H) (h : H p = none) : WF (upd G p o) C (upd H p o) := by
  have w' := w.same (same_new (o := o) h)
  refine ⟨fun b x e => ?_, fun c hc => ⟨(w'.own c hc).1, ?_⟩, w.nd⟩
  · by_cases hb : b = p
    · subst hb
      rw [upd_same] at e
      rw [upd_same]
      exact e
    · rw [upd_ne hb] at e
      rw [upd_ne hb]
      exact w.sub _ _ e
  · have n : c.1 ≠ p := fun z => by
      have q := (w.own c hc).1
      rw [z, h] at q
      cases q
    rw [upd_ne n]
    exact (w.own c hc).2
theorem leG (w : WF G C H) (h : H p = none) : Same G (upd G p o) := same_new (w.gnone h)
theorem hdne (w : WF G ((p, o) :: C) H) : ∀ c ∈ C, c.1 ≠ p := fun c hc z => by
  have q := w.nd
  rw [List.map_cons] at q
  exact (List.nodup_cons.mp q).1 (List.mem_map.mpr ⟨c, hc, z⟩)
/-- the first cell changes -/
theorem set (w : WF G ((p, o) :: C) H) : WF G ((p, u) :: C) (upd H p u) := by
  have g : G p = none := w.noG List.mem_cons_self
  refine ⟨fun b x e => ?_, fun c hc => ?_, w.nd⟩
  · rw [upd_ne (ne_of_none e g)]
    exact w.sub _ _ e
  · rcases List.mem_cons.mp hc with rfl | hc
    · exact ⟨upd_same, g⟩
    · rw [upd_ne (w.hdne c hc)]
      exact w.own c (List.mem_cons_of_mem _ hc)
theorem perm {D : List Cell} (w : WF G C H) (e : C.Perm D) : WF G D H :=
  ⟨w.sub, fun c hc => w.own c (e.mem_iff.mpr hc), (e.map Prod.fst).nodup_iff.mp w.nd⟩
/-- the first cell stands for good from now on -/
theorem frz (w : WF G ((p, o) :: C) H) : WF (upd G p o) C H := by
  refine ⟨fun b x e => ?_, fun c hc => ?_, ?_⟩
  · by_cases hb : b = p
    · subst hb
      rw [upd_same] at e
      rw [w.hd]
      exact e
    · rw [upd_ne hb] at e
      exact w.sub _ _ e
  · rw [upd_ne (w.hdne c hc)]
    exact w.own c (List.mem_cons_of_mem _ hc)
  · have q := w.nd
    rw [List.map_cons] at q
    exact (List.nodup_cons.mp q).2
theorem leF (w : WF G ((p, o) :: C) H) : Same G (upd G p o) := same_new (w.noG List.mem_cons_self)
theorem drop {c : Cell} (w : WF G (c :: C) H) : WF G C H :=
  ⟨w.sub, fun d hd => w.own d (List.mem_cons_of_mem _ hd), (List.nodup_cons.mp (show ((c.1) :: C.map Prod.fst).Nodup from w.nd)).2⟩
theorem swap {c d : Cell} (w : WF G (c :: d :: C) H) : WF G (d :: c :: C) H := w.perm (List.Perm.swap _ _ _)
/-- the first one behind the next two -/
theorem rot {a b c : Cell} (w : WF G (a :: b :: c :: C) H) : WF G (b :: c :: a :: C) H :=
  w.perm ((List.Perm.swap _ _ _).trans (List.Perm.cons _ (List.Perm.swap _ _ _)))
/-- the third one first -/
theorem rot' {a b c : Cell} (w : WF G (a :: b :: c :: C) H) : WF G (c :: a :: b :: C) H :=
  w.perm ((List.Perm.cons _ (List.Perm.swap _ _ _)).trans (List.Perm.swap _ _ _))
end WF

/-! ### a def by its name -/
structure FD (K : PySem.W.Frag) (mg : Str → Option Value) (x : Str) (st : Stmt) (ps : List Str) : Prop where
  ex : ∃ (f : Addr) (fd : FuncData), mg x = some (.ref f) ∧ Fun K x x st f fd ∧ Binds K fd ps []
def Okf (P : Program) (w : World) (K : PySem.W.Frag) (mg : Str → Option Value) (base : Heap) (CX : CXT) (k : Nat) (x : Str) (ps : List Str) (sp : Sp) : Prop :=
  ∃ (f : Addr) (fd : FuncData), mg x = some (.ref f) ∧ PySem.W.keepIn K (.ref f) = true ∧ Binds K fd ps [] ∧ FnOk P w K mg base CX k f fd ps sp
section
variable {P : Program} {w : World} {K : PySem.W.Frag} {mg : Str → Option Value} {base : Heap} {CX : CXT} {j k : Nat} {x : Str} {ps : List Str} {sp sp' : Sp}
theorem Okf.mono (F : Okf P w K mg base CX j x ps sp) (h : j ≤ k) : Okf P w K mg base CX k x ps sp := by
  obtain ⟨f, fd, a, b, c, d⟩ := F
  exact ⟨f, fd, a, b, c, d.mono h⟩
theorem Okf.imp (F : Okf P w K mg base CX k x ps sp) (h : ∀ vs H Q E, sp' vs H Q E → sp vs H Q E) : Okf P w K mg base CX k x ps sp' := by
  obtain ⟨f, fd, a, b, c, d⟩ := F
  exact ⟨f, fd, a, b, c, d.imp h⟩
theorem FD.ok {st : Stmt} {N : List Str} (F : FD K mg x st ps) (S : FnScope N ps (defScope st)) (len : ∀ vs H Q E, sp vs H Q E → vs.length = ps.length)
    (hbody : ∀ (f : Addr) (cdv : Value) (A : Around) (outer : List Env) (s : Shared) (H : Hp) (vs : List V) (Q : VK) (E : XK), Room k (A.deeper (envOfC x (defScope st) s.heap.objs.size f cdv)) → sp vs H Q E →
      ∃ t, PSs (cxOf CX0 P w K mg base N x (defScope st) f cdv A outer s H E).nox (defBody st) t ∧ t { nx := fun _ H' => Q .non H', rt := Q } (start N vs) H) : Okf P w K mg base CX0 (k + 1) x ps sp := by
  obtain ⟨f, fd, a, b, c⟩ := F.ex
  exact ⟨f, fd, a, b.kp, c, b.ok S len (hbody f)⟩
theorem FD.okX {st : Stmt} {N : List Str} (F : FD K mg x st ps) (S : FnScope N ps (defScope st)) (len : ∀ vs H Q E, sp vs H Q E → vs.length = ps.length)
    (hbody : ∀ (f : Addr) (cdv : Value) (A : Around) (outer : List Env) (s : Shared) (H : Hp) (vs : List V) (Q : VK) (E : XK), Room k (A.deeper (envOfC x (defScope st) s.heap.objs.size f cdv)) → sp vs H Q E →
      ∃ t, PSs (cxOf (L2.CX P w) P w K mg base N x (defScope st) f cdv A outer s H E) (defBody st) t ∧ t { nx := fun _ H' => Q .non H', rt := Q } (start N vs) H) : Okf P w K mg base (L2.CX P w) (k + 1) x ps sp := by
  obtain ⟨f, fd, a, b, c⟩ := F.ex
  exact ⟨f, fd, a, b.kp, c, b.okX S len (hbody f)⟩
end
section
variable {X : Cx} {CX : CXT} {k k' : Nat} {x : Str} {ps : List Str} {sp : Sp} {E : XK} {p pos : Pos} {e : Expr} {es : List Expr} {t : TA}
/-- f(e, ..): a def by its name -/
theorem pcall (F : Okf X.prog X.w X.K X.mg X.base CX k x ps sp) (hr : Room k' X.A) (hx : Passes CX X E) (ha : PA X (e :: es) t) (hk : k ≤ k' := by omega) (hg : Gl X x := by rfl)
    (hdb : (x == ("__debug__" : Str)) = false := by decide) (he : starEach (e :: es) X.env = (false, eval e X.env) :: starEach es X.env := by rfl) (hpl : (backTo pos (starEach es X.env)).any (·.1) = false := by rfl) :
    PE X (.Call (.Name x p) (e :: es) [] pos) (tCall sp [] E t) := by
  obtain ⟨f, fd, a, b, c, d⟩ := F
  exact pe_call d (hr.mono hk) hg a b c .nil hx ha hdb he hpl
/-- .. of a def that lets nothing out -/
theorem pc (F : Okf X.prog X.w X.K X.mg X.base CX0 k x ps sp) (hr : Room k' X.A) (ha : PA X (e :: es) t) (hk : k ≤ k' := by omega) (hg : Gl X x := by rfl)
    (hdb : (x == ("__debug__" : Str)) = false := by decide) (he : starEach (e :: es) X.env = (false, eval e X.env) :: starEach es X.env := by rfl) (hpl : (backTo pos (starEach es X.env)).any (·.1) = false := by rfl) :
    PE X (.Call (.Name x p) (e :: es) [] pos) (tCall sp [] E0 t) := pcall F hr pass0 ha hk hg hdb he hpl
end
end Lr

/-! # The spring of draws -/
namespace Lr
open PySem PySem.Spec PyProof.Rows L2
/-- the spring at st (its cells' list at cs), of at most n draws so far, and the cells C of one's own -/
def SW (G : Hp) (st cs : Addr) (n : Nat) (C : List Cell) (H : Hp) : Prop :=
  ∃ (l : List Int) (a b c : Int), WF G ((st, .lst [.ref cs, .int a, .int b, .int c]) :: (cs, .lst (l.map V.int)) :: C) H ∧ 0 ≤ a ∧ 0 ≤ b ∧ b ≤ (n : Int) ∧ 0 ≤ c ∧ c < 2147483648
namespace SW
variable {G H H' : Hp} {st cs : Addr} {n m : Nat} {C D : List Cell} {p q : Addr} {o u : HO}
theorem wf (w : SW G st cs n C H) : WF G C H := by
  obtain ⟨l, a, b, c, w, _⟩ := w
  exact w.drop.drop
theorem mono (w : SW G st cs n C H) (h : n ≤ m) : SW G st cs m C H := by
  obtain ⟨l, a, b, c, w, h1, h2, h3, h4⟩ := w
  exact ⟨l, a, b, c, w, h1, h2, by omega, h4⟩
theorem same (w : SW G st cs n C H) (s : Same H H') : SW G st cs n C H' := by
  obtain ⟨l, a, b, c, w, k⟩ := w
  exact ⟨l, a, b, c, w.same s, k⟩
theorem new (w : SW G st cs n C H) (h : H p = none) : SW G st cs n ((p, o) :: C) (upd H p o) := by
  obtain ⟨l, a, b, c, w, k⟩ := w
  exact ⟨l, a, b, c, (w.new h).rot, k⟩
theorem newG (w : SW G st cs n C H) (h : H p = none) : SW (upd G p o) st cs n C (upd H p o) := by
  obtain ⟨l, a, b, c, w, k⟩ := w
  exact ⟨l, a, b, c, w.newG h, k⟩
theorem set (w : SW G st cs n ((p, o) :: C) H) : SW G st cs n ((p, u) :: C) (upd H p u) := by
  obtain ⟨l, a, b, c, w, k⟩ := w
  exact ⟨l, a, b, c, (w.rot'.set).rot, k⟩
theorem frz (w : SW G st cs n ((p, o) :: C) H) : SW (upd G p o) st cs n C H := by
  obtain ⟨l, a, b, c, w, k⟩ := w
  exact ⟨l, a, b, c, w.rot'.frz, k⟩
theorem perm (w : SW G st cs n C H) (e : C.Perm D) : SW G st cs n D H := by
  obtain ⟨l, a, b, c, w, k⟩ := w
  exact ⟨l, a, b, c, w.perm ((e.cons _).cons _), k⟩
theorem drop {c : Cell} (w : SW G st cs n (c :: C) H) : SW G st cs n C H := by
  obtain ⟨l, a, b, d, w, k⟩ := w
  exact ⟨l, a, b, d, w.rot'.drop, k⟩
theorem swap {c d : Cell} (w : SW G st cs n (c :: d :: C) H) : SW G st cs n (d :: c :: C) H := w.perm (List.Perm.swap _ _ _)
theorem sub (w : SW G st cs n C H) : Same G H := w.wf.sub
theorem getG (w : SW G st cs n C H) (h : G p = some o) : H p = some o := w.wf.getG h
theorem get (w : SW G st cs n C H) (h : (p, o) ∈ C) : H p = some o := w.wf.get h
theorem hd (w : SW G st cs n ((p, o) :: C) H) : H p = some o := w.wf.hd
theorem gnone (w : SW G st cs n C H) (h : H p = none) : G p = none := w.wf.gnone h
theorem noG (w : SW G st cs n C H) (h : (p, o) ∈ C) : G p = none := w.wf.noG h
theorem leG (w : SW G st cs n C H) (h : H p = none) : Same G (upd G p o) := w.wf.leG h
theorem leF (w : SW G st cs n ((p, o) :: C) H) : Same G (upd G p o) := w.wf.leF
end SW
/-- _law_below(stream, many): a number below many -/
def spBelow : Sp := fun vs H Q _ => ∃ (G : Hp) (st cs : Addr) (n : Nat) (C : List Cell) (m : Int), vs = [.ref st, .int m] ∧ 0 < m ∧ m < 2 ^ 60 ∧ n < 2 ^ 40 ∧ SW G st cs n C H ∧
  ∀ (d : Nat) (H' : Hp), (d : Int) < m → SW G st cs (n + 1) C H' → Q (.int d) H'
end Lr

/-! # Rules that leave the kind of their operands to the reading -/
namespace Lr
open PySem PySem.Spec PyProof.Rows L2
section
variable {X : Cx} {K : PySem.W.Frag}
theorem OpR.or {f : Value → Value → Sem Value} {r r' : R2} (h : OpR X f r) (h' : OpR X f r') : OpR X f (fun x y H Q => r x y H Q ∨ r' x y H Q) := fun pins s σ H x y v u Q I r1 r2 q => by
  rcases q with q | q
  · exact h pins s σ H x y v u Q I r1 r2 q
  · exact h' pins s σ H x y v u Q I r1 r2 q
theorem CallR.or {f : Value} {r r' : List V → Hp → VK → Prop} (h : CallR X f r) (h' : CallR X f r') : CallR X f (fun xs H Q => r xs H Q ∨ r' xs H Q) := fun pins s σ H xs us Q I r1 q => by
  rcases q with q | q
  · exact h pins s σ H xs us Q I r1 q
  · exact h' pins s σ H xs us Q I r1 q
/-- + : ints | texts | lists | tuples -/
def rAddS : R2 := fun x y H Q => ∃ i j, x = .str i ∧ y = .str j ∧ i.length + j.length ≤ sizeLine ∧ Q (.str (i ++ j)) H
@[irreducible] def rAddA (K : PySem.W.Frag) : R2 := fun x y H Q => (∃ i j, x = .int i ∧ y = .int j ∧ Q (.int (i + j)) H) ∨ rAddS x y H Q ∨ rCat x y H Q ∨ rCatA K x y H Q
theorem op_addA (hK : X.K = K := by rfl) : OpR X (binaryOp .Add) (rAddA K) := by
  subst hK
  unfold rAddA
  exact OpR.or op_add (OpR.or op_add_str (OpR.or op_cat op_catA))
theorem rAddA.int {K : PySem.W.Frag} {i j : Int} {H : Hp} {Q : VK} (q : Q (.int (i + j)) H) : rAddA K (.int i) (.int j) H Q := by
  unfold rAddA
  exact .inl ⟨_, _, rfl, rfl, q⟩
theorem rAddA.str {K : PySem.W.Frag} {i j : Str} {H : Hp} {Q : VK} (h : i.length + j.length ≤ 1000000) (q : Q (.str (i ++ j)) H) : rAddA K (.str i) (.str j) H Q := by
  unfold rAddA
  exact .inr (.inl ⟨_, _, rfl, rfl, Nat.le_trans h (by decide), q⟩)
theorem rAddA.lst {K : PySem.W.Frag} {a b : Addr} {xs ys : List V} {H : Hp} {Q : VK} (ha : H a = some (.lst xs)) (hb : H b = some (.lst ys)) (h : xs.length + ys.length ≤ 1000000) (q : ∀ p, H p = none → Q (.ref p) (upd H p (.lst (xs ++ ys)))) : rAddA K (.ref a) (.ref b) H Q := by
  unfold rAddA
  exact .inr (.inr (.inl ⟨_, _, _, _, rfl, rfl, ha, hb, Nat.le_trans h (by decide), q⟩))
/-- * : ints -/
@[irreducible] def rMulA : R2 := fun x y H Q => (∃ i j, x = .int i ∧ y = .int j ∧ CMul i j ∧ Q (.int (i * j)) H) ∨ rI CMulW (fun i j => .int (i * j)) x y H Q ∨ rRep x y H Q
theorem op_mulA : OpR X (binaryOp .Mult) rMulA := by
  unfold rMulA
  exact OpR.or op_mul (OpR.or op_mulW op_rep)
theorem rMulA.left {i j : Int} {H : Hp} {Q : VK} (h1 : -(2 ^ 64) < i) (h2 : i < 2 ^ 64) (q : Q (.int (i * j)) H) : rMulA (.int i) (.int j) H Q := by
  unfold rMulA
  exact .inl ⟨_, _, rfl, rfl, .inl ⟨h1, h2⟩, q⟩
theorem rMulA.right {i j : Int} {H : Hp} {Q : VK} (h1 : -(2 ^ 64) < j) (h2 : j < 2 ^ 64) (q : Q (.int (i * j)) H) : rMulA (.int i) (.int j) H Q := by
  unfold rMulA
  exact .inl ⟨_, _, rfl, rfl, .inr ⟨h1, h2⟩, q⟩
/-- ==, != : scalars | data -/
@[irreducible] def rEqA (K : PySem.W.Frag) : R2 := fun x y H Q => rEq x y H Q ∨ rEqD K x y H Q
@[irreducible] def rNeA (K : PySem.W.Frag) : R2 := fun x y H Q => rNe x y H Q ∨ rNeD K x y H Q
theorem op_eqA (hu : X.A.units + 64 < cLine) (hK : X.K = K := by rfl) : OpR X (compareOp .Eq) (rEqA K) := by
  subst hK
  unfold rEqA
  exact OpR.or op_eq (op_eqD hu)
theorem op_neA (hu : X.A.units + 64 < cLine) (hK : X.K = K := by rfl) : OpR X (compareOp .NotEq) (rNeA K) := by
  subst hK
  unfold rNeA
  exact OpR.or op_ne (op_neD hu)
theorem rEqA.sc {K : PySem.W.Frag} {x y : V} {H : Hp} {Q : VK} {b : Bool} (h : scal x y = true) (e : decide (x = y) = b) (q : Q (.bl b) H) : rEqA K x y H Q := by
  unfold rEqA
  exact .inl ⟨h, by rw [e]; exact q⟩
theorem rNeA.sc {K : PySem.W.Frag} {x y : V} {H : Hp} {Q : VK} {b : Bool} (h : scal x y = true) (e : (!decide (x = y)) = b) (q : Q (.bl b) H) : rNeA K x y H Q := by
  unfold rNeA
  exact .inl ⟨h, by rw [e]; exact q⟩
theorem dec_int (i j : Int) : decide (V.int i = V.int j) = decide (i = j) := by
  by_cases h : i = j
  · subst h; simp
  · rw [decide_eq_false h, decide_eq_false (fun z => h (V.int.inj z))]
theorem rEqA.int {K : PySem.W.Frag} {i j : Int} {H : Hp} {Q : VK} (q : Q (.bl (decide (i = j))) H) : rEqA K (.int i) (.int j) H Q := by
  unfold rEqA
  exact .inl ⟨rfl, by rw [dec_int]; exact q⟩
theorem rNeA.int {K : PySem.W.Frag} {i j : Int} {H : Hp} {Q : VK} (q : Q (.bl (!decide (i = j))) H) : rNeA K (.int i) (.int j) H Q := by
  unfold rNeA
  exact .inl ⟨rfl, by rw [dec_int]; exact q⟩
/-- in : flat things of a list or tuple | a sign of a text -/
def rInS1 (neg : Bool) : R2 := fun x y H Q => ∃ (c : Nat) (z : Str), x = .str ⟨#[c]⟩ ∧ y = .str z ∧ Q (.bl (if neg then !decide (c ∈ z.cps.toList) else decide (c ∈ z.cps.toList))) H
@[irreducible] def rInA (K : PySem.W.Frag) (neg : Bool) : R2 := fun x y H Q => rIn K neg x y H Q ∨ rInS1 neg x y H Q
theorem op_inA (hK : X.K = K := by rfl) : OpR X (compareOp .In) (rInA K false) := by
  subst hK
  unfold rInA
  exact OpR.or op_in_seq op_in_sign
theorem op_notInA (hK : X.K = K := by rfl) : OpR X (compareOp .NotIn) (rInA K true) := by
  subst hK
  unfold rInA
  exact OpR.or op_notIn_seq op_notIn_sign
/-- items of lists, tuples, texts -/
theorem rIx.lst {K : PySem.W.Frag} {p : Addr} {xs : List V} {i : Int} {v : V} {H : Hp} {Q : VK} (h : H p = some (.lst xs)) (ha : atI xs i = some v) (q : Q v H) : rIx K (.ref p) (.int i) H Q := .inl ⟨_, _, _, _, rfl, rfl, SqL.of h, ha, q⟩
theorem rIx.tup {K : PySem.W.Frag} {p : Addr} {xs : List V} {i : Int} {v : V} {H : Hp} {Q : VK} (h : H p = some (.tup xs)) (ha : atI xs i = some v) (q : Q v H) : rIx K (.ref p) (.int i) H Q := .inr (.inl ⟨_, _, _, _, rfl, rfl, SqT.of h, ha, q⟩)
theorem rIx.str {K : PySem.W.Frag} {z : Str} {i : Int} {c : Nat} {H : Hp} {Q : VK} (h : z.length ≤ sizeLine) (ha : atI z.cps.toList i = some c) (q : Q (.str ⟨#[c]⟩) H) : rIx K (.str z) (.int i) H Q := .inr (.inr ⟨_, _, _, rfl, rfl, h, ha, q⟩)
/-- a store by place -/
theorem rSetL.at {p : Addr} {xs : List V} {k : Int} {j : Nat} {v : V} {H : Hp} {Q : Hp → Prop} (h : H p = some (.lst xs)) (hj : ixN xs.length k = some j) (q : Q (upd H p (.lst (xs.set j v)))) : rSetL (.ref p) (.int k) v H Q := ⟨_, _, _, _, rfl, rfl, h, hj, q⟩
/-- len : list, tuple, text | dict -/
@[irreducible] def rLenA (K : PySem.W.Frag) : List V → Hp → VK → Prop := fun xs H Q => (∃ x n, xs = [x] ∧ LenV K x H n ∧ Q (.int n) H) ∨ ∃ a kvs, xs = [V.ref a] ∧ H a = some (.dK kvs) ∧ Q (.int kvs.length) H
theorem call_lenA (hK : X.K = K := by rfl) : CallR X (.builtin "len") (rLenA K) := by
  subst hK
  unfold rLenA
  exact CallR.or call_len call_lenD
theorem rLenA.v {K : PySem.W.Frag} {x : V} {n : Nat} {H : Hp} {Q : VK} (h : LenV K x H n) (q : Q (.int n) H) : rLenA K [x] H Q := by
  unfold rLenA
  exact .inl ⟨_, _, rfl, h, q⟩
theorem rLenA.dic {K : PySem.W.Frag} {a : Addr} {kvs : List (Key × V)} {H : Hp} {Q : VK} (h : H a = some (.dK kvs)) (q : Q (.int kvs.length) H) : rLenA K [.ref a] H Q := by
  unfold rLenA
  exact .inr ⟨_, _, rfl, h, q⟩
theorem rLenA.str {K : PySem.W.Frag} {x : Str} {H : Hp} {Q : VK} (h : x.length ≤ 1000000) (q : Q (.int x.length) H) : rLenA K [.str x] H Q := rLenA.v ⟨Nat.le_trans h (by decide), rfl⟩ q
/-- list(..) : list, tuple | dict -/
@[irreducible] def rListA (K : PySem.W.Frag) : List V → Hp → VK → Prop := fun xs H Q => (∃ p ys, xs = [.ref p] ∧ (SqL K H p ys ∨ SqT K H p ys) ∧ ∀ l, H l = none → Q (.ref l) (upd H l (.lst ys))) ∨ rListD xs H Q
theorem xix {K : PySem.W.Frag} (hK : X.K = K := by rfl) : IxR X (rIx K) := by
  subst hK
  exact ix_seq
theorem xsl {K : PySem.W.Frag} (hK : X.K = K := by rfl) : SlR X (fun x lo hi H Q => rSlL K x lo hi H Q ∨ rSlS x lo hi H Q ∨ rSlA K x lo hi H Q) := by
  subst hK
  exact SlR.or sl_list (SlR.or sl_str sl_tupA)
theorem call_tupleA {K : PySem.W.Frag} (hK : X.K = K := by rfl) : CallR X (.type "tuple") (fun xs H Q => ∃ p ys, xs = [.ref p] ∧ ((SqL K H p ys ∧ ∀ l, H l = none → Q (.ref l) (upd H l (.tup ys))) ∨ (SqT K H p ys ∧ Q (.ref p) H))) := by
  subst hK
  exact call_tuple_of
theorem cr_allA {K : PySem.W.Frag} (hc : X.calm = true) (hK : X.K = K := by rfl) : CallR X (.builtin "all") (rAll K) := by
  subst hK
  exact cr_all hc
theorem cr_anyA {K : PySem.W.Frag} (hc : X.calm = true) (hK : X.K = K := by rfl) : CallR X (.builtin "any") (rAny K) := by
  subst hK
  exact cr_any hc
theorem cr_sortedA {K : PySem.W.Frag} (hK : X.K = K := by rfl) : CallR X (.builtin "sorted") (rSortedS K) := by
  subst hK
  exact cr_sortedS
theorem xtup {K : PySem.W.Frag} {es : List Expr} {k : Nat} {t : TGs} {n : Nat} (hc : X.calm = true) (h : PGs X es t) (hK : X.K = K := by rfl)
    (hn : (assignEach es X.env).length = n := by rfl) (hst : (assignEach es X.env).findIdx? (·.1) = none := by rfl) : PG X (.Tuple es k pos) (gTup K n t) := by
  subst hK
  exact pg_tup hc h hn hst
theorem xfld {K : PySem.W.Frag} {e : Expr} {ta : TE} {f : Str} {pos : Pos} (he : PE X e ta) (hb : attributeBase e f X.env (eval e X.env) = eval e X.env) (hK : X.K = K := by rfl) : PE X (.Attribute e f pos) (tFld K ta f) := by
  subst hK
  exact pe_fld he hb
theorem xbm {K : PySem.W.Frag} {T : String} {name : Str} {id : String} {r : V → List V → Hp → VK → Prop} {o e : Expr} {es : List Expr} {to : TE} {t : TA} {apos cpos : Pos} (pa : PlainAttrs T) (slot : Slot T name id) (hty : typeOf (.builtin id) = pure (.type "method_descriptor")) (hm : MtR X id r) (ho : PE X o to) (ha : PA X (e :: es) t)
    (hK : X.K = K := by rfl)
    (hbase : attributeBase o name X.env (eval o X.env) = eval o X.env := by rfl)
    (hfew : ((backTo cpos (starEach (e :: es) X.env)).all (fun x => !x.1) && (backToKw cpos (keywordEach [] X.env)).all (fun x => x.1.isSome)
      && decide ((e :: es).length + ([] : List Keyword).length + (if ([] : List Keyword).isEmpty then 0 else 1) < 30)) = true := by rfl)
    (hline : (apos.endLine == cpos.line) = true := by rfl) (hs : starEach (e :: es) X.env = (false, eval e X.env) :: starEach es X.env := by rfl) (hplain : (backTo cpos (starEach es X.env)).any (·.1) = false := by rfl) :
    PE X (.Call (.Attribute o name apos) (e :: es) [] cpos) (tBM K T r to t) := by
  subst hK
  exact pe_bm pa slot hty hm ho ha hbase hfew hline hs hplain
theorem xbm0 {K : PySem.W.Frag} {T : String} {name : Str} {id : String} {r : V → List V → Hp → VK → Prop} {o : Expr} {to : TE} {apos cpos : Pos} (pa : PlainAttrs T) (slot : Slot T name id) (hty : typeOf (.builtin id) = pure (.type "method_descriptor")) (hm : MtR X id r) (ho : PE X o to)
    (hK : X.K = K := by rfl)
    (hbase : attributeBase o name X.env (eval o X.env) = eval o X.env := by rfl) (hline : (apos.endLine == cpos.line) = true := by rfl) : PE X (.Call (.Attribute o name apos) [] [] cpos) (tBM0 K T r to) := by
  subst hK
  exact pe_bm0 pa slot hty hm ho hbase hline
end
theorem Same.tup {K : PySem.W.Frag} {H H' : Hp} {a : Addr} {xs : List V} (e : Same H H') (h : SqT K H a xs) : SqT K H' a xs := by
  rcases h with (h | ⟨o, h⟩) | h
  · exact .inl (.inl (e _ _ h))
  · exact .inl (.inr ⟨o, e _ _ h⟩)
  · exact .inr h
/-! ### the built-in names -/
structure Bl (mg : Str → Option Value) : Prop where
  len : mg "len" = none
  list : mg "list" = none
  tuple : mg "tuple" = none
  dict : mg "dict" = none
  int : mg "int" = none
  str : mg "str" = none
  bool : mg "bool" = none
  isinstance : mg "isinstance" = none
  range : mg "range" = none
  enumerate : mg "enumerate" = none
  zip : mg "zip" = none
  all : mg "all" = none
  any : mg "any" = none
  sorted : mg "sorted" = none
  min : mg "min" = none
  max : mg "max" = none
  sum : mg "sum" = none
end Lr

namespace Lr
open PySem PySem.Spec PyProof.Rows L2
section
variable {X : Cx}
theorem call_listA {K : PySem.W.Frag} (hc : X.calm = true) (hK : X.K = K := by rfl) : CallR X (.type "list") (rListA K) := by
  subst hK
  unfold rListA
  exact CallR.or call_list_of (call_list_dK hc)
@[irreducible] def rIsiA (K : PySem.W.Frag) : List V → Hp → VK → Prop := fun xs H Q => rIsi K xs H Q ∨ rIsiT K xs H Q
theorem call_isiA {K : PySem.W.Frag} (hK : X.K = K := by rfl) : CallR X (.builtin "isinstance") (rIsiA K) := by
  subst hK
  unfold rIsiA
  exact CallR.or call_isi call_isiT
/-- what is iterated: a list or a tuple -/
theorem PI.or {tg iter : Expr} {w1 w2 : TI} (h1 : PI X tg iter w1) (h2 : PI X tg iter w2) : PI X tg iter (fun σ H R => w1 σ H R ∨ w2 σ H R) := ⟨fun pins s σ H R I q => by
  rcases q with q | q
  · exact h1.run pins s σ H R I q
  · exact h2.run pins s σ H R I q⟩
def iSeq (K : PySem.W.Frag) (tl : TE) : TI := fun σ H R => iList K tl σ H R ∨ iTup K tl σ H R
theorem pi_seq {K : PySem.W.Frag} {tg l : Expr} {tl : TE} (hl : PE X l tl) (hK : X.K = K := by rfl) : PI X tg l (iSeq K tl) := by
  subst hK
  exact PI.or (pi_list hl) (pi_tup hl)
end
/-! ### what is seen: it stands for good, or it is one's own -/
def Sees (G : Hp) (C : List Cell) (a : Addr) (o : HO) : Prop := G a = some o ∨ (a, o) ∈ C
theorem Sees.at {G H : Hp} {C : List Cell} {a : Addr} {o : HO} (h : Sees G C a o) (w : WF G C H) : H a = some o := h.elim w.getG w.get
theorem Sees.sw {G H : Hp} {st cs : Addr} {n : Nat} {C : List Cell} {a : Addr} {o : HO} (h : Sees G C a o) (w : SW G st cs n C H) : H a = some o := h.at w.wf
theorem Sees.mono {G G' : Hp} {C : List Cell} {a : Addr} {o : HO} (h : Sees G C a o) (g : Same G G') : Sees G' C a o := h.imp (g _ _) id
theorem Sees.cons {G : Hp} {C : List Cell} {a : Addr} {o : HO} {c : Cell} (h : Sees G C a o) : Sees G (c :: C) a o := h.imp id (List.mem_cons_of_mem _)
/-- a list or a tuple of these items -/
def Seq (G : Hp) (C : List Cell) (a : Addr) (xs : List V) : Prop := Sees G C a (.lst xs) ∨ Sees G C a (.tup xs)
theorem Seq.mono {G G' : Hp} {C : List Cell} {a : Addr} {xs : List V} (h : Seq G C a xs) (g : Same G G') : Seq G' C a xs := h.imp (·.mono g) (·.mono g)
theorem Seq.cons {G : Hp} {C : List Cell} {a : Addr} {xs : List V} {c : Cell} (h : Seq G C a xs) : Seq G (c :: C) a xs := h.imp Sees.cons Sees.cons
theorem Seq.gl {G : Hp} {C : List Cell} {a : Addr} {xs : List V} (h : G a = some (.lst xs)) : Seq G C a xs := .inl (.inl h)
theorem Seq.gt {G : Hp} {C : List Cell} {a : Addr} {xs : List V} (h : G a = some (.tup xs)) : Seq G C a xs := .inr (.inl h)
theorem Seq.hd {G : Hp} {C : List Cell} {a : Addr} {xs : List V} : Seq G ((a, .lst xs) :: C) a xs := .inl (.inr List.mem_cons_self)
theorem Seq.sq {K : PySem.W.Frag} {G H : Hp} {C : List Cell} {a : Addr} {xs : List V} (h : Seq G C a xs) (w : WF G C H) : SqL K H a xs ∨ SqT K H a xs := h.imp (fun h => SqL.of (h.at w)) (fun h => SqT.of (h.at w))
theorem Seq.ix {K : PySem.W.Frag} {G H : Hp} {C : List Cell} {a : Addr} {xs : List V} {i : Int} {v : V} {Q : VK} (h : Seq G C a xs) (w : WF G C H) (hi : atI xs i = some v) (q : Q v H) : rIx K (.ref a) (.int i) H Q := by
  rcases h with h | h
  · exact rIx.lst (h.at w) hi q
  · exact rIx.tup (h.at w) hi q
theorem Seq.len {K : PySem.W.Frag} {G H : Hp} {C : List Cell} {a : Addr} {xs : List V} (h : Seq G C a xs) (w : WF G C H) : LenV K (.ref a) H xs.length := by
  rcases h with h | h
  · exact .inl ⟨_, SqL.of (h.at w), rfl⟩
  · exact .inr ⟨_, SqT.of (h.at w), rfl⟩
theorem rListA.seq {K : PySem.W.Frag} {G H : Hp} {C : List Cell} {a : Addr} {xs : List V} {Q : VK} (h : Seq G C a xs) (w : WF G C H) (q : ∀ l, H l = none → Q (.ref l) (upd H l (.lst xs))) : rListA K [.ref a] H Q := by
  unfold rListA
  exact .inl ⟨_, _, rfl, h.sq w, q⟩
theorem rListA.sq {K : PySem.W.Frag} {H : Hp} {a : Addr} {xs : List V} {Q : VK} (h : SqL K H a xs ∨ SqT K H a xs) (q : ∀ l, H l = none → Q (.ref l) (upd H l (.lst xs))) : rListA K [.ref a] H Q := by
  unfold rListA
  exact .inl ⟨_, _, rfl, h, q⟩
theorem lenA {K : PySem.W.Frag} {G H : Hp} {C : List Cell} {a : Addr} {xs : List V} {Q : VK} (h : Seq G C a xs) (w : WF G C H) (q : Q (.int xs.length) H) : rLenA K [.ref a] H Q := rLenA.v (h.len w) q
/-- a list (true) or a tuple (false) that can be read -/
def SqK (k : Bool) (K : PySem.W.Frag) (H : Hp) (a : Addr) (xs : List V) : Prop := if k = true then SqL K H a xs else SqT K H a xs
theorem Seq.kind {G : Hp} {C : List Cell} {a : Addr} {xs : List V} (h : Seq G C a xs) : ∃ k, ∀ K H, WF G C H → SqK k K H a xs := by
  rcases h with h | h
  · exact ⟨true, fun K H w => by unfold SqK; rw [if_pos rfl]; exact SqL.of (h.at w)⟩
  · exact ⟨false, fun K H w => by unfold SqK; rw [if_neg (by decide)]; exact SqT.of (h.at w)⟩
theorem SqK.lst {K : PySem.W.Frag} {H : Hp} {a : Addr} {xs : List V} (h : H a = some (.lst xs)) : SqK true K H a xs := by
  unfold SqK
  rw [if_pos rfl]
  exact SqL.of h
theorem SqK.tup {K : PySem.W.Frag} {H : Hp} {a : Addr} {xs : List V} (h : H a = some (.tup xs)) : SqK false K H a xs := by
  unfold SqK
  rw [if_neg (by decide)]
  exact SqT.of h
/-- a loop over a list or a tuple -/
theorem for_seq {K : PySem.W.Frag} {a : Addr} {xs : List V} {tl : TE} {g : TG} {tb : TS} {D : Ends} {σ : L2.St} {H H1 : Hp} {k : Bool} (htl : ∀ R : VK, R (.ref a) H1 → tl σ H R) (hk : SqK k K H1 a xs) (Pv : Nat → L2.St → Hp → Prop) (h0 : Pv 0 σ H1)
    (hl : ∀ i σ H', i ≤ xs.length → Pv i σ H' → SqK k K H' a xs)
    (hs : ∀ i x σ H, xs[i]? = some x → Pv i σ H → g x σ H fun σ2 H2 => tb { D with nx := Pv (i + 1), ct := Pv (i + 1), bk := D.nx } σ2 H2) (hd : ∀ σ H, Pv xs.length σ H → D.nx σ H) :
    tFor (iSeq K tl) g tb D σ H := by
  cases k with
  | true => exact .inl (htl _ ⟨a, rfl, ⟨_, hk⟩, for_list (K := K) (a := a) (xs := xs) Pv h0 (fun i σ H' hi p => hl i σ H' hi p) hs hd⟩)
  | false => exact .inr (htl _ ⟨a, rfl, ⟨_, hk⟩, for_tup (K := K) (a := a) (xs := xs) Pv h0 (fun i σ H' hi p => hl i σ H' hi p) hs hd⟩)
/-- a comprehension over a list or a tuple -/
theorem lc_seq {K : PySem.W.Frag} {a : Addr} {xs : List V} {tl : TE} {g : TG} {tt : TT} {te : TE} {vs : List Nat} {σ : L2.St} {H H1 : Hp} {Q : VK} {k : Bool} (htl : ∀ R : VK, R (.ref a) H1 → tl σ H R) (hk : SqK k K H1 a xs)
    (go : ∀ D, H1 D = none → ∃ Pv : Nat → Hp → Prop, Pv 0 (upd H1 D (.lst [])) ∧ (∀ i H', i ≤ xs.length → Pv i H' → SqK k K H' a xs) ∧
      (∀ i x H', xs[i]? = some x → Pv i H' → g x (wipe σ vs) H' fun σ2 H2 => wipe σ2 vs = wipe σ vs ∧ tt σ2 H2 fun b H3 =>
        if b = true then te σ2 H3 fun y H4 => ∃ acc, H4 D = some (.lst acc) ∧ acc.length < sizeLine ∧ Pv (i + 1) (upd H4 D (.lst (acc ++ [y]))) else Pv (i + 1) H3) ∧ ∀ H', Pv xs.length H' → Q (.ref D) H') :
    tLc (iSeq K tl) g tt te vs σ H Q := by
  cases k with
  | true => exact .inl (htl _ ⟨a, rfl, ⟨_, hk⟩, fun D nD => by
      obtain ⟨Pv, h0, hl, hs, hd⟩ := go D nD
      exact lc_list (K := K) (a := a) (xs := xs) Pv h0 hl hs hd⟩)
  | false => exact .inr (htl _ ⟨a, rfl, ⟨_, hk⟩, fun D nD => by
      obtain ⟨Pv, h0, hl, hs, hd⟩ := go D nD
      exact lc_tup (K := K) (a := a) (xs := xs) Pv h0 hl hs hd⟩)
theorem take_more {α : Type} : ∀ {l : List α} {i : Nat} {x : α}, l[i]? = some x → l.take (i + 1) = l.take i ++ [x]
  | [], i, x, h => by simp at h
  | a :: l, 0, x, h => by
    have e : a = x := Option.some.inj h
    subst e
    rfl
  | a :: l, i + 1, x, h => by
    have ih := take_more (l := l) (i := i) (x := x) h
    show a :: l.take (i + 1) = a :: l.take i ++ [x]
    rw [ih]
    rfl
theorem sz_lt {n : Nat} (h : n ≤ 10000000) : n < sizeLine := Nat.lt_of_le_of_lt h (by decide)
theorem perm_erase {α : Type} : ∀ (l : List α) (d : Nat) (h : d < l.length), (l[d] :: l.eraseIdx d).Perm l
  | [], d, h => absurd h (Nat.not_lt_zero _)
  | x :: r, 0, _ => List.Perm.refl _
  | x :: r, d + 1, h => by
    have ih := perm_erase r d (by simpa using h)
    simp only [List.getElem_cons_succ, List.eraseIdx_cons_succ]
    exact (List.Perm.swap _ _ _).trans (ih.cons x)
/-! ### draws: promises -/
def spChance : Sp := fun vs H Q _ => ∃ (G : Hp) (st cs : Addr) (n : Nat) (C : List Cell) (m : Int), vs = [.ref st, .int m] ∧ 0 < m ∧ m < 2 ^ 60 ∧ n < 2 ^ 40 ∧ SW G st cs n C H ∧
  ∀ (b : Bool) (H' : Hp), SW G st cs (n + 1) C H' → Q (.bl b) H'
def spPick : Sp := fun vs H Q _ => ∃ (G : Hp) (st cs : Addr) (n : Nat) (C : List Cell) (a : Addr) (xs : List V), vs = [.ref st, .ref a] ∧ 0 < xs.length ∧ xs.length < 2 ^ 59 ∧ n < 2 ^ 40 ∧ SW G st cs n C H ∧ Seq G C a xs ∧
  ∀ (i : Nat) (v : V) (H' : Hp), xs[i]? = some v → SW G st cs (n + 1) C H' → Q v H'
def spMixed : Sp := fun vs H Q _ => ∃ (G : Hp) (st cs : Addr) (n : Nat) (C : List Cell) (a : Addr) (xs : List V), vs = [.ref st, .ref a] ∧ xs.length ≤ 100000 ∧ n + xs.length < 2 ^ 40 ∧ SW G st cs n C H ∧ Seq G C a xs ∧
  ∀ (ys : List V) (p : Addr) (H' : Hp), ys.Perm xs → H p = none → SW G st cs (n + xs.length) ((p, .lst ys) :: C) H' → Q (.ref p) H'
def spLot : Sp := fun vs H Q _ => ∃ (G : Hp) (st cs : Addr) (n : Nat) (C : List Cell) (a : Addr) (xs : List V) (m : Int), vs = [.ref st, .ref a, .int m] ∧ 0 < m ∧ m < 2 ^ 60 ∧ xs.length ≤ 100000 ∧ n + xs.length < 2 ^ 40 ∧ SW G st cs n C H ∧ Seq G C a xs ∧
  ∀ (ys : List V) (p : Addr) (H' : Hp), ys.Sublist xs → H p = none → SW G st cs (n + xs.length) ((p, .lst ys) :: C) H' → Q (.ref p) H'
/-! ### a reading's next part -/
theorem tcb1 {r : List V → Hp → VK → Prop} {ta : TE} {σ : L2.St} {H : Hp} {Q : VK} (h : ta σ H fun x H1 => r [x] H1 Q) : tCB r (tCons ta tNil) σ H Q := h
theorem tcb2 {r : List V → Hp → VK → Prop} {ta tb : TE} {σ : L2.St} {H : Hp} {Q : VK} (h : ta σ H fun x H1 => tb σ H1 fun y H2 => r [x, y] H2 Q) : tCB r (tCons ta (tCons tb tNil)) σ H Q := h
theorem tcall1 {sp : Sp} {E : XK} {ta : TE} {σ : L2.St} {H : Hp} {Q : VK} (h : ta σ H fun x H1 => sp [x] H1 Q E) : tCall sp [] E (tCons ta tNil) σ H Q := h
theorem tcall2 {sp : Sp} {E : XK} {ta tb : TE} {σ : L2.St} {H : Hp} {Q : VK} (h : ta σ H fun x H1 => tb σ H1 fun y H2 => sp [x, y] H2 Q E) : tCall sp [] E (tCons ta (tCons tb tNil)) σ H Q := h
theorem tcall3 {sp : Sp} {E : XK} {ta tb tc : TE} {σ : L2.St} {H : Hp} {Q : VK} (h : ta σ H fun x H1 => tb σ H1 fun y H2 => tc σ H2 fun z H3 => sp [x, y, z] H3 Q E) : tCall sp [] E (tCons ta (tCons tb (tCons tc tNil))) σ H Q := h
theorem top_ {r : R2} {ta tb : TE} {σ : L2.St} {H : Hp} {Q : VK} (h : ta σ H fun x H1 => tb σ H1 fun y H2 => r x y H2 Q) : tOp r ta tb σ H Q := h
theorem tseq {t u : TS} {D : Ends} {σ : L2.St} {H : Hp} (h : t { D with nx := u D } σ H) : tSeq t u D σ H := h
theorem tasg {te : TE} {g : TG} {D : Ends} {σ : L2.St} {H : Hp} (h : te σ H fun x H1 => g x σ H1 D.nx) : tAsg te g D σ H := h
theorem tret {te : TE} {D : Ends} {σ : L2.St} {H : Hp} (h : te σ H D.rt) : tRet te D σ H := h
theorem tnext {n : L2.St → Hp → Prop} {r : VK} {b c : L2.St → Hp → Prop} {σ : L2.St} {H : Hp} (h : n σ H) : tNext ⟨n, r, b, c⟩ σ H := h
theorem tnx {n : L2.St → Hp → Prop} {r : VK} {b c : L2.St → Hp → Prop} {σ : L2.St} {H : Hp} (h : n σ H) : (Ends.mk n r b c).nx σ H := h
end Lr

/-! # Data in the heap, and trees of one's own -/
namespace Lr
open PySem PySem.Spec PyProof.Rows L2
def kD : Key → PyData
  | .inl i => .int i
  | .inr x => .str x
mutual
/-- d is read at v -/
inductive Rep (H : Hp) : PyData → V → Prop
  | non : Rep H .none .non
  | bl (b : Bool) : Rep H (.bool b) (.bl b)
  | int (i : Int) : Rep H (.int i) (.int i)
  | str (x : Str) : Rep H (.str x) (.str x)
  | lst {a : Addr} {vs : List V} {ds : List PyData} : H a = some (.lst vs) → Reps H ds vs → Rep H (.list ds) (.ref a)
  | tup {a : Addr} {vs : List V} {ds : List PyData} : H a = some (.tup vs) → Reps H ds vs → Rep H (.tuple ds) (.ref a)
  | dic {a : Addr} {kvs : List (Key × V)} {es : List (PyData × PyData)} : H a = some (.dK kvs) → RepK H es kvs → Rep H (.dict es) (.ref a)
inductive Reps (H : Hp) : List PyData → List V → Prop
  | nil : Reps H [] []
  | cons {d : PyData} {ds : List PyData} {v : V} {vs : List V} : Rep H d v → Reps H ds vs → Reps H (d :: ds) (v :: vs)
inductive RepK (H : Hp) : List (PyData × PyData) → List (Key × V) → Prop
  | nil : RepK H [] []
  | cons {k : Key} {d : PyData} {es : List (PyData × PyData)} {v : V} {kvs : List (Key × V)} : Rep H d v → RepK H es kvs → RepK H ((kD k, d) :: es) ((k, v) :: kvs)
end
mutual
theorem Rep.mono {H H' : Hp} (s : Same H H') : ∀ {d : PyData} {v : V}, Rep H d v → Rep H' d v
  | _, _, .non => .non
  | _, _, .bl b => .bl b
  | _, _, .int i => .int i
  | _, _, .str x => .str x
  | _, _, .lst h r => .lst (s _ _ h) (Reps.mono s r)
  | _, _, .tup h r => .tup (s _ _ h) (Reps.mono s r)
  | _, _, .dic h r => .dic (s _ _ h) (RepK.mono s r)
theorem Reps.mono {H H' : Hp} (s : Same H H') : ∀ {ds : List PyData} {vs : List V}, Reps H ds vs → Reps H' ds vs
  | _, _, .nil => .nil
  | _, _, .cons r t => .cons (Rep.mono s r) (Reps.mono s t)
theorem RepK.mono {H H' : Hp} (s : Same H H') : ∀ {es : List (PyData × PyData)} {kvs : List (Key × V)}, RepK H es kvs → RepK H' es kvs
  | _, _, .nil => .nil
  | _, _, .cons r t => .cons (Rep.mono s r) (RepK.mono s t)
end
theorem Reps.length {H : Hp} : ∀ {ds : List PyData} {vs : List V}, Reps H ds vs → ds.length = vs.length
  | _, _, .nil => rfl
  | _, _, .cons _ t => by
    rw [List.length_cons, List.length_cons, t.length]
theorem Reps.get {H : Hp} : ∀ {ds : List PyData} {vs : List V} {i : Nat} {v : V}, Reps H ds vs → vs[i]? = some v → ∃ d, ds[i]? = some d ∧ Rep H d v
  | _, _, _, _, .nil, e => by simp at e
  | _, _, 0, _, .cons r _, e => by
    simp at e
    subst e
    exact ⟨_, rfl, r⟩
  | _, _, i + 1, v, .cons _ t, e => by
    obtain ⟨d, h1, h2⟩ := t.get (i := i) (v := v) (by simpa using e)
    exact ⟨d, by simpa using h1, h2⟩
theorem Reps.app {H : Hp} : ∀ {ds es : List PyData} {vs us : List V}, Reps H ds vs → Reps H es us → Reps H (ds ++ es) (vs ++ us)
  | _, _, _, _, .nil, s => s
  | _, _, _, _, .cons r t, s => .cons r (t.app s)
theorem Reps.strs (H : Hp) : ∀ xs : List Str, Reps H (xs.map PyData.str) (xs.map V.str)
  | [] => .nil
  | x :: r => .cons (.str x) (Reps.strs H r)
theorem Reps.ints (H : Hp) : ∀ xs : List Int, Reps H (xs.map PyData.int) (xs.map V.int)
  | [] => .nil
  | x :: r => .cons (.int x) (Reps.ints H r)
/-- of what class a thing is -/
def tyD : PyData → String
  | .none => "NoneType"
  | .bool _ => "bool"
  | .int _ => "int"
  | .str _ => "str"
  | .list _ => "list"
  | .tuple _ => "tuple"
  | .dict _ => "dict"
theorem Rep.ty {K : PySem.W.Frag} {H : Hp} {d : PyData} {v : V} (r : Rep H d v) : TyX K H v (.type (tyD d)) := by
  cases r with
  | non => exact .base .non
  | bl b => exact .base (.bl b)
  | int i => exact .base (.int i)
  | str x => exact .base (.str x)
  | lst h _ => exact .base (.lst h)
  | tup h _ => exact .base (.tup h)
  | dic h _ => exact .base (.dK h)
/-- isinstance of a built-in class -/
abbrev TyD (H : Hp) (d : PyData) (v : V) : Prop := ∀ K : PySem.W.Frag, TyX K H v (.type (tyD d))
theorem Rep.tyd {H : Hp} {d : PyData} {v : V} (r : Rep H d v) : TyD H d v := fun K => r.ty
theorem isiT {K : PySem.W.Frag} {H : Hp} {d : PyData} {v : V} {T : String} {b : Bool} {Q : VK} (r : TyD H d v) (h : kitB (tyD d) T = some b) (q : Q (.bl b) H) : rIsiA K [v, .ty T] H Q := by
  unfold rIsiA
  exact .inl ⟨_, _, _, _, b, rfl, .ty T, r K, kit_ty h, q⟩
theorem Rep.ty_lst {H : Hp} {a : Addr} {vs : List V} (h : H a = some (.lst vs)) : TyD H (.list []) (.ref a) := fun K => .base (.lst h)
theorem Rep.ty_tup {H : Hp} {a : Addr} {vs : List V} (h : H a = some (.tup vs)) : TyD H (.tuple []) (.ref a) := fun K => .base (.tup h)
theorem Rep.ty_dic {H : Hp} {a : Addr} {kvs : List (Key × V)} (h : H a = some (.dK kvs)) : TyD H (.dict []) (.ref a) := fun K => .base (.dK h)
theorem isiD {K : PySem.W.Frag} {H : Hp} {d : PyData} {v : V} {T : String} {b : Bool} {Q : VK} (r : Rep H d v) (h : kitB (tyD d) T = some b) (q : Q (.bl b) H) : rIsiA K [v, .ty T] H Q := by
  unfold rIsiA
  exact .inl ⟨_, _, _, _, b, rfl, .ty T, r.ty, kit_ty h, q⟩
/-- .. of two -/
def kitB2 (a b c : String) : Option Bool := match kitB a b, kitB a c with
  | some true, _ => some true
  | some false, some r => some r
  | _, _ => none
theorem isiD2 {K : PySem.W.Frag} {H : Hp} {d : PyData} {v : V} {T U : String} {b : Bool} {p : Addr} {Q : VK} (hp : H p = some (.tup [.ty T, .ty U])) (r : Rep H d v) (h : kitB2 (tyD d) T U = some b) (q : Q (.bl b) H) : rIsiA K [v, .ref p] H Q := by
  unfold rIsiA
  refine .inr ⟨_, _, _, _, [.type T, .type U], b, rfl, hp, .cons (.ty T) (.cons (.ty U) .nil), r.ty, ?_, q⟩
  unfold kitB2 at h
  cases e1 : kitB (tyD d) T with
  | none => rw [e1] at h; cases h
  | some x =>
    rw [e1] at h
    cases x with
    | true =>
      have : b = true := by injection h with h; exact h.symm
      subst this
      exact kitAny_cons (kit_ty e1) (fun z => nomatch z) (fun _ => rfl)
    | false =>
      cases e2 : kitB (tyD d) U with
      | none => rw [e2] at h; cases h
      | some y =>
        rw [e2] at h
        have : b = y := by injection h with h; exact h.symm
        subst this
        refine kitAny_cons (kit_ty e1) (fun _ => kitAny_cons (kit_ty e2) (fun e => ?_) (fun e => e)) (fun z => nomatch z)
        subst e
        rfl
theorem isiT2 {K : PySem.W.Frag} {H : Hp} {d : PyData} {v : V} {T U : String} {b : Bool} {p : Addr} {Q : VK} (hp : H p = some (.tup [.ty T, .ty U])) (r : TyD H d v) (h : kitB2 (tyD d) T U = some b) (q : Q (.bl b) H) : rIsiA K [v, .ref p] H Q := by
  unfold rIsiA
  refine .inr ⟨_, _, _, _, [.type T, .type U], b, rfl, hp, .cons (.ty T) (.cons (.ty U) .nil), r K, ?_, q⟩
  unfold kitB2 at h
  cases e1 : kitB (tyD d) T with
  | none => rw [e1] at h; cases h
  | some x =>
    rw [e1] at h
    cases x with
    | true =>
      have : b = true := by injection h with h; exact h.symm
      subst this
      exact kitAny_cons (kit_ty e1) (fun z => nomatch z) (fun _ => rfl)
    | false =>
      cases e2 : kitB (tyD d) U with
      | none => rw [e2] at h; cases h
      | some y =>
        rw [e2] at h
        have : b = y := by injection h with h; exact h.symm
        subst this
        refine kitAny_cons (kit_ty e1) (fun _ => kitAny_cons (kit_ty e2) (fun e => ?_) (fun e => e)) (fun z => nomatch z)
        subst e
        rfl
theorem seqTys : ∀ d : PyData, kitB2 (tyD d) "list" "tuple" = some (match d with | .list _ => true | .tuple _ => true | _ => false)
  | .none => (by decide +kernel : kitB2 "NoneType" "list" "tuple" = some false)
  | .bool _ => (by decide +kernel : kitB2 "bool" "list" "tuple" = some false)
  | .int _ => (by decide +kernel : kitB2 "int" "list" "tuple" = some false)
  | .str _ => (by decide +kernel : kitB2 "str" "list" "tuple" = some false)
  | .list _ => (by decide +kernel : kitB2 "list" "list" "tuple" = some true)
  | .tuple _ => (by decide +kernel : kitB2 "tuple" "list" "tuple" = some true)
  | .dict _ => (by decide +kernel : kitB2 "dict" "list" "tuple" = some false)
theorem lstTy : ∀ d : PyData, kitB (tyD d) "list" = some (match d with | .list _ => true | _ => false)
  | .none => (by decide +kernel : kitB "NoneType" "list" = some false)
  | .bool _ => (by decide +kernel : kitB "bool" "list" = some false)
  | .int _ => (by decide +kernel : kitB "int" "list" = some false)
  | .str _ => (by decide +kernel : kitB "str" "list" = some false)
  | .list _ => (by decide +kernel : kitB "list" "list" = some true)
  | .tuple _ => (by decide +kernel : kitB "tuple" "list" = some false)
  | .dict _ => (by decide +kernel : kitB "dict" "list" = some false)
theorem tupTy : ∀ d : PyData, kitB (tyD d) "tuple" = some (match d with | .tuple _ => true | _ => false)
  | .none => (by decide +kernel : kitB "NoneType" "tuple" = some false)
  | .bool _ => (by decide +kernel : kitB "bool" "tuple" = some false)
  | .int _ => (by decide +kernel : kitB "int" "tuple" = some false)
  | .str _ => (by decide +kernel : kitB "str" "tuple" = some false)
  | .list _ => (by decide +kernel : kitB "list" "tuple" = some false)
  | .tuple _ => (by decide +kernel : kitB "tuple" "tuple" = some true)
  | .dict _ => (by decide +kernel : kitB "dict" "tuple" = some false)
theorem dicTy : ∀ d : PyData, kitB (tyD d) "dict" = some (match d with | .dict _ => true | _ => false)
  | .none => (by decide +kernel : kitB "NoneType" "dict" = some false)
  | .bool _ => (by decide +kernel : kitB "bool" "dict" = some false)
  | .int _ => (by decide +kernel : kitB "int" "dict" = some false)
  | .str _ => (by decide +kernel : kitB "str" "dict" = some false)
  | .list _ => (by decide +kernel : kitB "list" "dict" = some false)
  | .tuple _ => (by decide +kernel : kitB "tuple" "dict" = some false)
  | .dict _ => (by decide +kernel : kitB "dict" "dict" = some true)
theorem intTy : ∀ d : PyData, kitB (tyD d) "int" = some (match d with | .bool _ => true | .int _ => true | _ => false)
  | .none => (by decide +kernel : kitB "NoneType" "int" = some false)
  | .bool _ => (by decide +kernel : kitB "bool" "int" = some true)
  | .int _ => (by decide +kernel : kitB "int" "int" = some true)
  | .str _ => (by decide +kernel : kitB "str" "int" = some false)
  | .list _ => (by decide +kernel : kitB "list" "int" = some false)
  | .tuple _ => (by decide +kernel : kitB "tuple" "int" = some false)
  | .dict _ => (by decide +kernel : kitB "dict" "int" = some false)
theorem boolTy : ∀ d : PyData, kitB (tyD d) "bool" = some (match d with | .bool _ => true | _ => false)
  | .none => (by decide +kernel : kitB "NoneType" "bool" = some false)
  | .bool _ => (by decide +kernel : kitB "bool" "bool" = some true)
  | .int _ => (by decide +kernel : kitB "int" "bool" = some false)
  | .str _ => (by decide +kernel : kitB "str" "bool" = some false)
  | .list _ => (by decide +kernel : kitB "list" "bool" = some false)
  | .tuple _ => (by decide +kernel : kitB "tuple" "bool" = some false)
  | .dict _ => (by decide +kernel : kitB "dict" "bool" = some false)
theorem strTy : ∀ d : PyData, kitB (tyD d) "str" = some (match d with | .str _ => true | _ => false)
  | .none => (by decide +kernel : kitB "NoneType" "str" = some false)
  | .bool _ => (by decide +kernel : kitB "bool" "str" = some false)
  | .int _ => (by decide +kernel : kitB "int" "str" = some false)
  | .str _ => (by decide +kernel : kitB "str" "str" = some true)
  | .list _ => (by decide +kernel : kitB "list" "str" = some false)
  | .tuple _ => (by decide +kernel : kitB "tuple" "str" = some false)
  | .dict _ => (by decide +kernel : kitB "dict" "str" = some false)
end Lr

/-! # list.count of a text; zip walked in a comprehension -/
namespace Lr
open PySem PySem.Spec PyProof.Rows L2 RZ
/-- a thing that a text can be compared with -/
def CmpS (H : Hp) : V → Prop
  | .non => True
  | .bl _ => True
  | .int _ => True
  | .str _ => True
  | .ref a => (∃ xs, H a = some (.lst xs)) ∨ ∃ xs, H a = some (.tup xs)
  | _ => False
def eqS (k : Str) : Value → Bool
  | .str x _ => x == k
  | _ => false
def isS (k : Str) : V → Bool
  | .str x => x == k
  | _ => false
theorem eqS_at {X : Cx} {pins : List (Addr × Obj)} {σ : L2.St} {H : Hp} {s : Shared} {A : Around} (I : Inv X pins σ H s) (hu : A.units < cLine) (k : Str) (t : Tok) {v : V} {y : Value} (hv : CmpS H v) (r : RelV v y) : SeqAt.EqAt A s y (.str k t) (eqS k y) ∧ eqS k y = isS k v := by
  cases v with
  | non => cases (show y = Value.none from r); exact ⟨SeqAt.EqAt.none_str k t, rfl⟩
  | bl b => cases (show y = Value.bool b from r); exact ⟨SeqAt.EqAt.bool_str b k t, rfl⟩
  | int i =>
    obtain ⟨u, e⟩ := (show ∃ t, y = Value.int i t from r)
    subst e
    exact ⟨SeqAt.EqAt.int_str i u k t, rfl⟩
  | str x =>
    obtain ⟨u, e⟩ := (show ∃ t, y = Value.str x t from r)
    subst e
    exact ⟨SeqAt.EqAt.str_str x u k t, rfl⟩
  | ref a =>
    cases (show y = Value.ref a from r)
    rcases hv with ⟨xs, h⟩ | ⟨xs, h⟩
    · obtain ⟨its, _, ⟨o, n, h1, h2, h3, h4⟩, _⟩ := I.list (SqL.of (K := X.K) h)
      exact ⟨SeqAt.EqAt.list_str (items := its.toArray) k t ⟨o, h1, h2, n, h4⟩ hu, rfl⟩
    · obtain ⟨its, _, hl, _⟩ := I.tuple (SqT.of (K := X.K) h)
      exact ⟨SeqAt.EqAt.tuple_str k t hl hu, rfl⟩
  | byt _ => exact hv.elim
  | flt _ => exact hv.elim
  | ty _ => exact hv.elim
def rCntS (K : PySem.W.Frag) : V → List V → Hp → VK → Prop := fun x xs H Q => ∃ (p : Addr) (vs : List V) (k : Str), x = .ref p ∧ xs = [.str k] ∧ SqL K H p vs ∧ (∀ v ∈ vs, CmpS H v) ∧ Q (.int (vs.countP (isS k) : Nat)) H
theorem mt_countS {X : Cx} {K : PySem.W.Frag} (hu : X.A.units + 64 < cLine) (hK : X.K = K := by rfl) : MtR X "list.count" (rCntS K) := by
  subst hK
  intro pins s σ H x xs v us Q I rx rxs h
  obtain ⟨p, vs, k, rfl, rfl, hs, hc, q⟩ := h
  cases rx
  obtain ⟨u, rfl, ru⟩ := rxs.one
  obtain ⟨t, rfl⟩ := ru
  obtain ⟨its, rv, ⟨⟨cls, dd, data, sl⟩, n, ho, hc1, hdn, hd⟩, hlen⟩ := I.list hs
  simp only at hc1 hd
  subst hc1 hd
  have key : ∀ (vs : List V) (us : List Value), Vals vs us → (∀ v ∈ vs, CmpS H v) → (∀ y ∈ us, SeqAt.EqAt X.A.in1 s y (.str k t) (eqS k y)) ∧ us.countP (eqS k) = vs.countP (isS k) := by
    intro vs
    induction vs with
    | nil =>
      intro us r _
      cases r
      exact ⟨fun y hy => (by cases hy), rfl⟩
    | cons v vs ih =>
      intro us r hc
      cases r with
      | cons r rr =>
        rename_i y us
        obtain ⟨i1, i2⟩ := ih us rr fun v hv => hc v (List.mem_cons_of_mem _ hv)
        obtain ⟨j1, j2⟩ := eqS_at (A := X.A.in1) I (by show X.A.units + 1 < cLine; omega) k t (hc _ List.mem_cons_self) r
        refine ⟨fun z hz => ?_, ?_⟩
        · rcases List.mem_cons.mp hz with rfl | hz
          · exact j1
          · exact i1 z hz
        · rw [List.countP_cons, List.countP_cons, i2, j2]
  obtain ⟨k1, k2⟩ := key vs its rv hc
  refine call_meets PySem.F.slot_list_count ⟨_, ho, rfl⟩ PySem.F.entry_list_count (PySem.F.args_list_count_2 _ _)
    (SeqAt.list_countAt p its.toArray n dd sl (.str k t) (eqS k)) ⟨ho, fun y hy => k1 y (by simpa using hy), ?_⟩
  refine ⟨.int (vs.countP (isS k) : Nat), H, I.tok _, ⟨s.toks, ?_⟩, q⟩
  show Value.int ((its.toArray.toList.countP (eqS k) : Nat) : Int) s.toks = Value.int ((vs.countP (isS k) : Nat) : Int) s.toks
  rw [show its.toArray.toList.countP (eqS k) = vs.countP (isS k) from k2]
/-- a comprehension over zip of two lists or of two tuples, of one length -/
theorem lc_zip {K : PySem.W.Frag} {a b : Addr} {xs ys : List V} {ta : TA} {g : TG} {tt : TT} {te : TE} {vs : List Nat} {σ : L2.St} {H : Hp} {Q : VK} {k : Bool} (hta : ∀ R : List V → Hp → Prop, R [.ref a, .ref b] H → ta σ H R) (hl : xs.length = ys.length) (hx : SqK k K H a xs) (hy : SqK k K H b ys)
    (go : ∀ D, H D = none → ∃ Pv : Nat → Hp → Prop, Pv 0 (upd H D (.lst [])) ∧ (∀ i H', i ≤ xs.length → Pv i H' → SqK k K H' a xs ∧ SqK k K H' b ys) ∧
      (∀ i x y T H', xs[i]? = some x → ys[i]? = some y → Pv i H' → H' T = none → g (.ref T) (wipe σ vs) (upd H' T (.tup [x, y])) fun σ2 H2 => wipe σ2 vs = wipe σ vs ∧ tt σ2 H2 fun b H3 =>
        if b = true then te σ2 H3 fun y H4 => ∃ acc, H4 D = some (.lst acc) ∧ acc.length < sizeLine ∧ Pv (i + 1) (upd H4 D (.lst (acc ++ [y]))) else Pv (i + 1) H3) ∧ ∀ H', Pv xs.length H' → Q (.ref D) H') :
    tLc (iZipA K ta) g tt te vs σ H Q := by
  refine hta _ ⟨a, b, xs, ys, rfl, ?_⟩
  have main : ∀ (J : It), (∀ i H', SqK k K H' a xs → SqK k K H' b ys → i < xs.length → J.go i H') → (∀ i H', SqK k K H' a xs → SqK k K H' b ys → i = xs.length → J.stop i H') →
      (∀ i H' v H'', SqK k K H' a xs → SqK k K H' b ys → J.yld i H' v H'' → ∃ T x y, v = .ref T ∧ H' T = none ∧ H'' = upd H' T (.tup [x, y]) ∧ xs[i]? = some x ∧ ys[i]? = some y) →
      ∀ D, H D = none → ∃ W : Nat → Nat → Hp → Prop, (∃ m, W 0 m (upd H D (.lst []))) ∧ ∀ i m H, W i m H →
        (J.stop i H ∧ Q (.ref D) H) ∨ (J.go i H ∧ ∃ Nx : Hp → Prop, (∀ H', Nx H' → ∃ m', m' < m ∧ W (i + 1) m' H') ∧ ∀ x H', J.yld i H x H' → g x (wipe σ vs) H' fun σ2 H2 => wipe σ2 vs = wipe σ vs ∧ tt σ2 H2 fun b H3 =>
          if b = true then te σ2 H3 fun y H4 => ∃ acc, H4 D = some (.lst acc) ∧ acc.length < sizeLine ∧ Nx (upd H4 D (.lst (acc ++ [y]))) else Nx H3) := by
    intro J jg js jy D nD
    obtain ⟨Pv, h0, hk, hs, hd⟩ := go D nD
    refine ⟨fun i m H => m = xs.length - i ∧ i ≤ xs.length ∧ Pv i H, ⟨xs.length, by simp, Nat.zero_le _, h0⟩, ?_⟩
    rintro i m H ⟨rfl, hi, p⟩
    obtain ⟨q1, q2⟩ := hk i H hi p
    by_cases hlt : i < xs.length
    · refine .inr ⟨jg i H q1 q2 hlt, Pv (i + 1), fun H' p' => ⟨xs.length - (i + 1), by omega, rfl, hlt, p'⟩, fun v H' hv => ?_⟩
      obtain ⟨T, x, y, rfl, nT, rfl, ex, ey⟩ := jy i H v H' q1 q2 hv
      exact hs i x y T H ex ey p nT
    · have e : i = xs.length := by omega
      subst e
      exact .inl ⟨js _ H q1 q2 rfl, hd H p⟩
  cases k with
  | true =>
    refine .inl ⟨hx, hy, main _ (fun i H' q1 q2 hi => ⟨xs, ys, xs[i], ys[i]'(by omega), q1, q2, List.getElem?_eq_getElem hi, List.getElem?_eq_getElem _⟩) (fun i H' q1 q2 hi => ⟨xs, ys, q1, q2, .inl (by omega)⟩) ?_⟩
    rintro i H' v H'' q1 q2 ⟨T, x, y, rfl, nT, rfl, e1, e2⟩
    exact ⟨T, x, y, rfl, nT, rfl, e1 xs q1, e2 ys q2⟩
  | false =>
    refine .inr ⟨hx, hy, main _ (fun i H' q1 q2 hi => ⟨xs, ys, xs[i], ys[i]'(by omega), q1, q2, List.getElem?_eq_getElem hi, List.getElem?_eq_getElem _⟩) (fun i H' q1 q2 hi => ⟨xs, ys, q1, q2, .inl (by omega)⟩) ?_⟩
    rintro i H' v H'' q1 q2 ⟨T, x, y, rfl, nT, rfl, e1, e2⟩
    exact ⟨T, x, y, rfl, nT, rfl, e1 xs q1, e2 ys q2⟩
theorem xzip {X : Cx} {K : PySem.W.Frag} {e e2 : Expr} {ta : TA} {p pos tpos : Pos} {elts : List Expr} {kk : Nat} (hg : Gl X "zip") (hm : X.mg "zip" = none) (ha : PA X [e, e2] ta) (hK : X.K = K := by rfl)
    (hs : starEach [e, e2] X.env = (false, eval e X.env) :: starEach [e2] X.env := by rfl) (hpl : (backTo pos (starEach [e2] X.env)).any (·.1) = false := by rfl) :
    PI X (.Tuple elts kk tpos) (.Call (.Name "zip" p) [e, e2] [] pos) (iZipA K ta) := by
  subst hK
  exact pi_zipA hg hm ha hs hpl
theorem cr_all1 {K : PySem.W.Frag} {H : Hp} {a : Addr} {n : Nat} {Q : VK} (h : H a = some (.lst (List.replicate n (.bl true)))) (q : Q (.bl true) H) : rAll K [.ref a] H Q := by
  refine ⟨a, List.replicate n true, rfl, ?_, ?_⟩
  · rw [List.map_replicate]
    exact SqL.of h
  · have e : (List.replicate n true).all id = true := by
      rw [List.all_eq_true]
      intro b hb
      exact (List.mem_replicate.mp hb).2
    rw [e]
    exact q
end Lr

/-! # Trees of one's own cells -/
namespace Lr
open PySem PySem.Spec PyProof.Rows L2
/-- a thing with its places: a scalar, a list, a tuple, a dict -/
inductive T where
  | leaf (v : V)
  | lst (a : Addr) (ts : List T)
  | tup (a : Addr) (ts : List T)
  | dic (a : Addr) (ks : List (Key × T))
def T.val : T → V
  | .leaf v => v
  | .lst a _ => .ref a
  | .tup a _ => .ref a
  | .dic a _ => .ref a
abbrev vals (ts : List T) : List V := ts.map T.val
abbrev valsK (ks : List (Key × T)) : List (Key × V) := ks.map fun p => (p.1, p.2.val)
def scal1 : V → Prop
  | .non | .bl _ | .int _ | .str _ => True
  | _ => False
def scalD : V → PyData
  | .bl b => .bool b
  | .int i => .int i
  | .str x => .str x
  | _ => .none
abbrev LATE : Str := "LATE"
mutual
def T.cells : T → List Cell
  | .leaf _ => []
  | .lst a ts => (a, .lst (vals ts)) :: cellsL ts
  | .tup _ ts => cellsL ts
  | .dic a ks => (a, .dK (valsK ks)) :: cellsK ks
def cellsL : List T → List Cell
  | [] => []
  | t :: ts => t.cells ++ cellsL ts
def cellsK : List (Key × T) → List Cell
  | [] => []
  | p :: ks => p.2.cells ++ cellsK ks
end
mutual
def T.Ok (G : Hp) : T → Prop
  | .leaf v => scal1 v
  | .lst _ ts => OkL G ts
  | .tup a ts => G a = some (.tup (vals ts)) ∧ OkL G ts
  | .dic _ ks => (ks.map (·.1)).Nodup ∧ (∀ p ∈ ks, p.1 ≠ Sum.inr LATE) ∧ OkK G ks
def OkL (G : Hp) : List T → Prop
  | [] => True
  | t :: ts => t.Ok G ∧ OkL G ts
def OkK (G : Hp) : List (Key × T) → Prop
  | [] => True
  | p :: ks => p.2.Ok G ∧ OkK G ks
end
mutual
def T.data : T → PyData
  | .leaf v => scalD v
  | .lst _ ts => .list (dataL ts)
  | .tup _ ts => .tuple (dataL ts)
  | .dic _ ks => .dict (dataK ks)
def dataL : List T → List PyData
  | [] => []
  | t :: ts => t.data :: dataL ts
def dataK : List (Key × T) → List (PyData × PyData)
  | [] => []
  | p :: ks => (kD p.1, p.2.data) :: dataK ks
end
mutual
def T.dep : T → Nat
  | .leaf _ => 0
  | .lst _ ts => depL ts + 1
  | .tup _ ts => depL ts + 1
  | .dic _ ks => depK ks + 1
def depL : List T → Nat
  | [] => 0
  | t :: ts => max t.dep (depL ts)
def depK : List (Key × T) → Nat
  | [] => 0
  | p :: ks => max p.2.dep (depK ks)
end
mutual
/-- short lists all through -/
def T.Small : T → Prop
  | .leaf _ => True
  | .lst _ ts => ts.length ≤ 100000 ∧ SmallL ts
  | .tup _ ts => ts.length ≤ 100000 ∧ SmallL ts
  | .dic _ ks => ks.length ≤ 100000 ∧ SmallK ks
def SmallL : List T → Prop
  | [] => True
  | t :: ts => t.Small ∧ SmallL ts
def SmallK : List (Key × T) → Prop
  | [] => True
  | p :: ks => p.2.Small ∧ SmallK ks
end
/-- one more "LATE" in a dict that has none -/
def lateK (ks : List (Key × T)) : List (Key × T) := ks ++ [(Sum.inr LATE, .leaf (.int 1))]
mutual
def T.spoil : T → T
  | .leaf v => .leaf v
  | .lst a ts => .lst a (spoilL ts ++ [.leaf (.str LATE)])
  | .tup a ts => .tup a (spoilL ts)
  | .dic a ks => .dic a (lateK (spoilK ks))
def spoilL : List T → List T
  | [] => []
  | t :: ts => t.spoil :: spoilL ts
def spoilK : List (Key × T) → List (Key × T)
  | [] => []
  | p :: ks => (p.1, p.2.spoil) :: spoilK ks
end
theorem T.spoil_val (t : T) : t.spoil.val = t.val := by
  cases t <;> simp [T.spoil, T.val]
theorem spoilL_vals : ∀ ts : List T, vals (spoilL ts) = vals ts
  | [] => rfl
  | t :: ts => by
    show t.spoil.val :: vals (spoilL ts) = t.val :: vals ts
    rw [T.spoil_val, spoilL_vals ts]
theorem spoilL_length : ∀ ts : List T, (spoilL ts).length = ts.length
  | [] => rfl
  | t :: ts => by simp [spoilL, spoilL_length ts]
theorem spoilL_append : ∀ a b : List T, spoilL (a ++ b) = spoilL a ++ spoilL b
  | [], _ => rfl
  | t :: ts, b => by simp [spoilL, spoilL_append ts b]
theorem cellsL_append : ∀ a b : List T, cellsL (a ++ b) = cellsL a ++ cellsL b
  | [], _ => rfl
  | t :: ts, b => by simp [cellsL, cellsL_append ts b]
theorem spoilK_keys : ∀ ks : List (Key × T), (spoilK ks).map (·.1) = ks.map (·.1)
  | [] => rfl
  | p :: ks => by simp [spoilK, spoilK_keys ks]
theorem spoilK_vals : ∀ ks : List (Key × T), valsK (spoilK ks) = valsK ks
  | [] => rfl
  | p :: ks => by
    show (p.1, p.2.spoil.val) :: valsK (spoilK ks) = (p.1, p.2.val) :: valsK ks
    rw [T.spoil_val, spoilK_vals ks]
theorem spoilK_append : ∀ a b : List (Key × T), spoilK (a ++ b) = spoilK a ++ spoilK b
  | [], _ => rfl
  | t :: ts, b => by simp [spoilK, spoilK_append ts b]
theorem cellsK_append : ∀ a b : List (Key × T), cellsK (a ++ b) = cellsK a ++ cellsK b
  | [], _ => rfl
  | t :: ts, b => by simp [cellsK, cellsK_append ts b]
theorem OkK.get {G : Hp} : ∀ {ks : List (Key × T)} {i : Nat} {p : Key × T}, OkK G ks → ks[i]? = some p → p.2.Ok G
  | [], _, _, _, e => by simp at e
  | t :: ts, 0, u, h, e => by
    simp at e
    subst e
    exact h.1
  | t :: ts, i + 1, u, h, e => h.2.get (i := i) (by simpa using e)
theorem SmallK.get : ∀ {ks : List (Key × T)} {i : Nat} {p : Key × T}, SmallK ks → ks[i]? = some p → p.2.Small
  | [], _, _, _, e => by simp at e
  | t :: ts, 0, u, h, e => by
    simp at e
    subst e
    exact h.1
  | t :: ts, i + 1, u, h, e => h.2.get (i := i) (by simpa using e)
theorem depK_get : ∀ {ks : List (Key × T)} {i : Nat} {p : Key × T}, ks[i]? = some p → p.2.dep ≤ depK ks
  | [], _, _, e => by simp at e
  | t :: ts, 0, u, e => by
    simp at e
    subst e
    exact Nat.le_max_left _ _
  | t :: ts, i + 1, u, e => Nat.le_trans (depK_get (ks := ts) (i := i) (by simpa using e)) (Nat.le_max_right _ _)
theorem valK_get : ∀ {kvs : List (Key × V)} {i : Nat} {p : Key × V}, (kvs.map (·.1)).Nodup → kvs[i]? = some p → valV kvs p.1 = some p.2
  | [], _, _, _, e => by simp at e
  | q :: r, 0, p, _, e => by
    simp at e
    subst e
    exact valV_pos rfl
  | q :: r, i + 1, p, h, e => by
    have h' := List.nodup_cons.mp (show (q.1 :: r.map (·.1)).Nodup from h)
    have e' : r[i]? = some p := by simpa using e
    have ne : ¬ q.1 = p.1 := fun z => h'.1 (by rw [z]; exact List.mem_map.mpr ⟨p, List.mem_of_getElem? e', rfl⟩)
    rw [valV_neg ne]
    exact valK_get h'.2 e'
theorem valV_none {kvs : List (Key × V)} {k : Key} (h : ∀ p ∈ kvs, p.1 ≠ k) : valV kvs k = none := by
  induction kvs with
  | nil => rfl
  | cons q r ih =>
    rw [valV_neg (h q List.mem_cons_self)]
    exact ih fun p hp => h p (List.mem_cons_of_mem _ hp)
theorem putK_new {kvs : List (Key × V)} {k : Key} {v : V} (h : ∀ p ∈ kvs, p.1 ≠ k) : putK kvs k v = kvs ++ [(k, v)] := by
  unfold putK
  have e : (kvs.any fun kv => decide (kv.1 = k)) = false := by
    rw [List.any_eq_false]
    intro p hp
    simpa using h p hp
  rw [e]
  rfl
theorem OkL.get {G : Hp} : ∀ {ts : List T} {i : Nat} {t : T}, OkL G ts → ts[i]? = some t → t.Ok G
  | [], _, _, _, e => by simp at e
  | t :: ts, 0, u, h, e => by
    simp at e
    subst e
    exact h.1
  | t :: ts, i + 1, u, h, e => h.2.get (i := i) (by simpa using e)
theorem SmallL.get : ∀ {ts : List T} {i : Nat} {t : T}, SmallL ts → ts[i]? = some t → t.Small
  | [], _, _, _, e => by simp at e
  | t :: ts, 0, u, h, e => by
    simp at e
    subst e
    exact h.1
  | t :: ts, i + 1, u, h, e => h.2.get (i := i) (by simpa using e)
theorem depL_get : ∀ {ts : List T} {i : Nat} {t : T}, ts[i]? = some t → t.dep ≤ depL ts
  | [], _, _, e => by simp at e
  | t :: ts, 0, u, e => by
    simp at e
    subst e
    exact Nat.le_max_left _ _
  | t :: ts, i + 1, u, e => Nat.le_trans (depL_get (ts := ts) (i := i) (by simpa using e)) (Nat.le_max_right _ _)
mutual
theorem T.Ok.mono {G G' : Hp} (s : Same G G') : ∀ {t : T}, t.Ok G → t.Ok G'
  | .leaf _, h => h
  | .lst _ ts, h => OkL.mono s (ts := ts) h
  | .tup _ ts, h => ⟨s _ _ h.1, OkL.mono s (ts := ts) h.2⟩
  | .dic _ ks, h => ⟨h.1, h.2.1, OkK.mono s (ks := ks) h.2.2⟩
theorem OkL.mono {G G' : Hp} (s : Same G G') : ∀ {ts : List T}, OkL G ts → OkL G' ts
  | [], _ => trivial
  | t :: ts, h => ⟨T.Ok.mono s (t := t) h.1, OkL.mono s (ts := ts) h.2⟩
theorem OkK.mono {G G' : Hp} (s : Same G G') : ∀ {ks : List (Key × T)}, OkK G ks → OkK G' ks
  | [], _ => trivial
  | p :: ks, h => ⟨T.Ok.mono s (t := p.2) h.1, OkK.mono s (ks := ks) h.2⟩
end
theorem rep_leaf {H : Hp} {v : V} (h : scal1 v) : Rep H (scalD v) v := by
  cases v with
  | non => exact .non
  | bl b => exact .bl b
  | int i => exact .int i
  | str x => exact .str x
  | byt _ => exact h.elim
  | flt _ => exact h.elim
  | ref _ => exact h.elim
  | ty _ => exact h.elim
theorem OkL.app {G : Hp} : ∀ {a b : List T}, OkL G a → OkL G b → OkL G (a ++ b)
  | [], _, _, h => h
  | t :: ts, b, h, h' => ⟨h.1, OkL.app (a := ts) h.2 h'⟩
theorem OkK.app {G : Hp} : ∀ {a b : List (Key × T)}, OkK G a → OkK G b → OkK G (a ++ b)
  | [], _, _, h => h
  | t :: ts, b, h, h' => ⟨h.1, OkK.app (a := ts) h.2 h'⟩
mutual
/-- a tree is read where its cells lie -/
theorem T.rep {G H : Hp} (s : Same G H) : ∀ {t : T}, t.Ok G → (∀ c ∈ t.cells, H c.1 = some c.2) → Rep H t.data t.val
  | .leaf v, h, _ => rep_leaf h
  | .lst a ts, h, c => .lst (c (a, .lst (vals ts)) List.mem_cons_self) (repL s h fun x hx => c x (List.mem_cons_of_mem _ hx))
  | .tup a ts, h, c => .tup (s _ _ h.1) (repL s h.2 fun x hx => c x hx)
  | .dic a ks, h, c => .dic (c (a, .dK (valsK ks)) List.mem_cons_self) (repK s h.2.2 fun x hx => c x (List.mem_cons_of_mem _ hx))
theorem repL {G H : Hp} (s : Same G H) : ∀ {ts : List T}, OkL G ts → (∀ c ∈ cellsL ts, H c.1 = some c.2) → Reps H (dataL ts) (vals ts)
  | [], _, _ => .nil
  | t :: ts, h, c => .cons (T.rep s h.1 fun x hx => c x (List.mem_append_left _ hx)) (repL s h.2 fun x hx => c x (List.mem_append_right _ hx))
theorem repK {G H : Hp} (s : Same G H) : ∀ {ks : List (Key × T)}, OkK G ks → (∀ c ∈ cellsK ks, H c.1 = some c.2) → RepK H (dataK ks) (valsK ks)
  | [], _, _ => .nil
  | p :: ks, h, c => .cons (T.rep s h.1 fun x hx => c x (List.mem_append_left _ hx)) (repK s h.2 fun x hx => c x (List.mem_append_right _ hx))
end
theorem WF.rep {G H : Hp} {C : List Cell} {t : T} (w : WF G (t.cells ++ C) H) (h : t.Ok G) : Rep H t.data t.val := T.rep w.sub h fun c hc => (w.own c (List.mem_append_left _ hc)).1
theorem T.Ok.ty {G H : Hp} {t : T} (h : t.Ok G) (r : Rep H t.data t.val) : tyD t.data = (match t with | .leaf v => tyD (scalD v) | .lst _ _ => "list" | .tup _ _ => "tuple" | .dic _ _ => "dict") := by
  cases t <;> rfl
theorem app_len {A B : List Cell} : ∀ {c : Cell}, (A ++ c :: B).Perm (c :: (A ++ B)) := fun {c} => List.perm_middle
theorem permT {O A B C' D : List Cell} : (O ++ (A ++ (D ++ B) ++ C')).Perm (D ++ (O ++ (A ++ B ++ C'))) := by
  have h1 : (A ++ (D ++ B) ++ C').Perm (D ++ (A ++ B ++ C')) := by
    rw [List.append_assoc, List.append_assoc, List.append_assoc]
    exact List.perm_append_comm_assoc A D (B ++ C')
  refine (List.Perm.append_left O h1).trans ?_
  exact List.perm_append_comm_assoc O D (A ++ B ++ C')
/-- a promise that asks the impossible -/
theorem FD.none {P : Program} {w : World} {K : PySem.W.Frag} {mg : Str → Option Value} {base : Heap} {CX : CXT} {x : Str} {ps : List Str} {sp : Sp} {st : Stmt} (F : FD K mg x st ps) (h : ∀ vs H Q E, ¬ sp vs H Q E) : Okf P w K mg base CX 0 x ps sp := by
  obtain ⟨f, fd, a, b, c⟩ := F.ex
  exact ⟨f, fd, a, b.kp, c, ⟨fun vs H Q E q => (h _ _ _ _ q).elim, fun A outer s H args us vs Q E hr he hb hv hs => (h _ _ _ _ hs).elim⟩⟩
/-- _law_spoilt(thing): all lists and dicts of the tree get one "LATE" more -/
def spSpoilt (n : Nat) : Sp := fun vs H Q _ => ∃ (G : Hp) (C : List Cell) (t : T), vs = [t.val] ∧ t.Ok G ∧ t.Small ∧ t.dep < n ∧ WF G (t.cells ++ C) H ∧ ∀ H', WF G (t.spoil.cells ++ C) H' → Q .non H'
theorem loop_spoilt {K : PySem.W.Frag} {G : Hp} {C O : List Cell} {a : Addr} {ts : List T} {n : Nat} {kd : Bool} {y : Option V} {D : Ends} {z : Option V} {H : Hp}
    (hk : ∀ (M : List Cell) H', WF G (O ++ M) H' → SqK kd K H' a (vals ts)) (ok : OkL G ts) (sm : SmallL ts) (dp : depL ts < n) (W : WF G (O ++ (cellsL ts ++ C)) H)
    (k : ∀ x H', WF G (O ++ (cellsL (spoilL ts) ++ C)) H' → D.nx [some (.ref a), y, x] H') :
    tFor (iSeq K (tVar 0)) (gName 2) (tDrop (tCall (spSpoilt n) [] E0 (tCons (tVar 2) tNil))) D [some (.ref a), y, z] H := by
  refine for_seq (xs := vals ts) (k := kd) (H1 := H) (fun R r => ⟨_, rfl, r⟩) (hk _ H W) (fun i σ H' => ∃ x, σ = [some (.ref a), y, x] ∧ WF G (O ++ (cellsL (spoilL (ts.take i)) ++ cellsL (ts.drop i) ++ C)) H') ⟨z, rfl, by simpa [spoilL, cellsL] using W⟩ ?_ ?_ ?_
  · rintro i σ H' _ ⟨x, _, W'⟩
    exact hk _ H' W'
  · rintro i v σ H' hv ⟨x, rfl, W'⟩
    obtain ⟨t, ht, rfl⟩ : ∃ t, ts[i]? = some t ∧ t.val = v := by
      rw [List.getElem?_map] at hv
      cases e : ts[i]? with
      | none =>
        rw [e] at hv
        cases hv
      | some u =>
        rw [e] at hv
        exact ⟨u, rfl, Option.some.inj hv⟩
    have hi : i < ts.length := (List.getElem?_eq_some_iff.mp ht).1
    have e1 : ts.drop i = t :: ts.drop (i + 1) := by
      have := List.drop_eq_getElem_cons hi
      rw [this]
      have e := (List.getElem?_eq_some_iff.mp ht).2
      rw [e]
    rw [e1] at W'
    refine ⟨_, rfl, G, O ++ (cellsL (spoilL (ts.take i)) ++ cellsL (ts.drop (i + 1)) ++ C), t, rfl, ok.get ht, sm.get ht, Nat.lt_of_le_of_lt (depL_get ht) dp, W'.perm permT, fun H2 W2 => ⟨_, rfl, ?_⟩⟩
    have W3 := W2.perm permT.symm
    rw [take_more ht, spoilL_append, cellsL_append]
    have e2 : cellsL (spoilL [t]) = t.spoil.cells := by simp [spoilL, cellsL]
    rw [e2]
    simpa [List.append_assoc] using W3
  · rintro σ H' ⟨x, rfl, W'⟩
    refine k x H' ?_
    have e : (vals ts).length = ts.length := List.length_map _
    rw [e, List.take_length, List.drop_length] at W'
    simpa [cellsL] using W'
theorem loop_spoiltK {K : PySem.W.Frag} {G : Hp} {C : List Cell} {a : Addr} {ks : List (Key × T)} {n : Nat} {y : Option V} {D : Ends} {z : Option V} {H : Hp}
    (nd : (ks.map (·.1)).Nodup) (ok : OkK G ks) (sm : SmallK ks) (dp : depK ks < n) (W : WF G ((a, .dK (valsK ks)) :: (cellsK ks ++ C)) H)
    (k : ∀ x H', WF G ((a, .dK (valsK ks)) :: (cellsK (spoilK ks) ++ C)) H' → D.nx [some (.ref a), x, z] H') :
    tFor (iSeq K (tCB (rListA K) (tCons (tVar 0) tNil))) (gName 1) (tDrop (tCall (spSpoilt n) [] E0 (tCons (tDGet (tVar 0) (tVar 1)) tNil))) D [some (.ref a), y, z] H := by
  have start : ∀ (R : VK), (∀ q, H q = none → R (.ref q) (upd H q (.lst ((valsK ks).map fun kv => kV kv.1)))) → tCB (rListA K) (tCons (tVar 0) tNil) [some (.ref a), y, z] H R := fun R r => by
    refine ⟨_, rfl, ?_⟩
    unfold rListA
    exact .inr ⟨_, _, rfl, W.hd, r⟩
  have main : ∀ q, H q = none → ∃ W' : Nat → Nat → L2.St → Hp → Prop, (∃ m, W' 0 m [some (.ref a), y, z] (upd H q (.lst ((valsK ks).map fun kv => kV kv.1)))) ∧ ∀ i m σ H, W' i m σ H →
      ((Itl K q).stop i H ∧ D.nx σ H) ∨ ((Itl K q).go i H ∧ ∃ N : L2.St → Hp → Prop, (∀ σ' H', N σ' H' → ∃ m', m' < m ∧ W' (i + 1) m' σ' H') ∧ ∀ x H', (Itl K q).yld i H x H' → gName 1 x σ H' fun σ2 H2 => (tDrop (tCall (spSpoilt n) [] E0 (tCons (tDGet (tVar 0) (tVar 1)) tNil))) { D with nx := N, ct := N, bk := D.nx } σ2 H2) := by
    intro q nq
    have W0 := W.new (o := .lst ((valsK ks).map fun kv => kV kv.1)) nq
    refine for_list (K := K) (a := q) (xs := (valsK ks).map fun kv => kV kv.1) (fun i σ H' => ∃ x, σ = [some (.ref a), x, z] ∧ WF G ((q, .lst ((valsK ks).map fun kv => kV kv.1)) :: (a, .dK (valsK ks)) :: (cellsK (spoilK (ks.take i)) ++ cellsK (ks.drop i) ++ C)) H') ⟨y, rfl, by simpa [spoilK, cellsK] using W0⟩ ?_ ?_ ?_
    · rintro i σ H' _ ⟨x, _, W'⟩
      exact SqL.of W'.hd
    · rintro i v σ H' hv ⟨x, rfl, W'⟩
      obtain ⟨p, hp, rfl⟩ : ∃ p, ks[i]? = some p ∧ kV p.1 = v := by
        rw [List.getElem?_map, List.getElem?_map] at hv
        cases e : ks[i]? with
        | none =>
          rw [e] at hv
          cases hv
        | some u =>
          rw [e] at hv
          exact ⟨u, rfl, Option.some.inj hv⟩
      have hi : i < ks.length := (List.getElem?_eq_some_iff.mp hp).1
      have e1 : ks.drop i = p :: ks.drop (i + 1) := by
        have := List.drop_eq_getElem_cons hi
        rw [this]
        have e := (List.getElem?_eq_some_iff.mp hp).2
        rw [e]
      rw [e1] at W'
      have hg : valV (valsK ks) p.1 = some p.2.val := by
        have e : (valsK ks)[i]? = some (p.1, p.2.val) := by
          rw [List.getElem?_map, hp]
          rfl
        refine valK_get (p := (p.1, p.2.val)) ?_ e
        rw [List.map_map]
        exact nd
      refine ⟨_, rfl, _, rfl, a, p.2.val, rfl, ?_, ?_⟩
      · rw [← hg]
        exact DGet.k W'.swap.hd
      refine ⟨G, [(q, .lst ((valsK ks).map fun kv => kV kv.1)), (a, .dK (valsK ks))] ++ (cellsK (spoilK (ks.take i)) ++ cellsK (ks.drop (i + 1)) ++ C), p.2, rfl, ok.get hp, sm.get hp, Nat.lt_of_le_of_lt (depK_get hp) dp, W'.perm (permT (O := [(q, .lst ((valsK ks).map fun kv => kV kv.1)), (a, .dK (valsK ks))])), fun H2 W2 => ⟨_, rfl, ?_⟩⟩
      have W3 := W2.perm (permT (O := [(q, .lst ((valsK ks).map fun kv => kV kv.1)), (a, .dK (valsK ks))])).symm
      rw [take_more hp, spoilK_append, cellsK_append]
      have e2 : cellsK (spoilK [p]) = p.2.spoil.cells := by simp [spoilK, cellsK]
      rw [e2]
      simpa [List.append_assoc] using W3
    · rintro σ H' ⟨x, rfl, W'⟩
      refine k x H' ?_
      have e : ((valsK ks).map fun kv => kV kv.1).length = ks.length := by rw [List.length_map, List.length_map]
      rw [e, List.take_length, List.drop_length] at W'
      simpa [cellsK] using W'.drop
  exact .inl (start _ fun q nq => ⟨q, rfl, ⟨_, SqL.of upd_same⟩, main q nq⟩)
end Lr

/-! # Data without dicts; what is spoilt, and the same -/
namespace Lr
open PySem PySem.Spec PyProof.Rows L2 RZ
mutual
def spoilD : PyData → PyData
  | .list ds => .list (spoilDL ds ++ [.str LATE])
  | .tuple ds => .tuple (spoilDL ds)
  | d => d
def spoilDL : List PyData → List PyData
  | [] => []
  | d :: ds => spoilD d :: spoilDL ds
end
def notLate : PyData → Prop
  | .str x => x ≠ LATE
  | _ => True
mutual
/-- no dict, no "LATE", short lists -/
def CleanD : PyData → Prop
  | .list ds => CleanDL ds ∧ ds.length ≤ 100000
  | .tuple ds => CleanDL ds ∧ ds.length ≤ 100000
  | .dict _ => False
  | _ => True
def CleanDL : List PyData → Prop
  | [] => True
  | d :: ds => (notLate d ∧ CleanD d) ∧ CleanDL ds
end
mutual
def depD : PyData → Nat
  | .list ds => depDL ds + 1
  | .tuple ds => depDL ds + 1
  | .dict _ => 1
  | _ => 0
def depDL : List PyData → Nat
  | [] => 0
  | d :: ds => max (depD d) (depDL ds)
end
theorem spoilDL_length : ∀ ds : List PyData, (spoilDL ds).length = ds.length
  | [] => rfl
  | d :: ds => by simp [spoilDL, spoilDL_length ds]
theorem CleanDL.get : ∀ {ds : List PyData} {i : Nat} {d : PyData}, CleanDL ds → ds[i]? = some d → notLate d ∧ CleanD d
  | [], _, _, _, e => by simp at e
  | t :: ts, 0, u, h, e => by
    simp at e
    subst e
    exact h.1
  | t :: ts, i + 1, u, h, e => h.2.get (i := i) (by simpa using e)
theorem depDL_get : ∀ {ds : List PyData} {i : Nat} {d : PyData}, ds[i]? = some d → depD d ≤ depDL ds
  | [], _, _, e => by simp at e
  | t :: ts, 0, u, e => by
    simp at e
    subst e
    exact Nat.le_max_left _ _
  | t :: ts, i + 1, u, e => Nat.le_trans (depDL_get (ds := ts) (i := i) (by simpa using e)) (Nat.le_max_right _ _)
theorem spoilDL_get : ∀ {ds : List PyData} {i : Nat}, (spoilDL ds)[i]? = ds[i]?.map spoilD
  | [], _ => by simp [spoilDL]
  | t :: ts, 0 => by simp [spoilDL]
  | t :: ts, i + 1 => by simp [spoilDL, spoilDL_get (ds := ts) (i := i)]
/-- how often LATE stands among the values -/
theorem count_late {H : Hp} : ∀ {ds : List PyData} {vs : List V}, CleanDL ds → Reps H (spoilDL ds) vs → vs.countP (isS LATE) = 0 ∧ ∀ v ∈ vs, CmpS H v
  | [], _, _, r => by
    cases r
    exact ⟨rfl, fun v hv => by cases hv⟩
  | d :: ds, vs, c, r => by
    cases r with
    | cons r rr =>
      rename_i v vs
      obtain ⟨i1, i2⟩ := count_late c.2 rr
      have key : isS LATE v = false ∧ CmpS H v := by
        obtain ⟨⟨nl, cl⟩, _⟩ := c
        cases d with
        | none => cases r; exact ⟨rfl, trivial⟩
        | bool b => cases r; exact ⟨rfl, trivial⟩
        | int i => cases r; exact ⟨rfl, trivial⟩
        | str x =>
          cases r
          refine ⟨?_, trivial⟩
          show (x == LATE) = false
          have nl' : x ≠ LATE := nl
          simpa using nl'
        | list ds =>
          cases r with
          | lst h _ => exact ⟨rfl, .inl ⟨_, h⟩⟩
        | tuple ds =>
          cases r with
          | tup h _ => exact ⟨rfl, .inr ⟨_, h⟩⟩
        | dict _ => exact cl.elim
      refine ⟨?_, fun u hu => ?_⟩
      · rw [List.countP_cons, i1, key.1]
        rfl
      · rcases List.mem_cons.mp hu with rfl | hu
        · exact key.2
        · exact i2 u hu
theorem Reps.split {H : Hp} : ∀ {a b : List PyData} {vs : List V}, Reps H (a ++ b) vs → ∃ v1 v2, vs = v1 ++ v2 ∧ Reps H a v1 ∧ Reps H b v2
  | [], _, vs, r => ⟨[], vs, rfl, .nil, r⟩
  | d :: a, b, vs, r => by
    cases r with
    | cons r rr =>
      obtain ⟨v1, v2, e, r1, r2⟩ := rr.split
      exact ⟨_ :: v1, v2, by rw [e]; rfl, .cons r r1, r2⟩
theorem count_late1 {H : Hp} {ds : List PyData} {vs : List V} (c : CleanDL ds) (r : Reps H (spoilDL ds ++ [.str LATE]) vs) : vs.countP (isS LATE) = 1 ∧ ∀ v ∈ vs, CmpS H v := by
  obtain ⟨v1, v2, e, r1, r2⟩ := r.split
  obtain ⟨i1, i2⟩ := count_late c r1
  cases r2 with
  | cons r rr =>
    cases rr
    cases r
    subst e
    refine ⟨?_, fun v hv => ?_⟩
    · rw [List.countP_append, i1]
      simp [isS]
    · rcases List.mem_append.mp hv with hv | hv
      · exact i2 v hv
      · rw [List.mem_singleton.mp hv]
        trivial
/-- _law_is_once(thing) of a spoilt thing without dicts -/
def spOnce (n : Nat) : Sp := fun vs H Q _ => ∃ (d : PyData) (v : V), vs = [v] ∧ Rep H (spoilD d) v ∧ CleanD d ∧ depD d < n ∧ ∀ H', Same H H' → Q (.bl true) H'
mutual
theorem T.spoil_data : ∀ {t : T}, CleanD t.data → t.spoil.data = spoilD t.data
  | .leaf v, _ => by
    show scalD v = spoilD (scalD v)
    cases v <;> rfl
  | .lst a ts, h => by
    show PyData.list (dataL (spoilL ts ++ [T.leaf (.str LATE)])) = .list (spoilDL (dataL ts) ++ [.str LATE])
    have h' : CleanDL (dataL ts) := h.1
    rw [dataL_append, spoilL_data h']
    rfl
  | .tup a ts, h => by
    show PyData.tuple (dataL (spoilL ts)) = .tuple (spoilDL (dataL ts))
    have h' : CleanDL (dataL ts) := h.1
    rw [spoilL_data h']
  | .dic a ks, h => h.elim
theorem spoilL_data : ∀ {ts : List T}, CleanDL (dataL ts) → dataL (spoilL ts) = spoilDL (dataL ts)
  | [], _ => rfl
  | t :: ts, h => by
    show t.spoil.data :: dataL (spoilL ts) = spoilD t.data :: spoilDL (dataL ts)
    have h1 : CleanD t.data := h.1.2
    have h2 : CleanDL (dataL ts) := h.2
    rw [T.spoil_data h1, spoilL_data h2]
theorem dataL_append : ∀ (a b : List T), dataL (a ++ b) = dataL a ++ dataL b
  | [], _ => rfl
  | t :: ts, b => by
    show t.data :: dataL (ts ++ b) = t.data :: (dataL ts ++ dataL b)
    rw [dataL_append ts b]
end
theorem dataL_length : ∀ ts : List T, (dataL ts).length = ts.length
  | [] => rfl
  | t :: ts => by simp [dataL, dataL_length ts]
mutual
theorem T.dep_data : ∀ {t : T}, CleanD t.data → t.dep = depD t.data
  | .leaf v, _ => by
    show 0 = depD (scalD v)
    cases v <;> rfl
  | .lst a ts, h => by
    show depL ts + 1 = depDL (dataL ts) + 1
    rw [depL_data (ts := ts) h.1]
  | .tup a ts, h => by
    show depL ts + 1 = depDL (dataL ts) + 1
    rw [depL_data (ts := ts) h.1]
  | .dic a ks, h => h.elim
theorem depL_data : ∀ {ts : List T}, CleanDL (dataL ts) → depL ts = depDL (dataL ts)
  | [], _ => rfl
  | t :: ts, h => by
    show max t.dep (depL ts) = max (depD t.data) (depDL (dataL ts))
    rw [T.dep_data (t := t) h.1.2, depL_data (ts := ts) h.2]
end
mutual
theorem T.small_data : ∀ {t : T}, CleanD t.data → t.Small
  | .leaf v, _ => trivial
  | .lst a ts, h => ⟨by have := h.2; rw [dataL_length] at this; exact this, smallL_data (ts := ts) h.1⟩
  | .tup a ts, h => ⟨by have := h.2; rw [dataL_length] at this; exact this, smallL_data (ts := ts) h.1⟩
  | .dic a ks, h => h.elim
theorem smallL_data : ∀ {ts : List T}, CleanDL (dataL ts) → SmallL ts
  | [], _ => trivial
  | t :: ts, h => ⟨T.small_data (t := t) h.1.2, smallL_data (ts := ts) h.2⟩
end
theorem WF.dropL {G H : Hp} {A C : List Cell} (w : WF G (A ++ C) H) : WF G C H :=
  ⟨w.sub, fun c hc => w.own c (List.mem_append_right _ hc), (List.nodup_append.mp (by have := w.nd; rw [List.map_append] at this; exact this)).2.1⟩
/-- _law_apart(thing): a tree without dicts, its cells one's own: told once each -/
def spApart (n : Nat) : Sp := fun vs H Q _ => ∃ (G : Hp) (C : List Cell) (t : T), vs = [t.val] ∧ t.Ok G ∧ notLate t.data ∧ CleanD t.data ∧ depD t.data < n ∧ WF G (t.cells ++ C) H ∧ ∀ H', WF G C H' → Q (.bl true) H'
mutual
/-- no dict, short lists and texts -/
def Plain : PyData → Prop
  | .list ds => Plains ds ∧ ds.length ≤ 100000
  | .tuple ds => Plains ds ∧ ds.length ≤ 100000
  | .dict _ => False
  | _ => True
def Plains : List PyData → Prop
  | [] => True
  | d :: ds => Plain d ∧ Plains ds
end
theorem Plains.get : ∀ {ds : List PyData} {i : Nat} {d : PyData}, Plains ds → ds[i]? = some d → Plain d
  | [], _, _, _, e => by simp at e
  | t :: ts, 0, u, h, e => by
    simp at e
    subst e
    exact h.1
  | t :: ts, i + 1, u, h, e => h.2.get (i := i) (by simpa using e)
mutual
/-- what _law_same goes through -/
def Eqa : PyData → Prop
  | .list ds => Eqas ds ∧ ds.length ≤ 100000
  | .tuple ds => Eqas ds ∧ ds.length ≤ 100000
  | .dict es => EqaK es ∧ es.length ≤ 100000
  | _ => True
def Eqas : List PyData → Prop
  | [] => True
  | d :: ds => Eqa d ∧ Eqas ds
def EqaK : List (PyData × PyData) → Prop
  | [] => True
  | p :: es => (∃ k : Key, p.1 = kD k) ∧ Eqa p.2 ∧ EqaK es
end
mutual
def dpS : PyData → Nat
  | .list ds => dpSL ds + 1
  | .tuple ds => dpSL ds + 1
  | .dict es => dpSK es + 3
  | _ => 0
def dpSL : List PyData → Nat
  | [] => 0
  | d :: ds => max (dpS d) (dpSL ds)
def dpSK : List (PyData × PyData) → Nat
  | [] => 0
  | p :: es => max (dpS p.2) (dpSK es)
end
mutual
theorem Plain.eqa : ∀ {d : PyData}, Plain d → Eqa d
  | .list ds, h => ⟨Plains.eqa h.1, h.2⟩
  | .tuple ds, h => ⟨Plains.eqa h.1, h.2⟩
  | .dict _, h => h.elim
  | .none, _ => trivial
  | .bool _, _ => trivial
  | .int _, _ => trivial
  | .str _, _ => trivial
theorem Plains.eqa : ∀ {ds : List PyData}, Plains ds → Eqas ds
  | [], _ => trivial
  | d :: ds, h => ⟨Plain.eqa h.1, Plains.eqa (ds := ds) h.2⟩
end
mutual
theorem Plain.dpS : ∀ {d : PyData}, Plain d → dpS d = depD d
  | .list ds, h => by
    show dpSL ds + 1 = depDL ds + 1
    rw [Plains.dpS (ds := ds) h.1]
  | .tuple ds, h => by
    show dpSL ds + 1 = depDL ds + 1
    rw [Plains.dpS (ds := ds) h.1]
  | .dict _, h => h.elim
  | .none, _ => rfl
  | .bool _, _ => rfl
  | .int _, _ => rfl
  | .str _, _ => rfl
theorem Plains.dpS : ∀ {ds : List PyData}, Plains ds → dpSL ds = depDL ds
  | [], _ => rfl
  | d :: ds, h => by
    show max (Lr.dpS d) (dpSL ds) = max (depD d) (depDL ds)
    rw [Plain.dpS (d := d) h.1, Plains.dpS (ds := ds) h.2]
end
theorem Eqas.get : ∀ {ds : List PyData} {i : Nat} {d : PyData}, Eqas ds → ds[i]? = some d → Eqa d
  | [], _, _, _, e => by simp at e
  | t :: ts, 0, u, h, e => by
    simp at e
    subst e
    exact h.1
  | t :: ts, i + 1, u, h, e => h.2.get (i := i) (by simpa using e)
theorem dpSL_get : ∀ {ds : List PyData} {i : Nat} {d : PyData}, ds[i]? = some d → dpS d ≤ dpSL ds
  | [], _, _, e => by simp at e
  | t :: ts, 0, u, e => by
    simp at e
    subst e
    exact Nat.le_max_left _ _
  | t :: ts, i + 1, u, e => Nat.le_trans (dpSL_get (ds := ts) (i := i) (by simpa using e)) (Nat.le_max_right _ _)
/-- a dict's items -/
def dPairs (es : List (PyData × PyData)) : List PyData := es.map fun p => .tuple [p.1, p.2]
theorem dPairs_eqa : ∀ {es : List (PyData × PyData)}, EqaK es → Eqas (dPairs es)
  | [], _ => trivial
  | p :: es, h => by
    obtain ⟨⟨k, e⟩, h2, h3⟩ := h
    refine ⟨⟨⟨?_, h2, trivial⟩, by show 2 ≤ 100000; decide⟩, dPairs_eqa h3⟩
    rw [e]
    cases k <;> trivial
theorem dPairs_dp : ∀ {es : List (PyData × PyData)}, EqaK es → dpSL (dPairs es) ≤ dpSK es + 1
  | [], _ => Nat.zero_le _
  | p :: es, h => by
    obtain ⟨⟨k, e⟩, h2, h3⟩ := h
    have ih := dPairs_dp h3
    show max (max (dpS p.1) (max (dpS p.2) 0) + 1) (dpSL (dPairs es)) ≤ max (dpS p.2) (dpSK es) + 1
    have h0 : dpS p.1 = 0 := by
      rw [e]
      cases k <;> rfl
    rw [h0]
    omega
theorem items_rep {H H' : Hp} (s : Same H H') : ∀ {es : List (PyData × PyData)} {kvs : List (Key × V)} {ts : List Addr}, RepK H es kvs → Paired (fun (t : Addr) (q : Key × V) => H' t = some (.tup [kV q.1, q.2])) ts kvs → Reps H' (dPairs es) (ts.map V.ref)
  | _, _, _, .nil, .nil => .nil
  | _, _, _, .cons (k := k) r rr, .cons h t => by
    refine .cons (.tup h (.cons ?_ (.cons (r.mono s) .nil))) (items_rep s rr t)
    cases k
    · exact .int _
    · exact .str _
/-- _law_same(found, due) of equal things -/
def spSame (n : Nat) : Sp := fun vs H Q _ => ∃ (d : PyData) (v u : V), vs = [v, u] ∧ Rep H d v ∧ Rep H d u ∧ Eqa d ∧ dpS d < n ∧ ∀ H', Same H H' → Q (.bl true) H'
theorem CmpS.mono {H H' : Hp} {v : V} (s : Same H H') (h : CmpS H v) : CmpS H' v := by
  cases v <;> first | exact h | exact h.imp (fun ⟨x, e⟩ => ⟨x, s _ _ e⟩) (fun ⟨x, e⟩ => ⟨x, s _ _ e⟩)
/-- the rows of _law_is_once over a list or a tuple -/
theorem loop_once {K : PySem.W.Frag} {a : Addr} {ds : List PyData} {xs : List V} {n : Nat} {kd : Bool} {σ : L2.St} {H : Hp} {Q : VK} {vs : List Nat} {j i0 : Nat}
    (hσ : σ[i0]? = some (some (.ref a))) (hw : ∀ x, ((wipe σ vs).set j (some x))[j]? = some (some x)) (hw2 : ∀ x, wipe ((wipe σ vs).set j (some x)) vs = wipe σ vs)
    (hk : ∀ H', Same H H' → SqK kd K H' a xs) (hx : ∀ (i : Nat) (x : V) (H' : Hp), xs[i]? = some x → Same H H' → ∃ d, Rep H' (spoilD d) x ∧ CleanD d ∧ depD d < n) (hl : xs.length ≤ 200000)
    (k : ∀ H' D, Same H H' → H' D = some (.lst (List.replicate xs.length (.bl true))) → Q (.ref D) H') :
    tLc (iSeq K (tVar i0)) (gName j) tYes (tCall (spOnce n) [] E0 (tCons (tVar j) tNil)) vs σ H Q := by
  refine lc_seq (xs := xs) (k := kd) (fun R r => ⟨_, hσ, r⟩) (hk H (Same.refl H)) fun D nD => ⟨fun i H' => Same H H' ∧ H D = none ∧ H' D = some (.lst (List.replicate i (.bl true))), ⟨same_new nD, nD, upd_same⟩, fun i H' _ p => hk H' p.1, ?_, ?_⟩
  · rintro i x H' hx' ⟨s, _, hD⟩
    have hi := (List.getElem?_eq_some_iff.mp hx').1
    obtain ⟨d, r, cl, dp⟩ := hx i x H' hx' s
    refine ⟨hw2 x, ?_⟩
    refine ⟨x, hw x, d, x, rfl, r, cl, dp, fun H2 s2 => ⟨_, s2 _ _ hD, ?_, ?_⟩⟩
    · rw [List.length_replicate]
      exact sz_lt (by omega)
    · refine ⟨fun b o e => ?_, nD, ?_⟩
      · have nb : b ≠ D := ne_of_none e nD
        rw [upd_ne nb]
        exact s2 _ _ (s _ _ e)
      · rw [upd_same, ← List.replicate_succ']
  · rintro H' ⟨s, _, hD⟩
    exact k H' D s hD
mutual
theorem T.spoil_ok {G : Hp} : ∀ {t : T}, CleanD t.data → t.Ok G → t.spoil.Ok G
  | .leaf v, _, h => h
  | .lst a ts, c, h => by
    show OkL G (spoilL ts ++ [T.leaf (.str LATE)])
    exact OkL.app (spoilL_ok (ts := ts) c.1 h) ⟨trivial, trivial⟩
  | .tup a ts, c, h => by
    refine ⟨?_, spoilL_ok (ts := ts) c.1 h.2⟩
    rw [spoilL_vals]
    exact h.1
  | .dic a ks, c, h => c.elim
theorem spoilL_ok {G : Hp} : ∀ {ts : List T}, CleanDL (dataL ts) → OkL G ts → OkL G (spoilL ts)
  | [], _, _ => trivial
  | t :: ts, c, h => ⟨T.spoil_ok (t := t) c.1.2 h.1, spoilL_ok (ts := ts) c.2 h.2⟩
end
theorem Plain.one {d : PyData} : Plain d → (∀ es, d ≠ .dict es) := fun h es e => by
  subst e
  exact h
theorem loop_same {K : PySem.W.Frag} {a b : Addr} {ds : List PyData} {xs ys : List V} {n : Nat} {kd : Bool} {σ : L2.St} {H : Hp} {Q : VK} {vs : List Nat} {i0 i1 j j' : Nat}
    (h0 : σ[i0]? = some (some (.ref a))) (h1 : σ[i1]? = some (some (.ref b)))
    (hw : ∀ x y, (((wipe σ vs).set j (some x)).set j' (some y))[j]? = some (some x)) (hw1 : ∀ x y, (((wipe σ vs).set j (some x)).set j' (some y))[j']? = some (some y)) (hw2 : ∀ x y, wipe (((wipe σ vs).set j (some x)).set j' (some y)) vs = wipe σ vs)
    (hk : ∀ H', Same H H' → SqK kd K H' a xs ∧ SqK kd K H' b ys) (rx : Reps H ds xs) (ry : Reps H ds ys) (pl : Eqas ds) (dp : dpSL ds < n) (hl : ds.length ≤ 200000)
    (k : ∀ H' D, Same H H' → H' D = some (.lst (List.replicate ds.length (.bl true))) → Q (.ref D) H') :
    tLc (iZipA K (tCons (tVar i0) (tCons (tVar i1) tNil))) (gTup K 2 (gCons (gName j) (gCons (gName j') gNil))) tYes (tCall (spSame n) [] E0 (tCons (tVar j) (tCons (tVar j') tNil))) vs σ H Q := by
  have lx := rx.length
  have ly := ry.length
  refine lc_zip (xs := xs) (ys := ys) (k := kd) (fun R r => ⟨_, h0, _, h1, r⟩) (by omega) (hk H (Same.refl H)).1 (hk H (Same.refl H)).2 fun D nD => ⟨fun i H' => Same H H' ∧ H D = none ∧ H' D = some (.lst (List.replicate i (.bl true))), ⟨same_new nD, nD, upd_same⟩, fun i H' _ p => hk H' p.1, ?_, ?_⟩
  · rintro i x y T H' hx' hy' ⟨s, _, hD⟩ nT
    have hi := (List.getElem?_eq_some_iff.mp hx').1
    obtain ⟨d, hd, r⟩ := rx.get hx'
    obtain ⟨d', hd', r'⟩ := ry.get hy'
    rw [hd] at hd'
    cases hd'
    have sT := same_new (o := .tup [x, y]) nT
    refine ⟨T, [x, y], rfl, SqT.of upd_same, rfl, x, [y], rfl, y, [], rfl, rfl, hw2 x y, ?_⟩
    refine ⟨x, hw x y, y, hw1 x y, d, x, y, rfl, r.mono (s.trans sT), r'.mono (s.trans sT), pl.get hd, Nat.lt_of_le_of_lt (dpSL_get hd) dp, fun H2 s2 => ⟨_, s2 _ _ (sT _ _ hD), ?_, ?_⟩⟩
    · rw [List.length_replicate]
      exact sz_lt (by omega)
    · refine ⟨fun b o e => ?_, nD, ?_⟩
      · have nb : b ≠ D := ne_of_none e nD
        rw [upd_ne nb]
        exact s2 _ _ (sT _ _ (s _ _ e))
      · rw [upd_same, ← List.replicate_succ']
  · rintro H' ⟨s, _, hD⟩
    rw [← lx] at hD
    exact k H' D s hD
end Lr

/-! # Things told in other kinds of lists -/
namespace Lr
open PySem PySem.Spec PyProof.Rows L2
mutual
/-- tuples as lists, all through -/
def norm : PyData → PyData
  | .list ds => .list (normL ds)
  | .tuple ds => .list (normL ds)
  | d => d
def normL : List PyData → List PyData
  | [] => []
  | d :: ds => norm d :: normL ds
end
mutual
/-- how many lists and tuples -/
def szD : PyData → Nat
  | .list ds => szDL ds + 1
  | .tuple ds => szDL ds + 1
  | _ => 0
def szDL : List PyData → Nat
  | [] => 0
  | d :: ds => szD d + szDL ds
end
theorem normL_append : ∀ a b : List PyData, normL (a ++ b) = normL a ++ normL b
  | [], _ => rfl
  | d :: ds, b => by simp [normL, normL_append ds b]
theorem szDL_append : ∀ a b : List PyData, szDL (a ++ b) = szDL a + szDL b
  | [], _ => by simp [szDL]
  | d :: ds, b => by simp [szDL, szDL_append ds b, Nat.add_assoc]
theorem normL_length : ∀ ds : List PyData, (normL ds).length = ds.length
  | [] => rfl
  | d :: ds => by simp [normL, normL_length ds]
theorem szDL_take_le (ds : List PyData) (i : Nat) : szDL (ds.take i) ≤ szDL ds := by
  have e := szDL_append (ds.take i) (ds.drop i)
  rw [List.take_append_drop] at e
  omega
theorem WF.weak {G G' H : Hp} {C : List Cell} (w : WF G' C H) (s : Same G G') : WF G C H :=
  ⟨s.trans w.sub, fun c hc => ⟨(w.own c hc).1, s.free (w.own c hc).2⟩, w.nd⟩
/-- d is read at v, out of G and C alone -/
def RepC (G : Hp) (C : List Cell) (d : PyData) (v : V) : Prop := ∃ L : Hp, (∀ a o, L a = some o → Sees G C a o) ∧ Rep L d v
theorem sees_same {G H L : Hp} {C : List Cell} (h : ∀ a o, L a = some o → Sees G C a o) (w : WF G C H) : Same L H := fun a o e => (h a o e).at w
theorem RepC.at {G H : Hp} {C : List Cell} {d : PyData} {v : V} (h : RepC G C d v) (w : WF G C H) : Rep H d v := by
  obtain ⟨L, hl, r⟩ := h
  exact r.mono (sees_same hl w)
theorem RepC.mono {G G' : Hp} {C : List Cell} {d : PyData} {v : V} (h : RepC G C d v) (s : Same G G') : RepC G' C d v := by
  obtain ⟨L, hl, r⟩ := h
  exact ⟨L, fun a o e => (hl a o e).mono s, r⟩
theorem RepC.app {G : Hp} {A C : List Cell} {d : PyData} {v : V} (h : RepC G C d v) : RepC G (A ++ C) d v := by
  obtain ⟨L, hl, r⟩ := h
  exact ⟨L, fun a o e => (hl a o e).imp id (List.mem_append_right _), r⟩
theorem RepC.cons {G : Hp} {c : Cell} {C : List Cell} {d : PyData} {v : V} (h : RepC G C d v) : RepC G (c :: C) d v := by
  obtain ⟨L, hl, r⟩ := h
  exact ⟨L, fun a o e => (hl a o e).cons, r⟩
theorem RepC.of {G : Hp} {C : List Cell} {d : PyData} {v : V} (h : Rep G d v) : RepC G C d v := ⟨G, fun a o e => .inl e, h⟩
theorem RepC.tree {G : Hp} {C : List Cell} {t : T} {H : Hp} (h : t.Ok G) (w : WF G (t.cells ++ C) H) : RepC G (t.cells ++ C) t.data t.val := by
  refine ⟨fun a => if (G a).isSome ∨ a ∈ t.cells.map Prod.fst then H a else none, fun a o e => ?_, T.rep ?_ h ?_⟩
  · dsimp only at e
    split at e
    · rename_i hc
      rcases hc with hc | hc
      · cases q : G a with
        | none =>
          rw [q] at hc
          cases hc
        | some u =>
          have := w.getG q
          rw [e] at this
          cases this
          exact .inl q
      · obtain ⟨c, hm, rfl⟩ := List.mem_map.mp hc
        have := (w.own c (List.mem_append_left _ hm)).1
        rw [e] at this
        cases this
        exact .inr (List.mem_append_left _ hm)
    · cases e
  · intro a o e
    have : (G a).isSome := by rw [e]; rfl
    simp only [this, true_or, if_true]
    exact w.getG e
  · intro c hc
    have : c.1 ∈ t.cells.map Prod.fst := List.mem_map.mpr ⟨c, hc, rfl⟩
    simp only [this, or_true, if_true]
    exact (w.own c (List.mem_append_left _ hc)).1
theorem SW.dropL {G H : Hp} {st cs : Addr} {n : Nat} {A C : List Cell} (w : SW G st cs n (A ++ C) H) : SW G st cs n C H := by
  obtain ⟨l, a, b, c, w, k⟩ := w
  refine ⟨l, a, b, c, ?_, k⟩
  have p : ((st, HO.lst [.ref cs, .int a, .int b, .int c]) :: (cs, HO.lst (l.map V.int)) :: (A ++ C)).Perm (A ++ ((st, HO.lst [.ref cs, .int a, .int b, .int c]) :: (cs, HO.lst (l.map V.int)) :: C)) :=
    (List.perm_append_comm_assoc [(st, HO.lst [.ref cs, .int a, .int b, .int c]), (cs, HO.lst (l.map V.int))] A C)
  exact (w.perm p).dropL
/-- _law_loose(stream, thing) without dicts: lists for tuples, tuples for lists, made anew -/
def spLoose (n : Nat) : Sp := fun vs H Q _ => ∃ (G : Hp) (st cs : Addr) (m : Nat) (C : List Cell) (d : PyData) (v : V), vs = [.ref st, v] ∧ SW G st cs m C H ∧ RepC G C d v ∧ Plain d ∧ depD d < n ∧ m + szD d < 2 ^ 40 ∧
  ∀ (t : T) (G' H' : Hp), Same G G' → t.Ok G' → norm t.data = norm d → Plain t.data → SW G' st cs (m + szD d) (t.cells ++ C) H' → Q t.val H'
theorem Plains.app : ∀ {a b : List PyData}, Plains a → Plains b → Plains (a ++ b)
  | [], _, _, h => h
  | d :: ds, b, h, h' => ⟨h.1, Plains.app (a := ds) h.2 h'⟩
theorem leaf_of {d : PyData} {H : Hp} {v : V} (r : Rep H d v) (h : kitB2 (tyD d) "list" "tuple" = some false) (h2 : Plain d) : scal1 v ∧ scalD v = d := by
  cases r with
  | non => exact ⟨trivial, rfl⟩
  | bl b => exact ⟨trivial, rfl⟩
  | int i => exact ⟨trivial, rfl⟩
  | str x => exact ⟨trivial, rfl⟩
  | lst _ _ => rw [seqTys] at h; cases h
  | tup _ _ => rw [seqTys] at h; cases h
  | dic _ _ => exact h2.elim
theorem Same.upd_same_new {G : Hp} {p : Addr} {o : HO} (h : G p = none) : Same G (upd G p o) := same_new h
theorem OkL.app' {G : Hp} {a b : List T} (h : OkL G a) (h' : OkL G b) : OkL G (a ++ b) := OkL.app h h'
theorem permD {c : Cell} {A B D : List Cell} : (D ++ (c :: (A ++ B))).Perm (c :: (A ++ D ++ B)) := by
  refine List.perm_middle.trans (List.Perm.cons c ?_)
  rw [List.append_assoc]
  exact List.perm_append_comm_assoc D A B
theorem loop_loose {K : PySem.W.Frag} {G : Hp} {C : List Cell} {st cs a : Addr} {m n : Nat} {ds : List PyData} {xs : List V} {kd : Bool} {σ : L2.St} {H : Hp} {Q : VK} {vs : List Nat} {i0 i1 j : Nat}
    (h0 : (wipe σ vs)[i0]? = some (some (.ref st))) (h1 : σ[i1]? = some (some (.ref a))) (hj : ∀ x, ((wipe σ vs).set j (some x))[i0]? = some (some (.ref st)))
    (hw : ∀ x, ((wipe σ vs).set j (some x))[j]? = some (some x)) (hw2 : ∀ x, wipe ((wipe σ vs).set j (some x)) vs = wipe σ vs)
    (W : SW G st cs m C H) (hk : ∀ H', WF G C H' → SqK kd K H' a xs ∧ Reps H' ds xs) (hc : ∃ L : Hp, (∀ a o, L a = some o → Sees G C a o) ∧ Reps L ds xs) (pl : Plains ds) (dp : depDL ds < n) (m40 : m + szDL ds < 2 ^ 40) (hl : ds.length ≤ 200000)
    (k : ∀ ts G' H' D, Same G G' → OkL G' ts → normL (dataL ts) = normL ds → Plains (dataL ts) → SW G' st cs (m + szDL ds) ((D, .lst (vals ts)) :: (cellsL ts ++ C)) H' → Q (.ref D) H') :
    tLc (iSeq K (tVar i1)) (gName j) tYes (tCall (spLoose n) [] E0 (tCons (tVar i0) (tCons (tVar j) tNil))) vs σ H Q := by
  have lx := (hk H W.wf).2.length
  refine lc_seq (xs := xs) (k := kd) (fun R r => ⟨_, h1, r⟩) (hk H W.wf).1 fun D nD => ⟨fun i H' => ∃ ts G', Same G G' ∧ OkL G' ts ∧ normL (dataL ts) = normL (ds.take i) ∧ Plains (dataL ts) ∧ ts.length = i ∧ SW G' st cs (m + szDL (ds.take i)) ((D, .lst (vals ts)) :: (cellsL ts ++ C)) H',
    ⟨[], G, Same.refl G, trivial, by simp [dataL, normL], trivial, rfl, by simpa [szDL, cellsL] using W.new nD⟩, ?_, ?_, ?_⟩
  · rintro i H' _ ⟨ts, G', s, _, _, _, _, w⟩
    exact (hk H' ((w.drop.dropL).wf.weak s)).1
  · rintro i x H' hx ⟨ts, G', s, ok, en, pn, el, w⟩
    have hi := (List.getElem?_eq_some_iff.mp hx).1
    obtain ⟨d, hd, _⟩ := (hk H' ((w.drop.dropL).wf.weak s)).2.get hx
    have e2 : szDL (ds.take (i + 1)) = szDL (ds.take i) + szD d := by
      rw [take_more hd, szDL_append]
      simp [szDL]
    have le := szDL_take_le ds (i + 1)
    refine ⟨hw2 x, ?_⟩
    refine ⟨_, hj x, x, hw x, G', st, cs, m + szDL (ds.take i), _, d, x, rfl, w, ?_, pl.get hd, Nat.lt_of_le_of_lt (depDL_get hd) dp, by omega, fun t G2 H2 s2 ok2 en2 pn2 w2 => ?_⟩
    · obtain ⟨L, hL, rL⟩ := hc
      obtain ⟨d', hd', r'⟩ := rL.get hx
      rw [hd] at hd'
      cases hd'
      exact ((RepC.app (A := cellsL ts) ⟨L, hL, r'⟩).cons).mono s
    · have w3 := w2.perm permD
      refine ⟨vals ts, w3.hd, ?_, ts ++ [t], G2, s.trans s2, OkL.app (OkL.mono s2 ok) ⟨ok2, trivial⟩, ?_, ?_, by simp [el], ?_⟩
      · rw [List.length_map]
        exact sz_lt (by omega)
      · rw [dataL_append, normL_append, en, take_more hd, normL_append]
        simp [dataL, normL, en2]
      · rw [dataL_append]
        exact Plains.app pn ⟨pn2, trivial⟩
      · have w4 := w3.set (u := .lst (vals ts ++ [t.val]))
        have ev : vals (ts ++ [t]) = vals ts ++ [t.val] := by simp [vals]
        rw [e2, ev, cellsL_append]
        have ec : cellsL [t] = t.cells := by simp [cellsL]
        rw [ec, ← Nat.add_assoc]
        exact w4
  · rintro H' ⟨ts, G', s, ok, en, pn, el, w⟩
    rw [← lx, List.take_length] at w en
    exact k ts G' H' D s ok en pn w
end Lr

/-! # Names and lots of names -/
namespace Lr
open PySem PySem.Spec PyProof.Rows L2
def leS (a b : Str) : Prop := a.cps.toList ≤ b.cps.toList
instance (a b : Str) : Decidable (leS a b) := inferInstanceAs (Decidable (a.cps.toList ≤ b.cps.toList))
theorem leS_trans {a b c : Str} (h1 : leS a b) (h2 : leS b c) : leS a c := List.le_trans h1 h2
theorem leS_total (a b : Str) : leS a b ∨ leS b a := List.le_total _ _
theorem str_ext {a b : Str} (h : a.cps.toList = b.cps.toList) : a = b := by
  cases a
  cases b
  simp only at h
  rw [Array.toList_inj.mp h]
theorem leS_anti {a b : Str} (h1 : leS a b) (h2 : leS b a) : a = b := str_ext (List.le_antisymm h1 h2)
theorem sorted_pw : ∀ {ys : List Str}, sortedS ys = true → ys.Pairwise leS
  | [], _ => .nil
  | y :: r, h => by
    have key : ∀ (r : List Str) (p : Str), risingS p r = true → (p :: r).Pairwise leS := by
      intro r
      induction r with
      | nil => intro p _; exact List.pairwise_singleton _ _
      | cons x r ih =>
        intro p h
        simp only [risingS, Bool.and_eq_true, Bool.not_eq_true'] at h
        have h2 := ih x h.2
        have h1 : leS p x := by
          rw [ltCps_eq] at h
          have := of_decide_eq_false h.1
          exact List.not_lt.mp this
        refine List.pairwise_cons.mpr ⟨fun y hy => ?_, h2⟩
        rcases List.mem_cons.mp hy with rfl | hy
        · exact h1
        · exact leS_trans h1 ((List.pairwise_cons.mp h2).1 y hy)
    exact key r y h
def sortS (xs : List Str) : List Str := xs.mergeSort (fun a b => decide (leS a b))
theorem sortS_perm (xs : List Str) : (sortS xs).Perm xs := List.mergeSort_perm _ _
theorem sortS_pw (xs : List Str) : (sortS xs).Pairwise leS := by
  have h := List.pairwise_mergeSort (le := fun a b => decide (leS a b)) (fun a b c h1 h2 => by
    simp only [decide_eq_true_eq] at h1 h2 ⊢
    exact leS_trans h1 h2) (fun a b => by
    simp only [Bool.or_eq_true, decide_eq_true_eq]
    exact leS_total a b) xs
  exact h.imp fun h => by simpa using h
theorem pw_one {a b : List Str} (h : a.Perm b) (ha : a.Pairwise leS) (hb : b.Pairwise leS) : a = b :=
  List.Perm.eq_of_pairwise (le := leS) (fun _ _ _ _ h1 h2 => leS_anti h1 h2) ha hb h
theorem sortS_of {xs ys : List Str} (h : ys.Perm xs) (hs : ys.Pairwise leS) : ys = sortS xs := pw_one (h.trans (sortS_perm xs).symm) hs (sortS_pw xs)
theorem sortS_eq {xs ys : List Str} (h : ys.Perm xs) : sortS ys = sortS xs := pw_one ((sortS_perm ys).trans (h.trans (sortS_perm xs).symm)) (sortS_pw ys) (sortS_pw xs)
theorem sortS_self {xs : List Str} (h : xs.Pairwise leS) : sortS xs = xs := (sortS_of (List.Perm.refl _) h).symm
theorem sortS_length (xs : List Str) : (sortS xs).length = xs.length := (sortS_perm xs).length_eq
/-! ### sgns -/
def low (c : Nat) : Bool := decide (97 ≤ c ∧ c ≤ 122)
def fig (c : Nat) : Bool := decide (48 ≤ c ∧ c ≤ 57)
def sgns : List Nat → Bool := fun l => l.all fun c => low c || fig c
/-- a name -/
def nameB (s : Str) : Bool := decide (1 ≤ s.length ∧ s.length ≤ 8) && sgns s.cps.toList && (match s.cps.toList with | c :: _ => low c | [] => false)
def isNameD : PyData → Bool
  | .str s => nameB s
  | _ => false
/-- the names of a lot so far, in the order met -/
def namesL : List PyData → List Str → Option (List Str)
  | [], acc => some acc
  | .str s :: r, acc => if nameB s = true ∧ s ∉ acc then namesL r (acc ++ [s]) else none
  | _ :: _, _ => none
def itemsD : PyData → Option (List PyData)
  | .list ds => some ds
  | .tuple ds => some ds
  | _ => none
def namesD (d : PyData) : Option (List Str) := (itemsD d).bind fun ds => (namesL ds []).map sortS
def lotD (d : PyData) (ns : List Str) : Option (List Str) := (namesD d).bind fun xs => if ∀ x ∈ xs, x ∈ ns then some xs else none
abbrev Row := List Str × List Str
def rowD (d : PyData) (ns : List Str) : Option Row :=
  match itemsD d with
  | some [a, b] => match lotD a ns, lotD b ns with
    | some r, some w => if w = [] then none else some (r, w)
    | _, _ => none
  | _ => none
/-- the rows, or the index of the first thing that is none (60 of the sixty-first) -/
def rowsL (ns : List Str) : List PyData → Nat → List Row → Except Nat (List Row)
  | [], _, acc => .ok acc
  | d :: r, i, acc => match rowD d ns with
    | none => .error i
    | some x => if i = 60 then .error i else rowsL ns r (i + 1) (acc ++ [x])
def recD (r : Row) : PyData := .tuple [.tuple (r.1.map .str), .tuple (r.2.map .str)]
/-- few items, short texts -/
def ShortD (d : PyData) : Prop := ∀ ds, itemsD d = some ds → ds.length ≤ 63 ∧ ∀ e ∈ ds, ∀ s, e = .str s → s.length ≤ 1000000
def Short2 (d : PyData) : Prop := ∀ ds, itemsD d = some ds → ds.length ≤ 100000 ∧ ∀ e ∈ ds, ShortD e
theorem namesL_strs : ∀ (xs acc : List Str), (∀ x ∈ xs, nameB x = true) → (acc ++ xs).Nodup → namesL (xs.map .str) acc = some (acc ++ xs)
  | [], acc, _, _ => by simp [namesL]
  | x :: r, acc, h, nd => by
    have hx : x ∉ acc := fun hm => by
      have := (List.nodup_append.mp nd).2.2 x hm x List.mem_cons_self
      exact this rfl
    show (if nameB x = true ∧ x ∉ acc then namesL (r.map .str) (acc ++ [x]) else none) = _
    rw [if_pos ⟨h x List.mem_cons_self, hx⟩, namesL_strs r (acc ++ [x]) (fun y hy => h y (List.mem_cons_of_mem _ hy)) (by simpa using nd)]
    simp
theorem nameB_ne_late {s : Str} (h : nameB s = true) : s ≠ LATE := fun e => by
  subst e
  revert h
  decide +kernel
theorem nameB_len {s : Str} (h : nameB s = true) : s.length ≤ 8 := by
  unfold nameB at h
  simp only [Bool.and_eq_true, decide_eq_true_eq] at h
  exact h.1.1.2
/-- a list or a tuple that is read: its kind, its place, its items -/
theorem Rep.items {K : PySem.W.Frag} {H : Hp} {d : PyData} {ds : List PyData} {v : V} (r : Rep H d v) (h : itemsD d = some ds) : ∃ (kd : Bool) (a : Addr) (vs : List V), v = .ref a ∧ Reps H ds vs ∧ ∀ H', Same H H' → SqK kd K H' a vs := by
  cases r with
  | lst e r =>
    cases h
    exact ⟨true, _, _, rfl, r, fun H' s => SqK.lst (s _ _ e)⟩
  | tup e r =>
    cases h
    exact ⟨false, _, _, rfl, r, fun H' s => SqK.tup (s _ _ e)⟩
  | non => cases h
  | bl _ => cases h
  | int _ => cases h
  | str _ => cases h
  | dic _ _ => cases h
theorem items_ty {d : PyData} : kitB2 (tyD d) "list" "tuple" = some (itemsD d).isSome := by
  rw [seqTys]
  cases d <;> rfl
theorem SqK.or {k : Bool} {K : PySem.W.Frag} {H : Hp} {a : Addr} {xs : List V} (h : SqK k K H a xs) : SqL K H a xs ∨ SqT K H a xs := by
  cases k with
  | true => exact .inl h
  | false => exact .inr h
theorem namesL_none {d : PyData} {r : List PyData} {acc : List Str} (h : isNameD d = false) : namesL (d :: r) acc = none := by
  cases d with
  | str s =>
    show (if nameB s = true ∧ s ∉ acc then namesL r (acc ++ [s]) else none) = none
    have h' : nameB s = false := h
    rw [if_neg (by rw [h']; simp)]
  | _ => rfl
theorem rInA.sign {K : PySem.W.Frag} {neg : Bool} {c : Nat} {z : Str} {H : Hp} {Q : VK} (q : Q (.bl (if neg then !decide (c ∈ z.cps.toList) else decide (c ∈ z.cps.toList))) H) : rInA K neg (.str ⟨#[c]⟩) (.str z) H Q := by
  unfold rInA
  exact .inr ⟨_, _, rfl, rfl, q⟩
theorem inV_strs {x : Str} {xs : List Str} : inV (.str x) (xs.map V.str) = decide (x ∈ xs) := by
  unfold inV
  rw [List.any_map]
  by_cases h : x ∈ xs
  · rw [decide_eq_true h]
    exact List.any_eq_true.mpr ⟨x, h, by simp [eqV]⟩
  · rw [decide_eq_false h]
    refine List.any_eq_false.mpr fun y hy => ?_
    have : y ≠ x := fun e => h (e ▸ hy)
    simpa [eqV] using this
theorem rInA.strs {K : PySem.W.Frag} {neg : Bool} {x : Str} {p : Addr} {xs : List Str} {H : Hp} {Q : VK} (h : SqL K H p (xs.map V.str) ∨ SqT K H p (xs.map V.str)) (q : Q (.bl (if neg then !decide (x ∈ xs) else decide (x ∈ xs))) H) : rInA K neg (.str x) (.ref p) H Q := by
  unfold rInA
  refine .inl ⟨p, _, rfl, h, rfl, ?_, ?_⟩
  · rw [List.all_map]
    exact List.all_eq_true.mpr fun _ _ => rfl
  · rw [inV_strs]
    exact q
/-- a loop over the sgns of a text -/
theorem for_str {x : Str} {te : TE} {g : TG} {tb : TS} {D : Ends} {σ : L2.St} {H : Hp} (hte : ∀ R : VK, R (.str x) H → te σ H R) (Pv : Nat → L2.St → Hp → Prop) (h0 : Pv 0 σ H)
    (hs : ∀ i c σ H, x.cps.toList[i]? = some c → Pv i σ H → g (.str ⟨#[c]⟩) σ H fun σ2 H2 => tb { D with nx := Pv (i + 1), ct := Pv (i + 1), bk := D.nx } σ2 H2) (hd : ∀ σ H, Pv x.cps.toList.length σ H → D.nx σ H) :
    tFor (iStr te) g tb D σ H := by
  refine hte _ ⟨x, rfl, ?_⟩
  have e0 : x.cps.size = x.cps.toList.length := by simp
  refine ⟨fun i m σ H => m = x.cps.toList.length - i ∧ i ≤ x.cps.toList.length ∧ Pv i σ H, ⟨_, rfl, Nat.zero_le _, h0⟩, ?_⟩
  rintro i m σ H ⟨rfl, hi, p⟩
  by_cases hlt : i < x.cps.toList.length
  · refine .inr ⟨by rw [← e0] at hlt; exact hlt, Pv (i + 1), fun σ' H' p' => ⟨x.cps.toList.length - (i + 1), by omega, rfl, hlt, p'⟩, ?_⟩
    rintro v H' ⟨rfl, c, hc, rfl⟩
    exact hs i c σ _ (by rw [← hc]; simp) p
  · have e : i = x.cps.toList.length := by omega
    refine .inl ⟨by show x.cps.size ≤ i; omega, hd σ H ?_⟩
    rw [← e]
    exact p
/-- is_name(thing) -/
def spIsName : Sp := fun vs H Q _ => ∃ (d : PyData) (v : V), vs = [v] ∧ TyD H d v ∧ (∀ s, d = .str s → v = .str s ∧ s.length ≤ 1000000) ∧ Q (.bl (isNameD d)) H
/-- names_of(thing) -/
def spNamesOf : Sp := fun vs H Q _ => ∃ (d : PyData) (v : V), vs = [v] ∧ Rep H d v ∧ ShortD d ∧
  (namesD d = none → ∀ H', Same H H' → Q .non H') ∧ ∀ ys, namesD d = some ys → ∀ H' p, Same H H' → H p = none → H' p = some (.lst (ys.map V.str)) → Q (.ref p) H'
/-- lot_among(thing, names) -/
def spLotAmong (K : PySem.W.Frag) : Sp := fun vs H Q _ => ∃ (d : PyData) (v : V) (a : Addr) (ns : List Str), vs = [v, .ref a] ∧ Rep H d v ∧ ShortD d ∧ (SqL K H a (ns.map V.str) ∨ SqT K H a (ns.map V.str)) ∧
  (lotD d ns = none → ∀ H', Same H H' → Q .non H') ∧ ∀ ys, lotD d ns = some ys → ∀ H' p, Same H H' → H p = none → H' p = some (.lst (ys.map V.str)) → Q (.ref p) H'
/-- record_of(thing, names) -/
def spRecordOf (K : PySem.W.Frag) : Sp := fun vs H Q _ => ∃ (d : PyData) (v : V) (a : Addr) (ns : List Str), vs = [v, .ref a] ∧ Rep H d v ∧ Short2 d ∧ (SqL K H a (ns.map V.str) ∨ SqT K H a (ns.map V.str)) ∧
  (rowD d ns = none → ∀ H', Same H H' → Q .non H') ∧ ∀ r w, rowD d ns = some (r, w) → ∀ H' p q s, Same H H' → H p = none → H q = none → H s = none → p ≠ q → p ≠ s → q ≠ s → H' p = some (.tup [.ref q, .ref s]) → H' q = some (.tup (r.map V.str)) → H' s = some (.tup (w.map V.str)) → Q (.ref p) H'
end Lr

namespace PySem
namespace Exthing
open PySem.W PySem.Calls PyProof.Rows PySem.HandSPX
/-! ### the text of __init__ -/
def iA (p1 p2 : Pos) : Arguments := { posonlyargs := [], args := [{ arg := "self", annotation := none, pos := p1 }, { arg := "thing", annotation := none, pos := p2 }], vararg := none, kwonlyargs := [], kw_defaults := [], kwarg := none, defaults := [] }
def iB (q1 q2 q3 q4 : Pos) : List Stmt := [.Assign [.Attribute (.Name "self" q1) "thing" q2] (.Name "thing" q3) q4]
def iS : Scope := { kind := .function, names := [(PySem.Str.ofString "self", .local), (PySem.Str.ofString "thing", .local)], isGenerator := false, isCoroutine := false, more := [] }
/-- what the written part says of Low, at C, and of its __init__, at fI -/
structure Txtthing (cn qn : Str) (K : Frag) (mg : Str → Option Value) (C fI : Addr) : Prop where
  gC : mg cn = some (.ref C)
  cls : ∃ nm q N bs bm sn sub ab col dd k0 k1 k2 k3 k5, K.lookup C = some (excClassObj nm q C N bs bm true sn sub ab col dd k0 k1 k2 k3 k5 "ValueError.__new__") ∧ refsVE bm = true
  sa : findIn K (.ref C) "__setattr__" = some (some (.builtin "object.__setattr__"))
  ga : findIn K (.ref C) "__getattribute__" = some (some (.builtin "BaseException.__getattribute__"))
  gg : findIn K (.ref C) "__getattr__" = some none
  noN : findIn K (.ref C) "thing" = some none
  iC : findIn K (.ref C) "__init__" = some (some (.ref fI))
  tC : typeIn K (.ref fI) = some (.type "function")
  kC : keepIn K (.ref C) = true
  exC : subIn K (.ref C) (.type "BaseException") = some true
  tyC : typeIn K (.ref C) = some (.type "type")
  hdC : hasDictIn K C = true
  te : exmOne K (.ref C) (.ref C) = some true
  fn : ∃ (oc : Value) (od : Option Addr) (doc pm : Value) (an : Option Addr) (cdv ct : Value) (osl : Array (Option Value)) (p1 p2 q1 q2 q3 q4 : Pos),
    K.lookup fI = some ⟨oc, od, .func (fnOf "__init__" qn (iA p1 p2) (iB q1 q2 q3 q4) iS .none .none doc pm an cdv ct), osl⟩ ∧ codeIn K cdv qn = true
theorem one_size_thing (v : Value) : [v].length ≤ sizeLine := by
  rw [sizeLine_eq]
  exact (by decide : 1 ≤ 16777216)
theorem kept_but_thing {K : Frag} {h h' : Heap} {x : Addr} (X : K.In h) (hx : K.lookup x = none) (k : ∀ b o, b ≠ x → h.get? b = some o → h'.get? b = some o) : K.In h' := fun a o e =>
  k a o (fun z => by rw [z, hx] at e; cases e) (X a o e)
theorem ldC_thing {M : Model} {s : Shared} {name : Str} {scope : Scope} {L a : Addr} {cd : Value} {m : Str → Option Value} {x : Str} {pos : Pos} {v : Value} {Q : Value → Shared → Prop} {A : Around} {E : Value → Shared → Prop} (hn : s.heap.Ns L m) (hv : m x = some v) (h : Q v s)
    (hk : scope.kind = .function := by rfl) (hl : (envOfC name scope L a cd).kindOf x = some .local := by rfl) (hd : (x == ("__debug__" : Str)) = false := by decide) :
    wpAny M A (eval (.Name x pos) (envOfC name scope L a cd)) Q E s := wpAny_Name (wpAny_loadName_local hk hl hn hv h) hd
/-- what __init__ leaves of a fresh exception at x -/
structure InitEnd_thing (h h' : Heap) (x C dx t1 : Addr) (v : Value) : Prop where
  keep : ∀ b o, b ≠ x → h.get? b = some o → h'.get? b = some o
  obj : h'.get? x = some { cls := .ref C, dict := some dx, data := .fields #[.ref t1, .none, .none, .none, .bool false, .none] }
  dbig : h.objs.size ≤ dx
  dne : dx ≠ x
  ns : h'.Ns1 dx (fun y => if y = "thing" then some v else none)
/-- a made Low -/
structure OwnMade_thing (h h' : Heap) (e C d : Addr) (v : Value) : Prop where
  keep : ∀ b o, h.get? b = some o → h'.get? b = some o
  new : h.objs.size ≤ e
  obj : ∃ oe vs, h'.get? e = some oe ∧ oe.cls = .ref C ∧ oe.dict = some d ∧ oe.data = .fields vs ∧ vs[1]? = some .none
  dbig : h.objs.size ≤ d
  dne : d ≠ e
  ns : h'.Ns1 d (fun y => if y = "thing" then some v else none)
section
variable {prog : Program} {w : World} {A : Around} {E : Value → Shared → Prop} {R : Result → Shared → Prop} {s : Shared} {K : Frag} {mg : Str → Option Value} {C fI : Addr} {cn qn : Str}
theorem low_init_thing (T : Txtthing cn qn K mg C fI) {x t0 : Addr} {v : Value} (X : K.In s.heap) (hlim : s.heap.NoLimit) (hx : s.heap.get? x = some (excO C t0)) (hnx : K.lookup x = none) (hroom : A.depth < recursionLimit)
    (hq : ∀ h' tk dx, InitEnd_thing s.heap h' x C dx t0 v → R (.ok (.ret .none)) { s with heap := h', toks := tk }) :
    codeAny (model prog w) A (.call (.ref fI) ⟨[.ref x, v], []⟩) R s := by
  obtain ⟨oc, od, doc, pm, an, cdv, ct, osl, p1, p2, q1, q2, q3, q4, ho, hcd⟩ := T.fn
  obtain ⟨nm, q, N, bs, bm, sn, sub, ab, col, dd, k0, k1, k2, k3, k5, hC, hbm⟩ := T.cls
  have hcl : clsIn K C = some { name := nm, bases := bs, mro := .ref C :: bm, ns := N, qualname := q, hasDict := true, slotNames := sn, subclasses := sub, abstract := ab, collection := col, hasDel := false } := by unfold clsIn; rw [hC] <;> rfl
  refine Att.call_fn (binds := [("self", .ref x), ("thing", v)]) X hlim ho hcd hroom (BindsTo.of_eq (by first | rfl | with_unfolding_all rfl)) (by first | rfl | decide | with_unfolding_all rfl) (fun s₁ IC => ?_) rfl rfl rfl
  obtain ⟨h₁, tk₁, rfl⟩ := IC.toInCall.same
  have k : ∀ b o, s.heap.get? b = some o → h₁.get? b = some o := IC.toInCall.keep
  have hn := IC.toInCall.ns
  have hxL : s.heap.objs.size ≠ x := Nat.ne_of_gt (Heap.lt_size hx)
  have X₁ : K.In h₁ := X.keeps k
  have hx₁ := k _ _ hx
  -- self.by = by
  show wpAny _ _ (execs _ _) _ _ _
  refine wpAny_execs_cons (plainObj_wpAny_Assign_Attribute ?_)
  refine ldC_thing (v := v) hn (by first | rfl | with_unfolding_all rfl | kernel_rfl) (ldC_thing (v := .ref x) hn (by first | rfl | with_unfolding_all rfl | kernel_rfl) ?_)
  refine set_plain X₁ (ox := excO C t0) (od := none) ⟨hx₁, rfl, rfl, trivial⟩ T.sa ?_
  refine exc_osa X₁ hx₁ hcl (show refsVE (.ref C :: bm) = true from hbm) rfl T.noN (fun h₃ tk₃ dx k₃ dn dne hx₃ hn₃ => ?_)
  show wpAny _ _ (execs _ _) _ _ _
  have z : s.heap.objs.size < h₁.objs.size := hn.lt
  exact wpAny_execs_nil (hq h₃ tk₃ dx ⟨fun b o hb e => k₃ b o hb (k b o e), hx₃, Nat.le_of_lt (Nat.lt_of_lt_of_le z dn), dne, hn₃⟩)
theorem low_made_thing (T : Txtthing cn qn K mg C fI) {v : Value} (X : K.In s.heap) (hlim : s.heap.NoLimit) (hroom : A.depth + 1 < recursionLimit)
    (hq : ∀ h' tk e d, OwnMade_thing s.heap h' e C d v → R (.ok (.ret (.ref e))) { s with heap := h', toks := tk }) :
    codeAny (model prog w) A (.call (.ref C) ⟨[v], []⟩) R s := by
  obtain ⟨nm, q, N, bs, bm, sn, sub, ab, col, dd, k0, k1, k2, k3, k5, hC, hbm⟩ := T.cls
  obtain ⟨hp, g, dr, tk, os⟩ := s
  have k : ∀ b o, hp.get? b = some o → ((hp.push (kdv_tup [v])).push (excO C hp.objs.size)).get? b = some o := fun b o e => Heap.get?_push_of_some _ (Heap.get?_push_of_some _ e)
  have hget : ((hp.push (kdv_tup [v])).push (excO C hp.objs.size)).get? (hp.objs.size + 1) = some (excO C hp.objs.size) := by heap_get
  have hnx : K.lookup (hp.objs.size + 1) = none := by
    cases e : K.lookup (hp.objs.size + 1) with
    | none => rfl
    | some o =>
      have z : hp.get? (hp.objs.size + 1) = some o := X _ _ e
      exact absurd (Nat.lt_of_succ_lt (Heap.lt_size z)) (Nat.lt_irrefl _)
  refine call_own F.excBase_ValueError (fun X => refsVE_contains X bm hbm) (X _ _ hC) (looks_findIn X T.iC) (fun self => bind_fn X self T.tC) (one_size_thing v) ?_
  refine low_init_thing (s := ⟨(hp.push (kdv_tup [v])).push (excO C hp.objs.size), g, dr, tk, os⟩) T (X.keeps k) (hlim.keeps k) hget hnx ?_ fun h' tk' dx ⟨k', hx, dn, dne, hns⟩ => ?_
  · show A.depth + 1 < recursionLimit
    exact hroom
  · have old : ∀ b o, hp.get? b = some o → h'.get? b = some o := fun b o e => k' b o (Nat.ne_of_lt (Nat.lt_succ_of_lt (Heap.lt_size e))) (k b o e)
    have z : hp.objs.size + 1 + 1 ≤ dx := by
      first
        | (simpa only [Heap.size_push] using dn)
        | exact dn
        | (have q := dn; rw [Heap.size_push, Heap.size_push] at q; exact q)
    exact ⟨rfl, hq h' tk' (hp.objs.size + 1) dx ⟨old, Nat.le_succ _, ⟨_, _, hx, rfl, rfl, rfl, rfl⟩, Nat.le_trans (Nat.le_trans (Nat.le_succ _) (Nat.le_succ _)) z, dne, hns⟩⟩
end
end Exthing
end PySem
namespace L2
open PySem PySem.Spec PyProof.Rows
theorem relO_low_thing {v : V} {v' : Value} (r : RelV v v') (f : Str) : RelO (List.lookup f [(("thing" : Str), v)]) (if f = "thing" then some v' else none) := by
  by_cases hw : f = "thing"
  · subst hw
    rw [if_pos rfl]
    have q : List.lookup ("thing" : Str) [(("thing" : Str), v)] = some v := by simp [List.lookup]
    rw [q]
    exact r
  · rw [if_neg hw]
    have qw : (f == ("thing" : Str)) = false := by simpa using hw
    have q2 : List.lookup f [(("thing" : Str), v)] = none := by simp [List.lookup, qw]
    rw [q2]
    trivial
section
variable {X : Cx} {C fI : Addr} {cn qn : Str}
/-- Low(e) -/
def tMkLow_thing (C : Addr) (ta : TA) : St → Hp → XK → Prop := fun σ H Q => ta σ H fun vs H1 => ∃ v, vs = [v] ∧ ∀ d, H1 d = none → Q (.ref C) (some d) (upd H1 d (.xd [(("thing" : Str), v)]))
theorem pmk_low_thing {a : Expr} {ta : TA} {p pos : Pos} {k : Nat} (T : PySem.Exthing.Txtthing cn qn X.K X.mg C fI) (hr : Room k X.A) (ha : PA X [a] ta) (hg : Gl X cn := by rfl) (hdb : (cn == ("__debug__" : Str)) = false := by decide)
    (he : starEach (a :: []) X.env = (false, eval a X.env) :: starEach [] X.env := by rfl) (hpl : (backTo pos (starEach [] X.env)).any (·.1) = false := by rfl) :
    PMk X (.Call (.Name cn p) [a] [] pos) (tMkLow_thing C ta) := by
  intro pins s σ H Q I h
  refine wpAny_Call_Name_kw (ld_glob I hg T.gC ?_ hdb)
  refine PySem.W.callWith_K (h₀ := X.base) I.ok.mod.kin T.kC (thn (ha.run pos pins s σ H _ I h) fun us s1 hh => ?_) he hpl
  obtain ⟨vs, H1, I1, r1, v, ev, q1⟩ := hh
  subst ev
  refine ⟨I1.kIn, ?_⟩
  cases r1 with
  | cons rv rn =>
    rename_i v' us'
    cases rn
    show wpAny _ _ (call (.ref C) [v']) _ _ _
    have hlim := I1.nolimit
    obtain ⟨hp, g, dr, tk, os⟩ := s1
    refine wpAny_call (PySem.Exthing.low_made_thing T I1.kIn hlim (by have := hr.dp; omega) fun h' tk' e d M => ?_)
    show MkP X pins σ Q (.ref e) ⟨h', g, dr, tk', os⟩
    obtain ⟨oe, fv, hoe, hc, hd, hdat, h1⟩ := M.obj
    have hns := M.ns
    obtain ⟨G', g1, g2⟩ := restrict h' fun b => decide (b ≠ e)
    have gk : ∀ b, b ≠ e → G'.get? b = h'.get? b := fun b hb => g1 b (decide_eq_true hb)
    have ge : G'.get? e = none := g2 e (by simp)
    have old : ∀ b o, hp.get? b = some o → G'.get? b = some o := fun b o q => (gk b (Nat.ne_of_lt (Nat.lt_of_lt_of_le (Heap.lt_size q) M.new))).trans (M.keep b o q)
    have ob : ObjOk X.prog X.w (upd H1 d (.xd [(("thing" : Str), v)])) G' d (.xd [(("thing" : Str), v)]) :=
      ⟨_, hns.at (fun o q => (gk d M.dne).trans q), fun f => relO_low_thing rv f⟩
    have J : Inv X pins σ (upd H1 d (.xd [(("thing" : Str), v)])) ⟨G', g, dr, tk', os⟩ := I1.laid (t' := tk') old M.dbig ob
    refine ⟨e, oe, fv, ⟨G', g, dr, tk', os⟩, _, .ref C, some d, rfl, J, fun b o q => ?_, ge, hoe, ⟨hc, hd⟩, hdat, h1, ?_, rfl, I1.bare, raises_own T.exC T.tyC, q1 d (I1.hok.fresh M.dbig)⟩
    · by_cases hb : b = e
      · have q' : G'.get? b = some o := q
        rw [hb, ge] at q'; cases q'
      · exact (gk b hb).symm.trans q
    · rw [upd_ne (Ne.symm M.dne)]
      exact I1.hok.fresh M.new
/-- raise Low(e) -/
def tRaiseLow_thing (C : Addr) (W : WX) (ta : TA) : TS := fun _ σ H => tMkLow_thing C ta σ H fun cls d H' => W cls d σ H'
theorem ps_raiseLow_thing {a : Expr} {ta : TA} {W : WX} {p pos pos2 : Pos} {k : Nat} (hc : X.calm = true) (T : PySem.Exthing.Txtthing cn qn X.K X.mg C fI) (hr : Room k X.A) (tk : Takes X W) (ha : PA X [a] ta) (hg : Gl X cn := by rfl) (hdb : (cn == ("__debug__" : Str)) = false := by decide)
    (he : starEach (a :: []) X.env = (false, eval a X.env) :: starEach [] X.env := by rfl) (hpl : (backTo pos (starEach [] X.env)).any (·.1) = false := by rfl) :
    PS X (.Raise (some (.Call (.Name cn p) [a] [] pos)) none pos2) (tRaiseLow_thing C W ta) := ps_raise hc tk (pmk_low_thing T hr ha hg hdb he hpl)
/-- low.by, low the exception that the suite holds (at a; its class cls, its dict d) -/
def tByLow_thing (C : Addr) (a : Addr) (cls : Value) (d : Option Addr) (te : TE) : TE := fun σ H Q => te σ H fun x H1 => x = .ref a ∧ cls = .ref C ∧ ∃ (dd : Addr) (v : V), d = some dd ∧ H1 dd = some (.xd [(("thing" : Str), v)]) ∧ Q v H1
theorem pe_byLow_thing {a : Addr} {oe : Obj} {cls : Value} {d : Option Addr} {pn : List (Addr × Obj)} {e : Expr} {te : TE} {pos : Pos} (T : PySem.Exthing.Txtthing cn qn X.K X.mg C fI) (hz : Zc cls d oe) (hf : ∃ vs, oe.data = .fields vs) (he : PE (X.suite a ((a, oe) :: pn)) e te)
    (hb : attributeBase e "thing" X.env (eval e X.env) = eval e X.env := by rfl) :
    PE (X.suite a ((a, oe) :: pn)) (.Attribute e "thing" pos) (tByLow_thing C a cls d te) := by
  refine ⟨fun pins s σ H Q I h => ?_⟩
  refine attr_of hb (thn (he.run pins s σ H _ I h) fun u s1 hh => ?_)
  obtain ⟨x, H1, I1, rx, ex, ec, dd, v, ed, ea, q⟩ := hh
  subst ex
  obtain rfl : u = Value.ref a := rx
  subst ec
  subst ed
  obtain ⟨ha, _⟩ := I1.pin (a, oe) (List.mem_append_left _ List.mem_cons_self)
  obtain ⟨vs, hd⟩ := hf
  have hx : ObjOk X.prog X.w H1 s1.heap dd (.xd [(("thing" : Str), v)]) := I1.hok dd _ ea
  obtain ⟨mA, hns, hr⟩ := hx
  obtain ⟨od, ho, hl⟩ := lookIn_ns hns
  have l : List.lookup ("thing" : Str) [(("thing" : Str), v)] = some v := by simp [List.lookup]
  obtain ⟨u, hu, ru⟩ := RelO.some_of (v := v) (o := mA "thing") (by rw [← l]; exact hr "thing")
  have J : PySem.W.InstAt s1.heap a oe C (some od) := ⟨ha, hz.1, by unfold PySem.W.notCls; rw [hd] <;> rfl, by rw [hz.2]; exact ho⟩
  exact HandSPX.exc_get I1.kIn J T.ga T.gg T.exC (PySem.W.findObj_own T.hdC T.noN rfl (by rw [hl, hu])) (handed_of ru) ⟨v, H1, I1.tok _, ru, q⟩
end
end L2

namespace PySem
namespace Exindex
open PySem.W PySem.Calls PyProof.Rows PySem.HandSPX
/-! ### the text of __init__ -/
def iA (p1 p2 : Pos) : Arguments := { posonlyargs := [], args := [{ arg := "self", annotation := none, pos := p1 }, { arg := "index", annotation := none, pos := p2 }], vararg := none, kwonlyargs := [], kw_defaults := [], kwarg := none, defaults := [] }
def iB (q1 q2 q3 q4 : Pos) : List Stmt := [.Assign [.Attribute (.Name "self" q1) "index" q2] (.Name "index" q3) q4]
def iS : Scope := { kind := .function, names := [(PySem.Str.ofString "self", .local), (PySem.Str.ofString "index", .local)], isGenerator := false, isCoroutine := false, more := [] }
/-- what the written part says of Low, at C, and of its __init__, at fI -/
structure Txtindex (cn qn : Str) (K : Frag) (mg : Str → Option Value) (C fI : Addr) : Prop where
  gC : mg cn = some (.ref C)
  cls : ∃ nm q N bs bm sn sub ab col dd k0 k1 k2 k3 k5, K.lookup C = some (excClassObj nm q C N bs bm true sn sub ab col dd k0 k1 k2 k3 k5 "ValueError.__new__") ∧ refsVE bm = true
  sa : findIn K (.ref C) "__setattr__" = some (some (.builtin "object.__setattr__"))
  ga : findIn K (.ref C) "__getattribute__" = some (some (.builtin "BaseException.__getattribute__"))
  gg : findIn K (.ref C) "__getattr__" = some none
  noN : findIn K (.ref C) "index" = some none
  iC : findIn K (.ref C) "__init__" = some (some (.ref fI))
  tC : typeIn K (.ref fI) = some (.type "function")
  kC : keepIn K (.ref C) = true
  exC : subIn K (.ref C) (.type "BaseException") = some true
  tyC : typeIn K (.ref C) = some (.type "type")
  hdC : hasDictIn K C = true
  te : exmOne K (.ref C) (.ref C) = some true
  fn : ∃ (oc : Value) (od : Option Addr) (doc pm : Value) (an : Option Addr) (cdv ct : Value) (osl : Array (Option Value)) (p1 p2 q1 q2 q3 q4 : Pos),
    K.lookup fI = some ⟨oc, od, .func (fnOf "__init__" qn (iA p1 p2) (iB q1 q2 q3 q4) iS .none .none doc pm an cdv ct), osl⟩ ∧ codeIn K cdv qn = true
theorem one_size_index (v : Value) : [v].length ≤ sizeLine := by
  rw [sizeLine_eq]
  exact (by decide : 1 ≤ 16777216)
theorem kept_but_index {K : Frag} {h h' : Heap} {x : Addr} (X : K.In h) (hx : K.lookup x = none) (k : ∀ b o, b ≠ x → h.get? b = some o → h'.get? b = some o) : K.In h' := fun a o e =>
  k a o (fun z => by rw [z, hx] at e; cases e) (X a o e)
theorem ldC_index {M : Model} {s : Shared} {name : Str} {scope : Scope} {L a : Addr} {cd : Value} {m : Str → Option Value} {x : Str} {pos : Pos} {v : Value} {Q : Value → Shared → Prop} {A : Around} {E : Value → Shared → Prop} (hn : s.heap.Ns L m) (hv : m x = some v) (h : Q v s)
    (hk : scope.kind = .function := by rfl) (hl : (envOfC name scope L a cd).kindOf x = some .local := by rfl) (hd : (x == ("__debug__" : Str)) = false := by decide) :
    wpAny M A (eval (.Name x pos) (envOfC name scope L a cd)) Q E s := wpAny_Name (wpAny_loadName_local hk hl hn hv h) hd
/-- what __init__ leaves of a fresh exception at x -/
structure InitEnd_index (h h' : Heap) (x C dx t1 : Addr) (v : Value) : Prop where
  keep : ∀ b o, b ≠ x → h.get? b = some o → h'.get? b = some o
  obj : h'.get? x = some { cls := .ref C, dict := some dx, data := .fields #[.ref t1, .none, .none, .none, .bool false, .none] }
  dbig : h.objs.size ≤ dx
  dne : dx ≠ x
  ns : h'.Ns1 dx (fun y => if y = "index" then some v else none)
/-- a made Low -/
structure OwnMade_index (h h' : Heap) (e C d : Addr) (v : Value) : Prop where
  keep : ∀ b o, h.get? b = some o → h'.get? b = some o
  new : h.objs.size ≤ e
  obj : ∃ oe vs, h'.get? e = some oe ∧ oe.cls = .ref C ∧ oe.dict = some d ∧ oe.data = .fields vs ∧ vs[1]? = some .none
  dbig : h.objs.size ≤ d
  dne : d ≠ e
  ns : h'.Ns1 d (fun y => if y = "index" then some v else none)
section
variable {prog : Program} {w : World} {A : Around} {E : Value → Shared → Prop} {R : Result → Shared → Prop} {s : Shared} {K : Frag} {mg : Str → Option Value} {C fI : Addr} {cn qn : Str}
theorem low_init_index (T : Txtindex cn qn K mg C fI) {x t0 : Addr} {v : Value} (X : K.In s.heap) (hlim : s.heap.NoLimit) (hx : s.heap.get? x = some (excO C t0)) (hnx : K.lookup x = none) (hroom : A.depth < recursionLimit)
    (hq : ∀ h' tk dx, InitEnd_index s.heap h' x C dx t0 v → R (.ok (.ret .none)) { s with heap := h', toks := tk }) :
    codeAny (model prog w) A (.call (.ref fI) ⟨[.ref x, v], []⟩) R s := by
  obtain ⟨oc, od, doc, pm, an, cdv, ct, osl, p1, p2, q1, q2, q3, q4, ho, hcd⟩ := T.fn
  obtain ⟨nm, q, N, bs, bm, sn, sub, ab, col, dd, k0, k1, k2, k3, k5, hC, hbm⟩ := T.cls
  have hcl : clsIn K C = some { name := nm, bases := bs, mro := .ref C :: bm, ns := N, qualname := q, hasDict := true, slotNames := sn, subclasses := sub, abstract := ab, collection := col, hasDel := false } := by unfold clsIn; rw [hC] <;> rfl
  refine Att.call_fn (binds := [("self", .ref x), ("index", v)]) X hlim ho hcd hroom (BindsTo.of_eq (by first | rfl | with_unfolding_all rfl)) (by first | rfl | decide | with_unfolding_all rfl) (fun s₁ IC => ?_) rfl rfl rfl
  obtain ⟨h₁, tk₁, rfl⟩ := IC.toInCall.same
  have k : ∀ b o, s.heap.get? b = some o → h₁.get? b = some o := IC.toInCall.keep
  have hn := IC.toInCall.ns
  have hxL : s.heap.objs.size ≠ x := Nat.ne_of_gt (Heap.lt_size hx)
  have X₁ : K.In h₁ := X.keeps k
  have hx₁ := k _ _ hx
  -- self.by = by
  show wpAny _ _ (execs _ _) _ _ _
  refine wpAny_execs_cons (plainObj_wpAny_Assign_Attribute ?_)
  refine ldC_index (v := v) hn (by first | rfl | with_unfolding_all rfl | kernel_rfl) (ldC_index (v := .ref x) hn (by first | rfl | with_unfolding_all rfl | kernel_rfl) ?_)
  refine set_plain X₁ (ox := excO C t0) (od := none) ⟨hx₁, rfl, rfl, trivial⟩ T.sa ?_
  refine exc_osa X₁ hx₁ hcl (show refsVE (.ref C :: bm) = true from hbm) rfl T.noN (fun h₃ tk₃ dx k₃ dn dne hx₃ hn₃ => ?_)
  show wpAny _ _ (execs _ _) _ _ _
  have z : s.heap.objs.size < h₁.objs.size := hn.lt
  exact wpAny_execs_nil (hq h₃ tk₃ dx ⟨fun b o hb e => k₃ b o hb (k b o e), hx₃, Nat.le_of_lt (Nat.lt_of_lt_of_le z dn), dne, hn₃⟩)
theorem low_made_index (T : Txtindex cn qn K mg C fI) {v : Value} (X : K.In s.heap) (hlim : s.heap.NoLimit) (hroom : A.depth + 1 < recursionLimit)
    (hq : ∀ h' tk e d, OwnMade_index s.heap h' e C d v → R (.ok (.ret (.ref e))) { s with heap := h', toks := tk }) :
    codeAny (model prog w) A (.call (.ref C) ⟨[v], []⟩) R s := by
  obtain ⟨nm, q, N, bs, bm, sn, sub, ab, col, dd, k0, k1, k2, k3, k5, hC, hbm⟩ := T.cls
  obtain ⟨hp, g, dr, tk, os⟩ := s
  have k : ∀ b o, hp.get? b = some o → ((hp.push (kdv_tup [v])).push (excO C hp.objs.size)).get? b = some o := fun b o e => Heap.get?_push_of_some _ (Heap.get?_push_of_some _ e)
  have hget : ((hp.push (kdv_tup [v])).push (excO C hp.objs.size)).get? (hp.objs.size + 1) = some (excO C hp.objs.size) := by heap_get
  have hnx : K.lookup (hp.objs.size + 1) = none := by
    cases e : K.lookup (hp.objs.size + 1) with
    | none => rfl
    | some o =>
      have z : hp.get? (hp.objs.size + 1) = some o := X _ _ e
      exact absurd (Nat.lt_of_succ_lt (Heap.lt_size z)) (Nat.lt_irrefl _)
  refine call_own F.excBase_ValueError (fun X => refsVE_contains X bm hbm) (X _ _ hC) (looks_findIn X T.iC) (fun self => bind_fn X self T.tC) (one_size_index v) ?_
  refine low_init_index (s := ⟨(hp.push (kdv_tup [v])).push (excO C hp.objs.size), g, dr, tk, os⟩) T (X.keeps k) (hlim.keeps k) hget hnx ?_ fun h' tk' dx ⟨k', hx, dn, dne, hns⟩ => ?_
  · show A.depth + 1 < recursionLimit
    exact hroom
  · have old : ∀ b o, hp.get? b = some o → h'.get? b = some o := fun b o e => k' b o (Nat.ne_of_lt (Nat.lt_succ_of_lt (Heap.lt_size e))) (k b o e)
    have z : hp.objs.size + 1 + 1 ≤ dx := by
      first
        | (simpa only [Heap.size_push] using dn)
        | exact dn
        | (have q := dn; rw [Heap.size_push, Heap.size_push] at q; exact q)
    exact ⟨rfl, hq h' tk' (hp.objs.size + 1) dx ⟨old, Nat.le_succ _, ⟨_, _, hx, rfl, rfl, rfl, rfl⟩, Nat.le_trans (Nat.le_trans (Nat.le_succ _) (Nat.le_succ _)) z, dne, hns⟩⟩
end
end Exindex
end PySem
namespace L2
open PySem PySem.Spec PyProof.Rows
theorem relO_low_index {v : V} {v' : Value} (r : RelV v v') (f : Str) : RelO (List.lookup f [(("index" : Str), v)]) (if f = "index" then some v' else none) := by
  by_cases hw : f = "index"
  · subst hw
    rw [if_pos rfl]
    have q : List.lookup ("index" : Str) [(("index" : Str), v)] = some v := by simp [List.lookup]
    rw [q]
    exact r
  · rw [if_neg hw]
    have qw : (f == ("index" : Str)) = false := by simpa using hw
    have q2 : List.lookup f [(("index" : Str), v)] = none := by simp [List.lookup, qw]
    rw [q2]
    trivial
section
variable {X : Cx} {C fI : Addr} {cn qn : Str}
/-- Low(e) -/
def tMkLow_index (C : Addr) (ta : TA) : St → Hp → XK → Prop := fun σ H Q => ta σ H fun vs H1 => ∃ v, vs = [v] ∧ ∀ d, H1 d = none → Q (.ref C) (some d) (upd H1 d (.xd [(("index" : Str), v)]))
theorem pmk_low_index {a : Expr} {ta : TA} {p pos : Pos} {k : Nat} (T : PySem.Exindex.Txtindex cn qn X.K X.mg C fI) (hr : Room k X.A) (ha : PA X [a] ta) (hg : Gl X cn := by rfl) (hdb : (cn == ("__debug__" : Str)) = false := by decide)
    (he : starEach (a :: []) X.env = (false, eval a X.env) :: starEach [] X.env := by rfl) (hpl : (backTo pos (starEach [] X.env)).any (·.1) = false := by rfl) :
    PMk X (.Call (.Name cn p) [a] [] pos) (tMkLow_index C ta) := by
  intro pins s σ H Q I h
  refine wpAny_Call_Name_kw (ld_glob I hg T.gC ?_ hdb)
  refine PySem.W.callWith_K (h₀ := X.base) I.ok.mod.kin T.kC (thn (ha.run pos pins s σ H _ I h) fun us s1 hh => ?_) he hpl
  obtain ⟨vs, H1, I1, r1, v, ev, q1⟩ := hh
  subst ev
  refine ⟨I1.kIn, ?_⟩
  cases r1 with
  | cons rv rn =>
    rename_i v' us'
    cases rn
    show wpAny _ _ (call (.ref C) [v']) _ _ _
    have hlim := I1.nolimit
    obtain ⟨hp, g, dr, tk, os⟩ := s1
    refine wpAny_call (PySem.Exindex.low_made_index T I1.kIn hlim (by have := hr.dp; omega) fun h' tk' e d M => ?_)
    show MkP X pins σ Q (.ref e) ⟨h', g, dr, tk', os⟩
    obtain ⟨oe, fv, hoe, hc, hd, hdat, h1⟩ := M.obj
    have hns := M.ns
    obtain ⟨G', g1, g2⟩ := restrict h' fun b => decide (b ≠ e)
    have gk : ∀ b, b ≠ e → G'.get? b = h'.get? b := fun b hb => g1 b (decide_eq_true hb)
    have ge : G'.get? e = none := g2 e (by simp)
    have old : ∀ b o, hp.get? b = some o → G'.get? b = some o := fun b o q => (gk b (Nat.ne_of_lt (Nat.lt_of_lt_of_le (Heap.lt_size q) M.new))).trans (M.keep b o q)
    have ob : ObjOk X.prog X.w (upd H1 d (.xd [(("index" : Str), v)])) G' d (.xd [(("index" : Str), v)]) :=
      ⟨_, hns.at (fun o q => (gk d M.dne).trans q), fun f => relO_low_index rv f⟩
    have J : Inv X pins σ (upd H1 d (.xd [(("index" : Str), v)])) ⟨G', g, dr, tk', os⟩ := I1.laid (t' := tk') old M.dbig ob
    refine ⟨e, oe, fv, ⟨G', g, dr, tk', os⟩, _, .ref C, some d, rfl, J, fun b o q => ?_, ge, hoe, ⟨hc, hd⟩, hdat, h1, ?_, rfl, I1.bare, raises_own T.exC T.tyC, q1 d (I1.hok.fresh M.dbig)⟩
    · by_cases hb : b = e
      · have q' : G'.get? b = some o := q
        rw [hb, ge] at q'; cases q'
      · exact (gk b hb).symm.trans q
    · rw [upd_ne (Ne.symm M.dne)]
      exact I1.hok.fresh M.new
/-- raise Low(e) -/
def tRaiseLow_index (C : Addr) (W : WX) (ta : TA) : TS := fun _ σ H => tMkLow_index C ta σ H fun cls d H' => W cls d σ H'
theorem ps_raiseLow_index {a : Expr} {ta : TA} {W : WX} {p pos pos2 : Pos} {k : Nat} (hc : X.calm = true) (T : PySem.Exindex.Txtindex cn qn X.K X.mg C fI) (hr : Room k X.A) (tk : Takes X W) (ha : PA X [a] ta) (hg : Gl X cn := by rfl) (hdb : (cn == ("__debug__" : Str)) = false := by decide)
    (he : starEach (a :: []) X.env = (false, eval a X.env) :: starEach [] X.env := by rfl) (hpl : (backTo pos (starEach [] X.env)).any (·.1) = false := by rfl) :
    PS X (.Raise (some (.Call (.Name cn p) [a] [] pos)) none pos2) (tRaiseLow_index C W ta) := ps_raise hc tk (pmk_low_index T hr ha hg hdb he hpl)
/-- low.by, low the exception that the suite holds (at a; its class cls, its dict d) -/
def tByLow_index (C : Addr) (a : Addr) (cls : Value) (d : Option Addr) (te : TE) : TE := fun σ H Q => te σ H fun x H1 => x = .ref a ∧ cls = .ref C ∧ ∃ (dd : Addr) (v : V), d = some dd ∧ H1 dd = some (.xd [(("index" : Str), v)]) ∧ Q v H1
theorem pe_byLow_index {a : Addr} {oe : Obj} {cls : Value} {d : Option Addr} {pn : List (Addr × Obj)} {e : Expr} {te : TE} {pos : Pos} (T : PySem.Exindex.Txtindex cn qn X.K X.mg C fI) (hz : Zc cls d oe) (hf : ∃ vs, oe.data = .fields vs) (he : PE (X.suite a ((a, oe) :: pn)) e te)
    (hb : attributeBase e "index" X.env (eval e X.env) = eval e X.env := by rfl) :
    PE (X.suite a ((a, oe) :: pn)) (.Attribute e "index" pos) (tByLow_index C a cls d te) := by
  refine ⟨fun pins s σ H Q I h => ?_⟩
  refine attr_of hb (thn (he.run pins s σ H _ I h) fun u s1 hh => ?_)
  obtain ⟨x, H1, I1, rx, ex, ec, dd, v, ed, ea, q⟩ := hh
  subst ex
  obtain rfl : u = Value.ref a := rx
  subst ec
  subst ed
  obtain ⟨ha, _⟩ := I1.pin (a, oe) (List.mem_append_left _ List.mem_cons_self)
  obtain ⟨vs, hd⟩ := hf
  have hx : ObjOk X.prog X.w H1 s1.heap dd (.xd [(("index" : Str), v)]) := I1.hok dd _ ea
  obtain ⟨mA, hns, hr⟩ := hx
  obtain ⟨od, ho, hl⟩ := lookIn_ns hns
  have l : List.lookup ("index" : Str) [(("index" : Str), v)] = some v := by simp [List.lookup]
  obtain ⟨u, hu, ru⟩ := RelO.some_of (v := v) (o := mA "index") (by rw [← l]; exact hr "index")
  have J : PySem.W.InstAt s1.heap a oe C (some od) := ⟨ha, hz.1, by unfold PySem.W.notCls; rw [hd] <;> rfl, by rw [hz.2]; exact ho⟩
  exact HandSPX.exc_get I1.kIn J T.ga T.gg T.exC (PySem.W.findObj_own T.hdC T.noN rfl (by rw [hl, hu])) (handed_of ru) ⟨v, H1, I1.tok _, ru, q⟩
end
end L2


/-! # An object made where its making may raise; several clauses that name the error -/
namespace Lr
open PySem PySem.Spec PyProof.Rows L2
section
variable {X : Cx} {CX : CXT} {k : Nat} {f C : Addr} {fd : FuncData} {ps : List Str} {sp : Sp} {E : L2.St → XK} {x : Str} {p pos : Pos} {e : Expr} {es : List Expr} {t : TA}
/-- C(..) with what is wished of an exception at the maker's slots -/
def tMakeS (C : Addr) (sp : Sp) (E : L2.St → XK) (t : TA) : TE := fun σ H Q => t σ H fun vs H1 => ∀ x dx, H1 x = none → H1 dx = none → dx ≠ x →
  sp (.ref x :: vs) (upd (upd H1 dx (.own x)) x (.ins C dx [])) (fun v H2 => v = .non ∧ Q (.ref x) H2) (E σ)
/-- the maker of a class: its __init__ -/
structure MkC (P : Program) (w : World) (K : PySem.W.Frag) (mg : Str → Option Value) (base : Heap) (CX : CXT) (k : Nat) (x : Str) (C : Addr) (ps : List Str) (sp : Sp) : Prop where
  ex : ∃ (f : Addr) (fd : FuncData), Mk K C f ∧ FnOk P w K mg base CX k f fd ps sp ∧ Binds K fd ps []
  mg : mg x = some (.ref C)
theorem pmkS (M : MkC X.prog X.w X.K X.mg X.base CX k x C ps sp) (hr : Room (k + 1) X.A) (hx : ∀ σ, PassesAt CX X σ (E σ))
    (ha : PA X (e :: es) t) (hg : Gl X x := by rfl) (hdb : (x == ("__debug__" : Str)) = false := by decide) (he : starEach (e :: es) X.env = (false, eval e X.env) :: starEach es X.env := by rfl) (hpl : (backTo pos (starEach es X.env)).any (·.1) = false := by rfl) :
    PE X (.Call (.Name x p) (e :: es) [] pos) (tMakeS C sp E t) := by
  obtain ⟨f, fd, m, F, hb⟩ := M.ex
  refine ⟨fun pins s σ H Q I h => ?_⟩
  refine wpAny_Call_Name_kw (ld_glob I hg M.mg ?_ hdb)
  refine PySem.W.callWith_K (h₀ := X.base) I.ok.mod.kin m.kp (thn (ha.run pos pins s σ H _ I h) fun us s1 hh => ?_) he hpl
  obtain ⟨vs, H1, I1, r, q⟩ := hh
  refine ⟨I1.kIn, ?_⟩
  have new1 : H1 (s1.heap.objs.size + 1) = none := I1.hok.fresh (Nat.le_succ _)
  have new0 : H1 s1.heap.objs.size = none := I1.hok.fresh (Nat.le_refl _)
  have hq := q (s1.heap.objs.size + 1) s1.heap.objs.size new1 new0 (Nat.ne_of_lt (Nat.lt_succ_self _))
  have I2 := Inv.made (C := C) I1
  have r2 : Vals (V.ref (s1.heap.objs.size + 1) :: vs) (Value.ref (s1.heap.objs.size + 1) :: us) := .cons rfl r
  have hl : (Value.ref (s1.heap.objs.size + 1) :: us).length = ps.length := by
    have el := r2.length
    rw [F.len _ _ _ _ hq] at el
    exact el.symm
  have hbd := hb _ (Value.ref (s1.heap.objs.size + 1) :: us) I2.kIn (by rw [List.append_nil]; exact hl)
  rw [List.append_nil] at hbd
  refine wpAny_call (make_map (f := f) I1.kIn m.makes m.init (beq_iff_eq.mp m.fn) (codeAny_mono (F.run _ X.stack _ _ ⟨Value.ref (s1.heap.objs.size + 1) :: us, []⟩ (Value.ref (s1.heap.objs.size + 1) :: us) _ _ (E σ) (hr.make C us [])
    (I2.env0.make C us []) hbd r2 hq) fun r s' hq' => ?_))
  cases r with
  | error er => exact hx σ pins _ _ er s' I2 hq'
  | ok fl =>
    cases fl with
    | ret u =>
      obtain ⟨v, H', I3, rv, ev, q3⟩ := I2.after hq'
      subst ev
      exact ⟨rv, ⟨V.ref (s1.heap.objs.size + 1), H', I3, rfl, q3⟩⟩
    | next => exact False.elim hq'
    | brk => exact False.elim hq'
    | cont => exact False.elim hq'
theorem passesAt0 {X : Cx} : ∀ σ : L2.St, PassesAt (L2.CX X.prog X.w) X σ E0 := fun σ pins H s e s' I h => passL pins σ H s e s' I h
/-- .. where nothing is raised -/
theorem pmk (M : MkC X.prog X.w X.K X.mg X.base (L2.CX X.prog X.w) k x C ps sp) {k' : Nat} (hr : Room k' X.A) (ha : PA X (e :: es) t) (hk : k + 1 ≤ k' := by omega) (hg : Gl X x := by rfl)
    (hdb : (x == ("__debug__" : Str)) = false := by decide) (he : starEach (e :: es) X.env = (false, eval e X.env) :: starEach es X.env := by rfl) (hpl : (backTo pos (starEach es X.env)).any (·.1) = false := by rfl) :
    PE X (.Call (.Name x p) (e :: es) [] pos) (tMakeS C sp (fun _ => E0) t) := pmkS M (hr.mono hk) passesAt0 ha hg hdb he hpl
end
/-- what the clauses «except c as n» wish, one after the other; all names stand in slot i -/
def wAsMany (K : PySem.W.Frag) (i : Nat) (Wout : WX) (D : Ends) : List (Value × (Addr → Value → Option Addr → TS)) → WX
  | [] => Wout
  | (c, ts) :: r => fun cls d σ H => ∃ b, PySem.W.exmOne K cls c = some b ∧
    (b = true → ∀ a, H a = none → ts a cls d { nx := fun σ' H' => D.nx (σ'.set i none) H', rt := D.rt, bk := fun σ' H' => D.bk (σ'.set i none) H', ct := fun σ' H' => D.ct (σ'.set i none) H' } (σ.set i (some (.ref a))) H) ∧
    (b = false → wAsMany K i Wout D r cls d σ H)
inductive HdsAs (X : Cx) (n : Str) : List ExceptHandler → List (Value × (Addr → Value → Option Addr → TS)) → Prop
  | nil : HdsAs X n [] []
  | cons {x : Str} {c : Value} {ts : Addr → Value → Option Addr → TS} {b0 : Stmt} {suite : List Stmt} {np pos' : Pos} {hds : List ExceptHandler} {l : List (Value × (Addr → Value → Option Addr → TS))} (hc : Names X x c)
      (hsu : ∀ (a : Addr) (oe : Obj) (cls : Value) (d : Option Addr) (pn : List (Addr × Obj)), Zc cls d oe → (∃ vs, oe.data = .fields vs) → PSs (X.suite a ((a, oe) :: pn)) (b0 :: suite) (ts a cls d)) (r : HdsAs X n hds l) :
      HdsAs X n (.ExceptHandler (some (.Name x np)) (some n) (b0 :: suite) pos' :: hds) ((c, ts) :: l)
section
variable {X : Cx} {body : List Stmt} {h0 : ExceptHandler} {hds : List ExceptHandler} {l : List (Value × (Addr → Value → Option Addr → TS))} {pos : Pos} {tb : WX → TS} {Wout : WX} {n : Str} {i : Nat}
theorem ps_try_asMany (hs : X.stack = X.env :: X.outer) (hf : X.env.frame = some X.env.locals) (hN : X.N.Nodup) (hi : X.N[i]? = some n) (hln : X.env.kindOf n = some .local) (tk : Takes X Wout)
    (hb : ∀ (W : WX) (pn : List (Addr × Obj)) (xe : Value → Shared → Prop), Takes (X.tr pn xe) W → PassesOwn (model X.prog X.w) X.A X.env xe → PSs (X.tr pn xe) body (tb W))
    (hh : HdsAs X n (h0 :: hds) l) : PS X (.Try body (h0 :: hds) [] [] pos) (fun D σ H => tb (wAsMany X.K i Wout D l) D σ H) := by
  refine ⟨fun pins s σ H D I h => ?_⟩
  have ok := I.ok
  have hfr : X.A.frames = some (X.env :: X.outer) := ok.frames.trans (congrArg some hs)
  have hloc : Loc X.env.scope n := .inl hln
  refine wpAny_Try_except ?_
  refine wpAny_mono ((hb (wAsMany X.K i Wout D l) (X.pn ++ pins) (fun e s1 => wpAny (model X.prog X.w) X.A (noteFrame e X.env) (fun _ s2 => wpAny (model X.prog X.w) X.A (setFlight e none) (fun _ s3 =>
    wpAny (model X.prog X.w) X.A (handleBy e X.env (h0 :: hds)) (SP X pins D) X.xe s3) X.xe s2) X.xe s1) (fun u s' xx => ?_) PassesOwn.looking).run [] s σ H D (I.toTry _) h) (fun fl s1 hsp => ?_) (fun e s1 he => he)
  · obtain ⟨a, B, sI, pins', σ', H', cls, d, rfl, J', nb, up, sky, na, os, ag, w⟩ := xx
    have J : Inv X pins σ' H' sI := J'.ofTry ok
    have sky' : Sky B (X.env :: X.outer) a (Zc cls d) X.env.locals s'.heap := by
      rw [← hs]
      exact sky
    show wpAny (model X.prog X.w) X.A (noteFrame (.ref a) X.env) _ _ _
    refine Sky.land Zc.steady hfr hf sky' fun h3 fl3 up3 => ?_
    have J3 : Inv X pins σ' H' { s' with heap := h3 } := J.landed nb fl3.1 (up.trans up3) os ag
    obtain ⟨oe3, vs3, he3, hz3, hd3⟩ := fl3.there
    have nfr : a ∉ frs (X.env :: X.outer) := fun hm => by
      obtain ⟨_, o', e', hnf⟩ := fl3.2.2.1.mem hm
      rw [he3] at e'
      cases e'
      exact hnf _ hd3
    have nL : a ≠ X.env.locals := fun z => nfr (List.mem_filterMap.mpr ⟨X.env, List.mem_cons_self, hf.trans (congrArg some z.symm)⟩)
    have nF : a ∉ X.fs := fun hm => by
      obtain ⟨e, he, q⟩ := List.mem_filterMap.mp hm
      exact nfr (List.mem_filterMap.mpr ⟨e, List.mem_cons_of_mem _ he, q⟩)
    have S3 := J3.suite he3 hd3 na nL nF
    have go : ∀ {hds' : List ExceptHandler} {l' : List (Value × (Addr → Value → Option Addr → TS))}, HdsAs X n hds' l' → wAsMany X.K i Wout D l' cls d σ' H' →
        wpAny (model X.prog X.w) X.A (handleBy (.ref a) X.env hds') (SP X pins D) X.xe { s' with heap := h3 } := by
      intro hds' l' hk
      induction hk with
      | nil =>
        intro w
        refine wpAny_handleBy_nil ?_
        obtain ⟨k1, k2, k3, oe, vs, T, oT, ts', he, hz, hd, h1, hr⟩ := id fl3
        unfold PySem.passOn
        refine wpAny_bind (wpAny_field he hd h1 ?_)
        rw [if_neg (show ¬ ((Value.ref T == Value.none) = true) from by simp)]
        have fin : wpAny (model X.prog X.w) X.A (setFlight (.ref a) X.env.frame) (fun _ s4 => wpAny (model X.prog X.w) X.A (throw (.ref a) : Sem Flow) (SP X pins D) X.xe s4) X.xe { s' with heap := h3 } := by
          rw [hf]
          refine HandSPX.setFlight_upZ fl3 fun h4 hh4 up4 => wpAny_throw (tk _ _ ?_)
          exact ⟨a, B, sI, pins, σ', H', cls, d, rfl, J, nb, (up.trans up3).trans up4, .inr (.inr (by rw [hs]; exact hh4)), na, os, ag, w⟩
        first
          | exact wpAny_bind (wpAny_pure (wpAny_bind fin))
          | exact wpAny_bind fin
      | @cons x c ts b0 suite np pos' hds2 l2 hc hsu r ih =>
        intro w
        obtain ⟨b, hb1, hyes, hno⟩ := w
        refine wpAny_handleBy_cons (codeAny_handlers_test ?_) (by intro q; cases q)
        have LT : PySem.W.Looks (model X.prog X.w) h3 (typeOf (.ref a)) cls := fun A Q E s k q => wpAny_typeOf_ref (k _ _ he3) (by rw [hz3.1]; exact q)
        have LM := PySem.W.exm_one (M := model X.prog X.w) (J3.kIn) LT hb1
        have test : ∀ {Q : Value → Shared → Prop} {E : Value → Shared → Prop}, Q c { s' with heap := h3 } → wpAny (model X.prog X.w) (X.A.mark (some (.ref a))) (eval (.Name x np) X.env) Q E { s' with heap := h3 } := fun {Q E} q => by
          obtain ⟨hg, hdbg, hm | ⟨hm, hv, hnn⟩⟩ := hc
          · exact ld_glob (X := X.suite a ((a, oe3) :: (X.pn ++ pins))) S3 hg hm q hdbg
          · exact ld_blt (X := X.suite a ((a, oe3) :: (X.pn ++ pins))) S3 hg hm hv q hnn hdbg
        refine test (LM.here ?_)
        cases b with
        | true =>
          refine codeAny_handlers_suite_as ?_
          refine HandSPX.lands_againZ fl3 fun h4 fl4 up4 => ?_
          have J4 : Inv X pins σ' H' { s' with heap := h4 } := J.landed nb fl4.1 ((up.trans up3).trans up4) os ag
          obtain ⟨oe4, vs4, he4, hz4, hd4⟩ := fl4.there
          have S4 := J4.suite he4 hd4 na nL nF
          refine store_ok (X := X.suite a ((a, oe4) :: (X.pn ++ pins))) (v := .ref a) S4 hN hi hloc rfl (fun s5 S5 => ?_) (.inr hln)
          refine wpAny_mono ((hsu a oe4 cls d (X.pn ++ pins) hz4 ⟨_, hd4⟩).run [] s5 _ H' _ S5 (hyes rfl a na)) (fun f s6 hsp => ?_) (fun _ _ z => False.elim z)
          have end_ : ∀ {σ6 : L2.St} {H6 : Hp} {Q : Shared → Prop}, Inv (X.suite a ((a, oe4) :: (X.pn ++ pins))) [] σ6 H6 s6 → (∀ s7, Inv X pins (σ6.set i none) H6 s7 → Q s7) →
              wpAny (model X.prog X.w) X.A (do bindName X.env n .none; unbindBehindTheSuite X.env n pos') (fun _ s7 => Q s7) X.xe s6 := fun {σ6 H6 Q} S6 hq => gone_ok (S6.unsuite ok) hN hi hln hq
          cases f with
          | next =>
            obtain ⟨σ6, H6, S6, q6⟩ := hsp
            exact end_ S6 fun s7 J7 => ⟨_, _, J7, q6⟩
          | brk =>
            obtain ⟨σ6, H6, S6, q6⟩ := hsp
            exact end_ S6 fun s7 J7 => ⟨_, _, J7, q6⟩
          | cont =>
            obtain ⟨σ6, H6, S6, q6⟩ := hsp
            exact end_ S6 fun s7 J7 => ⟨_, _, J7, q6⟩
          | ret u =>
            obtain ⟨v6, σ6, H6, S6, r6, q6⟩ := hsp
            exact end_ S6 fun s7 J7 => ⟨_, _, _, J7, r6, q6⟩
        | false =>
          show wpAny _ X.A (handleBy (.ref a) X.env hds2) _ _ _
          exact ih (hno rfl)
    exact go hh w
  · cases fl with
    | next =>
      obtain ⟨σ', H', J', q⟩ := hsp
      exact wpAny_execs_nil ⟨σ', H', J'.ofTry ok, q⟩
    | brk =>
      obtain ⟨σ', H', J', q⟩ := hsp
      exact ⟨σ', H', J'.ofTry ok, q⟩
    | cont =>
      obtain ⟨σ', H', J', q⟩ := hsp
      exact ⟨σ', H', J'.ofTry ok, q⟩
    | ret u =>
      obtain ⟨v, σ', H', J', r, q⟩ := hsp
      exact ⟨v, σ', H', J'.ofTry ok, r, q⟩
end
end Lr

/-! # enumerate over a list or a tuple, from any count -/
namespace Lr
open PySem PySem.Spec PyProof.Rows L2
set_option maxHeartbeats 1000000 in
theorem meets_enum0 {v : Value} {o : Obj} {H : Heap → Prop} (B : Begins v o H) :
    Meets (Builtin.«enumerate.__new__» ⟨[.type "enumerate", v], []⟩) (fun _ R s => H s.heap ∧
      R (.ok (.ret (.ref (s.heap.push o).objs.size))) { s with heap := (s.heap.push o).push { cls := .type "enumerate", data := .fields #[.none, .bool false, .ref s.heap.objs.size, rawInt 0, .none, .none] } }) :=
  .of_wp fun prog w A R s h => by
    obtain ⟨hp, g, d, tk, os⟩ := s
    obtain ⟨h1, h⟩ := h
    have hsub := sub_enumerate
    have q1 : ∀ {A' : Around} {E : Value → Shared → Prop} {Q : Value → Shared → Prop}, Q (.ref hp.objs.size) ⟨hp.push o, g, d, tk, os⟩ → wpAny (model prog w) A' (pyIter v) Q E ⟨hp, g, d, tk, os⟩ :=
      fun q => B.iter prog w _ _ ⟨hp, g, d, tk, os⟩ _ h1 q
    wp_walk using q1
    refine wpAny_stack_any fun st => wpAny_pure ?_
    split
    · rename_i c _ _ _ _ _
      cases (c == Value.type "enumerate")
      · wp_walk using q1
        exact ⟨_, rfl, h⟩
      · wp_walk using q1
        exact ⟨_, rfl, h⟩
    · wp_walk using q1
      exact ⟨_, rfl, h⟩
section
variable {prog : Program} {w : World} {A : Around} {E : Value → Shared → Prop} {s : Shared}
/-- enumerate(v): its two new cells -/
theorem enum_begins0 {v : Value} {o : Obj} {H : Heap → Prop} {Q : Value → Shared → Prop} (B : Begins v o H) (h1 : H s.heap)
    (h : ∀ h', IsEnum h' (s.heap.objs.size + 1) s.heap.objs.size 0 .none → h'.get? s.heap.objs.size = some o → h'.objs.size = s.heap.objs.size + 2 →
      (∀ b o, s.heap.get? b = some o → h'.get? b = some o) → Q (.ref (s.heap.objs.size + 1)) { s with heap := h' }) :
    wpAny (model prog w) A (call (.type "enumerate") [v]) Q E s := by
  refine callType_new F.called_enumerate (by decide) (F.typeCall_enumerate_1 _) (F.newCall_enumerate_1 _) (fun obj => F.args_object_init_2 obj _) F.entry_enumerate_new
    (meets_enum0 B) ⟨h1, ?_⟩
  have hz : (s.heap.push o).objs.size = s.heap.objs.size + 1 := Heap.size_push ..
  show _ ∧ _
  rw [hz]
  have he : IsEnum ((s.heap.push o).push { cls := .type "enumerate", data := .fields #[.none, .bool false, .ref s.heap.objs.size, rawInt 0, .none, .none] }) (s.heap.objs.size + 1) s.heap.objs.size 0 .none := by
    have q := Heap.get?_push_size (s.heap.push o) (o := { cls := .type "enumerate", data := .fields #[.none, .bool false, .ref s.heap.objs.size, rawInt 0, .none, .none] }) rfl
    rw [hz] at q
    exact q
  exact ⟨⟨_, he, rfl⟩, h _ he (Heap.get?_push_of_some _ (Heap.get?_push_size _ B.free)) (by rw [Heap.size_push, hz]) fun b o x => Heap.get?_push_of_some _ (Heap.get?_push_of_some _ x)⟩
end
/-- a built-in class called with keywords -/
theorem callWith_typeKw {M : Model} {A : Around} {E : Value → Shared → Prop} {s : Shared} {env : Env} {pos : Pos} {T : String} {e : Expr} {rest : List Expr} {kws : List Keyword} {Q : Value → Shared → Prop}
    (h : wpAny M A (spliced (backTo pos (starEach (e :: rest) env))) (fun vs s1 => wpAny M A (evalAll ((backToKw pos (keywordEach kws env)).map (·.2)))
      (fun kvs s2 => wpAny M A (call (.type T) vs (((backToKw pos (keywordEach kws env)).filterMap (·.1)).zip kvs)) Q E s2) E s1) E s)
    (he : backTo pos (starEach (e :: rest) env) = (false, eval e env) :: backTo pos (starEach rest env))
    (hplain : (backTo pos (starEach (e :: rest) env)).any (·.1) = false)
    (hall : (backToKw pos (keywordEach kws env)).all (·.1.isSome) = true)
    (hkw : (backToKw pos (keywordEach kws env)).any (·.1.isNone) = false) :
    wpAny M A (callWith pos (.type T) [] (backTo pos (starEach (e :: rest) env)) (backToKw pos (keywordEach kws env))) Q E s := by
  unfold callWith
  have hE : wpAny M A (evalArgs (.type T) true (backTo pos (starEach (e :: rest) env)) (backToKw pos (keywordEach kws env))) (fun a s1 => wpAny M A (call (.type T) ([] ++ a.pos) a.kw) Q E s1) E s := by
    rw [he] at h ⊢
    exact evalArgs_kwB hall h
  refine wpAny_bind (wpAny_holding (wpAny_mono hE (fun a s1 h1 => wpAny_bind (wpAny_standAt ?_)) fun _ _ x => x))
  simp only [hplain, hkw, Bool.or_false]
  refine wpAny_bind (wpAny_pure ?_)
  exact wpAny_bind (wpAny_mono h1 (fun r s2 hr => wpAny_bind (wpAny_holding (wpAny_point (wpAny_pure hr)))) fun _ _ x => x)
/-- the list (tuple) at a as it stands at each turn, each item in a new pair behind its count from c on -/
def ItE (K : PySem.W.Frag) (k : Bool) (a : Addr) (c : Int) : It :=
  ⟨fun i H => ∃ (xs : List V) (x : V), SqK k K H a xs ∧ xs[i]? = some x, fun i H v H' => ∃ T x, v = .ref T ∧ H T = none ∧ H' = upd H T (.tup [.int (c + (i : Nat)), x]) ∧ ∀ xs, SqK k K H a xs → xs[i]? = some x, fun i H => ∃ xs : List V, SqK k K H a xs ∧ xs.length = i⟩
def IterOf (k : Bool) (h : Heap) (it a : Addr) (i : Nat) : Prop := if k = true then h.IsListIter it a i else h.IsTupleIter it a i
def SeqOf (k : Bool) (h : Heap) (a : Addr) (its : Array Value) : Prop := if k = true then h.IsList a its else h.IsTuple a its
theorem IterOf.obj {k : Bool} {h : Heap} {it a : Addr} {i : Nat} (x : IterOf k h it a i) : ∃ o, h.get? it = some o ∧ ∀ v, o.data ≠ .cell v := by
  cases k with
  | true =>
    obtain ⟨o, ho, _, hd⟩ := (show h.IsListIter it a i from x)
    exact ⟨o, ho, fun v q => by rw [hd] at q; cases q⟩
  | false =>
    obtain ⟨o, ho, _, hd⟩ := (show h.IsTupleIter it a i from x)
    exact ⟨o, ho, fun v q => by rw [hd] at q; cases q⟩
theorem IterOf.at {k : Bool} {h h' : Heap} {it a : Addr} {i : Nat} (x : IterOf k h it a i) (e : ∀ o, h.get? it = some o → h'.get? it = some o) : IterOf k h' it a i := by
  cases k with
  | true => exact (show h.IsListIter it a i from x).at e
  | false => exact (show h.IsTupleIter it a i from x).at e
theorem draws_of {prog : Program} {w : World} {A : Around} (k : Bool) (hh : A.handled = none) (it l : Addr) (hne : l ≠ it) (items : Array Value) :
    Draws prog w A it [it, l] items.size (fun i v => items[i]? = some v) (fun i h => IterOf k h it l i ∧ SeqOf k h l items) := by
  cases k with
  | true => exact Draws.list hh it l hne items
  | false => exact Draws.tuple hh it l hne items
theorem SqK.seqOf {k : Bool} {X : Cx} {pins : List (Addr × Obj)} {σ : L2.St} {H : Hp} {s : Shared} {a : Addr} {xs : List V} (I : Inv X pins σ H s) (h : SqK k X.K H a xs) : ∃ its : List Value, Vals xs its ∧ SeqOf k s.heap a its.toArray := by
  cases k with
  | true =>
    obtain ⟨its, rv, ⟨o, n, h1, h2, h3, h4⟩, _⟩ := I.list (show SqL X.K H a xs from h)
    exact ⟨its, rv, ⟨o, h1, h2, n, h4⟩⟩
  | false =>
    obtain ⟨its, rv, h1, _⟩ := I.tuple (show SqT X.K H a xs from h)
    exact ⟨its, rv, h1⟩
theorem SqK.inj {k : Bool} {X : Cx} {pins : List (Addr × Obj)} {σ : L2.St} {H : Hp} {s : Shared} {a : Addr} {xs ys : List V} (I : Inv X pins σ H s) (h : SqK k X.K H a xs) (h' : SqK k X.K H a ys) : xs = ys := by
  cases k with
  | true => exact I.list_inj (show SqL X.K H a xs from h) h'
  | false => exact I.tuple_inj (show SqT X.K H a xs from h) h'
theorem SeqOf.live {k : Bool} {h : Heap} {a : Addr} {its : Array Value} (x : SeqOf k h a its) : ∃ o, h.get? a = some o ∧ ∃ n, o.data = .seq its n := by
  cases k with
  | true =>
    obtain ⟨o, h1, _, h2⟩ := (show h.IsList a its from x)
    exact ⟨o, h1, h2⟩
  | false =>
    obtain ⟨o, h1, _, h2⟩ := (show h.IsTuple a its from x)
    exact ⟨o, h1, h2⟩
theorem IterOf.ne {k : Bool} {h : Heap} {it a b : Addr} {i : Nat} {its : Array Value} (x : IterOf k h it b i) (y : SeqOf k h a its) : a ≠ it := fun z => by
  obtain ⟨o, ho, n, hd⟩ := y.live
  cases k with
  | true =>
    obtain ⟨o', ho', _, hd'⟩ := (show h.IsListIter it b i from x)
    rw [← z, ho] at ho'
    cases ho'
    rw [hd] at hd'
    cases hd'
  | false =>
    obtain ⟨o', ho', _, hd'⟩ := (show h.IsTupleIter it b i from x)
    rw [← z, ho] at ho'
    cases ho'
    rw [hd] at hd'
    cases hd'
theorem turn_enumE {P : Program} {w : World} {K : PySem.W.Frag} {elts : List Expr} {kk : Nat} {tpos : Pos} (k : Bool) (c : Int) (a e it : Addr) :
    Turn P w K (.Tuple elts kk tpos) (ItE K k a c) [e, it] e (fun i h => (∃ old, IsEnum h e it (c + (i : Nat)) old) ∧ IterOf k h it a i ∧ e ≠ it) where
  mem := by simp
  obj := fun i h st b hb => by
    obtain ⟨⟨old, he⟩, hi, _⟩ := st
    have e' : b = e ∨ b = it := by simpa using hb
    rcases e' with z | z
    · rw [z]
      exact ⟨_, he, fun v q => nomatch q⟩
    · rw [z]
      exact hi.obj
  keep := fun i h h' st kp => let ⟨⟨old, he⟩, hi, hne⟩ := st; ⟨⟨old, kp e (by simp) _ he⟩, hi.at fun o q => kp it (by simp) o q, hne⟩
  item := by
    intro X hP hw hK hc i pins s σ H E I hf st hg
    subst hP hw hK
    obtain ⟨⟨old, he⟩, hit, hne⟩ := st
    obtain ⟨xs, x, hq, hx⟩ := hg
    obtain ⟨its, rv, p⟩ := hq.seqOf I
    obtain ⟨u, hu, ru⟩ := rv.get hx
    have hel : e < s.heap.objs.size := Heap.lt_size he
    have hil : it < s.heap.objs.size := by
      obtain ⟨_, q, _⟩ := hit.obj
      exact Heap.lt_size q
    have nai : a ≠ it := hit.ne p
    have nae : e ∉ [it, a] := fun hm => by
      have e' : e = it ∨ e = a := by simpa using hm
      rcases e' with z | z
      · exact hne z
      · obtain ⟨o, ho, n, hd⟩ := p.live
        rw [← z, he] at ho
        cases ho
        cases hd
    have hlt : i < its.toArray.size := by
      have := (List.getElem?_eq_some_iff.mp hu).1
      simpa using this
    refine wpAny_pyNext_enum_itemC (draws_of (A := X.A.in1) k (I.ok.hd hc) it a nai its.toArray) he ⟨hit, p⟩ hlt hne nae fun y h' tk hy ho st' hT hsz hk => ?_
    have eu : u = y := by
      rw [show its.toArray[i]? = its[i]? by simp, hu] at hy
      exact Option.some.inj hy
    subst eu
    refine ⟨_, rfl, wpAny_letOwnedTupleGo_enum (s := { s with heap := h', toks := tk + 1 }) ho fun h'' he' sb => ?_⟩
    have hT2 : h''.get? s.heap.objs.size = some { cls := .type "tuple", data := .seq #[.int (c + (i : Nat)) tk, u] } := (sb.2 _ (Nat.ne_of_gt hel)).trans hT
    have new : ObjOk X.prog X.w (upd H s.heap.objs.size (.tup [.int (c + (i : Nat)), x])) h'' s.heap.objs.size (.tup [.int (c + (i : Nat)), x]) :=
      ⟨by show 2 ≤ sizeLine; decide, [.int (c + (i : Nat)) tk, u], .cons ⟨_, rfl⟩ (.cons ru .nil), ⟨_, hT2, rfl, _, rfl⟩⟩
    have I1 : Inv X pins σ (upd H s.heap.objs.size (.tup [.int (c + (i : Nat)), x])) { s with heap := h'', toks := tk + 1 } :=
      I.turnedNew (ch := [e, it]) (fun b ob hb q => (sb.2 b (fun z => hb (by simp [z]))).trans (hk b ob (fun z => hb (by simp [z])) (fun z => hb (by simp [z])) q)) hf (Nat.le_refl _) new
    refine ⟨.ref s.heap.objs.size, _, I1, rfl, ⟨_, x, rfl, I.hok.fresh (Nat.le_refl _), rfl, fun ys hy => by rw [hy.inj I hq]; exact hx⟩, ⟨⟨u, ?_⟩, st'.1.at fun o q => (sb.2 it (Ne.symm hne)).trans q, hne⟩, fun b hb => ?_⟩
    · have e1 : c + ((i + 1 : Nat) : Int) = c + (i : Nat) + 1 := by omega
      rw [e1]
      exact he'
    · have hb' : b < s.heap.objs.size := by
        have e' : b = e ∨ b = it := by simpa using hb
        rcases e' with z | z
        · rw [z]
          exact hel
        · rw [z]
          exact hil
      rw [upd_ne (Nat.ne_of_lt hb')]
      exact (hf b hb).1
  done := by
    intro X hP hw hK hc i pins s σ H E I hf st hg
    subst hP hw hK
    obtain ⟨⟨old, he⟩, hit, hne⟩ := st
    obtain ⟨xs, hq, hx⟩ := hg
    obtain ⟨its, rv, p⟩ := hq.seqOf I
    have nai : a ≠ it := hit.ne p
    have hl := rv.length
    have en : its.toArray.size = i := by simp; omega
    obtain ⟨f0, f1, f2, f3, f4, f5⟩ := hf it (by simp)
    refine wpAny_pyNext_enum_endD (draws_of (A := X.A.in1) k (I.ok.hd hc) it a nai its.toArray) he ?_ fun h' eb => ⟨rfl, I.turned (t' := s.toks) (fun b o hb q => eb b o hb q) f0 f1 f3 f4 f5⟩
    rw [en]
    exact ⟨hit, p⟩
  self := fun A i s Q E st h => let ⟨⟨_, he⟩, _⟩ := st; wpAny_pyIter_enum he h
def iEnumA (K : PySem.W.Frag) (ta : TA) : TI := fun σ H R => ta σ H fun vs H1 => ∃ k a xs, vs = [.ref a] ∧ SqK k K H1 a xs ∧ R (ItE K k a 0) H1
def iEnumS (K : PySem.W.Frag) (ta tk : TA) : TI := fun σ H R => ta σ H fun vs H1 => tk σ H1 fun zs H2 => ∃ k a xs c, vs = [.ref a] ∧ zs = [.int c] ∧ -(2 ^ 62) ≤ c ∧ c < 2 ^ 62 ∧ SqK k K H2 a xs ∧ R (ItE K k a c) H2
section
variable {X : Cx} {K : PySem.W.Frag} {e : Expr} {ta tk : TA} {p pos tpos kpos : Pos} {elts : List Expr} {kk : Nat} {ke : Expr}
theorem enum_made {pins : List (Addr × Obj)} {σ : L2.St} {H : Hp} {s : Shared} {R : It → Hp → Prop} {k : Bool} {a : Addr} {xs : List V} {c : Int} {h' : Heap} {o : Obj} (I : Inv X pins σ H s) (hq : SqK k X.K H a xs)
    (ho : o = if k = true then { cls := .type "list_iterator", data := .fields #[.ref a, .int 0 0] } else { cls := .type "tuple_iterator", data := .fields #[.ref a, .int 0 0] })
    (he : IsEnum h' (s.heap.objs.size + 1) s.heap.objs.size c .none) (hi : h'.get? s.heap.objs.size = some o) (hk : ∀ b o, s.heap.get? b = some o → h'.get? b = some o) (r : R (ItE X.K k a c) H) :
    PIE X pins σ (.Tuple elts kk tpos) R (.ref (s.heap.objs.size + 1)) { s with heap := h' } := by
  have I2 : Inv X pins σ H { s with heap := h' } := I.kept hk
  have hit : IterOf k h' s.heap.objs.size a 0 := by
    subst ho
    cases k with
    | true => exact ⟨_, hi, rfl, rfl⟩
    | false => exact ⟨_, hi, rfl, rfl⟩
  refine ⟨s.heap.objs.size + 1, [s.heap.objs.size + 1, s.heap.objs.size], _, _, H, rfl, I2, turn_enumE k c a (s.heap.objs.size + 1) s.heap.objs.size, ⟨⟨.none, by simpa using he⟩, hit, Nat.succ_ne_self _⟩, fun b hb => ?_, r⟩
  have e' : b = s.heap.objs.size + 1 ∨ b = s.heap.objs.size := by simpa using hb
  have hle : s.heap.objs.size ≤ b := by
    rcases e' with z | z
    · rw [z]
      exact Nat.le_add_right _ _
    · rw [z]
      exact Nat.le_refl _
  exact I.fpOk hle (I.hok.fresh hle)
theorem begins_of {k : Bool} {a : Addr} {items : Array Value} {o : Obj} (ho : o = if k = true then { cls := .type "list_iterator", data := .fields #[.ref a, .int 0 0] } else { cls := .type "tuple_iterator", data := .fields #[.ref a, .int 0 0] }) : Begins (.ref a) o (fun h => SeqOf k h a items) := by
  subst ho
  cases k with
  | true => exact begins_list a items
  | false => exact begins_tuple a items
theorem pi_enumA (hg : Gl X "enumerate") (hm : X.mg "enumerate" = none) (ha : PA X [e] ta) (hK : X.K = K := by rfl) (hs : starEach [e] X.env = [(false, eval e X.env)] := by rfl) :
    PI X (.Tuple elts kk tpos) (.Call (.Name "enumerate" p) [e] [] pos) (iEnumA K ta) := by
  subst hK
  refine ⟨fun pins s σ H R I h => ?_⟩
  refine Call_ (ld_blt I hg hm boot_enumerate (PyProof.Rows.callWith_type1 (thn (ha.run pos pins s σ H _ I h) fun us s1 hh => ?_) hs rfl))
  obtain ⟨vs, H1, I1, r1, k, a, xs, ex, hq, q⟩ := hh
  subst ex
  cases r1 with
  | cons r rr =>
    cases rr
    cases r
    obtain ⟨its, rv, p'⟩ := hq.seqOf I1
    exact enum_begins0 (begins_of (k := k) rfl) p' fun h' he hi hz hk => wpAny_pyIter_enum he (enum_made I1 hq rfl he hi hk q)
theorem pi_enumS (hg : Gl X "enumerate") (hm : X.mg "enumerate" = none) (ha : PA X [e] ta) (hk : PK X [⟨some "start", ke, kpos⟩] tk) (hK : X.K = K := by rfl)
    (he : backTo pos (starEach [e] X.env) = (false, eval e X.env) :: backTo pos (starEach [] X.env) := by rfl) (hpl : (backTo pos (starEach [e] X.env)).any (·.1) = false := by rfl)
    (hall : (backToKw pos (keywordEach [⟨some "start", ke, kpos⟩] X.env)).all (·.1.isSome) = true := by rfl) (hnone : (backToKw pos (keywordEach [⟨some "start", ke, kpos⟩] X.env)).any (·.1.isNone) = false := by rfl)
    (hks : (backToKw pos (keywordEach [⟨some "start", ke, kpos⟩] X.env)).filterMap (·.1) = [Str.ofString "start"] := by rfl) :
    PI X (.Tuple elts kk tpos) (.Call (.Name "enumerate" p) [e] [⟨some "start", ke, kpos⟩] pos) (iEnumS K ta tk) := by
  subst hK
  refine ⟨fun pins s σ H R I h => ?_⟩
  refine wpAny_Call_Name_kw (ld_blt I hg hm boot_enumerate ?_)
  refine callWith_typeKw (thn (ha.run pos pins s σ H _ I h) fun us s1 hh => ?_) he hpl hall hnone
  obtain ⟨vs, H1, I1, r1, q1⟩ := hh
  refine thn (hk.run pos pins s1 σ H1 _ I1 q1) fun ws s2 hh2 => ?_
  obtain ⟨zs, H2, I2, r2, k, a, xs, c, ex, ez, c0, c1, hq, q⟩ := hh2
  subst ex ez
  rw [hks]
  cases r1 with
  | cons r rr =>
    cases rr
    cases r
    cases r2 with
    | cons rc rcc =>
      cases rcc
      obtain ⟨tc, rfl⟩ := rc
      obtain ⟨its, rv, p'⟩ := hq.seqOf I2
      exact enum_begins_start (begins_of (k := k) rfl) p' (by omega) (by omega) fun h' he hi hz hk => wpAny_pyIter_enum he (enum_made I2 hq rfl he hi hk q)
/-- a loop over enumerate(..) -/
theorem for_enumE {k : Bool} {a : Addr} {xs : List V} {c : Int} {g : TG} {tb : TS} {D : Ends} {σ : L2.St} {H : Hp} (Pv : Nat → L2.St → Hp → Prop) (h0 : Pv 0 σ H) (hl : ∀ i σ H', i ≤ xs.length → Pv i σ H' → SqK k K H' a xs)
    (hs : ∀ i x T σ H, xs[i]? = some x → Pv i σ H → H T = none → g (.ref T) σ (upd H T (.tup [.int (c + (i : Nat)), x])) fun σ2 H2 => tb { D with nx := Pv (i + 1), ct := Pv (i + 1), bk := D.nx } σ2 H2) (hd : ∀ σ H, Pv xs.length σ H → D.nx σ H) :
    ∃ W : Nat → Nat → L2.St → Hp → Prop, (∃ m, W 0 m σ H) ∧ ∀ i m σ H, W i m σ H →
      ((ItE K k a c).stop i H ∧ D.nx σ H) ∨ ((ItE K k a c).go i H ∧ ∃ N : L2.St → Hp → Prop, (∀ σ' H', N σ' H' → ∃ m', m' < m ∧ W (i + 1) m' σ' H') ∧ ∀ v H', (ItE K k a c).yld i H v H' → g v σ H' fun σ2 H2 => tb { D with nx := N, ct := N, bk := D.nx } σ2 H2) := by
  refine ⟨fun i m σ H => m = xs.length - i ∧ i ≤ xs.length ∧ Pv i σ H, ⟨xs.length, rfl, Nat.zero_le _, h0⟩, ?_⟩
  rintro i m σ H ⟨rfl, hi, p⟩
  have q := hl i σ H hi p
  by_cases hlt : i < xs.length
  · refine .inr ⟨⟨xs, xs[i], q, by simp [hlt]⟩, Pv (i + 1), fun σ' H' p' => ⟨xs.length - (i + 1), by omega, rfl, hlt, p'⟩, ?_⟩
    rintro v H' ⟨T, x, rfl, nT, rfl, hx⟩
    exact hs i x T σ H (hx xs q) p nT
  · have e : i = xs.length := by omega
    subst e
    exact .inl ⟨⟨xs, q, rfl⟩, hd σ H p⟩
end
end Lr

/-! # Logs -/
namespace Lr
open PySem PySem.Spec PyProof.Rows L2
theorem WF.setApp {G H : Hp} {A B : List Cell} {p : Addr} {o u : HO} (w : WF G (A ++ (p, o) :: B) H) : WF G (A ++ (p, u) :: B) (upd H p u) :=
  ((w.perm List.perm_middle).set (u := u)).perm List.perm_middle.symm
theorem WF.frzApp {G H : Hp} {A B : List Cell} {p : Addr} {o : HO} (w : WF G (A ++ (p, o) :: B) H) : WF (upd G p o) (A ++ B) H := (w.perm List.perm_middle).frz
theorem WF.newApp {G H : Hp} {A B : List Cell} {p : Addr} {o : HO} (w : WF G (A ++ B) H) (h : H p = none) : WF G (A ++ (p, o) :: B) (upd H p o) := (w.new h).perm List.perm_middle.symm
theorem WF.getApp {G H : Hp} {A B : List Cell} {p : Addr} {o : HO} (w : WF G (A ++ (p, o) :: B) H) : H p = some o := w.get (List.mem_append_right _ List.mem_cons_self)
/-- all cells of A stand for good -/
theorem WF.frzAll {G H : Hp} {A B : List Cell} (w : WF G (A ++ B) H) : ∃ G', WF G' B H ∧ Same G G' ∧ ∀ c ∈ A, G' c.1 = some c.2 := by
  induction A generalizing G with
  | nil => exact ⟨G, w, Same.refl G, fun c hc => by cases hc⟩
  | cons c A ih =>
    obtain ⟨p, o⟩ := c
    have w' : WF G ((p, o) :: (A ++ B)) H := w
    obtain ⟨G', h1, h2, h3⟩ := ih w'.frz
    refine ⟨G', h1, (w'.leF).trans h2, fun c hc => ?_⟩
    rcases List.mem_cons.mp hc with rfl | hc
    · exact h2 _ _ upd_same
    · exact h3 c hc
/-- the truth of any value -/
def tTru (K : PySem.W.Frag) (ta : TE) : TT := fun σ H Q => ta σ H fun x H1 => ∃ k, TruV K x H1 k ∧ Q k H1
theorem xtruth {X : Cx} {K : PySem.W.Frag} {a : Expr} {ta : TE} (ha : PE X a ta) (he : ∀ whole, isTrue a X.env whole = (do let v ← whole; standAt a.pos; holding [v] (truthy v))) (hK : X.K = K := by rfl) : PT X a (tTru K ta) := by
  subst hK
  exact pt_truth ha he
/-! ### the records that write a page -/
def wr (rows : List Row) (nm : Str) : List Int := ((List.range rows.length).filter fun j => decide (nm ∈ ((rows[j]?).getD ([], [])).2)).map fun j => ((j : Nat) : Int) + 1
theorem wr_nil (nm : Str) : wr [] nm = [] := rfl
theorem wr_snoc (rows : List Row) (r : Row) (nm : Str) : wr (rows ++ [r]) nm = wr rows nm ++ (if nm ∈ r.2 then [((rows.length : Nat) : Int) + 1] else []) := by
  unfold wr
  rw [List.length_append, List.length_singleton, List.range_succ, List.filter_append, List.map_append]
  congr 1
  · congr 1
    refine List.filter_congr fun j hj => ?_
    have hj' := List.mem_range.mp hj
    rw [List.getElem?_append_left hj']
  · simp only [List.filter_cons, List.filter_nil, List.getElem?_append_right (Nat.le_refl _), Nat.sub_self, List.getElem?_cons_zero, Option.getD_some]
    by_cases h : nm ∈ r.2
    · simp [h]
    · simp [h]
/-- the greatest of them, 0 for none -/
def ver (rows : List Row) (nm : Str) : Int := ((wr rows nm).getLast?).getD 0
def needD (rows : List Row) (nms : List Str) : PyData := .tuple (nms.map fun n => .tuple [.str n, .int (ver rows n)])
structure LogM where
  names : List Str
  rows : List Row
def LogM.needs (L : LogM) : List PyData := ((List.range L.rows.length).map fun i => needD (L.rows.take i) ((L.rows[i]?).getD ([], [])).1) ++ [needD L.rows L.names]
/-- what a log's making tells of what is passed: the thing that is no pages | the index of what is no record | the log -/
inductive LogR where
  | pages | records (i : Nat) | log (L : LogM)
def logD (dp dr : PyData) : LogR :=
  match namesD dp with
  | none => .pages
  | some ns => if 1 ≤ ns.length ∧ ns.length ≤ 12 then (match itemsD dr with
    | none => .records 0
    | some ds => match rowsL ns ds 0 [] with
      | .error i => .records i
      | .ok rows => .log ⟨ns, rows⟩) else .pages
abbrev logF (an ar aw ad : Addr) : List (Str × V) := [("names", .ref an), ("rows", .ref ar), ("writers", .ref aw), ("needs", .ref ad)]
/-- a Log at x, all of it standing for good -/
structure LogAt (C : Addr) (G : Hp) (x : Addr) (L : LogM) : Prop where
  ex : ∃ (dx an ar aw ad : Addr) (rvs nvs : List V) (f : Str → Addr), G x = some (.ins C dx (logF an ar aw ad)) ∧ G an = some (.tup (L.names.map V.str)) ∧
    G ar = some (.lst rvs) ∧ Reps G (L.rows.map recD) rvs ∧ G aw = some (.dK (L.names.map fun n => (Sum.inr n, V.ref (f n)))) ∧ (∀ n ∈ L.names, G (f n) = some (.lst ((wr L.rows n).map V.int))) ∧
    G ad = some (.lst nvs) ∧ Reps G L.needs nvs
  nn : 1 ≤ L.names.length ∧ L.names.length ≤ 12
  nd : L.names.Nodup
  sorted : L.names.Pairwise leS
  nb : ∀ n ∈ L.names, nameB n = true
  rl : L.rows.length ≤ 60
  rok : ∀ r ∈ L.rows, r.2 ≠ [] ∧ (∀ n ∈ r.1, n ∈ L.names) ∧ (∀ n ∈ r.2, n ∈ L.names) ∧ r.1.Nodup ∧ r.2.Nodup ∧ r.1.Pairwise leS ∧ r.2.Pairwise leS
theorem LogAt.mono {C : Addr} {G G' : Hp} {x : Addr} {L : LogM} (h : LogAt C G x L) (s : Same G G') : LogAt C G' x L := by
  obtain ⟨dx, an, ar, aw, ad, rvs, nvs, f, h1, h2, h3, h4, h5, h6, h7, h8⟩ := h.ex
  exact ⟨⟨dx, an, ar, aw, ad, rvs, nvs, f, s _ _ h1, s _ _ h2, s _ _ h3, h4.mono s, s _ _ h5, fun n hn => s _ _ (h6 n hn), s _ _ h7, h8.mono s⟩, h.nn, h.nd, h.sorted, h.nb, h.rl, h.rok⟩
/-- a comprehension of a dict over a list or a tuple -/
theorem dc_seq {K : PySem.W.Frag} {a : Addr} {xs : List V} {tl : TE} {g : TG} {tt : TT} {tk tv : TE} {vs : List Nat} {σ : L2.St} {H H1 : Hp} {Q : VK} {k : Bool} (htl : ∀ R : VK, R (.ref a) H1 → tl σ H R) (hk : SqK k K H1 a xs)
    (go : ∀ D, H1 D = none → ∃ Pv : Nat → Hp → Prop, Pv 0 (upd H1 D (.dK [])) ∧ (∀ i H', i ≤ xs.length → Pv i H' → SqK k K H' a xs) ∧
      (∀ i x H', xs[i]? = some x → Pv i H' → g x (wipe σ vs) H' fun σ2 H2 => wipe σ2 vs = wipe σ vs ∧ tt σ2 H2 fun b H3 =>
        if b = true then tk σ2 H3 fun y H4 => tv σ2 H4 fun z H5 => ∃ kvs k, y = kV k ∧ H5 D = some (.dK kvs) ∧ kvs.length < sizeLine ∧ Pv (i + 1) (upd H5 D (.dK (putK kvs k z))) else Pv (i + 1) H3) ∧ ∀ H', Pv xs.length H' → Q (.ref D) H') :
    tDc (iSeq K tl) g tt tk tv vs σ H Q := by
  have main : ∀ (J : It), (∀ i H', SqK k K H' a xs → i < xs.length → J.go i H') → (∀ i H', SqK k K H' a xs → i = xs.length → J.stop i H') → (∀ i H' v H'', SqK k K H' a xs → J.yld i H' v H'' → H'' = H' ∧ xs[i]? = some v) →
      ∀ D, H1 D = none → ∃ W : Nat → Nat → Hp → Prop, (∃ m, W 0 m (upd H1 D (.dK []))) ∧ ∀ i m H, W i m H →
        (J.stop i H ∧ Q (.ref D) H) ∨ (J.go i H ∧ ∃ Nx : Hp → Prop, (∀ H', Nx H' → ∃ m', m' < m ∧ W (i + 1) m' H') ∧ ∀ x H', J.yld i H x H' → g x (wipe σ vs) H' fun σ2 H2 => wipe σ2 vs = wipe σ vs ∧ tt σ2 H2 fun b H3 =>
          if b = true then tk σ2 H3 fun y H4 => tv σ2 H4 fun z H5 => ∃ kvs k, y = kV k ∧ H5 D = some (.dK kvs) ∧ kvs.length < sizeLine ∧ Nx (upd H5 D (.dK (putK kvs k z))) else Nx H3) := by
    intro J jg js jy D nD
    obtain ⟨Pv, h0, hkp, hs, hd⟩ := go D nD
    refine ⟨fun i m H => m = xs.length - i ∧ i ≤ xs.length ∧ Pv i H, ⟨xs.length, rfl, Nat.zero_le _, h0⟩, ?_⟩
    rintro i m H ⟨rfl, hi, p⟩
    have q := hkp i H hi p
    by_cases hlt : i < xs.length
    · refine .inr ⟨jg i H q hlt, Pv (i + 1), fun H' p' => ⟨xs.length - (i + 1), by omega, rfl, hlt, p'⟩, fun v H' hv => ?_⟩
      obtain ⟨rfl, hx⟩ := jy i H v H' q hv
      exact hs i v _ hx p
    · have e : i = xs.length := by omega
      subst e
      exact .inl ⟨js _ H q rfl, hd H p⟩
  cases k with
  | true => exact .inl (htl _ ⟨a, rfl, ⟨_, hk⟩, main _ (fun i H' q hi => ⟨xs, xs[i], q, by simp [hi]⟩) (fun i H' q hi => ⟨xs, q, by omega⟩) (fun i H' v H'' q y => ⟨y.1, y.2 xs q⟩)⟩)
  | false => exact .inr (htl _ ⟨a, rfl, ⟨_, hk⟩, main _ (fun i H' q hi => ⟨xs, xs[i], q, by simp [hi]⟩) (fun i H' q hi => ⟨xs, q, by omega⟩) (fun i H' v H'' q y => ⟨y.1, y.2 xs q⟩)⟩)
/-- self.standing(names) -/
def spStanding (Cl : Addr) : Sp := fun vs H Q _ => ∃ (G : Hp) (C : List Cell) (x dx aw a : Addr) (fs : List (Str × V)) (kvs : List (Key × V)) (rows : List Row) (nms : List Str) (f : Str → Addr), vs = [.ref x, .ref a] ∧ WF G C H ∧ Sees G C x (.ins Cl dx fs) ∧ fs.lookup ("writers" : Str) = some (.ref aw) ∧ Sees G C aw (.dK kvs) ∧
  Seq G C a (nms.map V.str) ∧ nms.length ≤ 1000 ∧ (∀ n ∈ nms, valV kvs (Sum.inr n : Key) = some (.ref (f n)) ∧ Sees G C (f n) (.lst ((wr rows n).map V.int))) ∧
  ∀ (G' H' : Hp) (v : V), Same G G' → WF G' C H' → Rep G' (needD rows nms) v → Q v H'
theorem Seq.same {K : PySem.W.Frag} {G G' H : Hp} {C : List Cell} {a : Addr} {xs : List V} {k : Bool} (hk : ∀ K H, WF G C H → SqK k K H a xs) (s : Same G G') (w : WF G' C H) : SqK k K H a xs := hk K H (w.weak s)
theorem last_atI {xs : List V} {v : V} (h : xs.getLast? = some v) : atI xs (-1) = some v := by
  have hl : xs ≠ [] := fun e => by rw [e] at h; cases h
  have h0 : 0 < xs.length := List.length_pos_iff.mpr hl
  unfold atI ixN
  rw [if_neg (by decide), if_pos (by omega)]
  show xs[((-1 : Int) + xs.length).toNat]? = some v
  rw [List.getLast?_eq_getElem?] at h
  have e : ((-1 : Int) + xs.length).toNat = xs.length - 1 := by omega
  rw [e]
  exact h
theorem namesL_ok : ∀ {ds : List PyData} {acc xs : List Str}, namesL ds acc = some xs → acc.Nodup → (∀ n ∈ acc, nameB n = true) → xs.Nodup ∧ ∀ n ∈ xs, nameB n = true
  | [], acc, xs, h, nd, nb => by
    cases h
    exact ⟨nd, nb⟩
  | d :: r, acc, xs, h, nd, nb => by
    cases d with
    | str s =>
      have h' : (if nameB s = true ∧ s ∉ acc then namesL r (acc ++ [s]) else none) = some xs := h
      by_cases c : nameB s = true ∧ s ∉ acc
      · rw [if_pos c] at h'
        refine namesL_ok h' ?_ fun n hn => ?_
        · refine List.nodup_append.mpr ⟨nd, by simp, fun a ha b hb e => ?_⟩
          rw [List.mem_singleton.mp hb] at e
          exact c.2 (e ▸ ha)
        · rcases List.mem_append.mp hn with hn | hn
          · exact nb n hn
          · rw [List.mem_singleton.mp hn]
            exact c.1
      · rw [if_neg c] at h'
        cases h'
    | _ => cases h
theorem namesD_ok {d : PyData} {ns : List Str} (h : namesD d = some ns) : ns.Nodup ∧ ns.Pairwise leS ∧ ∀ n ∈ ns, nameB n = true := by
  unfold namesD at h
  cases e : itemsD d with
  | none =>
    rw [e] at h
    cases h
  | some ds =>
    rw [e] at h
    have h' : (namesL ds []).map sortS = some ns := h
    cases e2 : namesL ds [] with
    | none =>
      rw [e2] at h'
      cases h'
    | some xs =>
      rw [e2] at h'
      cases h'
      obtain ⟨a, b⟩ := namesL_ok e2 List.nodup_nil (fun n hn => by cases hn)
      exact ⟨(sortS_perm xs).nodup_iff.mpr a, sortS_pw xs, fun n hn => b n ((sortS_perm xs).mem_iff.mp hn)⟩
theorem lotD_ok {d : PyData} {ns xs : List Str} (h : lotD d ns = some xs) : xs.Nodup ∧ xs.Pairwise leS ∧ ∀ n ∈ xs, n ∈ ns := by
  unfold lotD at h
  cases e : namesD d with
  | none =>
    rw [e] at h
    cases h
  | some ys =>
    rw [e] at h
    have h' : (if ∀ x ∈ ys, x ∈ ns then some ys else none) = some xs := h
    by_cases c : ∀ x ∈ ys, x ∈ ns
    · rw [if_pos c] at h'
      cases h'
      obtain ⟨a, b, _⟩ := namesD_ok e
      exact ⟨a, b, c⟩
    · rw [if_neg c] at h'
      cases h'
def RowOk (ns : List Str) (r : Row) : Prop := r.2 ≠ [] ∧ (∀ n ∈ r.1, n ∈ ns) ∧ (∀ n ∈ r.2, n ∈ ns) ∧ r.1.Nodup ∧ r.2.Nodup ∧ r.1.Pairwise leS ∧ r.2.Pairwise leS
theorem rowD_ok {d : PyData} {ns : List Str} {x : Row} (h : rowD d ns = some x) : RowOk ns x := by
  unfold rowD at h
  split at h
  · rename_i a b e
    split at h
    · rename_i r w e1 e2
      by_cases c : w = []
      · rw [if_pos c] at h
        cases h
      · rw [if_neg c] at h
        cases h
        obtain ⟨a1, a2, a3⟩ := lotD_ok e1
        obtain ⟨b1, b2, b3⟩ := lotD_ok e2
        exact ⟨c, a3, b3, a1, b1, a2, b2⟩
    · cases h
  · cases h
theorem rowsL_ok {ns : List Str} : ∀ {ds : List PyData} {i : Nat} {acc rows : List Row}, rowsL ns ds i acc = .ok rows → (∀ r ∈ acc, RowOk ns r) → acc.length = i → i ≤ 60 → (∀ r ∈ rows, RowOk ns r) ∧ rows.length ≤ 60
  | [], i, acc, rows, h, ha, hl, h6 => by
    cases h
    exact ⟨ha, by omega⟩
  | d :: r, i, acc, rows, h, ha, hl, h6 => by
    unfold rowsL at h
    cases e : rowD d ns with
    | none =>
      rw [e] at h
      cases h
    | some x =>
      rw [e] at h
      by_cases c : i = 60
      · simp only [c, if_true] at h
        cases h
      · simp only [c, if_false] at h
        refine rowsL_ok h (fun y hy => ?_) (by simp [hl]) (by omega)
        rcases List.mem_append.mp hy with hy | hy
        · exact ha y hy
        · rw [List.mem_singleton.mp hy]
          exact rowD_ok e
theorem WF.grow {G G' H H' : Hp} {C : List Cell} (w : WF G C H) (s : Same H H') (h1 : Same G' H') (h2 : ∀ a, G' a ≠ none → G a ≠ none ∨ H a = none) : WF G' C H' := by
  refine ⟨h1, fun c hc => ⟨s _ _ (w.own c hc).1, ?_⟩, w.nd⟩
  cases e : G' c.1 with
  | none => rfl
  | some o =>
    rcases h2 c.1 (by rw [e]; exact fun z => nomatch z) with z | z
    · exact (z (w.own c hc).2).elim
    · rw [(w.own c hc).1] at z
      cases z
/-- one thing found new stands for good -/
theorem WF.add {G H H' : Hp} {C : List Cell} {p : Addr} {o : HO} (w : WF G C H) (s : Same H H') (hp : H p = none) (h : H' p = some o) : WF (upd G p o) C H' := by
  refine w.grow s (fun a u e => ?_) fun a ha => ?_
  · by_cases z : a = p
    · subst z
      rw [upd_same] at e
      rw [h]
      exact e
    · rw [upd_ne z] at e
      exact s _ _ (w.sub _ _ e)
  · by_cases z : a = p
    · exact .inr (by rw [z]; exact hp)
    · rw [upd_ne z] at ha
      exact .inl ha
theorem WF.add3 {G H H' : Hp} {C : List Cell} {p q t : Addr} {o u v : HO} (w : WF G C H) (s : Same H H') (hp : H p = none) (hq : H q = none) (ht : H t = none) (npq : p ≠ q) (npt : p ≠ t) (nqt : q ≠ t) (h1 : H' p = some o) (h2 : H' q = some u) (h3 : H' t = some v) :
    ∃ G', WF G' C H' ∧ Same G G' ∧ G' p = some o ∧ G' q = some u ∧ G' t = some v := by
  have gp := w.gnone hp
  have gq := w.gnone hq
  have gt := w.gnone ht
  have s1 : Same G (upd G p o) := same_new gp
  have s2 : Same (upd G p o) (upd (upd G p o) q u) := same_new (by rw [upd_ne npq.symm]; exact gq)
  have s3 : Same (upd (upd G p o) q u) (upd (upd (upd G p o) q u) t v) := same_new (by rw [upd_ne nqt.symm, upd_ne npt.symm]; exact gt)
  refine ⟨upd (upd (upd G p o) q u) t v, w.grow s (fun a x e => ?_) (fun a ha => ?_), s1.trans (s2.trans s3), ?_, ?_, upd_same⟩
  · unfold upd at e
    split at e
    · rename_i z
      rw [z, h3]
      exact e
    · split at e
      · rename_i z
        rw [z, h2]
        exact e
      · split at e
        · rename_i z
          rw [z, h1]
          exact e
        · exact s _ _ (w.sub _ _ e)
  · unfold upd at ha
    split at ha
    · rename_i z
      exact .inr (z ▸ ht)
    · split at ha
      · rename_i z
        exact .inr (z ▸ hq)
      · split at ha
        · rename_i z
          exact .inr (z ▸ hp)
        · exact .inl ha
  · rw [upd_ne npt, upd_ne npq, upd_same]
  · rw [upd_ne nqt, upd_same]
def LongD (d : PyData) : Prop := ∀ ds, itemsD d = some ds → ds.length ≤ 100000 ∧ ∀ e ∈ ds, Short2 e
/-- Log.__init__(self, pages, records) -/
def spLogInit (Cl CB CR : Addr) : Sp := fun vs H Q E => ∃ (G : Hp) (C : List Cell) (x dx : Addr) (dp dr : PyData) (vp vr : V), vs = [.ref x, vp, vr] ∧ WF G ((x, .ins Cl dx []) :: C) H ∧ RepC G C dp vp ∧ RepC G C dr vr ∧ ShortD dp ∧ LongD dr ∧
  (logD dp dr = .pages → ∀ G' H' d, Same G G' → WF G' C H' → G' d = some (.xd [("thing", vp)]) → E (.ref CB) (some d) H') ∧
  (∀ i : Nat, logD dp dr = .records i → ∀ G' H' d, Same G G' → WF G' C H' → G' d = some (.xd [("index", .int i)]) → E (.ref CR) (some d) H') ∧
  ∀ L, logD dp dr = .log L → ∀ G' H', Same G G' → WF G' C H' → LogAt Cl G' x L → Q .non H'
/-- a method by its name -/
def Okm (P : Program) (w : World) (K : PySem.W.Frag) (mg : Str → Option Value) (base : Heap) (CX : CXT) (k : Nat) (C : Addr) (m : Str) (ps : List Str) (sp : Sp) : Prop :=
  ∃ (f : Addr) (fd : FuncData), Meth K C m f ∧ Binds K fd ps [] ∧ FnOk P w K mg base CX k f fd ps sp
section
variable {X : Cx} {k k' : Nat} {m : Str} {ps : List Str} {sp : Sp} {apos pos : Pos} {o e : Expr} {es : List Expr} {ta : TE} {t : TA} {C : Addr}
theorem pm {pl : Sem Bool} (he : PE X o ta) (c : Cls X.K C) (F : Okm X.prog X.w X.K X.mg X.base CX0 k C m ps sp) (hr : Room k' X.A) (ha : PA X (e :: es) t) (hk : k ≤ k' := by omega)
    (hst : starEach (e :: es) X.env = (false, eval e X.env) :: starEach es X.env := by rfl) (hpl : (backTo pos (starEach es X.env)).any (·.1) = false := by rfl)
    (ht : eval (.Call (.Attribute o m apos) (e :: es) [] pos) X.env = (do
      let ov ← eval o X.env
      standAt apos.atName
      let (f, first) ← holding [ov] (getMethod ov m pl)
      callWith pos f first (backTo pos (starEach (e :: es) X.env)) (backToKw pos (keywordEach [] X.env))) := by rfl) :
    PE X (.Call (.Attribute o m apos) (e :: es) [] pos) (tMeth C m sp [] E0 ta t) := by
  obtain ⟨f, fd, hm, hb, F⟩ := F
  exact pe_meth he c hm F (hr.mono hk) hb .nil pass0 ha hst hpl ht
theorem pm0 {pl : Sem Bool} (he : PE X o ta) (c : Cls X.K C) (F : Okm X.prog X.w X.K X.mg X.base CX0 k C m ps sp) (hr : Room k' X.A) (hk : k ≤ k' := by omega)
    (ht : eval (.Call (.Attribute o m apos) [] [] pos) X.env = (do
      let ov ← eval o X.env
      standAt apos.atName
      let (f, first) ← holding [ov] (getMethod ov m pl)
      callWith pos f first (backTo pos (starEach [] X.env)) (backToKw pos (keywordEach [] X.env))) := by rfl) :
    PE X (.Call (.Attribute o m apos) [] [] pos) (tMeth C m sp [] E0 ta tNil) := by
  obtain ⟨f, fd, hm, hb, F⟩ := F
  exact pe_meth0 he c hm F (hr.mono hk) hb .nil pass0 ht
end
theorem n_nr : ¬ (("names" : Str) = "rows") := by decide +kernel
theorem n_nw : ¬ (("names" : Str) = "writers") := by decide +kernel
theorem n_nd : ¬ (("names" : Str) = "needs") := by decide +kernel
theorem n_rw : ¬ (("rows" : Str) = "writers") := by decide +kernel
theorem n_rd : ¬ (("rows" : Str) = "needs") := by decide +kernel
theorem n_wd : ¬ (("writers" : Str) = "needs") := by decide +kernel
theorem putF1 (v : V) : putF "names" v [] = ([("names", v)] : List (Str × V)) := rfl
theorem putF_ne {f g : Str} {u v : V} {r : List (Str × V)} (h : ¬ g = f) : putF f v ((g, u) :: r) = (g, u) :: putF f v r := by
  rw [putF, if_neg h]
theorem putF2 (u v : V) : putF "rows" v ([("names", u)] : List (Str × V)) = ([("names", u), ("rows", v)] : List (Str × V)) := by
  rw [putF_ne n_nr]
  rfl
theorem putF3 (u t v : V) : putF "writers" v ([("names", u), ("rows", t)] : List (Str × V)) = ([("names", u), ("rows", t), ("writers", v)] : List (Str × V)) := by
  rw [putF_ne n_nw, putF_ne n_rw]
  rfl
theorem putF4 (u t r v : V) : putF "needs" v ([("names", u), ("rows", t), ("writers", r)] : List (Str × V)) = ([("names", u), ("rows", t), ("writers", r), ("needs", v)] : List (Str × V)) := by
  rw [putF_ne n_nd, putF_ne n_rd, putF_ne n_wd]
  rfl
theorem look_cons {g f : Str} {v : V} {r : List (Str × V)} : ((g, v) :: r : List (Str × V)).lookup f = if f = g then some v else r.lookup f := by
  rw [List.lookup_cons]
  by_cases h : f = g
  · subst h
    simp
  · have : (f == g) = false := by simpa using h
    rw [this, if_neg h]
theorem lk_names (u : V) (r : List (Str × V)) : (("names", u) :: r : List (Str × V)).lookup ("names" : Str) = some u := by rw [look_cons, if_pos rfl]
theorem lk_rows (u t : V) (r : List (Str × V)) : (("names", u) :: ("rows", t) :: r : List (Str × V)).lookup ("rows" : Str) = some t := by
  rw [look_cons, if_neg (fun e => n_nr e.symm), look_cons, if_pos rfl]
theorem lk_writers (u t v : V) (r : List (Str × V)) : (("names", u) :: ("rows", t) :: ("writers", v) :: r : List (Str × V)).lookup ("writers" : Str) = some v := by
  rw [look_cons, if_neg (fun e => n_nw e.symm), look_cons, if_neg (fun e => n_rw e.symm), look_cons, if_pos rfl]
theorem lk_needs (u t v x : V) (r : List (Str × V)) : (("names", u) :: ("rows", t) :: ("writers", v) :: ("needs", x) :: r : List (Str × V)).lookup ("needs" : Str) = some x := by
  rw [look_cons, if_neg (fun e => n_nd e.symm), look_cons, if_neg (fun e => n_rd e.symm), look_cons, if_neg (fun e => n_wd e.symm), look_cons, if_pos rfl]
/-- the lists of the writers, by name, as they stand behind these rows, and behind j of the pages that the next one writes -/
def wcells (nas : List (Str × Addr)) (g : Str → List Int) : List Cell := nas.map fun p => (p.2, .lst ((g p.1).map V.int))
def wdict (nas : List (Str × Addr)) : List (Key × V) := nas.map fun p => (Sum.inr p.1, V.ref p.2)
theorem wdict_get {nas : List (Str × Addr)} {p : Str × Addr} (nd : (nas.map (·.1)).Nodup) (h : p ∈ nas) : valV (wdict nas) (Sum.inr p.1 : Key) = some (.ref p.2) := by
  induction nas with
  | nil => cases h
  | cons q r ih =>
    have nd' := List.nodup_cons.mp (show (q.1 :: r.map (·.1)).Nodup from nd)
    rcases List.mem_cons.mp h with rfl | h
    · exact valV_pos rfl
    · have ne : ¬ (Sum.inr q.1 : Key) = Sum.inr p.1 := fun z => nd'.1 (by rw [Sum.inr.inj z]; exact List.mem_map.mpr ⟨p, h, rfl⟩)
      show valV ((Sum.inr q.1, V.ref q.2) :: wdict r) (Sum.inr p.1 : Key) = _
      rw [valV_neg ne]
      exact ih nd'.2 h
theorem wcells_split {nas : List (Str × Addr)} {p : Str × Addr} (h : p ∈ nas) (nd : (nas.map (·.1)).Nodup) (g : Str → List Int) (y : List Int) : ∃ A B, wcells nas g = A ++ (p.2, .lst ((g p.1).map V.int)) :: B ∧ wcells nas (fun n => if n = p.1 then y else g n) = A ++ (p.2, .lst (y.map V.int)) :: B := by
  induction nas with
  | nil => cases h
  | cons q r ih =>
    have nd' := List.nodup_cons.mp (show (q.1 :: r.map (·.1)).Nodup from nd)
    rcases List.mem_cons.mp h with rfl | h
    · refine ⟨[], wcells r g, rfl, ?_⟩
      have e1 : wcells r (fun n => if n = p.1 then y else g n) = wcells r g := List.map_congr_left fun t ht => by
        have : t.1 ≠ p.1 := fun z => nd'.1 (by rw [← z]; exact List.mem_map.mpr ⟨t, ht, rfl⟩)
        simp only [if_neg this]
      have e2 : wcells (p :: r) (fun n => if n = p.1 then y else g n) = (p.2, .lst ((if p.1 = p.1 then y else g p.1).map V.int)) :: wcells r (fun n => if n = p.1 then y else g n) := rfl
      rw [e2, e1, if_pos rfl]
      rfl
    · obtain ⟨A, B, e1, e2⟩ := ih h nd'.2
      have ne : q.1 ≠ p.1 := fun z => nd'.1 (by rw [z]; exact List.mem_map.mpr ⟨p, h, rfl⟩)
      refine ⟨(q.2, .lst ((g q.1).map V.int)) :: A, B, ?_, ?_⟩
      · show (q.2, HO.lst ((g q.1).map V.int)) :: wcells r g = _
        rw [e1]
        rfl
      · have e3 : wcells (q :: r) (fun n => if n = p.1 then y else g n) = (q.2, .lst ((if q.1 = p.1 then y else g q.1).map V.int)) :: wcells r (fun n => if n = p.1 then y else g n) := rfl
        rw [e3, if_neg ne, e2]
        rfl
theorem wcells_congr {nas : List (Str × Addr)} {g g' : Str → List Int} (h : ∀ p ∈ nas, g p.1 = g' p.1) : wcells nas g = wcells nas g' := List.map_congr_left fun p hp => by simp only [h p hp]
/-- behind j of the pages that row r writes -/
def wrJ (rows : List Row) (ws : List Str) (n : Str) : List Int := wr rows n ++ (if n ∈ ws then [((rows.length : Nat) : Int) + 1] else [])
end Lr

/-! # Logs, on -/
namespace Lr
open PySem PySem.Spec PyProof.Rows L2
theorem wdict_none {nas : List (Str × Addr)} {n : Str} (h : n ∉ nas.map (·.1)) : valV (wdict nas) (Sum.inr n : Key) = none := by
  induction nas with
  | nil => rfl
  | cons q r ih =>
    have h' : ¬ (n = q.1 ∨ n ∈ r.map (·.1)) := fun z => h (List.mem_cons.mpr z)
    have ne : ¬ (Sum.inr q.1 : Key) = Sum.inr n := fun z => h' (.inl (Sum.inr.inj z).symm)
    show valV ((Sum.inr q.1, V.ref q.2) :: wdict r) (Sum.inr n : Key) = _
    rw [valV_neg ne]
    exact ih fun z => h' (.inr z)
theorem wdict_put {nas : List (Str × Addr)} {n : Str} {l : Addr} (h : n ∉ nas.map (·.1)) : putK (wdict nas) (Sum.inr n : Key) (.ref l) = wdict (nas ++ [(n, l)]) := by
  rw [L2.putK_new _ (wdict_none h)]
  unfold wdict
  rw [List.map_append]
  rfl
theorem wcells_app (a b : List (Str × Addr)) (g : Str → List Int) : wcells (a ++ b) g = wcells a g ++ wcells b g := List.map_append
theorem addr_of (nas : List (Str × Addr)) (nd : (nas.map (·.1)).Nodup) : ∃ f : Str → Addr, ∀ p ∈ nas, f p.1 = p.2 := by
  induction nas with
  | nil => exact ⟨fun _ => 0, fun p h => by cases h⟩
  | cons q r ih =>
    have nd' := List.nodup_cons.mp (show (q.1 :: r.map (·.1)).Nodup from nd)
    obtain ⟨f, hf⟩ := ih nd'.2
    refine ⟨fun n => if n = q.1 then q.2 else f n, fun p hp => ?_⟩
    rcases List.mem_cons.mp hp with rfl | hp
    · exact if_pos rfl
    · have ne : p.1 ≠ q.1 := fun z => nd'.1 (by rw [← z]; exact List.mem_map.mpr ⟨p, hp, rfl⟩)
      show (if p.1 = q.1 then q.2 else f p.1) = p.2
      rw [if_neg ne]
      exact hf p hp
theorem strs_at {G : Hp} : ∀ {xs : List Str} {vs : List V}, Reps G (xs.map PyData.str) vs → vs = xs.map V.str
  | [], _, .nil => rfl
  | x :: xs, _, .cons r t => by
    cases r
    rw [strs_at t]
    rfl
theorem rec_at {G : Hp} {r : Lr.Row} {v : V} (h : Rep G (recD r) v) : ∃ b q t, v = .ref b ∧ G b = some (.tup [.ref q, .ref t]) ∧ G q = some (.tup (r.1.map V.str)) ∧ G t = some (.tup (r.2.map V.str)) := by
  cases h with
  | tup e rs =>
    cases rs with
    | cons r1 rs =>
      cases rs with
      | cons r2 rs =>
        cases rs
        cases r1 with
        | tup e1 s1 =>
          cases r2 with
          | tup e2 s2 =>
            rw [strs_at s1] at e1
            rw [strs_at s2] at e2
            exact ⟨_, _, _, rfl, e, e1, e2⟩
theorem recs_get {G : Hp} {rows : List Lr.Row} {vs : List V} {i : Nat} {v : V} (h : Reps G (rows.map recD) vs) (hi : vs[i]? = some v) : ∃ r, rows[i]? = some r ∧ Rep G (recD r) v := by
  obtain ⟨d, hd, r⟩ := h.get hi
  rw [List.getElem?_map] at hd
  cases e : rows[i]? with
  | none =>
    rw [e] at hd
    cases hd
  | some x =>
    rw [e] at hd
    cases hd
    exact ⟨x, rfl, r⟩
theorem map_get {α β : Type} {f : α → β} {xs : List α} {i : Nat} {v : β} (h : (xs.map f)[i]? = some v) : ∃ x, xs[i]? = some x ∧ f x = v := by
  rw [List.getElem?_map] at h
  cases e : xs[i]? with
  | none =>
    rw [e] at h
    cases h
  | some x =>
    rw [e] at h
    exact ⟨x, rfl, Option.some.inj h⟩
theorem rep_strs {G : Hp} (xs : List Str) : Reps G (xs.map PyData.str) (xs.map V.str) := by
  induction xs with
  | nil => exact .nil
  | cons x r ih => exact .cons (.str x) ih
theorem wrJ_step {rows : List Lr.Row} {ws : List Str} {j : Nat} {n m : Str} (hn : ws[j]? = some n) (nd : ws.Nodup) : wrJ rows (ws.take (j + 1)) m = if m = n then wrJ rows (ws.take j) n ++ [((rows.length : Nat) : Int) + 1] else wrJ rows (ws.take j) m := by
  have e := take_more hn
  have hj := (List.getElem?_eq_some_iff.mp hn).1
  unfold wrJ
  by_cases h : m = n
  · subst h
    rw [if_pos rfl]
    have h1 : m ∈ ws.take (j + 1) := by
      rw [e]
      simp
    have h2 : m ∉ ws.take j := fun z => by
      have nd' : (ws.take (j + 1)).Nodup := nd.sublist (List.take_sublist _ _)
      rw [e] at nd'
      exact (List.nodup_append.mp nd').2.2 m z m (by simp) rfl
    rw [if_pos h1, if_neg h2]
    simp
  · rw [if_neg h]
    have : (m ∈ ws.take (j + 1)) ↔ (m ∈ ws.take j) := by
      rw [e, List.mem_append, List.mem_singleton]
      exact ⟨fun z => z.elim id fun y => absurd y h, .inl⟩
    by_cases hm : m ∈ ws.take j
    · rw [if_pos hm, if_pos (this.mpr hm)]
    · rw [if_neg hm, if_neg (fun z => hm (this.mp z))]
theorem wrJ_all {rows : List Lr.Row} {r : Lr.Row} {n : Str} : wrJ rows r.2 n = wr (rows ++ [r]) n := by
  rw [wr_snoc]
  rfl
theorem wr_len (rows : List Lr.Row) (n : Str) : (wr rows n).length ≤ rows.length := by
  unfold wr
  rw [List.length_map]
  exact Nat.le_trans (List.length_filter_le _ _) (by rw [List.length_range]; exact Nat.le_refl _)
theorem wrJ_len (rows : List Lr.Row) (ws : List Str) (n : Str) : (wrJ rows ws n).length ≤ rows.length + 1 := by
  have := wr_len rows n
  unfold wrJ
  split
  · rw [List.length_append]
    simp
    omega
  · simp
    omega
end Lr
namespace Lr
open PySem PySem.Spec PyProof.Rows L2
theorem gc2 {i j : Nat} {x y : V} {σ : L2.St} {H : Hp} {Q : L2.St → Hp → Prop} (h : Q ((σ.set i (some x)).set j (some y)) H) : gCons (gName i) (gCons (gName j) gNil) [x, y] σ H Q := ⟨_, _, rfl, _, _, rfl, rfl, h⟩
theorem tfld {K : PySem.W.Frag} {ta tv : TE} {f : Str} {D : Ends} {σ : L2.St} {H : Hp} (h : tv σ H fun y H1 => ta σ H1 fun x H2 => ∃ a C dx fs, x = .ref a ∧ H2 a = some (.ins C dx fs) ∧ Cls K C ∧ NoAttr K C f ∧ fs.length < 1000 ∧ D.nx σ (upd H2 a (.ins C dx (putF f y fs)))) : sFld K ta tv f D σ H := h
theorem nodup_len {xs : List Str} : ∀ {ns : List Str}, xs.Nodup → (∀ n ∈ xs, n ∈ ns) → xs.length ≤ ns.length := by
  induction xs with
  | nil => exact fun _ _ => Nat.zero_le _
  | cons x r ih =>
    intro ns nd h
    have nd' := List.nodup_cons.mp nd
    have hx := h x List.mem_cons_self
    have := ih (ns := ns.erase x) nd'.2 fun n hn => by
      refine (List.mem_erase_of_ne fun z => nd'.1 (by rw [← z]; exact hn)).mpr (h n (List.mem_cons_of_mem _ hn))
    rw [List.length_erase_of_mem hx] at this
    have := List.length_pos_of_mem hx
    rw [List.length_cons]
    omega
end Lr

/-! # What a law draws: names, records, logs -/
namespace Lr
open PySem PySem.Spec PyProof.Rows L2
def spPages (Cl : Addr) : Sp := fun vs H Q _ => ∃ (G : Hp) (x : Addr) (L : LogM), vs = [.ref x] ∧ LogAt Cl G x L ∧ Same G H ∧ ∀ p, H p = none → Q (.ref p) (upd H p (.lst (L.names.map V.str)))
def spRecords (Cl : Addr) : Sp := fun vs H Q _ => ∃ (G : Hp) (x : Addr) (L : LogM), vs = [.ref x] ∧ LogAt Cl G x L ∧ Same G H ∧ ∀ p rvs, H p = none → Reps G (L.rows.map recD) rvs → Q (.ref p) (upd H p (.lst rvs))
def spSize (Cl : Addr) : Sp := fun vs H Q _ => ∃ (G : Hp) (x : Addr) (L : LogM), vs = [.ref x] ∧ LogAt Cl G x L ∧ Same G H ∧ Q (.int L.rows.length) H
/-- _law_start(script) -/
def spStart (K : PySem.W.Frag) : Sp := fun vs H Q _ => ∃ (G : Hp) (C : List Cell) (a : Addr) (l : List Int), vs = [.ref a] ∧ WF G C H ∧ SqL K H a (l.map V.int) ∧ ∀ st cs H', SW G st cs 0 C H' → Q (.ref st) H'
/-- _law_name(stream) -/
def spName : Sp := fun vs H Q _ => ∃ (G : Hp) (st cs : Addr) (n : Nat) (C : List Cell), vs = [.ref st] ∧ n + 9 < 2 ^ 40 ∧ SW G st cs n C H ∧ ∀ s H', nameB s = true → SW G st cs (n + 9) C H' → Q (.str s) H'
/-- _law_names(stream, many) -/
def spNames : Sp := fun vs H Q _ => ∃ (G : Hp) (st cs : Addr) (n : Nat) (C : List Cell) (m : Nat), vs = [.ref st, .int m] ∧ m ≤ 13 ∧ n + 9 * m < 2 ^ 40 ∧ SW G st cs n C H ∧
  ∀ (ns : List Str) (p : Addr) (H' : Hp), ns.length = m → ns.Nodup → ns.Pairwise leS → (∀ s ∈ ns, nameB s = true) → SW G st cs (n + 9 * m) ((p, .lst (ns.map V.str)) :: C) H' → Q (.ref p) H'
/-- _law_record(stream, pages, plain) -/
def spRecord : Sp := fun vs H Q _ => ∃ (G : Hp) (st cs : Addr) (n : Nat) (C : List Cell) (a : Addr) (ns : List Str) (b : Bool), vs = [.ref st, .ref a, .bl b] ∧ 1 ≤ ns.length ∧ ns.length ≤ 12 ∧ ns.Nodup ∧ ns.Pairwise leS ∧ (∀ s ∈ ns, nameB s = true) ∧ Seq G C a (ns.map V.str) ∧ n + 30 < 2 ^ 40 ∧ SW G st cs n C H ∧
  ∀ (r : Lr.Row) (v : V) (G' H' : Hp), RowOk ns r → Rep G' (recD r) v → Same G G' → SW G' st cs (n + 30) C H' → Q v H'
/-- a log as it is drawn: its pages and its rows -/
structure LogV (G : Hp) (a : Addr) (L : LogM) : Prop where
  ex : ∃ (p q : Addr) (rvs : List V), G a = some (.lst [.ref p, .ref q]) ∧ G p = some (.lst (L.names.map V.str)) ∧ G q = some (.lst rvs) ∧ Reps G (L.rows.map recD) rvs
  nn : 1 ≤ L.names.length ∧ L.names.length ≤ 12
  nd : L.names.Nodup
  sorted : L.names.Pairwise leS
  nb : ∀ n ∈ L.names, nameB n = true
  rl : L.rows.length ≤ 60
  rok : ∀ r ∈ L.rows, RowOk L.names r
theorem LogV.mono {G G' : Hp} {a : Addr} {L : LogM} (h : LogV G a L) (s : Same G G') : LogV G' a L := by
  obtain ⟨p, q, rvs, h1, h2, h3, h4⟩ := h.ex
  exact ⟨⟨p, q, rvs, s _ _ h1, s _ _ h2, s _ _ h3, h4.mono s⟩, h.nn, h.nd, h.sorted, h.nb, h.rl, h.rok⟩
/-- _law_log(stream, size) -/
def spLog : Sp := fun vs H Q _ => ∃ (G : Hp) (st cs : Addr) (n : Nat) (C : List Cell) (z : Nat), vs = [.ref st, .int z] ∧ z ≤ 2 ∧ n + 3000 < 2 ^ 40 ∧ SW G st cs n C H ∧
  ∀ (L : LogM) (a : Addr) (G' H' : Hp), LogV G' a L → Same G G' → SW G' st cs (n + 3000) C H' → Q (.ref a) H'
/-! ### signs of names -/
theorem cps_app (a b : Str) : (a ++ b).cps.toList = a.cps.toList ++ b.cps.toList := by
  show (a.cps ++ b.cps).toList = _
  simp
theorem len_app (a b : Str) : (a ++ b).length = a.length + b.length := PySem.Str.length_append a b
theorem sgns_app {a b : List Nat} : sgns (a ++ b) = (sgns a && sgns b) := by
  unfold sgns
  rw [List.all_append]
/-- a name so far: its first sign a letter, all of them letters or figures -/
def nameP (s : Str) : Prop := sgns s.cps.toList = true ∧ ∃ c r, s.cps.toList = c :: r ∧ low c = true
theorem nameP.name {s : Str} (h : nameP s) (l : s.length ≤ 8) : nameB s = true := by
  obtain ⟨h1, c, r, e, h2⟩ := h
  have hl : s.cps.toList.length = s.length := by simp [Str.length]
  unfold nameB
  have hd : decide (1 ≤ s.length ∧ s.length ≤ 8) = true := decide_eq_true (by
    rw [e, List.length_cons] at hl
    omega)
  rw [h1, e, hd]
  show (true && true && low c) = true
  rw [h2]
  rfl
theorem nameP.app {s t : Str} (h : nameP s) (ht : sgns t.cps.toList = true) : nameP (s ++ t) := by
  obtain ⟨h1, c, r, e, h2⟩ := h
  refine ⟨?_, c, r ++ t.cps.toList, ?_, h2⟩
  · rw [cps_app, sgns_app, h1, ht]
    rfl
  · rw [cps_app, e]
    rfl
theorem nameB.p {s : Str} (h : nameB s = true) : nameP s := by
  unfold nameB at h
  simp only [Bool.and_eq_true, decide_eq_true_eq] at h
  obtain ⟨⟨h1, h2⟩, h3⟩ := h
  refine ⟨h2, ?_⟩
  cases e : s.cps.toList with
  | nil =>
    rw [e] at h3
    cases h3
  | cons c r =>
    rw [e] at h3
    exact ⟨c, r, rfl, h3⟩
theorem one_len (c : Nat) : (⟨#[c]⟩ : Str).length = 1 := rfl
theorem SW.weak {G G' H : Hp} {st cs : Addr} {n : Nat} {C : List Cell} (w : SW G' st cs n C H) (s : Same G G') : SW G st cs n C H := by
  obtain ⟨l, a, b, c, w, k⟩ := w
  exact ⟨l, a, b, c, WF.weak w s, k⟩
/-- 'v' + str(k) -/
def vk (k : Nat) : Str := ("v" : Str) ++ Str.ofString (toString (k : Int))
theorem vk_ok : ∀ k < 13, nameB (vk k) = true := by decide +kernel
theorem vk_nodup : ((List.range 13).map vk).Nodup := by decide +kernel
theorem vk_free (xs : List Str) (h : xs.length < 13) (s : Str) : ((s :: (List.range 13).map vk).filter fun n => decide (n ∉ xs)) ≠ [] := fun e => by
  have : ∀ n ∈ (List.range 13).map vk, n ∈ xs := fun n hn => by
    have := List.filter_eq_nil_iff.mp e n (List.mem_cons_of_mem _ hn)
    simpa using this
  have := nodup_len vk_nodup this
  rw [List.length_map, List.length_range] at this
  omega
theorem vk_len : ∀ k : Nat, k < 13 → ("v" : Str).length + (Str.ofString (toString (k : Int))).length ≤ 1000000 := by decide +kernel
theorem tc1 {ta : TE} {σ : L2.St} {H : Hp} {Q : List V → Hp → Prop} (h : ta σ H fun x H1 => Q [x] H1) : tCons ta tNil σ H Q := h
theorem tc2 {ta tb : TE} {σ : L2.St} {H : Hp} {Q : List V → Hp → Prop} (h : ta σ H fun x H1 => tb σ H1 fun y H2 => Q [x, y] H2) : tCons ta (tCons tb tNil) σ H Q := h
theorem filter_take {α : Type} (p : α → Bool) {l : List α} {i : Nat} {x : α} (h : l[i]? = some x) : (l.take (i + 1)).filter p = (l.take i).filter p ++ (if p x = true then [x] else []) := by
  rw [take_more h, List.filter_append]
  congr 1
  by_cases hp : p x = true
  · simp [hp]
  · simp [hp]
end Lr

namespace Lr
open PySem PySem.Spec PyProof.Rows L2
theorem dpInts (K : PySem.W.Frag) (H : Hp) : ∀ l : List Int, DpAll K H (l.map V.int) (l.map PyData.int)
  | [] => .nil
  | i :: r => .cons (.int i) (dpInts K H r)
theorem shInts (l : List Int) : SeqAt.shaped (.list (l.map PyData.int)) = true := by
  have h1 : ∀ l : List Int, PyData.canLayAll0 (l.map PyData.int) = true := fun l => by
    induction l with
    | nil => rfl
    | cons i r ih => simp [PyData.canLayAll0, PyData.canLay0, ih]
  have h2 : ∀ l : List Int, PyData.depthAll (l.map PyData.int) ≤ 1 := fun l => by
    induction l with
    | nil => simp [PyData.depthAll]
    | cons i r ih => simp [PyData.depthAll, PyData.depth, ih]
  unfold SeqAt.shaped
  rw [Bool.and_eq_true]
  refine ⟨h1 l, decide_eq_true ?_⟩
  show (PyData.list (l.map PyData.int)).depth ≤ 64
  have := h2 l
  simp only [PyData.depth]
  omega
theorem rNeA.dat {K : PySem.W.Frag} {x y : V} {d e : PyData} {H : Hp} {Q : VK} (h1 : Dp K H x d) (h2 : Dp K H y e) (s1 : SeqAt.shaped d = true) (s2 : SeqAt.shaped e = true) (q : Q (.bl (!PyData.eqv d e)) H) : rNeA K x y H Q := by
  unfold rNeA
  exact .inr ⟨_, _, h1, h2, s1, s2, q⟩
theorem rEqA.dat {K : PySem.W.Frag} {x y : V} {d e : PyData} {H : Hp} {Q : VK} (h1 : Dp K H x d) (h2 : Dp K H y e) (s1 : SeqAt.shaped d = true) (s2 : SeqAt.shaped e = true) (q : Q (.bl (PyData.eqv d e)) H) : rEqA K x y H Q := by
  unfold rEqA
  exact .inr ⟨_, _, h1, h2, s1, s2, q⟩
theorem dpStrs (K : PySem.W.Frag) (H : Hp) : ∀ l : List Str, DpAll K H (l.map V.str) (l.map PyData.str)
  | [] => .nil
  | i :: r => .cons (.str i) (dpStrs K H r)
theorem nameB_strOk {s : Str} (h : nameB s = true) : PyData.strOk s = true := by
  have h2 := (nameB.p h).1
  unfold PyData.strOk
  rw [Array.all_eq_true_iff_forall_mem]
  intro c hc
  unfold sgns at h2
  have := List.all_eq_true.mp h2 c (by simpa using hc)
  unfold low fig at this
  simp only [Bool.or_eq_true, decide_eq_true_eq] at this
  exact decide_eq_true (by omega)
theorem shStrs (l : List Str) (hl : ∀ s ∈ l, nameB s = true) : SeqAt.shaped (.list (l.map PyData.str)) = true := by
  have h1 : ∀ l : List Str, (∀ s ∈ l, nameB s = true) → PyData.canLayAll0 (l.map PyData.str) = true := fun l => by
    induction l with
    | nil => exact fun _ => rfl
    | cons i r ih =>
      intro h
      have a := nameB_strOk (h i List.mem_cons_self)
      have b := ih fun s hs => h s (List.mem_cons_of_mem _ hs)
      simp [PyData.canLayAll0, PyData.canLay0, a, b]
  have h2 : ∀ l : List Str, PyData.depthAll (l.map PyData.str) ≤ 1 := fun l => by
    induction l with
    | nil => simp [PyData.depthAll]
    | cons i r ih => simp [PyData.depthAll, PyData.depth, ih]
  unfold SeqAt.shaped
  rw [Bool.and_eq_true]
  refine ⟨h1 l hl, decide_eq_true ?_⟩
  show (PyData.list (l.map PyData.str)).depth ≤ 64
  have := h2 l
  simp only [PyData.depth]
  omega
theorem RowOk.sub {ns a b : List Str} (ha : a.Sublist ns) (hb : b.Sublist ns) (h0 : b ≠ []) (nd : ns.Nodup) (srt : ns.Pairwise leS) : RowOk ns (a, b) :=
  ⟨h0, fun _ h => ha.subset h, fun _ h => hb.subset h, nd.sublist ha, nd.sublist hb, srt.sublist ha, srt.sublist hb⟩
theorem SW.recG {G H : Hp} {st cs : Addr} {n : Nat} {C : List Cell} {p q t : Addr} {a b : List Str} (W : SW G st cs n C H) (np : H p = none) (nq : (upd H p (.tup (a.map V.str))) q = none) (nt : (upd (upd H p (.tup (a.map V.str))) q (.tup (b.map V.str))) t = none) :
    ∃ G', Same G G' ∧ SW G' st cs n C (upd (upd (upd H p (.tup (a.map V.str))) q (.tup (b.map V.str))) t (.tup [.ref p, .ref q])) ∧ Rep G' (recD (a, b)) (.ref t) := by
  have w1 := W.newG (o := .tup (a.map V.str)) np
  have s1 := W.leG (o := .tup (a.map V.str)) np
  have w2 := w1.newG (o := .tup (b.map V.str)) nq
  have s2 := w1.leG (o := .tup (b.map V.str)) nq
  have w3 := w2.newG (o := .tup [.ref p, .ref q]) nt
  have s3 := w2.leG (o := .tup [.ref p, .ref q]) nt
  exact ⟨_, s1.trans (s2.trans s3), w3, .tup upd_same (.cons (.tup (s3 _ _ (s2 _ _ upd_same)) (rep_strs _)) (.cons (.tup (s3 _ _ upd_same) (rep_strs _)) .nil))⟩
theorem sub_strs {ys : List V} {ns : List Str} (h : ys.Sublist (ns.map V.str)) : ∃ zs : List Str, zs.Sublist ns ∧ ys = zs.map V.str := by
  obtain ⟨zs, h1, h2⟩ := List.sublist_map_iff.mp h
  exact ⟨zs, h1, h2⟩
/-- two ways to one tail -/
theorem tjoin {A B : TS} {D : Ends} {σ : L2.St} {H : Hp} (Pj : L2.St → Hp → Prop) (tail : ∀ σ' H', Pj σ' H' → B D σ' H') (h : (∀ σ' H', Pj σ' H' → B D σ' H') → A { D with nx := B D } σ H) : tSeq A B D σ H := h tail
theorem eqv_nil (zs : List Str) : PyData.eqv (.list (zs.map PyData.str)) (.list []) = decide (zs = []) := by
  cases zs <;> rfl
end Lr

/-! # Logs told anew in other kinds of lists -/
namespace Lr
open PySem PySem.Spec PyProof.Rows L2
def unS : V → Str
  | .str s => s
  | _ => ""
theorem perm_strs {ys : List V} {xs : List Str} (h : ys.Perm (xs.map V.str)) : ∃ zs : List Str, ys = zs.map V.str ∧ zs.Perm xs := by
  refine ⟨ys.map unS, ?_, ?_⟩
  · rw [List.map_map]
    have : ys.map (V.str ∘ unS) = ys.map id := List.map_congr_left fun v hv => by
      obtain ⟨s, _, rfl⟩ := List.mem_map.mp (h.subset hv)
      rfl
    rw [this, List.map_id]
  · have := h.map unS
    rw [List.map_map] at this
    have e : xs.map (unS ∘ V.str) = xs.map id := List.map_congr_left fun v hv => rfl
    rw [e, List.map_id] at this
    exact this
def strT (xs : List Str) : List T := xs.map fun s => T.leaf (.str s)
theorem strT_vals (xs : List Str) : vals (strT xs) = xs.map V.str := by
  unfold vals strT
  rw [List.map_map]
  rfl
theorem strT_cells : ∀ xs : List Str, cellsL (strT xs) = []
  | [] => rfl
  | _ :: r => strT_cells r
theorem strT_data : ∀ xs : List Str, dataL (strT xs) = xs.map PyData.str
  | [] => rfl
  | x :: r => by
    show PyData.str x :: dataL (strT r) = _
    rw [strT_data r]
    rfl
theorem strT_ok {G : Hp} : ∀ xs : List Str, OkL G (strT xs)
  | [] => trivial
  | _ :: r => ⟨trivial, strT_ok r⟩
theorem strT_len (xs : List Str) : (strT xs).length = xs.length := List.length_map _
def rowT (b p q : Addr) (r : Lr.Row) : T := .lst b [.lst p (strT r.1), .lst q (strT r.2)]
theorem rowT_cells (b p q : Addr) (r : Lr.Row) : (rowT b p q r).cells = [(b, .lst [.ref p, .ref q]), (p, .lst (r.1.map V.str)), (q, .lst (r.2.map V.str))] := by
  show (b, HO.lst [.ref p, .ref q]) :: (((p, HO.lst (vals (strT r.1))) :: cellsL (strT r.1)) ++ (((q, HO.lst (vals (strT r.2))) :: cellsL (strT r.2)) ++ [])) = _
  rw [strT_vals, strT_vals, strT_cells, strT_cells]
  rfl
def rawD (r : Lr.Row) : PyData := .list [.list (r.1.map .str), .list (r.2.map .str)]
theorem rowT_data (b p q : Addr) (r : Lr.Row) : (rowT b p q r).data = rawD r := by
  show PyData.list [.list (dataL (strT r.1)), .list (dataL (strT r.2))] = _
  rw [strT_data, strT_data]
  rfl
theorem rowT_ok {G : Hp} (b p q : Addr) (r : Lr.Row) : (rowT b p q r).Ok G := ⟨strT_ok _, strT_ok _, trivial⟩
theorem permB {b c p d : Cell} {A C : List Cell} : (b :: c :: p :: d :: (A ++ C)).Perm (d :: ((A ++ [b, p, c]) ++ C)) := by
  have h1 : ([b, c, p, d] ++ (A ++ C)).Perm ([d, b, p, c] ++ (A ++ C)) := List.Perm.append_right _ (by
    refine (List.Perm.cons b (List.Perm.trans (List.Perm.swap p c [d]) (List.Perm.cons p (List.Perm.swap d c [])))).trans ?_
    -- b p d c
    refine (List.Perm.cons b (List.Perm.swap d p [c])).trans (List.Perm.swap d b [p, c]))
  refine h1.trans (List.Perm.cons d ?_)
  rw [List.append_assoc]
  exact List.perm_append_comm_assoc [b, p, c] A C
abbrev RowsP (rows ps : List Lr.Row) : Prop := rows.length = ps.length ∧ ∀ (i : Nat) (r s : Lr.Row), rows[i]? = some r → ps[i]? = some s → s.1.Perm r.1 ∧ s.2.Perm r.2
theorem RowsP.app {rows ps : List Lr.Row} {r s : Lr.Row} (h : RowsP rows ps) (h1 : s.1.Perm r.1) (h2 : s.2.Perm r.2) : RowsP (rows ++ [r]) (ps ++ [s]) := by
  refine ⟨by rw [List.length_append, List.length_append, h.1]; rfl, fun i a b ha hb => ?_⟩
  by_cases hi : i < rows.length
  · rw [List.getElem?_append_left hi] at ha
    rw [List.getElem?_append_left (by rw [← h.1]; exact hi)] at hb
    exact h.2 i a b ha hb
  · rw [List.getElem?_append_right (by omega)] at ha
    rw [List.getElem?_append_right (by rw [← h.1]; omega), ← h.1] at hb
    cases e : i - rows.length with
    | zero =>
      rw [e] at ha hb
      cases ha
      cases hb
      exact ⟨h1, h2⟩
    | succ j =>
      rw [e] at ha
      cases ha
/-- [[_law_mixed(stream, row[0]), _law_mixed(stream, row[1])] for row in log[1]] -/
theorem loop_rows {K : PySem.W.Frag} {G : Hp} {C : List Cell} {st cs a : Addr} {n : Nat} {L : LogM} {σ : L2.St} {H : Hp} {Q : VK} {vs : List Nat} {j : Nat}
    (h0 : ∀ x, ((wipe σ vs).set j (some x))[0]? = some (some (.ref st))) (h1 : σ[1]? = some (some (.ref a))) (hw : ∀ x, ((wipe σ vs).set j (some x))[j]? = some (some x)) (hw2 : ∀ x, wipe ((wipe σ vs).set j (some x)) vs = wipe σ vs)
    (W : SW G st cs n C H) (V0 : LogV G a L) (n40 : n + 2000 < 2 ^ 40)
    (k : ∀ (ps : List Lr.Row) (ts : List T) (D : Addr) (H' : Hp), RowsP L.rows ps → OkL G ts → dataL ts = ps.map rawD → SW G st cs (n + 2000) ((D, .lst (vals ts)) :: (cellsL ts ++ C)) H' → Q (.ref D) H') :
    tLc (iSeq K (tOp (rIx K) (tVar 1) (tC (.int 1)))) (gName j) tYes (tLst (tCons (tCall spMixed [] E0 (tCons (tVar 0) (tCons (tOp (rIx K) (tVar j) (tC (.int 0))) tNil))) (tCons (tCall spMixed [] E0 (tCons (tVar 0) (tCons (tOp (rIx K) (tVar j) (tC (.int 1))) tNil))) tNil))) vs σ H Q := by
  obtain ⟨lp, lq, rvs, g1, g2, g3, g4⟩ := V0.ex
  have lr := g4.length
  rw [List.length_map] at lr
  have l60 := V0.rl
  refine lc_seq (xs := rvs) (k := true) (fun R r => ⟨_, h1, rIx.lst (W.getG g1) (atI_nat (j := 1) rfl) r⟩) (SqK.lst (W.getG g3)) fun D nD => ⟨fun i H' => ∃ (ps : List Lr.Row) (ts : List T), RowsP (L.rows.take i) ps ∧ OkL G ts ∧ dataL ts = ps.map rawD ∧ ts.length = i ∧ SW G st cs (n + 24 * i) ((D, .lst (vals ts)) :: (cellsL ts ++ C)) H',
    ⟨[], [], ⟨rfl, fun i r s h _ => by simp at h⟩, trivial, rfl, rfl, W.new nD⟩, fun i H' _ ⟨ps, ts, _, _, _, _, w⟩ => SqK.lst (w.getG g3), ?_, ?_⟩
  · rintro i v H' hv ⟨ps, ts, rp, ok, ed, el, w⟩
    have hi := (List.getElem?_eq_some_iff.mp hv).1
    obtain ⟨r, hr, rep⟩ := recs_get g4 hv
    obtain ⟨b, q, t, rfl, gb, gq, gt⟩ := rec_at rep
    obtain ⟨o1, o2, o3, o4, o5, _, _⟩ := V0.rok r (List.mem_of_getElem? hr)
    have l1 := nodup_len o4 o2
    have l2 := nodup_len o5 o3
    have n12 := V0.nn.2
    refine ⟨hw2 _, ?_⟩
    refine ⟨_, h0 _, _, hw _, rIx.tup (w.getG gb) (atI_nat (j := 0) rfl) ⟨G, st, cs, _, _, q, _, rfl, by rw [List.length_map]; omega, by rw [List.length_map]; omega, w, .gt gq, fun ys p1 H1 hp1 np1 w1 => ?_⟩⟩
    obtain ⟨zs, rfl, hz⟩ := perm_strs hp1
    rw [List.length_map] at w1
    refine ⟨_, h0 _, _, hw _, rIx.tup (w1.getG gb) (atI_nat (j := 1) rfl) ⟨G, st, cs, _, _, t, _, rfl, by rw [List.length_map]; omega, by rw [List.length_map]; omega, w1, .gt gt, fun ys p2 H2 hp2 np2 w2 => ?_⟩⟩
    obtain ⟨us, rfl, hu⟩ := perm_strs hp2
    rw [List.length_map] at w2
    refine ⟨by show 2 ≤ sizeLine; decide, fun b2 nb2 => ?_⟩
    have w3 := (w2.new (o := .lst [.ref p1, .ref p2]) nb2).perm permB
    have ec : cellsL (ts ++ [rowT b2 p1 p2 (zs, us)]) = cellsL ts ++ [(b2, .lst [.ref p1, .ref p2]), (p1, .lst (zs.map V.str)), (p2, .lst (us.map V.str))] := by
      rw [cellsL_append]
      show cellsL ts ++ ((rowT b2 p1 p2 (zs, us)).cells ++ []) = _
      rw [rowT_cells, List.append_nil]
    refine ⟨_, w3.hd, sz_lt (by rw [List.length_map]; omega), ps ++ [(zs, us)], ts ++ [rowT b2 p1 p2 (zs, us)], ?_, OkL.app ok ⟨rowT_ok _ _ _ _, trivial⟩, ?_, by rw [List.length_append, el]; rfl, ?_⟩
    · rw [take_more hr]
      exact rp.app hz hu
    · rw [dataL_append, List.map_append, ed]
      show _ ++ [(rowT b2 p1 p2 (zs, us)).data] = _
      rw [rowT_data]
      rfl
    · rw [ec]
      have ev : vals (ts ++ [rowT b2 p1 p2 (zs, us)]) = vals ts ++ [.ref b2] := by simp [vals, rowT, T.val]
      rw [ev]
      exact (w3.set).mono (by omega)
  · rintro H' ⟨ps, ts, rp, ok, ed, el, w⟩
    rw [← lr, List.take_length] at rp
    exact k ps ts D H' rp ok ed (w.mono (by omega))
/-! ### the kinds of lists don't matter -/
theorem itemsD_norm (d : PyData) : itemsD (norm d) = (itemsD d).map normL := by cases d <;> rfl
theorem namesL_norm : ∀ (ds : List PyData) (acc : List Str), namesL (normL ds) acc = namesL ds acc
  | [], acc => rfl
  | d :: r, acc => by
    cases d with
    | str s =>
      show (if nameB s = true ∧ s ∉ acc then namesL (normL r) (acc ++ [s]) else none) = (if nameB s = true ∧ s ∉ acc then namesL r (acc ++ [s]) else none)
      rw [namesL_norm r]
    | _ => rfl
theorem namesD_norm (d : PyData) : namesD (norm d) = namesD d := by
  unfold namesD
  rw [itemsD_norm]
  cases itemsD d with
  | none => rfl
  | some ds =>
    show (namesL (normL ds) []).map sortS = (namesL ds []).map sortS
    rw [namesL_norm]
theorem lotD_norm (d : PyData) (ns : List Str) : lotD (norm d) ns = lotD d ns := by
  unfold lotD
  rw [namesD_norm]
theorem rowD_norm (d : PyData) (ns : List Str) : rowD (norm d) ns = rowD d ns := by
  unfold rowD
  rw [itemsD_norm]
  cases itemsD d with
  | none => rfl
  | some ds =>
    match ds with
    | [] => rfl
    | [_] => rfl
    | [a, b] =>
      show (match lotD (norm a) ns, lotD (norm b) ns with
        | some r, some w => if w = [] then none else some (r, w)
        | _, _ => none) = (match lotD a ns, lotD b ns with
        | some r, some w => if w = [] then none else some (r, w)
        | _, _ => none)
      rw [lotD_norm, lotD_norm]
    | _ :: _ :: _ :: _ => rfl
theorem rowsL_norm (ns : List Str) : ∀ (ds : List PyData) (i : Nat) (acc : List Lr.Row), rowsL ns (normL ds) i acc = rowsL ns ds i acc
  | [], i, acc => rfl
  | d :: r, i, acc => by
    show (match rowD (norm d) ns with
      | none => Except.error i
      | some x => if i = 60 then Except.error i else rowsL ns (normL r) (i + 1) (acc ++ [x])) = (match rowD d ns with
      | none => Except.error i
      | some x => if i = 60 then Except.error i else rowsL ns r (i + 1) (acc ++ [x]))
    rw [rowD_norm]
    cases rowD d ns with
    | none => rfl
    | some x =>
      show (if i = 60 then _ else rowsL ns (normL r) (i + 1) (acc ++ [x])) = (if i = 60 then _ else rowsL ns r (i + 1) (acc ++ [x]))
      rw [rowsL_norm ns r]
theorem logD_norm (dp dr : PyData) : logD (norm dp) (norm dr) = logD dp dr := by
  unfold logD
  rw [namesD_norm, itemsD_norm]
  cases namesD dp with
  | none => rfl
  | some ns =>
    cases itemsD dr with
    | none => rfl
    | some ds =>
      show (if 1 ≤ ns.length ∧ ns.length ≤ 12 then (match rowsL ns (normL ds) 0 [] with
        | .error i => LogR.records i
        | .ok rows => .log ⟨ns, rows⟩) else .pages) = (if 1 ≤ ns.length ∧ ns.length ≤ 12 then (match rowsL ns ds 0 [] with
        | .error i => LogR.records i
        | .ok rows => .log ⟨ns, rows⟩) else .pages)
      rw [rowsL_norm]
theorem norm_str {d : PyData} {s : Str} (h : d = .str s) : norm d = .str s := by rw [h]; rfl
theorem normL_mem {d : PyData} : ∀ {ds : List PyData}, d ∈ ds → norm d ∈ normL ds
  | e :: r, h => by
    rcases List.mem_cons.mp h with rfl | h
    · exact List.mem_cons_self
    · exact List.mem_cons_of_mem _ (normL_mem h)
theorem ShortD.norm {d : PyData} (h : ShortD (norm d)) : ShortD d := fun ds e => by
  have := h (normL ds) (by rw [itemsD_norm, e]; rfl)
  rw [normL_length] at this
  exact ⟨this.1, fun x hx s es => this.2 (Lr.norm x) (normL_mem hx) s (norm_str es)⟩
theorem Short2.norm {d : PyData} (h : Short2 (norm d)) : Short2 d := fun ds e => by
  have := h (normL ds) (by rw [itemsD_norm, e]; rfl)
  rw [normL_length] at this
  exact ⟨this.1, fun x hx => ShortD.norm (this.2 (Lr.norm x) (normL_mem hx))⟩
theorem LongD.norm {d : PyData} (h : LongD (norm d)) : LongD d := fun ds e => by
  have := h (normL ds) (by rw [itemsD_norm, e]; rfl)
  rw [normL_length] at this
  exact ⟨this.1, fun x hx => Short2.norm (this.2 (Lr.norm x) (normL_mem hx))⟩
/-! ### what a drawn log makes -/
theorem lotD_of {xs ys ns : List Str} (h : ys.Perm xs) (nd : xs.Nodup) (srt : xs.Pairwise leS) (nb : ∀ n ∈ xs, nameB n = true) (sub : ∀ n ∈ xs, n ∈ ns) : lotD (.list (ys.map .str)) ns = some xs := by
  have e1 : namesL (ys.map PyData.str) [] = some ys := by
    have := namesL_strs ys [] (fun y hy => nb y (h.mem_iff.mp hy)) (by simpa using h.nodup_iff.mpr nd)
    simpa using this
  have e2 : namesD (.list (ys.map .str)) = some xs := by
    show (namesL (ys.map PyData.str) []).map sortS = some xs
    rw [e1]
    show some (sortS ys) = some xs
    rw [sortS_eq h, sortS_self srt]
  unfold lotD
  rw [e2]
  show (if ∀ x ∈ xs, x ∈ ns then some xs else none) = some xs
  rw [if_pos sub]
theorem namesD_of {xs ys : List Str} (h : ys.Perm xs) (nd : xs.Nodup) (srt : xs.Pairwise leS) (nb : ∀ n ∈ xs, nameB n = true) : namesD (.list (ys.map .str)) = some xs := by
  have e1 : namesL (ys.map PyData.str) [] = some ys := by
    have := namesL_strs ys [] (fun y hy => nb y (h.mem_iff.mp hy)) (by simpa using h.nodup_iff.mpr nd)
    simpa using this
  show (namesL (ys.map PyData.str) []).map sortS = some xs
  rw [e1]
  show some (sortS ys) = some xs
  rw [sortS_eq h, sortS_self srt]
theorem rowD_of {ns : List Str} {r s : Lr.Row} (nb : ∀ n ∈ ns, nameB n = true) (o : RowOk ns r) (h1 : s.1.Perm r.1) (h2 : s.2.Perm r.2) : rowD (rawD s) ns = some r := by
  obtain ⟨o1, o2, o3, o4, o5, o6, o7⟩ := o
  show (match lotD (.list (s.1.map .str)) ns, lotD (.list (s.2.map .str)) ns with
    | some r, some w => if w = [] then none else some (r, w)
    | _, _ => none) = _
  rw [lotD_of h1 o4 o6 (fun n hn => nb n (o2 n hn)) o2, lotD_of h2 o5 o7 (fun n hn => nb n (o3 n hn)) o3]
  show (if r.2 = [] then none else some (r.1, r.2)) = some r
  rw [if_neg o1]
theorem rowsL_of {ns : List Str} (nb : ∀ n ∈ ns, nameB n = true) : ∀ (rows ps : List Lr.Row) (i : Nat) (acc : List Lr.Row) (rest : List PyData), (∀ r ∈ rows, RowOk ns r) → RowsP rows ps → i + rows.length ≤ 60 →
    rowsL ns (ps.map rawD ++ rest) i acc = rowsL ns rest (i + rows.length) (acc ++ rows)
  | [], [], i, acc, rest, _, _, _ => by simp
  | [], _ :: _, _, _, _, _, h, _ => by cases h.1
  | _ :: _, [], _, _, _, _, h, _ => by cases h.1
  | r :: rows, s :: ps, i, acc, rest, ro, h, l => by
    have h0 := h.2 0 r s rfl rfl
    have ht : RowsP rows ps := ⟨Nat.succ.inj h.1, fun j a b ha hb => h.2 (j + 1) a b ha hb⟩
    rw [List.length_cons] at l
    show (match rowD (rawD s) ns with
      | none => Except.error i
      | some x => if i = 60 then Except.error i else rowsL ns (ps.map rawD ++ rest) (i + 1) (acc ++ [x])) = _
    rw [rowD_of nb (ro r List.mem_cons_self) h0.1 h0.2]
    show (if i = 60 then _ else rowsL ns (ps.map rawD ++ rest) (i + 1) (acc ++ [r])) = _
    rw [if_neg (by omega), rowsL_of nb rows ps (i + 1) (acc ++ [r]) rest (fun q hq => ro q (List.mem_cons_of_mem _ hq)) ht (by omega)]
    rw [List.length_cons, List.append_assoc]
    have e : i + 1 + rows.length = i + (rows.length + 1) := by omega
    rw [e]
    rfl
theorem logD_of {G : Hp} {a : Addr} {L : LogM} (V0 : LogV G a L) {ys : List Str} {ps : List Lr.Row} (hy : ys.Perm L.names) (hp : RowsP L.rows ps) : logD (.list (ys.map .str)) (.list (ps.map rawD)) = .log L := by
  unfold logD
  rw [namesD_of hy V0.nd V0.sorted V0.nb]
  show (if 1 ≤ L.names.length ∧ L.names.length ≤ 12 then (match rowsL L.names (ps.map rawD) 0 [] with
    | .error i => LogR.records i
    | .ok rows => .log ⟨L.names, rows⟩) else .pages) = _
  rw [if_pos V0.nn]
  have := rowsL_of V0.nb L.rows ps 0 [] [] V0.rok hp (by have := V0.rl; omega)
  rw [List.append_nil] at this
  rw [this]
  rfl
theorem short_strs {xs : List Str} (h : xs.length ≤ 63) (nb : ∀ n ∈ xs, nameB n = true) : ShortD (.list (xs.map .str)) := fun ds e => by
  cases e
  refine ⟨by rw [List.length_map]; exact h, fun d hd s es => ?_⟩
  obtain ⟨y, hy, rfl⟩ := List.mem_map.mp hd
  cases es
  exact Nat.le_trans (nameB_len (nb _ hy)) (by decide)
theorem short_raw {ns : List Str} {r s : Lr.Row} (l : ns.length ≤ 12) (nb : ∀ n ∈ ns, nameB n = true) (o : RowOk ns r) (h1 : s.1.Perm r.1) (h2 : s.2.Perm r.2) : Short2 (rawD s) := fun ds e => by
  obtain ⟨o1, o2, o3, o4, o5, o6, o7⟩ := o
  have a1 := nodup_len o4 o2
  have a2 := nodup_len o5 o3
  have b1 := h1.length_eq
  have b2 := h2.length_eq
  cases e
  refine ⟨by show 2 ≤ 100000; decide, fun d hd => ?_⟩
  rcases List.mem_cons.mp hd with rfl | hd
  · exact short_strs (by omega) fun n hn => nb n (o2 n (h1.mem_iff.mp hn))
  · rw [List.mem_singleton.mp hd]
    exact short_strs (by omega) fun n hn => nb n (o3 n (h2.mem_iff.mp hn))
theorem long_raw {G : Hp} {a : Addr} {L : LogM} (V0 : LogV G a L) {ps : List Lr.Row} (hp : RowsP L.rows ps) : LongD (.list (ps.map rawD)) := fun ds e => by
  cases e
  have l60 := V0.rl
  refine ⟨by rw [List.length_map, ← hp.1]; omega, fun d hd => ?_⟩
  obtain ⟨s, hs, rfl⟩ := List.mem_map.mp hd
  obtain ⟨i, hi⟩ := List.getElem?_of_mem hs
  have hl := (List.getElem?_eq_some_iff.mp hi).1
  have hl' : i < L.rows.length := by rw [hp.1]; exact hl
  obtain ⟨h1, h2⟩ := hp.2 i _ s (List.getElem?_eq_getElem hl') hi
  exact short_raw V0.nn.2 V0.nb (V0.rok _ (List.getElem_mem hl')) h1 h2
end Lr
namespace Lr
open PySem PySem.Spec PyProof.Rows L2
theorem sz_strs : ∀ xs : List Str, szDL (xs.map PyData.str) = 0
  | [] => rfl
  | x :: r => by
    show 0 + szDL (r.map PyData.str) = 0
    rw [sz_strs r]
theorem dep_strs : ∀ xs : List Str, depDL (xs.map PyData.str) = 0
  | [] => rfl
  | x :: r => by
    show max 0 (depDL (r.map PyData.str)) = 0
    rw [dep_strs r]
    rfl
theorem plain_strs : ∀ xs : List Str, Plains (xs.map PyData.str)
  | [] => trivial
  | x :: r => ⟨trivial, plain_strs r⟩
theorem clean_strs : ∀ xs : List Str, (∀ n ∈ xs, nameB n = true) → CleanDL (xs.map PyData.str)
  | [], _ => trivial
  | x :: r, h => ⟨⟨nameB_ne_late (h x List.mem_cons_self), trivial⟩, clean_strs r fun n hn => h n (List.mem_cons_of_mem _ hn)⟩
theorem sz_raw : ∀ ps : List Lr.Row, szDL (ps.map rawD) = 3 * ps.length
  | [] => rfl
  | s :: r => by
    show ((szDL (s.1.map PyData.str) + 1) + ((szDL (s.2.map PyData.str) + 1) + 0)) + 1 + szDL (r.map rawD) = _
    rw [sz_strs, sz_strs, sz_raw r, List.length_cons]
    omega
theorem dep_raw : ∀ ps : List Lr.Row, depDL (ps.map rawD) ≤ 2
  | [] => Nat.zero_le _
  | s :: r => by
    show max (max (depDL (s.1.map PyData.str) + 1) (max (depDL (s.2.map PyData.str) + 1) 0) + 1) (depDL (r.map rawD)) ≤ 2
    have := dep_raw r
    rw [dep_strs, dep_strs]
    omega
structure RowB (ns : List Str) (s : Lr.Row) : Prop where
  l1 : s.1.length ≤ 12
  l2 : s.2.length ≤ 12
  b1 : ∀ n ∈ s.1, nameB n = true
  b2 : ∀ n ∈ s.2, nameB n = true
theorem RowsP.b {G : Hp} {a : Addr} {L : LogM} {ps : List Lr.Row} (V0 : LogV G a L) (h : RowsP L.rows ps) : ∀ s ∈ ps, RowB L.names s := fun s hs => by
  obtain ⟨i, hi⟩ := List.getElem?_of_mem hs
  have hl := (List.getElem?_eq_some_iff.mp hi).1
  have hl' : i < L.rows.length := by rw [h.1]; exact hl
  obtain ⟨h1, h2⟩ := h.2 i _ s (List.getElem?_eq_getElem hl') hi
  obtain ⟨o1, o2, o3, o4, o5, o6, o7⟩ := V0.rok _ (List.getElem_mem hl')
  have a1 := nodup_len o4 o2
  have a2 := nodup_len o5 o3
  have n12 := V0.nn.2
  exact ⟨by rw [h1.length_eq]; omega, by rw [h2.length_eq]; omega, fun n hn => V0.nb n (o2 n (h1.mem_iff.mp hn)), fun n hn => V0.nb n (o3 n (h2.mem_iff.mp hn))⟩
theorem plain_raw {ns : List Str} : ∀ ps : List Lr.Row, (∀ s ∈ ps, RowB ns s) → Plains (ps.map rawD)
  | [], _ => trivial
  | s :: r, h => by
    have b := h s List.mem_cons_self
    have l1 := b.l1
    have l2 := b.l2
    exact ⟨⟨⟨⟨plain_strs _, by rw [List.length_map]; omega⟩, ⟨plain_strs _, by rw [List.length_map]; omega⟩, trivial⟩, by show 2 ≤ 100000; decide⟩, plain_raw r fun s hs => h s (List.mem_cons_of_mem _ hs)⟩
theorem clean_raw {ns : List Str} : ∀ ps : List Lr.Row, (∀ s ∈ ps, RowB ns s) → CleanDL (ps.map rawD)
  | [], _ => trivial
  | s :: r, h => by
    have b := h s List.mem_cons_self
    have l1 := b.l1
    have l2 := b.l2
    exact ⟨⟨trivial, ⟨⟨trivial, ⟨clean_strs _ b.b1, by rw [List.length_map]; omega⟩⟩, ⟨trivial, ⟨clean_strs _ b.b2, by rw [List.length_map]; omega⟩⟩, trivial⟩, by show 2 ≤ 100000; decide⟩, clean_raw r fun s hs => h s (List.mem_cons_of_mem _ hs)⟩
/-- _law_made(stream, log) -/
def spMade (Cl : Addr) : Sp := fun vs H Q _ => ∃ (G : Hp) (st cs : Addr) (n : Nat) (C : List Cell) (a : Addr) (L : LogM), vs = [.ref st, .ref a] ∧ LogV G a L ∧ n + 3000 < 2 ^ 40 ∧ SW G st cs n C H ∧
  ∀ x G' H', Same G G' → LogAt Cl G' x L → SW G' st cs (n + 3000) C H' → Q (.ref x) H'
/-- _law_aheld(stream, log) -/
def spAheld : Sp := fun vs H Q _ => ∃ (G : Hp) (st cs : Addr) (n : Nat) (C : List Cell) (a : Addr) (L : LogM), vs = [.ref st, .ref a] ∧ LogV G a L ∧ n + 6000 < 2 ^ 40 ∧ SW G st cs n C H ∧
  ∀ G' H', Same G G' → SW G' st cs (n + 6000) C H' → Q (.bl true) H'
/-- a log made: the spring stands by -/
theorem SW.make {G H : Hp} {st cs x dx Cl CB CR : Addr} {n : Nat} {C : List Cell} {vp vr : V} {dp dr : PyData} {L : LogM} {R : Hp → Prop} {E : XK} (W : SW G st cs n C H) (hp : RepC G C dp vp) (hr : RepC G C dr vr) (sp : ShortD dp) (sr : LongD dr) (e : logD dp dr = .log L)
    (nx : H x = none) (nd : H dx = none) (ne : dx ≠ x) (k : ∀ G' H', Same G G' → SW G' st cs n C H' → LogAt Cl G' x L → R H') :
    spLogInit Cl CB CR (.ref x :: [vp, vr]) (upd (upd H dx (.own x)) x (.ins Cl dx [])) (fun v H2 => v = .non ∧ R H2) E := by
  obtain ⟨l, a, b, c, w, h1⟩ := W
  have w1 := w.newG (o := .own x) nd
  have s1 := w.leG (o := .own x) nd
  have w2 := w1.new (o := .ins Cl dx []) (show (upd H dx (.own x)) x = none by rw [upd_ne (fun z => ne z.symm)]; exact nx)
  refine ⟨_, _, x, dx, dp, dr, vp, vr, rfl, w2, (hp.cons.cons).mono s1, (hr.cons.cons).mono s1, sp, sr, (fun z => by rw [e] at z; cases z), (fun i z => by rw [e] at z; cases z), fun L' z G' H' s w' A => ⟨rfl, ?_⟩⟩
  rw [e] at z
  cases z
  exact k G' H' (s1.trans s) ⟨l, a, b, c, w', h1⟩ A
end Lr
namespace Lr
open PySem PySem.Spec PyProof.Rows L2
theorem RepC.strs {G : Hp} {C : List Cell} {p : Addr} {zs : List Str} (h : Sees G C p (.lst (zs.map V.str))) : RepC G C (.list (zs.map .str)) (.ref p) := by
  refine ⟨upd (fun _ => none) p (.lst (zs.map V.str)), fun a o e => ?_, .lst upd_same (rep_strs _)⟩
  by_cases z : a = p
  · subst z
    rw [upd_same] at e
    cases e
    exact h
  · rw [upd_ne z] at e
    cases e
theorem normL_strs : ∀ xs : List Str, normL (xs.map PyData.str) = xs.map PyData.str
  | [] => rfl
  | x :: r => by
    show PyData.str x :: normL (r.map PyData.str) = _
    rw [normL_strs r]
    rfl
theorem normL_raw : ∀ ps : List Lr.Row, normL (ps.map rawD) = ps.map rawD
  | [] => rfl
  | s :: r => by
    show PyData.list [.list (normL (s.1.map PyData.str)), .list (normL (s.2.map PyData.str))] :: normL (r.map rawD) = _
    rw [normL_strs, normL_strs, normL_raw r]
    rfl
theorem norm_strs (xs : List Str) : norm (.list (xs.map .str)) = .list (xs.map .str) := by
  show PyData.list (normL (xs.map PyData.str)) = _
  rw [normL_strs]
theorem norm_raw (ps : List Lr.Row) : norm (.list (ps.map rawD)) = .list (ps.map rawD) := by
  show PyData.list (normL (ps.map rawD)) = _
  rw [normL_raw]
end Lr
namespace Lr
open PySem PySem.Spec PyProof.Rows L2
theorem permS {c d : Cell} {A C : List Cell} : (c :: d :: (A ++ C)).Perm (A ++ (c :: d :: C)) := List.perm_append_comm_assoc [c, d] A C
theorem SW.spoilt {G H : Hp} {st cs : Addr} {n m : Nat} {C : List Cell} {t : T} {Q : VK} {E : XK} (W : SW G st cs n (t.cells ++ C) H) (ok : t.Ok G) (sm : t.Small) (dp : t.dep < m) (k : ∀ H', SW G st cs n (t.spoil.cells ++ C) H' → Q .non H') : spSpoilt m [t.val] H Q E := by
  obtain ⟨l, a, b, c, w, h1⟩ := W
  exact ⟨G, _, t, rfl, ok, sm, dp, w.perm permS, fun H' w' => k H' ⟨l, a, b, c, w'.perm permS.symm, h1⟩⟩
theorem SW.apart {G H : Hp} {st cs : Addr} {n m : Nat} {C : List Cell} {t : T} {Q : VK} {E : XK} (W : SW G st cs n (t.cells ++ C) H) (ok : t.Ok G) (nl : notLate t.data) (cl : CleanD t.data) (dp : depD t.data < m) (k : ∀ H', SW G st cs n C H' → Q (.bl true) H') : spApart m [t.val] H Q E := by
  obtain ⟨l, a, b, c, w, h1⟩ := W
  exact ⟨G, _, t, rfl, ok, nl, cl, dp, w.perm permS, fun H' w' => k H' ⟨l, a, b, c, w', h1⟩⟩
theorem strs_cells (p : Addr) (zs : List Str) : (T.lst p (strT zs)).cells = [(p, .lst (zs.map V.str))] := by
  show (p, HO.lst (vals (strT zs))) :: cellsL (strT zs) = _
  rw [strT_vals, strT_cells]
theorem rec_trees {G : Hp} : ∀ {rows : List Lr.Row} {rvs : List V}, Reps G (rows.map recD) rvs → ∃ ts : List T, OkL G ts ∧ vals ts = rvs ∧ dataL ts = rows.map recD ∧ cellsL ts = []
  | [], _, .nil => ⟨[], trivial, rfl, rfl, rfl⟩
  | r :: rows, _, .cons h t => by
    obtain ⟨ts, a1, a2, a3, a4⟩ := rec_trees t
    obtain ⟨b, q, u, rfl, gb, gq, gu⟩ := rec_at h
    have eb : T.cells (.tup b [.tup q (strT r.1), .tup u (strT r.2)]) = [] := by
      show cellsL (strT r.1) ++ (cellsL (strT r.2) ++ []) = []
      rw [strT_cells, strT_cells]
      rfl
    refine ⟨.tup b [.tup q (strT r.1), .tup u (strT r.2)] :: ts, ⟨⟨gb, ⟨by rw [strT_vals]; exact gq, strT_ok _⟩, ⟨by rw [strT_vals]; exact gu, strT_ok _⟩, trivial⟩, a1⟩, by rw [← a2]; rfl, ?_, ?_⟩
    · show PyData.tuple [.tuple (dataL (strT r.1)), .tuple (dataL (strT r.2))] :: dataL ts = _
      rw [strT_data, strT_data, a3]
      rfl
    · show T.cells (.tup b [.tup q (strT r.1), .tup u (strT r.2)]) ++ cellsL ts = []
      rw [eb, a4]
      rfl
theorem lk_none {an ar aw ad : Addr} {m : Str} (h1 : m ≠ "names") (h2 : m ≠ "rows") (h3 : m ≠ "writers") (h4 : m ≠ "needs") : (logF an ar aw ad).lookup m = none := by
  unfold logF
  rw [look_cons, if_neg h1, look_cons, if_neg h2, look_cons, if_neg h3, look_cons, if_neg h4]
  rfl
def toldD (L : LogM) : PyData := .list [.list (L.names.map .str), .list (L.rows.map recD)]
theorem dep_recs : ∀ rows : List Lr.Row, depDL (rows.map recD) ≤ 2
  | [] => Nat.zero_le _
  | s :: r => by
    show max (max (depDL (s.1.map PyData.str) + 1) (max (depDL (s.2.map PyData.str) + 1) 0) + 1) (depDL (r.map recD)) ≤ 2
    have := dep_recs r
    rw [dep_strs, dep_strs]
    omega
theorem dep_told (L : LogM) : depD (toldD L) < 5 := by
  show max (depDL (L.names.map PyData.str) + 1) (max (depDL (L.rows.map recD) + 1) 0) + 1 < 5
  have := dep_recs L.rows
  rw [dep_strs]
  omega
theorem plain_recs {ns : List Str} (l : ns.length ≤ 12) : ∀ rows : List Lr.Row, (∀ r ∈ rows, RowOk ns r) → Plains (rows.map recD)
  | [], _ => trivial
  | s :: r, h => by
    obtain ⟨o1, o2, o3, o4, o5, o6, o7⟩ := h s List.mem_cons_self
    have a1 := nodup_len o4 o2
    have a2 := nodup_len o5 o3
    exact ⟨⟨⟨⟨plain_strs _, by rw [List.length_map]; omega⟩, ⟨plain_strs _, by rw [List.length_map]; omega⟩, trivial⟩, by show 2 ≤ 100000; decide⟩, plain_recs l r fun s hs => h s (List.mem_cons_of_mem _ hs)⟩
theorem clean_recs {ns : List Str} (l : ns.length ≤ 12) (nb : ∀ n ∈ ns, nameB n = true) : ∀ rows : List Lr.Row, (∀ r ∈ rows, RowOk ns r) → CleanDL (rows.map recD)
  | [], _ => trivial
  | s :: r, h => by
    obtain ⟨o1, o2, o3, o4, o5, o6, o7⟩ := h s List.mem_cons_self
    have a1 := nodup_len o4 o2
    have a2 := nodup_len o5 o3
    exact ⟨⟨trivial, ⟨⟨trivial, ⟨clean_strs _ fun n hn => nb n (o2 n hn), by rw [List.length_map]; omega⟩⟩, ⟨trivial, ⟨clean_strs _ fun n hn => nb n (o3 n hn), by rw [List.length_map]; omega⟩⟩, trivial⟩, by show 2 ≤ 100000; decide⟩, clean_recs l nb r fun s hs => h s (List.mem_cons_of_mem _ hs)⟩
theorem plain_told {G : Hp} {a : Addr} {L : LogM} (V0 : LogV G a L) : Plain (toldD L) := by
  have h1 := V0.nn.2
  have h2 := V0.rl
  exact ⟨⟨⟨plain_strs _, by rw [List.length_map]; omega⟩, ⟨plain_recs h1 _ V0.rok, by rw [List.length_map]; omega⟩, trivial⟩, by show 2 ≤ 100000; decide⟩
theorem clean_told {G : Hp} {a : Addr} {L : LogM} (V0 : LogV G a L) : CleanD (toldD L) := by
  have h1 := V0.nn.2
  have h2 := V0.rl
  exact ⟨⟨⟨trivial, ⟨clean_strs _ V0.nb, by rw [List.length_map]; omega⟩⟩, ⟨trivial, ⟨clean_recs h1 V0.nb _ V0.rok, by rw [List.length_map]; omega⟩⟩, trivial⟩, by show 2 ≤ 100000; decide⟩
theorem rep_log {G : Hp} {a : Addr} {L : LogM} (V0 : LogV G a L) : Rep G (toldD L) (.ref a) := by
  obtain ⟨p, q, rvs, h1, h2, h3, h4⟩ := V0.ex
  exact .lst h1 (.cons (.lst h2 (rep_strs _)) (.cons (.lst h3 h4) .nil))
end Lr
namespace Lr
open PySem PySem.Spec PyProof.Rows L2
theorem tdrop {te : TE} {D : Ends} {σ : L2.St} {H : Hp} (h : te σ H fun _ H1 => D.nx σ H1) : tDrop te D σ H := h
theorem tnotb {te : TE} {σ : L2.St} {H : Hp} {R : Bool → Hp → Prop} (h : te σ H fun x H1 => ∃ c, x = .bl c ∧ R (!c) H1) : tNot (tB te) σ H R := h
end Lr

/-! # What is no lot of pages, no record -/
namespace Lr
open PySem PySem.Spec PyProof.Rows L2
theorem str_len (s : Str) : s.cps.toList.length = s.length := by simp [Str.length]
theorem nb_long {s : Str} (h : 8 < s.length) : nameB s = false := by
  unfold nameB
  rw [decide_eq_false (show ¬ (1 ≤ s.length ∧ s.length ≤ 8) by omega)]
  rfl
theorem nb_bad {s : Str} {c : Nat} (h : c ∈ s.cps.toList) (h1 : low c = false) (h2 : fig c = false) : nameB s = false := by
  have : sgns s.cps.toList = false := by
    unfold sgns
    rw [List.all_eq_false]
    exact ⟨c, h, by simp [h1, h2]⟩
  unfold nameB
  rw [this]
  simp
theorem nb_first {s : Str} {c : Nat} {r : List Nat} (h : s.cps.toList = c :: r) (h1 : low c = false) : nameB s = false := by
  unfold nameB
  rw [h]
  show (_ && _ && low c) = false
  rw [h1]
  simp
theorem sIx_lo (n : Nat) : HT.sIx n 0 none = 0 := rfl
theorem cut_pre (z : Str) (k : Nat) : (cutS z none (some (k : Int))).cps.toList = z.cps.toList.take k := by
  unfold cutS
  have e : HT.sIx z.length z.length (some (k : Int)) = min k z.length := by
    unfold HT.sIx
    simp
    omega
  rw [sIx_lo, e]
  simp only [List.drop_zero, Nat.sub_zero]
  rw [List.take_eq_take_iff]
  rw [str_len]
  omega
theorem cut_len (z : Str) (lo hi : Option Int) : (cutS z lo hi).length ≤ z.length := by
  rw [← str_len, ← str_len]
  unfold cutS
  show ((z.cps.toList.drop _).take _).toArray.toList.length ≤ _
  rw [List.toList_toArray, List.length_take, List.length_drop]
  omega
theorem cutV_pre (xs : List V) (k : Nat) : cutV xs none (some (k : Int)) = xs.take k := by
  unfold cutV
  rw [sIx_lo, HT.sIx_nat]
  simp only [List.drop_zero, Nat.sub_zero]
  rw [List.take_eq_take_iff]
  omega
def wrongs1 (u : Str) : List Str := [Txt.upper u, cutS (u ++ "abcdefgh0") none (some (9 : Int)), ("7" : Str) ++ cutS u none (some (7 : Int)), cutS u none (some (5 : Int)) ++ ("_" : Str), cutS u none (some (5 : Int)) ++ (" " : Str), cutS u none (some (5 : Int)) ++ ("\n" : Str), ""]
def wrongs2 (u : Str) : List Str := [cutS u none (some (7 : Int)) ++ ("B" : Str), cutS u none (some (1 : Int)) ++ ("B" : Str) ++ cutS u (some (1 : Int)) (some (7 : Int)), cutS u none (some (5 : Int)) ++ ("-" : Str)]
theorem name_ascii {u : Str} (h : nameB u = true) : ∀ c ∈ u.cps.toList, c < 128 := fun c hc => by
  have h2 := (nameB.p h).1
  unfold sgns at h2
  have := List.all_eq_true.mp h2 c hc
  unfold low fig at this
  simp only [Bool.or_eq_true, decide_eq_true_eq] at this
  omega
theorem wrong_ok {u : Str} (h : nameB u = true) : ∀ s ∈ wrongs1 u ++ wrongs2 u, nameB s = false ∧ s.length ≤ 1000 := by
  have l8 := nameB_len h
  have c5 := cut_len u none (some (5 : Int))
  have c7 := cut_len u none (some (7 : Int))
  have c1 := cut_len u none (some (1 : Int))
  have c17 := cut_len u (some (1 : Int)) (some (7 : Int))
  have u1 : ("_" : Str).length = 1 := by decide +kernel
  have u2 : (" " : Str).length = 1 := by decide +kernel
  have u3 : ("\n" : Str).length = 1 := by decide +kernel
  have u4 : ("B" : Str).length = 1 := by decide +kernel
  have u5 : ("-" : Str).length = 1 := by decide +kernel
  have u6 : ("7" : Str).length = 1 := by decide +kernel
  have m1 : 95 ∈ ("_" : Str).cps.toList := by decide +kernel
  have m2 : 32 ∈ (" " : Str).cps.toList := by decide +kernel
  have m3 : 10 ∈ ("\n" : Str).cps.toList := by decide +kernel
  have m4 : 66 ∈ ("B" : Str).cps.toList := by decide +kernel
  have m5 : 45 ∈ ("-" : Str).cps.toList := by decide +kernel
  have bad : ∀ (a b : Str) (c : Nat), c ∈ b.cps.toList → low c = false → fig c = false → nameB (a ++ b) = false := fun a b c hc h1 h2 => nb_bad (c := c) (by rw [cps_app]; exact List.mem_append_right _ hc) h1 h2
  intro s hs
  simp only [wrongs1, wrongs2, List.mem_append, List.mem_cons, List.not_mem_nil, or_false] at hs
  rcases hs with (rfl | rfl | rfl | rfl | rfl | rfl | rfl) | (rfl | rfl | rfl)
  · obtain ⟨h2, c, r, e, hc⟩ := nameB.p h
    have ea := upper_ascii (name_ascii h)
    have hl : (Txt.upper u).cps.toList = (u.cps.toList).map up1 := by
      rw [ea]
      simp
    refine ⟨?_, ?_⟩
    · refine nb_first (c := up1 c) (r := r.map up1) (by rw [hl, e]; rfl) ?_
      unfold low at hc ⊢
      unfold up1
      have hc' := of_decide_eq_true hc
      rw [if_pos hc']
      exact decide_eq_false (by omega)
    · have := congrArg List.length hl
      rw [str_len, List.length_map, str_len] at this
      omega
  · have e := cut_pre (u ++ "abcdefgh0") 9
    have e9 : ("abcdefgh0" : Str).length = 9 := by decide +kernel
    have hl := congrArg List.length e
    rw [str_len, List.length_take, str_len, len_app, e9] at hl
    have hl2 : (cutS (u ++ "abcdefgh0") none (some (9 : Int))).length = 9 := by
      have : min 9 (u.length + 9) = 9 := by omega
      rw [this] at hl
      exact hl
    exact ⟨nb_long (by omega), by omega⟩
  · refine ⟨nb_first (c := 55) (r := (cutS u none (some (7 : Int))).cps.toList) (by rw [cps_app]; rfl) (by decide), by rw [len_app]; omega⟩
  · exact ⟨bad _ _ 95 m1 (by decide) (by decide), by rw [len_app]; omega⟩
  · exact ⟨bad _ _ 32 m2 (by decide) (by decide), by rw [len_app]; omega⟩
  · exact ⟨bad _ _ 10 m3 (by decide) (by decide), by rw [len_app]; omega⟩
  · exact ⟨by decide +kernel, by decide +kernel⟩
  · exact ⟨bad _ _ 66 m4 (by decide) (by decide), by rw [len_app]; omega⟩
  · refine ⟨nb_bad (c := 66) ?_ (by decide) (by decide), by rw [len_app, len_app]; omega⟩
    rw [cps_app, cps_app]
    exact List.mem_append_left _ (List.mem_append_right _ m4)
  · exact ⟨bad _ _ 45 m5 (by decide) (by decide), by rw [len_app]; omega⟩
/-! ### lots that are none -/
theorem namesL_shape : ∀ {ds : List PyData} {acc xs : List Str}, namesL ds acc = some xs → ∃ ys : List Str, ds = ys.map .str ∧ xs = acc ++ ys
  | [], acc, xs, h => by
    cases h
    exact ⟨[], rfl, by simp⟩
  | d :: r, acc, xs, h => by
    cases d with
    | str s =>
      have h' : (if nameB s = true ∧ s ∉ acc then namesL r (acc ++ [s]) else none) = some xs := h
      by_cases c : nameB s = true ∧ s ∉ acc
      · rw [if_pos c] at h'
        obtain ⟨ys, e1, e2⟩ := namesL_shape h'
        exact ⟨s :: ys, by rw [e1]; rfl, by rw [e2]; simp⟩
      · rw [if_neg c] at h'
        cases h'
    | _ => cases h
theorem namesD_list {ds : List PyData} {ns : List Str} (h : namesD (.list ds) = some ns) : ∃ ys : List Str, ds = ys.map .str ∧ ns.length = ys.length ∧ ys.Nodup ∧ ∀ y ∈ ys, nameB y = true := by
  have h' : (namesL ds []).map sortS = some ns := h
  cases e : namesL ds [] with
  | none =>
    rw [e] at h'
    cases h'
  | some xs =>
    rw [e] at h'
    cases h'
    obtain ⟨ys, e1, e2⟩ := namesL_shape e
    obtain ⟨a, b⟩ := namesL_ok e List.nodup_nil (fun n hn => by cases hn)
    have e3 : xs = ys := by simpa using e2
    subst e3
    exact ⟨xs, e1, sortS_length xs, a, b⟩
def BadP (d : PyData) : Prop := ∀ dr, logD d dr = .pages
theorem BadP.none {d : PyData} (h : namesD d = none) : BadP d := fun dr => by
  unfold logD
  rw [h]
theorem BadP.len {d : PyData} {ns : List Str} (h : namesD d = some ns) (l : ¬ (1 ≤ ns.length ∧ ns.length ≤ 12)) : BadP d := fun dr => by
  unfold logD
  rw [h]
  show (if 1 ≤ ns.length ∧ ns.length ≤ 12 then _ else LogR.pages) = _
  rw [if_neg l]
/-- a list of which each reading as names fails -/
theorem BadP.list {ds : List PyData} (h : ∀ ys : List Str, ds = ys.map .str → ys.Nodup → (∀ y ∈ ys, nameB y = true) → ¬ (1 ≤ ys.length ∧ ys.length ≤ 12)) : BadP (.list ds) := by
  cases e : namesD (.list ds) with
  | none => exact BadP.none e
  | some ns =>
    obtain ⟨ys, e1, e2, e3, e4⟩ := namesD_list e
    exact BadP.len e (by rw [e2]; exact h ys e1 e3 e4)
/-! ### lists of trees -/
theorem dataL_map : ∀ ts : List T, dataL ts = ts.map T.data
  | [] => rfl
  | t :: ts => by
    show t.data :: dataL ts = _
    rw [dataL_map ts]
    rfl
theorem spoilL_map : ∀ ts : List T, spoilL ts = ts.map T.spoil
  | [] => rfl
  | t :: ts => by
    show t.spoil :: spoilL ts = _
    rw [spoilL_map ts]
    rfl
theorem OkL_all {G : Hp} : ∀ {ts : List T}, (∀ t ∈ ts, t.Ok G) → OkL G ts
  | [], _ => trivial
  | t :: ts, h => ⟨h t List.mem_cons_self, OkL_all fun u hu => h u (List.mem_cons_of_mem _ hu)⟩
theorem SmallL_all : ∀ {ts : List T}, (∀ t ∈ ts, t.Small) → SmallL ts
  | [], _ => trivial
  | t :: ts, h => ⟨h t List.mem_cons_self, SmallL_all fun u hu => h u (List.mem_cons_of_mem _ hu)⟩
theorem depL_all {m : Nat} : ∀ {ts : List T}, (∀ t ∈ ts, t.dep ≤ m) → depL ts ≤ m
  | [], _ => Nat.zero_le _
  | t :: ts, h => Nat.max_le.mpr ⟨h t List.mem_cons_self, depL_all fun u hu => h u (List.mem_cons_of_mem _ hu)⟩
theorem Eqas_all : ∀ {ds : List PyData}, (∀ d ∈ ds, Eqa d) → Eqas ds
  | [], _ => trivial
  | t :: ts, h => ⟨h t List.mem_cons_self, Eqas_all fun u hu => h u (List.mem_cons_of_mem _ hu)⟩
theorem dpSL_all {m : Nat} : ∀ {ds : List PyData}, (∀ d ∈ ds, dpS d ≤ m) → dpSL ds ≤ m
  | [], _ => Nat.zero_le _
  | t :: ts, h => Nat.max_le.mpr ⟨h t List.mem_cons_self, dpSL_all fun u hu => h u (List.mem_cons_of_mem _ hu)⟩
theorem cellsL_perm {ts us : List T} (h : ts.Perm us) : (cellsL ts).Perm (cellsL us) := by
  induction h with
  | nil => exact List.Perm.refl _
  | cons x _ ih => exact List.Perm.append_left _ ih
  | swap x y l =>
    show (y.cells ++ (x.cells ++ cellsL l)).Perm (x.cells ++ (y.cells ++ cellsL l))
    exact List.perm_append_comm_assoc _ _ _
  | trans _ _ ih1 ih2 => exact ih1.trans ih2
theorem perm_map_inv {α β : Type} {f : α → β} {ys zs : List β} (h : ys.Perm zs) : ∀ l : List α, zs = l.map f → ∃ l' : List α, ys = l'.map f ∧ l'.Perm l := by
  induction h with
  | nil =>
    intro l e
    exact ⟨l, e, List.Perm.refl _⟩
  | cons x _ ih =>
    intro l e
    cases l with
    | nil => cases e
    | cons a l =>
      rw [List.map_cons] at e
      obtain ⟨e1, e2⟩ := List.cons.inj e
      obtain ⟨l', h1, h2⟩ := ih l e2
      exact ⟨a :: l', by rw [List.map_cons, h1, e1], h2.cons a⟩
  | swap x y r =>
    intro l e
    cases l with
    | nil => cases e
    | cons a l =>
      cases l with
      | nil => cases e
      | cons b l =>
        rw [List.map_cons, List.map_cons] at e
        obtain ⟨e1, e2⟩ := List.cons.inj e
        obtain ⟨e3, e4⟩ := List.cons.inj e2
        exact ⟨b :: a :: l, by rw [List.map_cons, List.map_cons, e1, e3, e4], List.Perm.swap _ _ _⟩
  | trans _ _ ih1 ih2 =>
    intro l e
    obtain ⟨l2, h1, h2⟩ := ih2 l e
    obtain ⟨l3, h3, h4⟩ := ih1 l2 h1
    exact ⟨l3, h3, h4.trans h2⟩
/-- a small thing in a list -/
structure GoodT (G : Hp) (t : T) : Prop where
  ok : t.Ok G
  sm : t.Small
  dp : t.dep ≤ 1
  eq : Eqa t.spoil.data
  ds : dpS t.spoil.data ≤ 1
  st : ∀ s, t.data = .str s → s.length ≤ 1000000
structure AnoT (G : Hp) (t : T) : Prop where
  ok : t.Ok G
  sm : t.Small
  dp : t.dep < 5
  eq : Eqa t.spoil.data
  ds : dpS t.spoil.data < 5
  st : ShortD t.data
  bad : BadP t.data
theorem GoodT.str {G : Hp} {s : Str} (h : s.length ≤ 1000000) : GoodT G (.leaf (.str s)) := ⟨trivial, trivial, Nat.zero_le _, trivial, Nat.zero_le _, fun x e => by cases e; exact h⟩
theorem AnoT.list {G : Hp} {D : Addr} {ts : List T} (h : ∀ t ∈ ts, GoodT G t) (l : ts.length ≤ 20) (b : BadP (.list (dataL ts))) : AnoT G (.lst D ts) := by
  have e : (T.lst D ts).spoil.data = .list (dataL (spoilL ts) ++ [.str LATE]) := by
    show PyData.list (dataL (spoilL ts ++ [T.leaf (.str LATE)])) = _
    rw [dataL_append]
    rfl
  refine ⟨OkL_all fun t ht => (h t ht).ok, ⟨by omega, SmallL_all fun t ht => (h t ht).sm⟩, ?_, ?_, ?_, ?_, b⟩
  · have := depL_all (m := 1) fun t ht => (h t ht).dp
    show depL ts + 1 < 5
    omega
  · rw [e]
    refine ⟨Eqas_all fun d hd => ?_, ?_⟩
    · rcases List.mem_append.mp hd with hd | hd
      · rw [spoilL_map, dataL_map, List.map_map] at hd
        obtain ⟨t, ht, rfl⟩ := List.mem_map.mp hd
        exact (h t ht).eq
      · rw [List.mem_singleton.mp hd]
        trivial
    · rw [List.length_append, dataL_length, spoilL_length]
      simp
      omega
  · rw [e]
    have : dpSL (dataL (spoilL ts) ++ [.str LATE]) ≤ 1 := dpSL_all fun d hd => by
      rcases List.mem_append.mp hd with hd | hd
      · rw [spoilL_map, dataL_map, List.map_map] at hd
        obtain ⟨t, ht, rfl⟩ := List.mem_map.mp hd
        exact (h t ht).ds
      · rw [List.mem_singleton.mp hd]
        exact Nat.zero_le _
    show dpSL _ + 1 < 5
    omega
  · intro ds hd
    cases hd
    refine ⟨by rw [dataL_length]; omega, fun d hd s es => ?_⟩
    rw [dataL_map] at hd
    obtain ⟨t, ht, rfl⟩ := List.mem_map.mp hd
    exact (h t ht).st s es
/-- _law_ano_pages(stream, pages) -/
def spAnoPages : Sp := fun vs H Q _ => ∃ (G : Hp) (st cs : Addr) (n : Nat) (C : List Cell) (a : Addr) (ns : List Str), vs = [.ref st, .ref a] ∧ 1 ≤ ns.length ∧ ns.length ≤ 12 ∧ (∀ s ∈ ns, nameB s = true) ∧ G a = some (.lst (ns.map V.str)) ∧ n + 300 < 2 ^ 40 ∧ SW G st cs n C H ∧
  ∀ (t : T) (G' H' : Hp), Same G G' → AnoT G' t → SW G' st cs (n + 300) (t.cells ++ C) H' → Q t.val H'
end Lr
namespace Lr
open PySem PySem.Spec PyProof.Rows L2
def unD : PyData → Str
  | .str s => s
  | _ => ""
theorem data_perm {ts us : List T} (h : ts.Perm us) : (dataL ts).Perm (dataL us) := by
  rw [dataL_map, dataL_map]
  exact h.map _
theorem unD_strs (xs : List Str) : (xs.map PyData.str).map unD = xs := by
  rw [List.map_map]
  have : xs.map (unD ∘ PyData.str) = xs.map id := List.map_congr_left fun _ _ => rfl
  rw [this, List.map_id]
theorem strT_data_perm {ts : List T} {zs ys : List Str} (h : ts.Perm (strT zs)) (e : dataL ts = ys.map .str) : ys.Perm zs := by
  have := (data_perm h).map unD
  rw [e, strT_data, unD_strs, unD_strs] at this
  exact this
theorem strT_app (a b : List Str) : strT (a ++ b) = strT a ++ strT b := List.map_append
theorem good_strs {G : Hp} {zs : List Str} (h : ∀ s ∈ zs, s.length ≤ 1000000) : ∀ t ∈ strT zs, GoodT G t := fun t ht => by
  obtain ⟨s, hs, rfl⟩ := List.mem_map.mp ht
  exact GoodT.str (h s hs)
end Lr

/-! # What is no record -/
namespace Lr
open PySem PySem.Spec PyProof.Rows L2
theorem SW.lstG {G H : Hp} {st cs : Addr} {n : Nat} {C : List Cell} {p : Addr} {ds : List PyData} {vs : List V} (W : SW G st cs n C H) (np : H p = none) (r : Reps G ds vs) : ∃ G', Same G G' ∧ SW G' st cs n C (upd H p (.lst vs)) ∧ Rep G' (.list ds) (.ref p) :=
  ⟨_, W.leG np, W.newG np, .lst upd_same (r.mono (W.leG np))⟩
theorem SW.tupG {G H : Hp} {st cs : Addr} {n : Nat} {C : List Cell} {p : Addr} {ds : List PyData} {vs : List V} (W : SW G st cs n C H) (np : H p = none) (r : Reps G ds vs) : ∃ G', Same G G' ∧ SW G' st cs n C (upd H p (.tup vs)) ∧ Rep G' (.tuple ds) (.ref p) :=
  ⟨_, W.leG np, W.newG np, .tup upd_same (r.mono (W.leG np))⟩
theorem lotD_shape {ds : List PyData} {ns xs : List Str} (h : lotD (.list ds) ns = some xs) : ∃ ys : List Str, ds = ys.map .str ∧ xs.Perm ys ∧ ys.Nodup ∧ ∀ y ∈ ys, y ∈ ns := by
  unfold lotD at h
  have e0 : namesD (.list ds) = (namesL ds []).map sortS := rfl
  rw [e0] at h
  cases e : namesL ds [] with
  | none =>
    rw [e] at h
    cases h
  | some zs =>
    rw [e] at h
    have h' : (if ∀ x ∈ sortS zs, x ∈ ns then some (sortS zs) else none) = some xs := h
    by_cases c : ∀ x ∈ sortS zs, x ∈ ns
    · rw [if_pos c] at h'
      cases h'
      obtain ⟨ys, e1, e2⟩ := namesL_shape e
      obtain ⟨a, b⟩ := namesL_ok e List.nodup_nil (fun n hn => by cases hn)
      have e3 : zs = ys := by simpa using e2
      subst e3
      exact ⟨zs, e1, sortS_perm zs, a, fun y hy => c y ((sortS_perm zs).mem_iff.mpr hy)⟩
    · rw [if_neg c] at h'
      cases h'
theorem lotD_not {ds : List PyData} {ns : List Str} {d : PyData} (h : d ∈ ds) (hd : ∀ s ∈ ns, d ≠ .str s) : lotD (.list ds) ns = none := by
  cases e : lotD (.list ds) ns with
  | none => rfl
  | some xs =>
    obtain ⟨ys, e1, _, _, e4⟩ := lotD_shape e
    rw [e1] at h
    obtain ⟨s, hs, rfl⟩ := List.mem_map.mp h
    exact absurd rfl (hd s (e4 s hs))
theorem lotD_dup {ns : List Str} {u : Str} : lotD (.list [.str u, .str u]) ns = none := by
  cases e : lotD (.list [.str u, .str u]) ns with
  | none => rfl
  | some xs =>
    obtain ⟨ys, e1, _, nd, _⟩ := lotD_shape e
    match ys, e1 with
    | [a, b], e1 =>
      simp only [List.map_cons, List.map_nil, List.cons.injEq, PyData.str.injEq, and_true] at e1
      rw [← e1.1, ← e1.2] at nd
      simp at nd
theorem lotD_nil {ns : List Str} : lotD (.list []) ns = some [] := by
  have : sortS [] = [] := List.length_eq_zero_iff.mp (by rw [sortS_length]; rfl)
  show (if ∀ x ∈ sortS [], x ∈ ns then some (sortS []) else none) = some []
  rw [this]
  simp
theorem lotD_nilT {ns : List Str} : lotD (.tuple []) ns = some [] := lotD_nil
theorem row_a {a b : PyData} {ns : List Str} (h : lotD a ns = none) : rowD (.list [a, b]) ns = none := by
  show (match lotD a ns, lotD b ns with
    | some r, some w => if w = [] then none else some (r, w)
    | _, _ => none) = none
  rw [h]
theorem row_b {a b : PyData} {ns : List Str} (h : lotD b ns = none) : rowD (.list [a, b]) ns = none := by
  show (match lotD a ns, lotD b ns with
    | some r, some w => if w = [] then none else some (r, w)
    | _, _ => none) = none
  rw [h]
  cases lotD a ns <;> rfl
theorem row_e {a b : PyData} {ns : List Str} (h : lotD b ns = some []) : rowD (.list [a, b]) ns = none := by
  show (match lotD a ns, lotD b ns with
    | some r, some w => if w = [] then none else some (r, w)
    | _, _ => none) = none
  rw [h]
  cases lotD a ns <;> rfl
theorem row_t {a b : PyData} {ns : List Str} (h : lotD a ns = none) : rowD (.tuple [a, b]) ns = none := row_a (b := b) h
def shS : PyData → Prop
  | .str s => s.length ≤ 1000000
  | _ => True
def shL : List PyData → Prop
  | [] => True
  | d :: r => shS d ∧ shL r
def shT : PyData → Prop
  | .list ds => ds.length ≤ 63 ∧ shL ds
  | .tuple ds => ds.length ≤ 63 ∧ shL ds
  | _ => True
def shTL : List PyData → Prop
  | [] => True
  | d :: r => shT d ∧ shTL r
theorem shL.mem : ∀ {ds : List PyData}, shL ds → ∀ e ∈ ds, ∀ s, e = .str s → s.length ≤ 1000000
  | d :: r, h, e, he, s, es => by
    rcases List.mem_cons.mp he with rfl | he
    · subst es
      exact h.1
    · exact shL.mem h.2 e he s es
theorem shT.short {d : PyData} (h : shT d) : ShortD d := fun ds e => by
  cases d with
  | list xs =>
    cases e
    exact ⟨h.1, shL.mem h.2⟩
  | tuple xs =>
    cases e
    exact ⟨h.1, shL.mem h.2⟩
  | _ => cases e
theorem shTL.mem : ∀ {ds : List PyData}, shTL ds → ∀ e ∈ ds, ShortD e
  | d :: r, h, e, he => by
    rcases List.mem_cons.mp he with rfl | he
    · exact h.1.short
    · exact shTL.mem h.2 e he
theorem short2_l {ds : List PyData} (l : ds.length ≤ 100000) (h : shTL ds) : Short2 (.list ds) := fun xs e => by
  cases e
  exact ⟨l, h.mem⟩
theorem short2_t {ds : List PyData} (l : ds.length ≤ 100000) (h : shTL ds) : Short2 (.tuple ds) := fun xs e => by
  cases e
  exact ⟨l, h.mem⟩
theorem short2_0 {d : PyData} (h : itemsD d = none) : Short2 d := fun xs e => by
  rw [h] at e
  cases e
structure BadR (ns : List Str) (d : PyData) : Prop where
  no : rowD d ns = none
  sh : Short2 d
theorem Reps.pick {G : Hp} {ds : List PyData} {vs : List V} {P : PyData → Prop} {i : Nat} {v : V} (r : Reps G ds vs) (h : ∀ d ∈ ds, P d) (hv : vs[i]? = some v) : ∃ d, P d ∧ Rep G d v := by
  obtain ⟨d, hd, rd⟩ := r.get hv
  exact ⟨d, h d (List.mem_of_getElem? hd), rd⟩
/-- _law_ano_record(stream, pages) -/
def spAnoRecord : Sp := fun vs H Q _ => ∃ (G : Hp) (st cs : Addr) (n : Nat) (C : List Cell) (a : Addr) (ns : List Str), vs = [.ref st, .ref a] ∧ 1 ≤ ns.length ∧ ns.length ≤ 12 ∧ (∀ s ∈ ns, nameB s = true) ∧ G a = some (.lst (ns.map V.str)) ∧ n + 20 < 2 ^ 40 ∧ SW G st cs n C H ∧
  ∀ (d : PyData) (v : V) (G' H' : Hp), Same G G' → Rep G' d v → BadR ns d → SW G' st cs (n + 20) C H' → Q v H'
end Lr
namespace Lr
open PySem PySem.Spec PyProof.Rows L2
/-- _law_ano_log_made(pages, rows) of what is refused -/
def spAnoLogMade : Sp := fun vs H Q _ => ∃ (G : Hp) (C : List Cell) (dp dr : PyData) (vp vr : V), vs = [vp, vr] ∧ WF G C H ∧ RepC G C dp vp ∧ RepC G C dr vr ∧ ShortD dp ∧ LongD dr ∧ (∀ L, logD dp dr ≠ .log L) ∧
  (logD dp dr = .pages → ∀ G' H' p, Same G G' → WF G' C H' → G' p = some (.tup [.str "pages", vp]) → Q (.ref p) H') ∧
  (∀ i : Nat, logD dp dr = .records i → ∀ G' H' p, Same G G' → WF G' C H' → G' p = some (.tup [.str "records", .int i]) → Q (.ref p) H')
theorem repK_app {H : Hp} : ∀ {es es' : List (PyData × PyData)} {kvs kvs' : List (Key × V)}, RepK H es kvs → RepK H es' kvs' → RepK H (es ++ es') (kvs ++ kvs')
  | _, _, _, _, .nil, r => r
  | _, _, _, _, .cons h t, r => .cons h (repK_app t r)
theorem dataK_append : ∀ (a b : List (Key × T)), dataK (a ++ b) = dataK a ++ dataK b
  | [], _ => rfl
  | p :: a, b => by
    show (kD p.1, p.2.data) :: dataK (a ++ b) = (kD p.1, p.2.data) :: (dataK a ++ dataK b)
    rw [dataK_append a b]
mutual
theorem T.rep_sp {G H : Hp} (s : Same G H) : ∀ {t : T}, t.Ok G → (∀ c ∈ t.spoil.cells, H c.1 = some c.2) → Rep H t.spoil.data t.spoil.val
  | .leaf v, h, _ => rep_leaf h
  | .lst a ts, h, c => by
    have r := repL_sp s (ts := ts) h fun x hx => c x (by
      show x ∈ (a, HO.lst (vals (spoilL ts ++ [T.leaf (.str LATE)]))) :: cellsL (spoilL ts ++ [T.leaf (.str LATE)])
      rw [cellsL_append]
      exact List.mem_cons_of_mem _ (List.mem_append_left _ hx))
    refine .lst (vs := vals (spoilL ts ++ [T.leaf (.str LATE)])) (c (a, .lst (vals (spoilL ts ++ [T.leaf (.str LATE)]))) List.mem_cons_self) ?_
    rw [dataL_append, vals, List.map_append]
    exact r.app (.cons (.str LATE) .nil)
  | .tup a ts, h, c => by
    have r := repL_sp s (ts := ts) h.2 fun x hx => c x hx
    refine .tup (vs := vals (spoilL ts)) ?_ r
    rw [spoilL_vals]
    exact s _ _ h.1
  | .dic a ks, h, c => by
    have r := repK_sp s (ks := ks) h.2.2 fun x hx => c x (by
      show x ∈ (a, HO.dK (valsK (lateK (spoilK ks)))) :: cellsK (lateK (spoilK ks))
      unfold lateK
      rw [cellsK_append]
      exact List.mem_cons_of_mem _ (List.mem_append_left _ hx))
    refine .dic (kvs := valsK (lateK (spoilK ks))) (c (a, .dK (valsK (lateK (spoilK ks)))) List.mem_cons_self) ?_
    unfold lateK
    rw [dataK_append, valsK, List.map_append]
    exact repK_app r (.cons (k := Sum.inr LATE) (.int 1) .nil)
theorem repL_sp {G H : Hp} (s : Same G H) : ∀ {ts : List T}, OkL G ts → (∀ c ∈ cellsL (spoilL ts), H c.1 = some c.2) → Reps H (dataL (spoilL ts)) (vals (spoilL ts))
  | [], _, _ => .nil
  | t :: ts, h, c => .cons (T.rep_sp s h.1 fun x hx => c x (List.mem_append_left _ hx)) (repL_sp s (ts := ts) h.2 fun x hx => c x (List.mem_append_right _ hx))
theorem repK_sp {G H : Hp} (s : Same G H) : ∀ {ks : List (Key × T)}, OkK G ks → (∀ c ∈ cellsK (spoilK ks), H c.1 = some c.2) → RepK H (dataK (spoilK ks)) (valsK (spoilK ks))
  | [], _, _ => .nil
  | p :: ks, h, c => .cons (T.rep_sp s h.1 fun x hx => c x (List.mem_append_left _ hx)) (repK_sp s (ks := ks) h.2 fun x hx => c x (List.mem_append_right _ hx))
end
end Lr

/-! # What a law asks of refused logs -/
namespace Lr
open PySem PySem.Spec PyProof.Rows L2
theorem SW.anoP {G H : Hp} {st cs : Addr} {n : Nat} {C : List Cell} {dp dr : PyData} {vp vr : V} {Q : VK} {E : XK} (W : SW G st cs n C H) (hp : RepC G C dp vp) (hr : RepC G C dr vr) (sp : ShortD dp) (sr : LongD dr) (e : logD dp dr = .pages)
    (k : ∀ G' H' p, Same G G' → SW G' st cs n C H' → G' p = some (.tup [.str "pages", vp]) → Q (.ref p) H') : spAnoLogMade [vp, vr] H Q E := by
  obtain ⟨l, a, b, c, w, h1⟩ := W
  exact ⟨G, _, dp, dr, vp, vr, rfl, w, hp.cons.cons, hr.cons.cons, sp, sr, (fun L z => by rw [e] at z; cases z), (fun _ G' H' p s w' g => k G' H' p s ⟨l, a, b, c, w', h1⟩ g), fun i z => by rw [e] at z; cases z⟩
theorem SW.anoR {G H : Hp} {st cs : Addr} {n i : Nat} {C : List Cell} {dp dr : PyData} {vp vr : V} {Q : VK} {E : XK} (W : SW G st cs n C H) (hp : RepC G C dp vp) (hr : RepC G C dr vr) (sp : ShortD dp) (sr : LongD dr) (e : logD dp dr = .records i)
    (k : ∀ G' H' p, Same G G' → SW G' st cs n C H' → G' p = some (.tup [.str "records", .int i]) → Q (.ref p) H') : spAnoLogMade [vp, vr] H Q E := by
  obtain ⟨l, a, b, c, w, h1⟩ := W
  refine ⟨G, _, dp, dr, vp, vr, rfl, w, hp.cons.cons, hr.cons.cons, sp, sr, (fun L z => by rw [e] at z; cases z), (fun z => by rw [e] at z; cases z), fun j z G' H' p s w' g => ?_⟩
  rw [e] at z
  cases z
  exact k G' H' p s ⟨l, a, b, c, w', h1⟩ g
structure Pgs (ns : List Str) : Prop where
  nn : 1 ≤ ns.length ∧ ns.length ≤ 12
  nd : ns.Nodup
  sorted : ns.Pairwise leS
  nb : ∀ n ∈ ns, nameB n = true
theorem LogV.pgs {G : Hp} {a : Addr} {L : LogM} (h : LogV G a L) : Pgs L.names := ⟨h.nn, h.nd, h.sorted, h.nb⟩
theorem norm_rec (r : Lr.Row) : norm (recD r) = rawD r := by
  show PyData.list [.list (normL (r.1.map PyData.str)), .list (normL (r.2.map PyData.str))] = _
  rw [normL_strs, normL_strs]
  rfl
theorem normL_recs : ∀ rows : List Lr.Row, normL (rows.map recD) = rows.map rawD
  | [] => rfl
  | r :: rows => by
    show norm (recD r) :: normL (rows.map recD) = _
    rw [norm_rec, normL_recs rows]
    rfl
theorem RowsP.self (rows : List Lr.Row) : RowsP rows rows := ⟨rfl, fun i r s a b => by
  rw [a] at b
  cases b
  exact ⟨List.Perm.refl _, List.Perm.refl _⟩⟩
theorem logD_dp {ns : List Str} (h : Pgs ns) {D : PyData} {ds : List PyData} (hD : itemsD D = some ds) : logD (.list (ns.map .str)) D = match rowsL ns ds 0 [] with
    | .error i => .records i
    | .ok rows => .log ⟨ns, rows⟩ := by
  unfold logD
  rw [namesD_of (List.Perm.refl _) h.nd h.sorted h.nb, hD]
  show (if 1 ≤ ns.length ∧ ns.length ≤ 12 then _ else LogR.pages) = _
  rw [if_pos h.nn]
  all_goals rfl
theorem rows_pre {ns : List Str} (h : Pgs ns) {pre : List Lr.Row} (ro : ∀ r ∈ pre, RowOk ns r) (l : pre.length ≤ 60) (rest : List PyData) : rowsL ns (pre.map recD ++ rest) 0 [] = rowsL ns rest pre.length pre := by
  rw [← rowsL_norm, normL_append, normL_recs, rowsL_of h.nb pre pre 0 [] (normL rest) ro (RowsP.self pre) (by omega), Nat.zero_add, List.nil_append, rowsL_norm]
theorem logD_recs {ns : List Str} (h : Pgs ns) {rows : List Lr.Row} (ro : ∀ r ∈ rows, RowOk ns r) (l : rows.length ≤ 60) : logD (.list (ns.map .str)) (.list (rows.map recD)) = .log ⟨ns, rows⟩ := by
  have e := rows_pre h ro l []
  rw [List.append_nil] at e
  rw [logD_dp h (ds := rows.map recD) rfl, e]
  rfl
theorem logD_bad {ns : List Str} (h : Pgs ns) {pre : List Lr.Row} (ro : ∀ r ∈ pre, RowOk ns r) (l : pre.length ≤ 60) {bad D : PyData} {rest : List PyData} (hb : rowD bad ns = none) (hD : itemsD D = some (pre.map recD ++ bad :: rest)) : logD (.list (ns.map .str)) D = .records pre.length := by
  rw [logD_dp h hD, rows_pre h ro l]
  unfold rowsL
  rw [hb]
theorem logD_61 {ns : List Str} (h : Pgs ns) {pre : List Lr.Row} (ro : ∀ r ∈ pre, RowOk ns r) (l : pre.length = 60) {bad D : PyData} {rest : List PyData} (hD : itemsD D = some (pre.map recD ++ bad :: rest)) : logD (.list (ns.map .str)) D = .records 60 := by
  rw [logD_dp h hD, rows_pre h ro (by omega), l]
  unfold rowsL
  cases rowD bad ns with
  | none => rfl
  | some x =>
    simp only [if_true]
theorem logD_non {ns : List Str} (h : Pgs ns) {D : PyData} (hD : itemsD D = none) : logD (.list (ns.map .str)) D = .records 0 := by
  unfold logD
  rw [namesD_of (List.Perm.refl _) h.nd h.sorted h.nb, hD]
  show (if 1 ≤ ns.length ∧ ns.length ≤ 12 then _ else LogR.pages) = _
  rw [if_pos h.nn]
theorem short2_rec {ns : List Str} {r : Lr.Row} (h : Pgs ns) (o : RowOk ns r) : Short2 (recD r) := by
  refine Short2.norm ?_
  rw [norm_rec]
  exact short_raw h.nn.2 h.nb o (List.Perm.refl _) (List.Perm.refl _)
theorem long_of {D : PyData} {ds : List PyData} (h : itemsD D = some ds) (l : ds.length ≤ 100000) (s : ∀ e ∈ ds, Short2 e) : LongD D := fun xs e => by
  rw [h] at e
  cases e
  exact ⟨l, s⟩
theorem long_non {D : PyData} (h : itemsD D = none) : LongD D := fun xs e => by
  rw [h] at e
  cases e
theorem short_ns {ns : List Str} (h : Pgs ns) : ShortD (.list (ns.map .str)) := short_strs (by have := h.nn.2; omega) h.nb
theorem AnoT.mono {G G' : Hp} {t : T} (h : AnoT G t) (s : Same G G') : AnoT G' t := ⟨T.Ok.mono s h.ok, h.sm, h.dp, h.eq, h.ds, h.st, h.bad⟩
theorem rep_spoilt {G H : Hp} {C : List Cell} {t : T} (ok : t.Ok G) (w : WF G (t.spoil.cells ++ C) H) : Rep H t.spoil.data t.val := by
  have := T.rep_sp w.sub ok fun c hc => (w.own c (List.mem_append_left _ hc)).1
  rw [T.spoil_val] at this
  exact this
theorem Reps.take {G : Hp} : ∀ {ds : List PyData} {vs : List V} (k : Nat), Reps G ds vs → Reps G (ds.take k) (vs.take k)
  | _, _, 0, _ => by
    rw [List.take_zero, List.take_zero]
    exact .nil
  | _, _, k + 1, .nil => .nil
  | _, _, k + 1, .cons h t => .cons h (Reps.take k t)
theorem Reps.drop {G : Hp} : ∀ {ds : List PyData} {vs : List V} (k : Nat), Reps G ds vs → Reps G (ds.drop k) (vs.drop k)
  | _, _, 0, r => r
  | _, _, k + 1, .nil => .nil
  | _, _, k + 1, .cons h t => Reps.drop k t
/-- the law's promise -/
def spLaw (K : PySem.W.Frag) : Sp := fun vs H Q _ => ∃ (a : Addr) (ns : List Int), vs = [.ref a] ∧ SqL K H a (ns.map V.int) ∧ ns.length ≤ 63 ∧ ∀ H', Q (.bl true) H'
end Lr
namespace Lr
open PySem PySem.Spec PyProof.Rows L2
theorem tifnb {te : TE} {a b : TS} {D : Ends} {σ : L2.St} {H : Hp} (h : te σ H fun x H1 => ∃ c, x = .bl c ∧ (if (!c) = true then a D σ H1 else b D σ H1)) : tIfS (tNot (tB te)) a b D σ H := h
theorem RepC.own {G : Hp} {C : List Cell} {D : Addr} {ds : List PyData} {vs : List V} (h : (D, HO.lst vs) ∈ C) (g : G D = none) (r : Reps G ds vs) : RepC G C (.list ds) (.ref D) := by
  refine ⟨upd G D (.lst vs), fun a o e => ?_, .lst upd_same (r.mono (same_new g))⟩
  by_cases z : a = D
  · subst z
    rw [upd_same] at e
    cases e
    exact .inr h
  · rw [upd_ne z] at e
    exact .inl e
/-- ('records', i) is told -/
theorem same_rec {G H : Hp} {st cs p q : Addr} {n : Nat} {C : List Cell} {i : Int} {Q : VK} {E : XK} (W : SW G st cs n C H) (gp : G p = some (.tup [.str "records", .int i])) (nq : H q = none) (k : ∀ H', SW G st cs n C H' → Q (.bl true) H') : spSame 5 [.ref p, .ref q] (upd H q (.tup [.str "records", .int i])) Q E := by
  have W1 := W.same (same_new (o := .tup [.str "records", .int i]) nq)
  exact ⟨.tuple [.str "records", .int i], _, _, rfl, .tup (W1.getG gp) (.cons (.str _) (.cons (.int _) .nil)), .tup upd_same (.cons (.str _) (.cons (.int _) .nil)), ⟨⟨trivial, trivial, trivial⟩, by show 2 ≤ 100000; decide⟩, by show 1 < 5; decide, fun H' s => k H' (W1.same s)⟩
end Lr

namespace Lw_below
open PySem PySem.Spec PyProof.Rows L2 Lr
def top (i : Nat) : Stmt := PySem.Challenge.pw_leastredo_k01_logs_hold_their_records.main.body.getD i (.Pass ⟨0, 0, 0, 0⟩)
abbrev s_below : Stmt := top 15
abbrev N_below : List Str := ["stream", "many", "cell", "digit", "mixed"]
theorem sc_below : FnScope ["stream", "many", "cell", "digit", "mixed"] ["stream", "many"] (defScope s_below) := ⟨rfl, rfl, rfl, by decide +kernel, rfl, by decide +kernel, by decide +kernel⟩
structure Txt (mg : Str → Option Value) : Prop where
  b : Bl mg
section
variable {P : Program} {w : World} {K : PySem.W.Frag} {mg : Str → Option Value} {base : Heap}
theorem ok_below (T : Txt mg) (F : FD K mg "_law_below" s_below ["stream", "many"]) : Okf P w K mg base CX0 1 "_law_below" ["stream", "many"] spBelow := by
  refine F.ok sc_below (fun vs H Q E h => ?_) (fun f cdv A outer s H vs Q E hr h => ?_)
  · obtain ⟨G, st, cs, n, C, m, rfl, _⟩ := h
    rfl
  · obtain ⟨G, st, cs, n, C, m, rfl, m0, m60, n50, ⟨l, a, b, c, w, a0, b0, bn, c0, c9⟩, k⟩ := h
    refine ⟨_, (pss_cons (ps_asg (pe_op (op_addA (K := K)) (pe_ix (xix (K := K)) (pv 0) pe_int (fun _ _ => rfl)) pe_int) (pg_sub (pv 0) pe_int set_list))
    (pss_cons (ps_while PassesOwn.never (PW.pt (pw_and (pt_cmpR (op_eqA (K := K) hr.units) (pe_ix (xix (K := K)) (pv 0) pe_int (fun _ _ => rfl)) pe_int (nomark _)) (pw_and1 (pt_cmpR (op_neA (K := K) hr.units) (pe_ix (xix (K := K)) (pv 0) pe_int (fun _ _ => rfl)) (pe_lst pa_nil) (nomark _)))))
    (pss_cons (ps_set (i := 2) sc_below.nd rfl (Or.inl rfl) (xbm (K := K) PySem.F.plainAttrs_list PySem.F.slot_list_pop PySem.F.type_list_pop mt_popAt (pe_ix (xix (K := K)) (pv 0) pe_int (fun _ _ => rfl)) (pa_cons pe_int pa_nil)))
    (pss_cons (ps_asg (pe_op op_mod (pe_callTy call_int1 (by rfl) T.b.int (by decide +kernel) (pa_cons (pe_op (op_addA (K := K)) (pe_op (op_addA (K := K)) (pe_op op_mulA (pe_ix (xix (K := K)) (pv 0) pe_int (fun _ _ => rfl)) pe_int) (pv 2)) pe_int) pa_nil)) pe_int) (pg_sub (pv 0) pe_int set_list))
    (pss_one (ps_asg (pe_ifExp (pt_cmpR op_ge (pv 2) (pe_op op_pow pe_int pe_int) (nomark _)) (pv 2) pe_int) (pg_sub (pv 0) pe_int set_list))))))
    (pss_cons (ps_if (pt_cmpR op_gt (pe_ix (xix (K := K)) (pv 0) pe_int (fun _ _ => rfl)) pe_int (nomark _))
    (pss_cons (ps_set (i := 3) sc_below.nd rfl (Or.inl rfl) (pe_op op_mod (pe_callTy call_int1 (by rfl) T.b.int (by decide +kernel) (pa_cons (pe_ix (xix (K := K)) (pv 0) pe_int (fun _ _ => rfl)) pa_nil)) (pv 1)))
    (pss_cons (ps_asg (pe_op op_fdivW (pe_ix (xix (K := K)) (pv 0) pe_int (fun _ _ => rfl)) (pv 1)) (pg_sub (pv 0) pe_int set_list))
    (pss_one (ps_ret (pv 3)))))
    pss_nil)
    (pss_cons (ps_set (i := 4) sc_below.nd rfl (Or.inl rfl) (pe_op op_mod (pe_callTy call_int1 (by rfl) T.b.int (by decide +kernel) (pa_cons (pe_op op_pow (pe_op (op_addA (K := K)) (pe_op (op_addA (K := K)) (pe_ix (xix (K := K)) (pv 0) pe_int (fun _ _ => rfl)) (pe_op op_mulA pe_int (pe_ix (xix (K := K)) (pv 0) pe_int (fun _ _ => rfl)))) pe_int) pe_int) pa_nil)) pe_int))
    (pss_one (ps_ret (pe_op op_mod (pe_op op_mod (pe_callTy call_int1 (by rfl) T.b.int (by decide +kernel) (pa_cons (pe_op op_pow (pe_op (op_addA (K := K)) (pe_op (op_addA (K := K)) (pe_op op_mulA (pv 4) pe_int) (pe_op op_mulA pe_int (pe_ix (xix (K := K)) (pv 0) pe_int (fun _ _ => rfl)))) pe_int) pe_int) pa_nil)) pe_int) (pv 1)))))))), ?_⟩
    refine ⟨_, rfl, rIx.lst w.hd rfl (rAddA.int ⟨_, rfl, rSetL.at w.hd rfl ?_⟩)⟩
    have w1 := w.set (u := .lst [.ref cs, .int a, .int (b + 1), .int c])
    refine ⟨fun j σ H' => ∃ (l : List Int) (a c : Int) (x : Option V), j = l.length ∧ σ = [some (.ref st), some (.int m), x, none, none] ∧ WF G ((st, .lst [.ref cs, .int a, .int (b + 1), .int c]) :: (cs, .lst (l.map V.int)) :: C) H' ∧ 0 ≤ a ∧ 0 ≤ c ∧ c < 2147483648, ⟨_, l, a, c, none, rfl, rfl, w1, a0, c0, c9⟩, ?_⟩
    rintro j σ H' ⟨l, a, c, x, rfl, rfl, w, a0, c0, c9⟩
    have wc := w.swap.hd
    refine ⟨_, rfl, rIx.lst w.hd rfl (rEqA.int ⟨_, rfl, ?_⟩)⟩
    refine ite2 (fun ha => ?h1) (fun ha => ?h2)
    case' h1 =>
      have az : a = 0 := of_decide_eq_true ha
      refine ⟨_, rfl, rIx.lst w.hd rfl ⟨Nat.zero_le _, fun p np => rNeA.dat (.lst (SqL.of ((same_new np) _ _ wc)) (dpInts _ _ l)) (.lst (SqL.of upd_same) .nil) (shInts l) rfl ⟨_, rfl, ?_⟩⟩⟩
      replace w := (w.same (same_new (o := .lst []) np))
      replace wc := w.swap.hd
      cases l
      case' nil => refine iteF ?t1
      case' cons z r => refine iteT ?b1
    case' h2 => refine iteF ?t2
    case h1.cons =>
      subst az
      refine ⟨fun σ' H' => ∃ (a c : Int) (x : Option V), σ' = [some (.ref st), some (.int m), x, none, none] ∧ WF G ((st, .lst [.ref cs, .int a, .int (b + 1), .int c]) :: (cs, .lst (r.map V.int)) :: C) H' ∧ 0 ≤ a ∧ 0 ≤ c ∧ c < 2147483648, fun σ' H' ⟨a, c, x, e, w, h1, h2, h3⟩ => ⟨r.length, Nat.lt_succ_self _, r, a, c, x, rfl, e, w, h1, h2, h3⟩, ?_⟩
      refine ⟨_, rfl, rIx.lst w.hd rfl ⟨.inl ⟨rfl, _, SqL.of wc⟩, _, _, _, 0, _, rfl, rfl, wc, by decide, by decide, (by simp [seqIndex?]), rfl, ?_⟩⟩
      have w2 := (w.swap.set (u := .lst (r.map V.int))).swap
      refine ⟨_, rfl, rIx.lst w2.hd rfl (rMulA.right (by decide) (by decide) ⟨_, rfl, rAddA.int (rAddA.int (.inl ⟨_, rfl, ⟨_, _, rfl, rfl, (show (0 : Int) < 2147483647 by decide), ⟨_, rfl, rSetL.at w2.hd rfl ?_⟩⟩⟩))⟩)⟩
      have w3 := w2.set (u := .lst [.ref cs, .int 0, .int (b + 1), .int ((c * 69031 + z + 13) % 2147483647)])
      have c1 : 0 ≤ (c * 69031 + z + 13) % 2147483647 := Int.emod_nonneg _ (by decide)
      have c2 : (c * 69031 + z + 13) % 2147483647 < 2147483647 := Int.emod_lt_of_pos _ (by decide)
      refine ⟨_, rfl, ⟨_, _, rfl, rfl, ⟨by decide, by decide, by decide⟩, ⟨_, _, rfl, rfl, ⟨_, rfl, ?_⟩⟩⟩⟩
      refine ite2 (fun hz => ?_) (fun hz => ?_)
      · refine ⟨_, rfl, _, rfl, rSetL.at w3.hd rfl ⟨z, _, _, rfl, w3.set, ?_, c1, by omega⟩⟩
        have := of_decide_eq_true hz
        exact Int.le_trans (by decide) this
      · exact ⟨_, rfl, rSetL.at w3.hd rfl ⟨0, _, _, rfl, w3.set, Int.le_refl _, c1, by omega⟩⟩
    all_goals
      refine ⟨_, rfl, rIx.lst w.hd rfl ⟨_, _, rfl, rfl, _, rfl, ?_⟩⟩
      refine ite2 (fun hp => ?_) (fun hp => ?_)
      · refine ⟨_, rfl, rIx.lst w.hd rfl (.inl ⟨_, rfl, _, rfl, _, _, rfl, rfl, m0, ?_⟩)⟩
        refine ⟨_, rfl, rIx.lst w.hd rfl ⟨_, rfl, _, _, rfl, rfl, wide_div (b := 60) m0 (by omega) (by decide) (by decide), ⟨_, rfl, rSetL.at w.hd rfl ⟨_, rfl, ?_⟩⟩⟩⟩
        have d0 : 0 ≤ a % m := Int.emod_nonneg _ (by omega)
        have d1 : a % m < m := Int.emod_lt_of_pos _ m0
        have e : a % m = ((a % m).toNat : Int) := (Int.toNat_of_nonneg d0).symm
        show Q (V.int (a % m)) _
        rw [e]
        exact k _ _ (by omega) ⟨_, _, _, _, w.set, Int.ediv_nonneg (by omega) (by omega), by omega, by omega, c0, c9⟩
      · have fin : ∀ z : Int, Q (V.int (z % m)) _ := fun z => by
          have d0 : 0 ≤ z % m := Int.emod_nonneg _ (by omega)
          have d1 : z % m < m := Int.emod_lt_of_pos _ m0
          have e : z % m = ((z % m).toNat : Int) := (Int.toNat_of_nonneg d0).symm
          rw [e]
          exact k _ _ (by omega) ⟨_, _, _, _, w, a0, by omega, by omega, c0, c9⟩
        refine ⟨_, rfl, rIx.lst w.hd rfl (⟨_, rfl, rIx.lst w.hd rfl (rMulA.left (by decide) (by decide) (rAddA.int (rAddA.int ⟨_, _, rfl, rfl, ⟨by decide, by decide, ?_⟩, ?_⟩)))⟩)⟩
        · omega
        have q0 := Int.emod_nonneg ((c + 9049 * (b + 1) + 130073) ^ (5 : Int).toNat) (show (2147483629 : Int) ≠ 0 by decide)
        have q1 := Int.emod_lt_of_pos ((c + 9049 * (b + 1) + 130073) ^ (5 : Int).toNat) (show (0 : Int) < 2147483629 by decide)
        refine .inl ⟨_, rfl, _, _, rfl, rfl, (show (0 : Int) < 2147483629 by decide), ?_⟩
        refine ⟨_, rfl, (rMulA.right (by decide) (by decide) ⟨_, rfl, rIx.lst w.hd rfl (rMulA.left (by decide) (by decide) (rAddA.int (rAddA.int ⟨_, _, rfl, rfl, ⟨by decide, by decide, ?_⟩, ?_⟩)))⟩)⟩
        · omega
        exact .inl ⟨_, rfl, _, _, rfl, rfl, (show (0 : Int) < 1000000007 by decide), _, rfl, _, _, rfl, rfl, m0, fin _⟩
end
end Lw_below

namespace Lw_draws
open PySem PySem.Spec PyProof.Rows L2 Lr
def top (i : Nat) : Stmt := PySem.Challenge.pw_leastredo_k01_logs_hold_their_records.main.body.getD i (.Pass ⟨0, 0, 0, 0⟩)
abbrev s_chance : Stmt := top 16
abbrev N_chance : List Str := ["stream", "many"]
theorem sc_chance : FnScope ["stream", "many"] ["stream", "many"] (defScope s_chance) := ⟨rfl, rfl, rfl, by decide +kernel, rfl, by decide +kernel, by decide +kernel⟩
abbrev s_pick : Stmt := top 17
abbrev N_pick : List Str := ["stream", "some"]
theorem sc_pick : FnScope ["stream", "some"] ["stream", "some"] (defScope s_pick) := ⟨rfl, rfl, rfl, by decide +kernel, rfl, by decide +kernel, by decide +kernel⟩
abbrev s_mixed : Stmt := top 18
abbrev N_mixed : List Str := ["stream", "some", "left", "k"]
theorem sc_mixed : FnScope ["stream", "some", "left", "k"] ["stream", "some"] (defScope s_mixed) := ⟨rfl, rfl, rfl, by decide +kernel, rfl, by decide +kernel, by decide +kernel⟩
abbrev s_lot : Stmt := top 19
abbrev N_lot : List Str := ["stream", "some", "share", "thing"]
theorem sc_lot : FnScope ["stream", "some", "share", "thing"] ["stream", "some", "share"] (defScope s_lot) := ⟨rfl, rfl, rfl, by decide +kernel, rfl, by decide +kernel, by decide +kernel⟩
structure Txt (mg : Str → Option Value) : Prop where
  b : Bl mg
section
variable {P : Program} {w : World} {K : PySem.W.Frag} {mg : Str → Option Value} {base : Heap}
theorem ok_chance (T : Txt mg) (F : FD K mg "_law_chance" s_chance ["stream", "many"]) (G_below : Okf P w K mg base CX0 1 "_law_below" ["stream", "many"] spBelow) : Okf P w K mg base CX0 2 "_law_chance" ["stream", "many"] spChance := by
  refine F.ok sc_chance (fun vs H Q E h => ?_) (fun f cdv A outer s H vs Q E hr h => ?_)
  · obtain ⟨G, st, cs, n, C, m, rfl, _⟩ := h
    rfl
  · obtain ⟨G, st, cs, n, C, m, rfl, m0, m60, n40, W, k⟩ := h
    refine ⟨_, (pss_one (ps_ret (pe_cmpR (op_eqA (K := K) hr.units) (pc G_below hr (pa_cons (pv 0) (pa_cons (pv 1) pa_nil))) pe_int (nomark _)))), ?_⟩
    exact ⟨_, rfl, _, rfl, G, st, cs, n, C, m, rfl, m0, m60, n40, W, fun d H' hd W' => rEqA.int (k _ _ W')⟩
theorem ok_pick (T : Txt mg) (F : FD K mg "_law_pick" s_pick ["stream", "some"]) (G_below : Okf P w K mg base CX0 1 "_law_below" ["stream", "many"] spBelow) : Okf P w K mg base CX0 2 "_law_pick" ["stream", "some"] spPick := by
  refine F.ok sc_pick (fun vs H Q E h => ?_) (fun f cdv A outer s H vs Q E hr h => ?_)
  · obtain ⟨G, st, cs, n, C, a, xs, rfl, _⟩ := h
    rfl
  · obtain ⟨G, st, cs, n, C, a, xs, rfl, l0, l9, n40, W, S, k⟩ := h
    refine ⟨_, (pss_one (ps_ret (pe_ix (xix (K := K)) (pv 1) (pc G_below hr (pa_cons (pv 0) (pa_cons (pe_callB (call_lenA (K := K)) (by rfl) T.b.len (by decide +kernel) (pa_cons (pv 1) pa_nil)) pa_nil))) (fun _ _ => rfl)))), ?_⟩
    refine ⟨_, rfl, _, rfl, _, rfl, lenA S W.wf ⟨G, st, cs, n, C, (xs.length : Int), rfl, by omega, by omega, n40, W, fun d H' hd W' => ?_⟩⟩
    have hd' : d < xs.length := by omega
    exact S.ix W'.wf (atI_nat (List.getElem?_eq_getElem hd')) (k d _ _ (List.getElem?_eq_getElem hd') W')
theorem ok_mixed (T : Txt mg) (F : FD K mg "_law_mixed" s_mixed ["stream", "some"]) (G_below : Okf P w K mg base CX0 1 "_law_below" ["stream", "many"] spBelow) : Okf P w K mg base CX0 2 "_law_mixed" ["stream", "some"] spMixed := by
  refine F.ok sc_mixed (fun vs H Q E h => ?_) (fun f cdv A outer s H vs Q E hr h => ?_)
  · obtain ⟨G, st, cs, n, C, a, xs, rfl, _⟩ := h
    rfl
  · obtain ⟨G, st, cs, n, C, a, xs, rfl, l9, n40, W, S, k⟩ := h
    refine ⟨_, (pss_cons (ps_set (i := 2) sc_mixed.nd rfl (Or.inr rfl) (pe_callTy (call_listA (K := K) rfl) (by rfl) T.b.list (by decide +kernel) (pa_cons (pv 1) pa_nil)))
    (pss_one (ps_ret (pe_lc (own := [("k", 3)]) (g := gName 3) (tt := tYes) rfl sc_mixed.nd (pi_range1 rfl T.b.range (pa_cons (pe_callB (call_lenA (K := K)) (by rfl) T.b.len (by decide +kernel) (pa_cons (pv 2) pa_nil)) pa_nil)) (blkOk_by (N := N_mixed) (sc := defScope s_mixed) (by decide +kernel)) (fun _ _ _ _ _ => (pg_name (i := 3) sc_mixed.nd rfl (Or.inl rfl))) (fun _ _ _ _ _ => pts_nil) (fun _ _ _ _ _ => (xbm (K := K) PySem.F.plainAttrs_list PySem.F.slot_list_pop PySem.F.type_list_pop mt_popAt (pv 2) (pa_cons (pc G_below hr (pa_cons (pv 0) (pa_cons (pe_callB (call_lenA (K := K)) (by rfl) T.b.len (by decide +kernel) (pa_cons (pv 2) pa_nil)) pa_nil))) pa_nil))))))), ?_⟩
    refine ⟨_, rfl, rListA.seq S W.wf fun l nl => ?_⟩
    have W1 := W.new (o := .lst xs) nl
    refine ⟨_, rfl, lenA Seq.hd W1.wf ⟨_, rfl, by omega, by omega, fun D nD => ?_⟩⟩
    have nD0 : H D = none := (same_new nl).free nD
    refine lc_range (n := ((xs.length : Nat) : Int).toNat) (fun i H' => ∃ (left ys : List V), left.length + i = xs.length ∧ (ys ++ left).Perm xs ∧ SW G st cs (n + i) ((D, .lst ys) :: (l, .lst left) :: C) H') ⟨xs, [], rfl, List.Perm.refl _, W1.new nD⟩ ?_ ?_
    · rintro i H' hi ⟨left, ys, hl, hp, W2⟩
      have hil : i < xs.length := by omega
      refine ⟨rfl, _, rfl, .inl ⟨rfl, _, SqL.of W2.swap.hd⟩, _, rfl, _, rfl, lenA Seq.hd.cons W2.wf ⟨G, st, cs, n + i, _, (left.length : Int), rfl, by omega, by omega, by omega, W2, fun d H2 hd W3 => ?_⟩⟩
      have hd' : d < left.length := by omega
      refine ⟨l, left, d, d, left[d], rfl, rfl, W3.swap.hd, by omega, by omega, ?_, List.getElem?_eq_getElem hd', ?_⟩
      · unfold seqIndex?
        simp only [show ¬ ((d : Int) < 0) by omega, if_false]
        simp [hd']
      · have W4 := (W3.swap.set (u := .lst (left.eraseIdx d))).swap
        refine ⟨ys, W4.hd, ?_, left.eraseIdx d, ys ++ [left[d]], ?_, ?_, W4.set⟩
        · have := hp.length_eq
          rw [List.length_append] at this
          exact Nat.lt_of_le_of_lt (show ys.length ≤ 100000 by omega) (by decide)
        · rw [List.length_eraseIdx]
          simp only [hd', if_true]
          omega
        · refine List.Perm.trans ?_ hp
          rw [List.append_assoc]
          refine List.Perm.append_left _ ?_
          exact perm_erase left d hd'
    · rintro H' ⟨left, ys, hl, hp, W2⟩
      have e : left = [] := List.eq_nil_of_length_eq_zero (by omega)
      subst e
      rw [List.append_nil] at hp
      have e2 : ((xs.length : Nat) : Int).toNat = xs.length := by omega
      rw [e2] at W2
      exact k ys D H' hp nD0 W2.swap.drop
theorem ok_lot (T : Txt mg) (F : FD K mg "_law_lot" s_lot ["stream", "some", "share"]) (G_below : Okf P w K mg base CX0 1 "_law_below" ["stream", "many"] spBelow) : Okf P w K mg base CX0 2 "_law_lot" ["stream", "some", "share"] spLot := by
  refine F.ok sc_lot (fun vs H Q E h => ?_) (fun f cdv A outer s H vs Q E hr h => ?_)
  · obtain ⟨G, st, cs, n, C, a, xs, m, rfl, _⟩ := h
    rfl
  · obtain ⟨G, st, cs, n, C, a, xs, m, rfl, m0, m60, l9, n40, W, S, k⟩ := h
    refine ⟨_, (pss_one (ps_ret (pe_lc (own := [("thing", 3)]) (g := gName 3) rfl sc_lot.nd (pi_seq (K := K) (pv 1)) (blkOk_by (N := N_lot) (sc := defScope s_lot) (by decide +kernel)) (fun _ _ _ _ _ => (pg_name (i := 3) sc_lot.nd rfl (Or.inl rfl))) (fun _ _ _ _ _ => (pts_one (pt_cmpR (op_eqA (K := K) hr.units) (pc G_below hr (pa_cons (pv 0) (pa_cons (pv 2) pa_nil))) pe_int (nomark _)))) (fun _ _ _ _ _ => (pv 3))))), ?_⟩
    obtain ⟨kd, hk⟩ := S.kind
    refine lc_seq (xs := xs) (k := kd) (fun R r => ⟨_, rfl, r⟩) (hk K H W.wf) fun D nD => ⟨fun i H' => ∃ ys : List V, ys.Sublist (xs.take i) ∧ SW G st cs (n + i) ((D, .lst ys) :: C) H', ⟨[], by simp, W.new nD⟩, fun i H' hi ⟨ys, _, W2⟩ => hk K H' W2.drop.wf, ?_, ?_⟩
    · rintro i x H' hx ⟨ys, hs, W2⟩
      have hi : i < xs.length := (List.getElem?_eq_some_iff.mp hx).1
      refine ⟨rfl, ⟨_, rfl, _, rfl, G, st, cs, n + i, _, m, rfl, m0, m60, by omega, W2, fun d H3 hd W3 => rEqA.int ⟨_, rfl, ite2 (fun _ => ?_) (fun _ => ?_)⟩⟩⟩
      · refine ⟨_, rfl, ys, W3.hd, sz_lt ?_, ys ++ [x], ?_, W3.set⟩
        · have := hs.length_le
          rw [List.length_take] at this
          omega
        · rw [take_more hx]
          exact hs.append (List.Sublist.refl _)
      · exact ⟨ys, by rw [take_more hx]; exact hs.trans (List.sublist_append_left _ _), W3⟩
    · rintro H' ⟨ys, hs, W2⟩
      rw [List.take_length] at hs
      exact k ys D H' hs nD W2
end
end Lw_draws

namespace Lw_spoilt
open PySem PySem.Spec PyProof.Rows L2 Lr
def top (i : Nat) : Stmt := PySem.Challenge.pw_leastredo_k01_logs_hold_their_records.main.body.getD i (.Pass ⟨0, 0, 0, 0⟩)
abbrev s_spoilt : Stmt := top 22
abbrev N_spoilt : List Str := ["thing", "key", "part"]
theorem sc_spoilt : FnScope ["thing", "key", "part"] ["thing"] (defScope s_spoilt) := ⟨rfl, rfl, rfl, by decide +kernel, rfl, by decide +kernel, by decide +kernel⟩
structure Txt (mg : Str → Option Value) : Prop where
  b : Bl mg
section
variable {P : Program} {w : World} {K : PySem.W.Frag} {mg : Str → Option Value} {base : Heap}
theorem st_spoilt (T : Txt mg) (F : FD K mg "_law_spoilt" s_spoilt ["thing"]) (n : Nat) (G_spoilt : Okf P w K mg base CX0 n "_law_spoilt" ["thing"] (spSpoilt n)) : Okf P w K mg base CX0 (n + 1) "_law_spoilt" ["thing"] (spSpoilt (n + 1)) := by
  refine F.ok sc_spoilt (fun vs H Q E h => ?_) (fun f cdv A outer s H vs Q E hr h => ?_)
  · obtain ⟨G, C, t, rfl, _⟩ := h
    rfl
  · obtain ⟨G, C, t, rfl, ok, sm, dp, W, k⟩ := h
    have hu := hu_of hr
    refine ⟨_, (pss_cons (ps_if (pt_val (pe_callB (call_isiA (K := K)) (by rfl) T.b.isinstance (by decide +kernel) (pa_cons (pv 0) (pa_cons (pe_bltn (v := .ty "dict") (by rfl) T.b.dict (by decide +kernel) rfl) pa_nil))))
    (pss_cons (ps_for PassesOwn.never rfl (pi_seq (K := K) (pe_callTy (call_listA (K := K) rfl) (by rfl) T.b.list (by decide +kernel) (pa_cons (pv 0) pa_nil))) (pg_name (i := 1) sc_spoilt.nd rfl (Or.inl rfl))
    (pss_one (ps_expr (pc G_spoilt hr (pa_cons (pe_dget hu (pv 0) (pv 1) (fun _ _ => rfl)) pa_nil)))))
    (pss_one (ps_dput hu (pv 0) pe_str (pe_op (op_addA (K := K)) (pe_dget2 hu (pv 0) pe_str pe_int ⟨rfl, rfl, rfl, rfl⟩) pe_int) rfl)))
    pss_nil)
    (pss_cons (ps_if (pt_val (pe_callB (call_isiA (K := K)) (by rfl) T.b.isinstance (by decide +kernel) (pa_cons (pv 0) (pa_cons (pe_tup (pa_cons (pe_bltn (v := .ty "list") (by rfl) T.b.list (by decide +kernel) rfl) (pa_cons (pe_bltn (v := .ty "tuple") (by rfl) T.b.tuple (by decide +kernel) rfl) pa_nil))) pa_nil))))
    (pss_one (ps_for PassesOwn.never rfl (pi_seq (K := K) (pv 0)) (pg_name (i := 2) sc_spoilt.nd rfl (Or.inl rfl))
    (pss_one (ps_expr (pc G_spoilt hr (pa_cons (pv 2) pa_nil))))))
    pss_nil)
    (pss_one (ps_if (pt_val (pe_callB (call_isiA (K := K)) (by rfl) T.b.isinstance (by decide +kernel) (pa_cons (pv 0) (pa_cons (pe_bltn (v := .ty "list") (by rfl) T.b.list (by decide +kernel) rfl) pa_nil))))
    (pss_one (ps_expr (xbm (K := K) PySem.F.plainAttrs_list PySem.F.slot_list_append PySem.F.type_list_append mt_append (pv 0) (pa_cons pe_str pa_nil))))
    pss_nil)))), ?_⟩
    have r := W.rep ok
    cases t with
    | leaf v =>
      have r' : Rep H (scalD v) v := r
      have ok' : scal1 v := ok
      have t1 : kitB (tyD (scalD v)) "dict" = some false := by cases v <;> exact dicTy _
      have t2 : kitB2 (tyD (scalD v)) "list" "tuple" = some false := by cases v <;> exact seqTys _
      have t3 : kitB (tyD (scalD v)) "list" = some false := by cases v <;> exact lstTy _
      refine ⟨_, rfl, isiD r' t1 ⟨_, rfl, iteF ⟨_, rfl, by show 2 ≤ sizeLine; decide, fun p np => isiD2 upd_same (r'.mono (same_new np)) t2 ⟨_, rfl, iteF ⟨_, rfl, isiD (r'.mono (same_new np)) t3 ⟨_, rfl, iteF ?_⟩⟩⟩⟩⟩⟩
      exact k _ (W.same (same_new np))
    | lst a ts =>
      have W' : WF G ((a, .lst (vals ts)) :: (cellsL ts ++ C)) H := W
      refine ⟨_, rfl, isiD r (dicTy _) ⟨_, rfl, iteF ⟨_, rfl, by show 2 ≤ sizeLine; decide, fun p np => isiD2 upd_same (r.mono (same_new np)) (seqTys _) ⟨_, rfl, iteT ?_⟩⟩⟩⟩
      refine loop_spoilt (O := [(a, .lst (vals ts))]) (kd := true) (fun M H' w => SqK.lst w.hd) ok sm.2 (Nat.lt_of_succ_lt_succ dp) (W'.same (same_new np)) fun x H' w => ?_
      have w' : WF G ((a, .lst (vals ts)) :: (cellsL (spoilL ts) ++ C)) H' := w
      refine ⟨_, rfl, isiT (Rep.ty_lst w'.hd) (lstTy (.list [])) ⟨_, rfl, iteT ?_⟩⟩
      refine ⟨_, rfl, .inl ⟨rfl, _, SqL.of w'.hd⟩, _, _, _, rfl, rfl, w'.hd, ?_, ?_⟩
      · rw [List.length_map]
        exact sz_lt (Nat.le_trans sm.1 (by decide))
      · refine k _ ?_
        have w2 := w'.set (u := .lst (vals ts ++ [.str LATE]))
        have e : vals (spoilL ts ++ [Lr.T.leaf (.str LATE)]) = vals ts ++ [.str LATE] := by
          rw [vals, List.map_append]
          show vals (spoilL ts) ++ _ = _
          rw [spoilL_vals]
          rfl
        show WF G ((a, .lst (vals (spoilL ts ++ [Lr.T.leaf (.str LATE)]))) :: cellsL (spoilL ts ++ [Lr.T.leaf (.str LATE)]) ++ C) _
        rw [e, cellsL_append]
        simpa [cellsL, Lr.T.cells] using w2
    | tup a ts =>
      refine ⟨_, rfl, isiD r (dicTy _) ⟨_, rfl, iteF ⟨_, rfl, by show 2 ≤ sizeLine; decide, fun p np => isiD2 upd_same (r.mono (same_new np)) (seqTys _) ⟨_, rfl, iteT ?_⟩⟩⟩⟩
      refine loop_spoilt (O := []) (kd := false) (fun M H' w => SqK.tup (w.getG ok.1)) ok.2 sm.2 (Nat.lt_of_succ_lt_succ dp) (W.same (same_new np)) fun x H' w => ?_
      refine ⟨_, rfl, isiT (Rep.ty_tup (w.getG ok.1)) (lstTy (.tuple [])) ⟨_, rfl, iteF ?_⟩⟩
      exact k _ w
    | dic a ks =>
      have W' : WF G ((a, .dK (valsK ks)) :: (cellsK ks ++ C)) H := W
      refine ⟨_, rfl, isiD r (dicTy _) ⟨_, rfl, iteT ?_⟩⟩
      refine loop_spoiltK ok.1 ok.2.2 sm.2 (Nat.lt_of_succ_lt_succ dp) W' fun x H' w => ?_
      have no : ∀ p ∈ valsK ks, p.1 ≠ Sum.inr LATE := fun p hp => by
        obtain ⟨q, hq, e⟩ := List.mem_map.mp hp
        rw [← e]
        exact ok.2.1 q hq
      have lt : (valsK ks).length < sizeLine := by
        rw [List.length_map]
        exact sz_lt (Nat.le_trans sm.1 (by decide))
      refine ⟨_, rfl, a, rfl, .inl ⟨_, .inl w.hd⟩, none, ?_, ?_⟩
      · rw [← valV_none no]
        exact DGet.k (k := Sum.inr LATE) w.hd
      refine rAddA.int ?_
      refine ⟨_, rfl, a, _, rfl, DPut.k (k := Sum.inr LATE) w.hd lt, ?_⟩
      rw [putK_new no]
      have w2 := w.set (u := .dK (valsK ks ++ [(Sum.inr LATE, .int 1)]))
      have d2 := Rep.ty_dic w2.hd
      refine ⟨_, rfl, by show 2 ≤ sizeLine; decide, fun p np => isiT2 upd_same (Rep.ty_dic ((w2.same (same_new np)).hd)) (seqTys (.dict [])) ⟨_, rfl, iteF ⟨_, rfl, isiT (Rep.ty_dic ((w2.same (same_new np)).hd)) (lstTy (.dict [])) ⟨_, rfl, iteF ?_⟩⟩⟩⟩
      refine k _ ?_
      have w3 := w2.same (same_new (o := .tup [.ty "list", .ty "tuple"]) np)
      have e : valsK (lateK (spoilK ks)) = valsK ks ++ [(Sum.inr LATE, .int 1)] := by
        unfold lateK
        rw [valsK, List.map_append]
        show valsK (spoilK ks) ++ _ = _
        rw [spoilK_vals]
        rfl
      show WF G ((a, .dK (valsK (lateK (spoilK ks)))) :: cellsK (lateK (spoilK ks)) ++ C) _
      rw [e]
      unfold lateK
      rw [cellsK_append]
      simpa [cellsK, Lr.T.cells] using w3
theorem ok_spoilt (T : Txt mg) (F : FD K mg "_law_spoilt" s_spoilt ["thing"]) : ∀ n, Okf P w K mg base CX0 n "_law_spoilt" ["thing"] (spSpoilt n)
  | 0 => F.none fun vs H Q E ⟨G, C, t, _, _, _, h, _⟩ => Nat.not_lt_zero _ h
  | n + 1 => st_spoilt T F n (ok_spoilt T F n)
end
end Lw_spoilt

namespace Lw_once
open PySem PySem.Spec PyProof.Rows L2 Lr
def top (i : Nat) : Stmt := PySem.Challenge.pw_leastredo_k01_logs_hold_their_records.main.body.getD i (.Pass ⟨0, 0, 0, 0⟩)
abbrev s_same : Stmt := top 20
abbrev N_same : List Str := ["found", "due", "x", "y"]
theorem sc_same : FnScope ["found", "due", "x", "y"] ["found", "due"] (defScope s_same) := ⟨rfl, rfl, rfl, by decide +kernel, rfl, by decide +kernel, by decide +kernel⟩
abbrev s_is_once : Stmt := top 23
abbrev N_is_once : List Str := ["thing", "many", "key", "part"]
theorem sc_is_once : FnScope ["thing", "many", "key", "part"] ["thing"] (defScope s_is_once) := ⟨rfl, rfl, rfl, by decide +kernel, rfl, by decide +kernel, by decide +kernel⟩
abbrev s_apart : Stmt := top 24
abbrev N_apart : List Str := ["thing"]
theorem sc_apart : FnScope ["thing"] ["thing"] (defScope s_apart) := ⟨rfl, rfl, rfl, by decide +kernel, rfl, by decide +kernel, by decide +kernel⟩
structure Txt (mg : Str → Option Value) : Prop where
  b : Bl mg
section
variable {P : Program} {w : World} {K : PySem.W.Frag} {mg : Str → Option Value} {base : Heap}
theorem st_is_once (T : Txt mg) (F : FD K mg "_law_is_once" s_is_once ["thing"]) (n : Nat) (G_is_once : Okf P w K mg base CX0 n "_law_is_once" ["thing"] (spOnce n)) : Okf P w K mg base CX0 (n + 1) "_law_is_once" ["thing"] (spOnce (n + 1)) := by
  refine F.ok sc_is_once (fun vs H Q E h => ?_) (fun f cdv A outer s H vs Q E hr h => ?_)
  · obtain ⟨d, v, rfl, _⟩ := h
    rfl
  · obtain ⟨d, v, rfl, r, cl, dp, k⟩ := h
    have hu := hu_of hr
    refine ⟨_, (pss_cons (ps_if (pt_val (pe_callB (call_isiA (K := K)) (by rfl) T.b.isinstance (by decide +kernel) (pa_cons (pv 0) (pa_cons (pe_bltn (v := .ty "dict") (by rfl) T.b.dict (by decide +kernel) rfl) pa_nil))))
    (pss_one (ps_ret (pe_and (pe_cmpR (op_eqA (K := K) hr.units) (pe_ix (xix (K := K)) (pv 0) pe_str (fun _ _ => rfl)) pe_int (nomark _)) (pe_one (pe_callB (cr_allA (K := K) rfl) (by rfl) T.b.all (by decide +kernel) (pa_cons (pe_lc (own := [("key", 2)]) (g := gName 2) rfl sc_is_once.nd (pi_seq (K := K) (pv 0)) (blkOk_by (N := N_is_once) (sc := defScope s_is_once) (by decide +kernel)) (fun _ _ _ _ _ => (pg_name (i := 2) sc_is_once.nd rfl (Or.inl rfl))) (fun _ _ _ _ _ => (pts_one (pt_cmpR (op_neA (K := K) hr.units) (pv 2) pe_str (nomark _)))) (fun _ _ _ _ _ => (pc G_is_once hr (pa_cons (pe_ix (xix (K := K)) (pv 0) (pv 2) (fun _ _ => rfl)) pa_nil)))) pa_nil))))))
    pss_nil)
    (pss_cons (ps_if (pt_val (pe_callB (call_isiA (K := K)) (by rfl) T.b.isinstance (by decide +kernel) (pa_cons (pv 0) (pa_cons (pe_tup (pa_cons (pe_bltn (v := .ty "list") (by rfl) T.b.list (by decide +kernel) rfl) (pa_cons (pe_bltn (v := .ty "tuple") (by rfl) T.b.tuple (by decide +kernel) rfl) pa_nil))) pa_nil))))
    (pss_cons (ps_set (i := 1) sc_is_once.nd rfl (Or.inl rfl) (pe_callTy call_int1 (by rfl) T.b.int (by decide +kernel) (pa_cons (pe_callB (call_isiA (K := K)) (by rfl) T.b.isinstance (by decide +kernel) (pa_cons (pv 0) (pa_cons (pe_bltn (v := .ty "list") (by rfl) T.b.list (by decide +kernel) rfl) pa_nil))) pa_nil)))
    (pss_one (ps_ret (pe_and (pe_cmpR (op_eqA (K := K) hr.units) (xbm (K := K) PySem.F.plainAttrs_list PySem.F.slot_list_count PySem.F.type_list_count (mt_countS (K := K) hr.units) (pe_callTy (call_listA (K := K) rfl) (by rfl) T.b.list (by decide +kernel) (pa_cons (pv 0) pa_nil)) (pa_cons pe_str pa_nil)) (pv 1) (nomark _)) (pe_one (pe_callB (cr_allA (K := K) rfl) (by rfl) T.b.all (by decide +kernel) (pa_cons (pe_lc (own := [("part", 3)]) (g := gName 3) (tt := tYes) rfl sc_is_once.nd (pi_seq (K := K) (pv 0)) (blkOk_by (N := N_is_once) (sc := defScope s_is_once) (by decide +kernel)) (fun _ _ _ _ _ => (pg_name (i := 3) sc_is_once.nd rfl (Or.inl rfl))) (fun _ _ _ _ _ => pts_nil) (fun _ _ _ _ _ => (pc G_is_once hr (pa_cons (pv 3) pa_nil)))) pa_nil)))))))
    pss_nil)
    (pss_one (ps_ret pe_bl)))), ?_⟩
    cases d with
    | dict _ => exact cl.elim
    | list ds =>
      cases r with
      | lst ha rs =>
        rename_i a vs
        have dn : depDL ds < n := Nat.lt_of_succ_lt_succ dp
        have hr0 := rs
        refine ⟨_, rfl, isiT (Rep.ty_lst ha) (dicTy _) ⟨_, rfl, iteF ⟨_, rfl, by show 2 ≤ sizeLine; decide, fun p np => isiT2 upd_same (Rep.ty_lst (same_new np _ _ ha)) (seqTys _) ⟨_, rfl, iteT ?_⟩⟩⟩⟩
        generalize hH1 : upd H p _ = H1
        have s1 : Same H H1 := by rw [← hH1]; exact same_new np
        have ha1 := s1 _ _ ha
        refine ⟨_, rfl, isiT (Rep.ty_lst ha1) (lstTy _) (.inr ⟨true, rfl, ?_⟩)⟩
        refine ⟨_, rfl, rListA.sq (.inl (SqL.of ha1)) fun l nl1 => ⟨.inl ⟨rfl, _, SqL.of upd_same⟩, _, _, _, rfl, rfl, SqL.of upd_same, ?_, ?_⟩⟩
        · intro v hv
          exact ((count_late1 cl.1 rs).2 v hv).mono (s1.trans (same_new nl1))
        have s2 := s1.trans (same_new (o := .lst vs) nl1)
        have e1 : vs.countP (isS LATE) = 1 := (count_late1 cl.1 rs).1
        rw [e1]
        refine ⟨_, rfl, rEqA.int ⟨true, by simp, iteT ?_⟩⟩
        have ln : vs.length ≤ 200000 := by
          have h1 := rs.length
          have h2 := cl.2
          rw [List.length_append, spoilDL_length] at h1
          simp at h1
          omega
        refine tcb1 ?_
        refine loop_once (kd := true) (xs := vs) (ds := ds) rfl (fun _ => by rfl) (fun _ => by rfl) (fun H' s => SqK.lst (s _ _ (s2 _ _ ha))) ?_ ln ?_
        rotate_left
        · intro H' D s hD
          exact cr_all1 hD (k _ (s2.trans s))
        intro i x H' hx s
        obtain ⟨d, hd, rd⟩ := rs.get hx
        have rd' := rd.mono (s2.trans s)
        by_cases hi : i < ds.length
        · rw [List.getElem?_append_left (by rw [spoilDL_length]; exact hi), spoilDL_get, List.getElem?_eq_getElem hi] at hd
          have e : spoilD ds[i] = d := Option.some.inj hd
          rw [← e] at rd'
          have c := cl.1.get (List.getElem?_eq_getElem hi)
          exact ⟨_, rd', c.2, Nat.lt_of_le_of_lt (depDL_get (List.getElem?_eq_getElem hi)) dn⟩
        · have hi2 : i = ds.length := by
            have h1 := (List.getElem?_eq_some_iff.mp hd).1
            rw [List.length_append, spoilDL_length] at h1
            simp at h1
            omega
          have e : d = .str LATE := by
            rw [hi2, List.getElem?_append_right (by rw [spoilDL_length]; exact Nat.le_refl _), spoilDL_length] at hd
            simpa using hd.symm
          rw [e] at rd'
          exact ⟨.str LATE, rd', trivial, by show 0 < n; omega⟩
    | tuple ds =>
      cases r with
      | tup ha rs =>
        rename_i a vs
        have dn : depDL ds < n := Nat.lt_of_succ_lt_succ dp
        have hr0 := rs
        refine ⟨_, rfl, isiT (Rep.ty_tup ha) (dicTy _) ⟨_, rfl, iteF ⟨_, rfl, by show 2 ≤ sizeLine; decide, fun p np => isiT2 upd_same (Rep.ty_tup (same_new np _ _ ha)) (seqTys _) ⟨_, rfl, iteT ?_⟩⟩⟩⟩
        generalize hH1 : upd H p _ = H1
        have s1 : Same H H1 := by rw [← hH1]; exact same_new np
        have ha1 := s1 _ _ ha
        refine ⟨_, rfl, isiT (Rep.ty_tup ha1) (lstTy _) (.inr ⟨false, rfl, ?_⟩)⟩
        refine ⟨_, rfl, rListA.sq (.inr (SqT.of ha1)) fun l nl1 => ⟨.inl ⟨rfl, _, SqL.of upd_same⟩, _, _, _, rfl, rfl, SqL.of upd_same, ?_, ?_⟩⟩
        · intro v hv
          exact ((count_late cl.1 rs).2 v hv).mono (s1.trans (same_new nl1))
        have s2 := s1.trans (same_new (o := .lst vs) nl1)
        have e1 : vs.countP (isS LATE) = 0 := (count_late cl.1 rs).1
        rw [e1]
        refine ⟨_, rfl, rEqA.int ⟨true, by simp, iteT ?_⟩⟩
        have ln : vs.length ≤ 200000 := by
          have h1 := rs.length
          have h2 := cl.2
          rw [spoilDL_length] at h1
          
          omega
        refine tcb1 ?_
        refine loop_once (kd := false) (xs := vs) (ds := ds) rfl (fun _ => by rfl) (fun _ => by rfl) (fun H' s => SqK.tup (s _ _ (s2 _ _ ha))) ?_ ln ?_
        rotate_left
        · intro H' D s hD
          exact cr_all1 hD (k _ (s2.trans s))
        intro i x H' hx s
        obtain ⟨d, hd, rd⟩ := rs.get hx
        have rd' := rd.mono (s2.trans s)
        
        rw [spoilDL_get] at hd
        cases e : ds[i]? with
        | none =>
          rw [e] at hd
          cases hd
        | some d0 =>
          rw [e] at hd
          have e2 : spoilD d0 = d := Option.some.inj hd
          rw [← e2] at rd'
          have c := cl.1.get e
          exact ⟨_, rd', c.2, Nat.lt_of_le_of_lt (depDL_get e) dn⟩
    | none =>
      cases r
      refine ⟨_, rfl, isiT (Rep.tyd .non) (dicTy _) ⟨_, rfl, iteF ⟨_, rfl, by show 2 ≤ sizeLine; decide, fun p np => isiT2 upd_same (Rep.tyd .non) (seqTys _) ⟨_, rfl, iteF (k _ (same_new np))⟩⟩⟩⟩
    | bool b =>
      cases r
      refine ⟨_, rfl, isiT (Rep.tyd (.bl b)) (dicTy _) ⟨_, rfl, iteF ⟨_, rfl, by show 2 ≤ sizeLine; decide, fun p np => isiT2 upd_same (Rep.tyd (.bl b)) (seqTys _) ⟨_, rfl, iteF (k _ (same_new np))⟩⟩⟩⟩
    | int i =>
      cases r
      refine ⟨_, rfl, isiT (Rep.tyd (.int i)) (dicTy _) ⟨_, rfl, iteF ⟨_, rfl, by show 2 ≤ sizeLine; decide, fun p np => isiT2 upd_same (Rep.tyd (.int i)) (seqTys _) ⟨_, rfl, iteF (k _ (same_new np))⟩⟩⟩⟩
    | str x =>
      cases r
      refine ⟨_, rfl, isiT (Rep.tyd (.str x)) (dicTy _) ⟨_, rfl, iteF ⟨_, rfl, by show 2 ≤ sizeLine; decide, fun p np => isiT2 upd_same (Rep.tyd (.str x)) (seqTys _) ⟨_, rfl, iteF (k _ (same_new np))⟩⟩⟩⟩
theorem ok_is_once (T : Txt mg) (F : FD K mg "_law_is_once" s_is_once ["thing"]) : ∀ n, Okf P w K mg base CX0 n "_law_is_once" ["thing"] (spOnce n)
  | 0 => F.none fun vs H Q E ⟨d, v, _, _, _, h, _⟩ => Nat.not_lt_zero _ h
  | n + 1 => st_is_once T F n (ok_is_once T F n)
theorem ok_apart (T : Txt mg) (F : FD K mg "_law_apart" s_apart ["thing"]) (n : Nat) (G_spoilt : Okf P w K mg base CX0 n "_law_spoilt" ["thing"] (spSpoilt n)) (G_is_once : Okf P w K mg base CX0 n "_law_is_once" ["thing"] (spOnce n)) : Okf P w K mg base CX0 (n + 1) "_law_apart" ["thing"] (spApart n) := by
  refine F.ok sc_apart (fun vs H Q E h => ?_) (fun f cdv A outer s H vs Q E hr h => ?_)
  · obtain ⟨G, C, t, rfl, _⟩ := h
    rfl
  · obtain ⟨G, C, t, rfl, ok, nl, cl, dp, W, k⟩ := h
    refine ⟨_, (pss_cons (ps_expr (pc G_spoilt hr (pa_cons (pv 0) pa_nil)))
    (pss_one (ps_ret (pc G_is_once hr (pa_cons (pv 0) pa_nil))))), ?_⟩
    refine ⟨_, rfl, G, C, t, rfl, ok, Lr.T.small_data cl, by rw [Lr.T.dep_data cl]; exact dp, W, fun H' W' => ?_⟩
    have r : Rep H' t.spoil.data t.spoil.val := Lr.T.rep W'.sub (Lr.T.spoil_ok cl ok) fun c hc => (W'.own c (List.mem_append_left _ hc)).1
    rw [Lr.T.spoil_data cl, Lr.T.spoil_val] at r
    exact ⟨_, rfl, t.data, t.val, rfl, r, cl, dp, fun H2 s2 => k H2 (W'.same s2).dropL⟩
end
end Lw_once

namespace Lw_same
open PySem PySem.Spec PyProof.Rows L2 Lr
def top (i : Nat) : Stmt := PySem.Challenge.pw_leastredo_k01_logs_hold_their_records.main.body.getD i (.Pass ⟨0, 0, 0, 0⟩)
abbrev s_same : Stmt := top 20
abbrev N_same : List Str := ["found", "due", "x", "y"]
theorem sc_same : FnScope ["found", "due", "x", "y"] ["found", "due"] (defScope s_same) := ⟨rfl, rfl, rfl, by decide +kernel, rfl, by decide +kernel, by decide +kernel⟩
structure Txt (mg : Str → Option Value) : Prop where
  b : Bl mg
section
variable {P : Program} {w : World} {K : PySem.W.Frag} {mg : Str → Option Value} {base : Heap}
theorem st_same (T : Txt mg) (F : FD K mg "_law_same" s_same ["found", "due"]) (n : Nat) (G_same : Okf P w K mg base CX0 n "_law_same" ["found", "due"] (spSame n)) : Okf P w K mg base CX0 (n + 1) "_law_same" ["found", "due"] (spSame (n + 1)) := by
  refine F.ok sc_same (fun vs H Q E h => ?_) (fun f cdv A outer s H vs Q E hr h => ?_)
  · obtain ⟨d, v, u, rfl, _⟩ := h
    rfl
  · obtain ⟨d, v, u, rfl, rv, ru, pl, dp, k⟩ := h
    have hu := hu_of hr
    refine ⟨_, (pss_cons (ps_if (pt_val (pe_callB (call_isiA (K := K)) (by rfl) T.b.isinstance (by decide +kernel) (pa_cons (pv 1) (pa_cons (pe_tup (pa_cons (pe_bltn (v := .ty "list") (by rfl) T.b.list (by decide +kernel) rfl) (pa_cons (pe_bltn (v := .ty "tuple") (by rfl) T.b.tuple (by decide +kernel) rfl) pa_nil))) pa_nil))))
    (pss_cons (ps_if (PW.pt (pw_or (pt_cmpR (op_neA (K := K) hr.units) (pe_callB (call_isiA (K := K)) (by rfl) T.b.isinstance (by decide +kernel) (pa_cons (pv 0) (pa_cons (pe_bltn (v := .ty "list") (by rfl) T.b.list (by decide +kernel) rfl) pa_nil))) (pe_callB (call_isiA (K := K)) (by rfl) T.b.isinstance (by decide +kernel) (pa_cons (pv 1) (pa_cons (pe_bltn (v := .ty "list") (by rfl) T.b.list (by decide +kernel) rfl) pa_nil))) (nomark _)) (pw_or1 (pt_cmpR (op_neA (K := K) hr.units) (pe_callB (call_isiA (K := K)) (by rfl) T.b.isinstance (by decide +kernel) (pa_cons (pv 0) (pa_cons (pe_bltn (v := .ty "tuple") (by rfl) T.b.tuple (by decide +kernel) rfl) pa_nil))) (pe_callB (call_isiA (K := K)) (by rfl) T.b.isinstance (by decide +kernel) (pa_cons (pv 1) (pa_cons (pe_bltn (v := .ty "tuple") (by rfl) T.b.tuple (by decide +kernel) rfl) pa_nil))) (nomark _)))))
    (pss_one (ps_ret pe_bl))
    pss_nil)
    (pss_one (ps_ret (pe_and (pe_cmpR (op_eqA (K := K) hr.units) (pe_callB (call_lenA (K := K)) (by rfl) T.b.len (by decide +kernel) (pa_cons (pv 0) pa_nil)) (pe_callB (call_lenA (K := K)) (by rfl) T.b.len (by decide +kernel) (pa_cons (pv 1) pa_nil)) (nomark _)) (pe_one (pe_callB (cr_allA (K := K) rfl) (by rfl) T.b.all (by decide +kernel) (pa_cons (pe_lc (own := [("x", 2), ("y", 3)]) (tt := tYes) rfl sc_same.nd (xzip (K := K) (by rfl) T.b.zip (pa_cons (pv 0) (pa_cons (pv 1) pa_nil))) (blkOk_by (N := N_same) (sc := defScope s_same) (by decide +kernel)) (fun _ _ _ _ _ => (xtup (K := K) (n := 2) rfl (pgs_cons (pg_name (i := 2) sc_same.nd rfl (Or.inl rfl)) (pgs_cons (pg_name (i := 3) sc_same.nd rfl (Or.inl rfl)) pgs_nil)))) (fun _ _ _ _ _ => pts_nil) (fun _ _ _ _ _ => (pc G_same hr (pa_cons (pv 2) (pa_cons (pv 3) pa_nil))))) pa_nil)))))))
    pss_nil)
    (pss_cons (ps_if (pt_val (pe_callB (call_isiA (K := K)) (by rfl) T.b.isinstance (by decide +kernel) (pa_cons (pv 1) (pa_cons (pe_bltn (v := .ty "dict") (by rfl) T.b.dict (by decide +kernel) rfl) pa_nil))))
    (pss_one (ps_ret (pe_and (pe_callB (call_isiA (K := K)) (by rfl) T.b.isinstance (by decide +kernel) (pa_cons (pv 0) (pa_cons (pe_bltn (v := .ty "dict") (by rfl) T.b.dict (by decide +kernel) rfl) pa_nil))) (pe_one (pc G_same hr (pa_cons (LiI.pe_listItems rfl (pv 0) (by rfl) T.b.list (by decide +kernel)) (pa_cons (LiI.pe_listItems rfl (pv 1) (by rfl) T.b.list (by decide +kernel)) pa_nil)))))))
    pss_nil)
    (pss_cons (ps_if (pt_val (pe_callB (call_isiA (K := K)) (by rfl) T.b.isinstance (by decide +kernel) (pa_cons (pv 1) (pa_cons (pe_bltn (v := .ty "int") (by rfl) T.b.int (by decide +kernel) rfl) pa_nil))))
    (pss_one (ps_ret (pe_and (pe_callB (call_isiA (K := K)) (by rfl) T.b.isinstance (by decide +kernel) (pa_cons (pv 0) (pa_cons (pe_bltn (v := .ty "int") (by rfl) T.b.int (by decide +kernel) rfl) pa_nil))) (pe_and (pe_cmpR (op_eqA (K := K) hr.units) (pe_callB (call_isiA (K := K)) (by rfl) T.b.isinstance (by decide +kernel) (pa_cons (pv 0) (pa_cons (pe_bltn (v := .ty "bool") (by rfl) T.b.bool (by decide +kernel) rfl) pa_nil))) (pe_callB (call_isiA (K := K)) (by rfl) T.b.isinstance (by decide +kernel) (pa_cons (pv 1) (pa_cons (pe_bltn (v := .ty "bool") (by rfl) T.b.bool (by decide +kernel) rfl) pa_nil))) (nomark _)) (pe_one (pe_cmpR (op_eqA (K := K) hr.units) (pv 0) (pv 1) (nomark _)))))))
    pss_nil)
    (pss_cons (ps_if (pt_cmpR op_isN (pv 1) pe_non (nomark _))
    (pss_one (ps_ret (pe_cmpR op_isN (pv 0) pe_non (nomark _))))
    pss_nil)
    (pss_cons (ps_if (pt_val (pe_callB (call_isiA (K := K)) (by rfl) T.b.isinstance (by decide +kernel) (pa_cons (pv 1) (pa_cons (pe_bltn (v := .ty "str") (by rfl) T.b.str (by decide +kernel) rfl) pa_nil))))
    (pss_one (ps_ret (pe_and (pe_callB (call_isiA (K := K)) (by rfl) T.b.isinstance (by decide +kernel) (pa_cons (pv 0) (pa_cons (pe_bltn (v := .ty "str") (by rfl) T.b.str (by decide +kernel) rfl) pa_nil))) (pe_one (pe_cmpR (op_eqA (K := K) hr.units) (pv 0) (pv 1) (nomark _))))))
    pss_nil)
    (pss_one (ps_ret (pe_and (pe_not (pe_callB (call_isiA (K := K)) (by rfl) T.b.isinstance (by decide +kernel) (pa_cons (pv 0) (pa_cons (pe_tup (pa_cons (pe_bltn (v := .ty "int") (by rfl) T.b.int (by decide +kernel) rfl) (pa_cons (pe_bltn (v := .ty "str") (by rfl) T.b.str (by decide +kernel) rfl) (pa_cons (pe_bltn (v := .ty "list") (by rfl) T.b.list (by decide +kernel) rfl) (pa_cons (pe_bltn (v := .ty "tuple") (by rfl) T.b.tuple (by decide +kernel) rfl) (pa_cons (pe_bltn (v := .ty "dict") (by rfl) T.b.dict (by decide +kernel) rfl) pa_nil)))))) pa_nil)))) (pe_one (pe_cmpR (op_eqA (K := K) hr.units) (pv 0) (pv 1) (nomark _))))))))))), ?_⟩
    cases d with
    | dict es =>
      cases rv with
      | dic ha ra =>
      cases ru with
      | dic hb rb =>
        rename_i a xs b ys
        have dn : dpSK es + 2 < n := Nat.lt_of_succ_lt_succ dp
        refine ⟨_, rfl, by show 2 ≤ sizeLine; decide, fun p np => isiT2 upd_same (Rep.ty_dic (same_new np _ _ hb)) (seqTys (.dict [])) ⟨_, rfl, iteF ?_⟩⟩
        generalize hH1 : upd H p _ = H1
        have s1 : Same H H1 := by rw [← hH1]; exact same_new np
        have ha1 := s1 _ _ ha
        have hb1 := s1 _ _ hb
        refine ⟨_, rfl, isiT (Rep.ty_dic hb1) (dicTy (.dict [])) ⟨_, rfl, iteT ?_⟩⟩
        refine ⟨_, rfl, isiT (Rep.ty_dic ha1) (dicTy (.dict [])) ⟨true, rfl, iteT ?_⟩⟩
        refine ⟨_, rfl, a, xs, rfl, ha1, fun H2 l1 t1 s2 _ _ _ hl1 p1 => ?_⟩
        refine ⟨_, rfl, b, ys, rfl, s2 _ _ hb1, fun H3 l2 t2 s3 _ _ _ hl2 p2 => ?_⟩
        have s12 := s1.trans s2
        have r1 := items_rep s2 (ra.mono s1) p1
        have r2 := items_rep s3 (rb.mono s12) p2
        refine ⟨.list (dPairs es), _, _, rfl, .lst (s3 _ _ hl1) (r1.mono s3), .lst hl2 r2, ⟨dPairs_eqa pl.1, by unfold dPairs; rw [List.length_map]; exact pl.2⟩, ?_, fun H4 s4 => k _ (s12.trans (fun b o e => s4 _ _ (s3 _ _ e)))⟩
        have := dPairs_dp pl.1
        show dpSL (dPairs es) + 1 < n
        omega
    | list ds =>
      cases rv with
      | lst ha ra =>
      cases ru with
      | lst hb rb =>
        rename_i a xs b ys
        have dn : dpSL ds < n := Nat.lt_of_succ_lt_succ dp
        refine ⟨_, rfl, by show 2 ≤ sizeLine; decide, fun p np => isiT2 upd_same (Rep.ty_lst (same_new np _ _ hb)) (seqTys _) ⟨_, rfl, iteT ?_⟩⟩
        generalize hH1 : upd H p _ = H1
        have s1 : Same H H1 := by rw [← hH1]; exact same_new np
        have ha1 := s1 _ _ ha
        have hb1 := s1 _ _ hb
        refine ⟨_, rfl, isiT (Rep.ty_lst ha1) (lstTy _) ⟨_, rfl, isiT (Rep.ty_lst hb1) (lstTy _) (rNeA.sc rfl rfl ⟨_, rfl, iteF ?_⟩)⟩⟩
        refine ⟨_, rfl, isiT (Rep.ty_lst ha1) (tupTy _) ⟨_, rfl, isiT (Rep.ty_lst hb1) (tupTy _) (rNeA.sc rfl rfl ⟨_, rfl, iteF ?_⟩)⟩⟩
        have la := ra.length
        have lb := rb.length
        refine ⟨_, rfl, rLenA.v (n := xs.length) (.inl ⟨_, SqL.of ha1, rfl⟩) ⟨_, rfl, rLenA.v (n := ys.length) (.inl ⟨_, SqL.of hb1, rfl⟩) (rEqA.int ⟨true, ?_, iteT ?_⟩)⟩⟩
        · have e : (xs.length : Int) = ys.length := by omega
          rw [decide_eq_true e]
        refine tcb1 ?_
        refine loop_same (kd := true) (xs := xs) (ys := ys) (ds := ds) rfl rfl (fun _ _ => rfl) (fun _ _ => rfl) (fun _ _ => rfl) (fun H' s => ⟨SqK.lst (s _ _ ha1), SqK.lst (s _ _ hb1)⟩) (ra.mono s1) (rb.mono s1) pl.1 dn (by have := pl.2; omega) ?_
        intro H' D s hD
        exact cr_all1 hD (k _ (s1.trans s))
    | tuple ds =>
      cases rv with
      | tup ha ra =>
      cases ru with
      | tup hb rb =>
        rename_i a xs b ys
        have dn : dpSL ds < n := Nat.lt_of_succ_lt_succ dp
        refine ⟨_, rfl, by show 2 ≤ sizeLine; decide, fun p np => isiT2 upd_same (Rep.ty_tup (same_new np _ _ hb)) (seqTys _) ⟨_, rfl, iteT ?_⟩⟩
        generalize hH1 : upd H p _ = H1
        have s1 : Same H H1 := by rw [← hH1]; exact same_new np
        have ha1 := s1 _ _ ha
        have hb1 := s1 _ _ hb
        refine ⟨_, rfl, isiT (Rep.ty_tup ha1) (lstTy _) ⟨_, rfl, isiT (Rep.ty_tup hb1) (lstTy _) (rNeA.sc rfl rfl ⟨_, rfl, iteF ?_⟩)⟩⟩
        refine ⟨_, rfl, isiT (Rep.ty_tup ha1) (tupTy _) ⟨_, rfl, isiT (Rep.ty_tup hb1) (tupTy _) (rNeA.sc rfl rfl ⟨_, rfl, iteF ?_⟩)⟩⟩
        have la := ra.length
        have lb := rb.length
        refine ⟨_, rfl, rLenA.v (n := xs.length) (.inr ⟨_, SqT.of ha1, rfl⟩) ⟨_, rfl, rLenA.v (n := ys.length) (.inr ⟨_, SqT.of hb1, rfl⟩) (rEqA.int ⟨true, ?_, iteT ?_⟩)⟩⟩
        · have e : (xs.length : Int) = ys.length := by omega
          rw [decide_eq_true e]
        refine tcb1 ?_
        refine loop_same (kd := false) (xs := xs) (ys := ys) (ds := ds) rfl rfl (fun _ _ => rfl) (fun _ _ => rfl) (fun _ _ => rfl) (fun H' s => ⟨SqK.tup (s _ _ ha1), SqK.tup (s _ _ hb1)⟩) (ra.mono s1) (rb.mono s1) pl.1 dn (by have := pl.2; omega) ?_
        intro H' D s hD
        exact cr_all1 hD (k _ (s1.trans s))
    | none =>
      cases rv
      cases ru
      refine ⟨_, rfl, by show 2 ≤ sizeLine; decide, fun p np => isiT2 upd_same (Rep.tyd .non) (seqTys _) ⟨_, rfl, iteF ?_⟩⟩
      refine ⟨_, rfl, isiT (Rep.tyd .non) (dicTy _) ⟨_, rfl, iteF ?_⟩⟩
      refine ⟨_, rfl, isiT (Rep.tyd .non) (intTy _) ⟨_, rfl, iteF ?_⟩⟩
      exact ⟨_, rfl, rfl, _, rfl, iteT ⟨_, rfl, rfl, k _ (same_new np)⟩⟩
    | bool b =>
      cases rv
      cases ru
      refine ⟨_, rfl, by show 2 ≤ sizeLine; decide, fun p np => isiT2 upd_same (Rep.tyd (.bl b)) (seqTys _) ⟨_, rfl, iteF ?_⟩⟩
      refine ⟨_, rfl, isiT (Rep.tyd (.bl b)) (dicTy _) ⟨_, rfl, iteF ?_⟩⟩
      refine ⟨_, rfl, isiT (Rep.tyd (.bl b)) (intTy _) ⟨_, rfl, iteT ?_⟩⟩
      refine ⟨_, rfl, isiT (Rep.tyd (.bl b)) (intTy _) ⟨_, rfl, iteT ?_⟩⟩
      refine ⟨_, rfl, isiT (Rep.tyd (.bl b)) (boolTy _) ⟨_, rfl, isiT (Rep.tyd (.bl b)) (boolTy _) (rEqA.sc rfl rfl ⟨_, rfl, iteT ?_⟩)⟩⟩
      exact ⟨_, rfl, _, rfl, rEqA.sc rfl (decide_eq_true rfl) (k _ (same_new np))⟩
    | int i =>
      cases rv
      cases ru
      refine ⟨_, rfl, by show 2 ≤ sizeLine; decide, fun p np => isiT2 upd_same (Rep.tyd (.int i)) (seqTys _) ⟨_, rfl, iteF ?_⟩⟩
      refine ⟨_, rfl, isiT (Rep.tyd (.int i)) (dicTy _) ⟨_, rfl, iteF ?_⟩⟩
      refine ⟨_, rfl, isiT (Rep.tyd (.int i)) (intTy _) ⟨_, rfl, iteT ?_⟩⟩
      refine ⟨_, rfl, isiT (Rep.tyd (.int i)) (intTy _) ⟨_, rfl, iteT ?_⟩⟩
      refine ⟨_, rfl, isiT (Rep.tyd (.int i)) (boolTy _) ⟨_, rfl, isiT (Rep.tyd (.int i)) (boolTy _) (rEqA.sc rfl rfl ⟨_, rfl, iteT ?_⟩)⟩⟩
      exact ⟨_, rfl, _, rfl, rEqA.sc rfl (decide_eq_true rfl) (k _ (same_new np))⟩
    | str x =>
      cases rv
      cases ru
      refine ⟨_, rfl, by show 2 ≤ sizeLine; decide, fun p np => isiT2 upd_same (Rep.tyd (.str x)) (seqTys _) ⟨_, rfl, iteF ?_⟩⟩
      refine ⟨_, rfl, isiT (Rep.tyd (.str x)) (dicTy _) ⟨_, rfl, iteF ?_⟩⟩
      refine ⟨_, rfl, isiT (Rep.tyd (.str x)) (intTy _) ⟨_, rfl, iteF ?_⟩⟩
      refine ⟨_, rfl, rfl, _, rfl, iteF ?_⟩
      refine ⟨_, rfl, isiT (Rep.tyd (.str x)) (strTy _) ⟨_, rfl, iteT ?_⟩⟩
      refine ⟨_, rfl, isiT (Rep.tyd (.str x)) (strTy _) ⟨_, rfl, iteT ?_⟩⟩
      exact ⟨_, rfl, _, rfl, rEqA.sc rfl (decide_eq_true rfl) (k _ (same_new np))⟩
theorem ok_same (T : Txt mg) (F : FD K mg "_law_same" s_same ["found", "due"]) : ∀ n, Okf P w K mg base CX0 n "_law_same" ["found", "due"] (spSame n)
  | 0 => F.none fun vs H Q E ⟨d, v, u, _, _, _, _, h, _⟩ => Nat.not_lt_zero _ h
  | n + 1 => st_same T F n (ok_same T F n)
end
end Lw_same

namespace Lw_loose
open PySem PySem.Spec PyProof.Rows L2 Lr
def top (i : Nat) : Stmt := PySem.Challenge.pw_leastredo_k01_logs_hold_their_records.main.body.getD i (.Pass ⟨0, 0, 0, 0⟩)
abbrev s_loose : Stmt := top 21
abbrev N_loose : List Str := ["stream", "thing", "found", "key", "part"]
theorem sc_loose : FnScope ["stream", "thing", "found", "key", "part"] ["stream", "thing"] (defScope s_loose) := ⟨rfl, rfl, rfl, by decide +kernel, rfl, by decide +kernel, by decide +kernel⟩
structure Txt (mg : Str → Option Value) : Prop where
  b : Bl mg
section
variable {P : Program} {w : World} {K : PySem.W.Frag} {mg : Str → Option Value} {base : Heap}
theorem st_loose (T : Txt mg) (F : FD K mg "_law_loose" s_loose ["stream", "thing"]) (n : Nat) (G_below : Okf P w K mg base CX0 1 "_law_below" ["stream", "many"] spBelow) (G_mixed : Okf P w K mg base CX0 2 "_law_mixed" ["stream", "some"] spMixed) (G_loose : Okf P w K mg base CX0 (n + 2) "_law_loose" ["stream", "thing"] (spLoose n)) : Okf P w K mg base CX0 (n + 3) "_law_loose" ["stream", "thing"] (spLoose (n + 1)) := by
  refine F.ok sc_loose (fun vs H Q E h => ?_) (fun f cdv A outer s H vs Q E hr h => ?_)
  · obtain ⟨G, st, cs, m, C, d, v, rfl, _⟩ := h
    rfl
  · obtain ⟨G, st, cs, m, C, d, v, rfl, W, rc, pl, dp, m40, k⟩ := h
    have hu := hu_of hr
    refine ⟨_, (pss_cons (ps_if (pt_val (pe_callB (call_isiA (K := K)) (by rfl) T.b.isinstance (by decide +kernel) (pa_cons (pv 1) (pa_cons (pe_bltn (v := .ty "dict") (by rfl) T.b.dict (by decide +kernel) rfl) pa_nil))))
    (pss_one (ps_ret (pe_callTy (call_dictP rfl) (by rfl) T.b.dict (by decide +kernel) (pa_cons (pe_lc (own := [("key", 3)]) (g := gName 3) (tt := tYes) rfl sc_loose.nd (pi_seq (K := K) (pc G_mixed hr (pa_cons (pv 0) (pa_cons (pe_callTy (call_listA (K := K) rfl) (by rfl) T.b.list (by decide +kernel) (pa_cons (pv 1) pa_nil)) pa_nil)))) (blkOk_by (N := N_loose) (sc := defScope s_loose) (by decide +kernel)) (fun _ _ _ _ _ => (pg_name (i := 3) sc_loose.nd rfl (Or.inl rfl))) (fun _ _ _ _ _ => pts_nil) (fun _ _ _ _ _ => (pe_tup (pa_cons (pv 3) (pa_cons (pc G_loose hr (pa_cons (pv 0) (pa_cons (pe_dget hu (pv 1) (pv 3) (fun _ _ => rfl)) pa_nil))) pa_nil))))) pa_nil))))
    pss_nil)
    (pss_cons (ps_if (pt_not (pt_val (pe_callB (call_isiA (K := K)) (by rfl) T.b.isinstance (by decide +kernel) (pa_cons (pv 1) (pa_cons (pe_tup (pa_cons (pe_bltn (v := .ty "list") (by rfl) T.b.list (by decide +kernel) rfl) (pa_cons (pe_bltn (v := .ty "tuple") (by rfl) T.b.tuple (by decide +kernel) rfl) pa_nil))) pa_nil)))))
    (pss_one (ps_ret (pv 1)))
    pss_nil)
    (pss_cons (ps_setLc (i := 2) (own := [("part", 4)]) (g := gName 4) (tt := tYes) rfl sc_loose.nd rfl rfl (sw_true rfl rfl rfl (by decide +kernel)) (pi_seq (K := K) (pv 1)) (blkOk_by (N := N_loose) (sc := defScope s_loose) (by decide +kernel)) (fun _ _ _ _ _ => (pg_name (i := 4) sc_loose.nd rfl (Or.inl rfl))) (fun _ _ _ _ _ => pts_nil) (fun _ _ _ _ _ => (pc G_loose hr (pa_cons (pv 0) (pa_cons (pv 4) pa_nil)))))
    (pss_one (ps_ret (pe_ifExp (pt_cmpR (op_eqA (K := K) hr.units) (pc G_below hr (pa_cons (pv 0) (pa_cons pe_int pa_nil))) pe_int (nomark _)) (pv 2) (pe_callTy (call_tupleA (K := K)) (by rfl) T.b.tuple (by decide +kernel) (pa_cons (pv 2) pa_nil)))))))), ?_⟩
    obtain ⟨L, hL, r⟩ := rc
    cases d with
    | dict _ => exact pl.elim
    | list ds =>
      cases r with
      | lst hl rs =>
        rename_i a xs
        have ha := sees_same hL W.wf _ _ hl
        have dn : depDL ds < n := Nat.lt_of_succ_lt_succ dp
        have esz : szD (.list ds) = szDL ds + 1 := rfl
        rw [esz] at m40
        refine ⟨_, rfl, isiT (Rep.ty_lst ha) (dicTy _) ⟨_, rfl, iteF ⟨_, rfl, by show 2 ≤ sizeLine; decide, fun p np => isiT2 upd_same (Rep.ty_lst (same_new np _ _ ha)) (seqTys _) ⟨_, rfl, iteF ?_⟩⟩⟩⟩
        have W1 := W.same (same_new (o := .tup [.ty "list", .ty "tuple"]) np)
        have hk : ∀ H', WF G C H' → SqK true K H' a xs ∧ Reps H' ds xs := fun H' w' => ⟨SqK.lst (sees_same hL w' _ _ hl), rs.mono (sees_same hL w')⟩
        refine tnext ?_
        refine tseq ?_
        refine tasg ?_
        refine loop_loose (kd := true) (xs := xs) (ds := ds) rfl rfl (fun _ => rfl) (fun _ => rfl) (fun _ => rfl) W1 hk ⟨L, hL, rs⟩ pl.1 dn (by omega) (by have := pl.2; omega) ?_
        intro ts G' H' D s ok en pn w
        refine ⟨_, rfl, G', st, cs, m + szDL ds, _, 2, rfl, by decide, by decide, by omega, w, fun d H2 hd w2 => ?_⟩
        refine rEqA.int ⟨_, rfl, ite2 (fun _ => ?_) (fun _ => ?_)⟩
        · exact ⟨_, rfl, k (.lst D ts) G' H2 s ok (by simp [Lr.T.data, norm, en]) ⟨pn, by have := pl.2; have h1 := congrArg List.length en; rw [normL_length, normL_length] at h1; omega⟩ w2⟩
        · refine ⟨_, rfl, D, vals ts, rfl, .inl ⟨SqL.of w2.hd, fun q nq => ?_⟩⟩
          have w3 := w2.newG (o := .tup (vals ts)) nq
          have gq := w2.gnone nq
          refine k (.tup q ts) _ _ (s.trans (same_new gq)) ⟨upd_same, OkL.mono (same_new gq) ok⟩ (by simp [Lr.T.data, norm, en]) ⟨pn, by have := pl.2; have h1 := congrArg List.length en; rw [normL_length, normL_length] at h1; omega⟩ w3.drop
    | tuple ds =>
      cases r with
      | tup hl rs =>
        rename_i a xs
        have ha := sees_same hL W.wf _ _ hl
        have dn : depDL ds < n := Nat.lt_of_succ_lt_succ dp
        have esz : szD (.tuple ds) = szDL ds + 1 := rfl
        rw [esz] at m40
        refine ⟨_, rfl, isiT (Rep.ty_tup ha) (dicTy _) ⟨_, rfl, iteF ⟨_, rfl, by show 2 ≤ sizeLine; decide, fun p np => isiT2 upd_same (Rep.ty_tup (same_new np _ _ ha)) (seqTys _) ⟨_, rfl, iteF ?_⟩⟩⟩⟩
        have W1 := W.same (same_new (o := .tup [.ty "list", .ty "tuple"]) np)
        have hk : ∀ H', WF G C H' → SqK false K H' a xs ∧ Reps H' ds xs := fun H' w' => ⟨SqK.tup (sees_same hL w' _ _ hl), rs.mono (sees_same hL w')⟩
        refine tnext ?_
        refine tseq ?_
        refine tasg ?_
        refine loop_loose (kd := false) (xs := xs) (ds := ds) rfl rfl (fun _ => rfl) (fun _ => rfl) (fun _ => rfl) W1 hk ⟨L, hL, rs⟩ pl.1 dn (by omega) (by have := pl.2; omega) ?_
        intro ts G' H' D s ok en pn w
        refine ⟨_, rfl, G', st, cs, m + szDL ds, _, 2, rfl, by decide, by decide, by omega, w, fun d H2 hd w2 => ?_⟩
        refine rEqA.int ⟨_, rfl, ite2 (fun _ => ?_) (fun _ => ?_)⟩
        · exact ⟨_, rfl, k (.lst D ts) G' H2 s ok (by simp [Lr.T.data, norm, en]) ⟨pn, by have := pl.2; have h1 := congrArg List.length en; rw [normL_length, normL_length] at h1; omega⟩ w2⟩
        · refine ⟨_, rfl, D, vals ts, rfl, .inl ⟨SqL.of w2.hd, fun q nq => ?_⟩⟩
          have w3 := w2.newG (o := .tup (vals ts)) nq
          have gq := w2.gnone nq
          refine k (.tup q ts) _ _ (s.trans (same_new gq)) ⟨upd_same, OkL.mono (same_new gq) ok⟩ (by simp [Lr.T.data, norm, en]) ⟨pn, by have := pl.2; have h1 := congrArg List.length en; rw [normL_length, normL_length] at h1; omega⟩ w3.drop
    | none =>
      cases r
      refine ⟨_, rfl, isiT (Rep.tyd .non) (dicTy _) ⟨_, rfl, iteF ⟨_, rfl, by show 2 ≤ sizeLine; decide, fun p np => isiT2 upd_same (Rep.tyd .non) (seqTys _) ⟨_, rfl, iteT ?_⟩⟩⟩⟩
      exact ⟨_, rfl, k (.leaf _) G _ (Same.refl G) trivial rfl trivial (W.same (same_new np))⟩
    | bool b =>
      cases r
      refine ⟨_, rfl, isiT (Rep.tyd (.bl b)) (dicTy _) ⟨_, rfl, iteF ⟨_, rfl, by show 2 ≤ sizeLine; decide, fun p np => isiT2 upd_same (Rep.tyd (.bl b)) (seqTys _) ⟨_, rfl, iteT ?_⟩⟩⟩⟩
      exact ⟨_, rfl, k (.leaf _) G _ (Same.refl G) trivial rfl trivial (W.same (same_new np))⟩
    | int i =>
      cases r
      refine ⟨_, rfl, isiT (Rep.tyd (.int i)) (dicTy _) ⟨_, rfl, iteF ⟨_, rfl, by show 2 ≤ sizeLine; decide, fun p np => isiT2 upd_same (Rep.tyd (.int i)) (seqTys _) ⟨_, rfl, iteT ?_⟩⟩⟩⟩
      exact ⟨_, rfl, k (.leaf _) G _ (Same.refl G) trivial rfl trivial (W.same (same_new np))⟩
    | str x =>
      cases r
      refine ⟨_, rfl, isiT (Rep.tyd (.str x)) (dicTy _) ⟨_, rfl, iteF ⟨_, rfl, by show 2 ≤ sizeLine; decide, fun p np => isiT2 upd_same (Rep.tyd (.str x)) (seqTys _) ⟨_, rfl, iteT ?_⟩⟩⟩⟩
      exact ⟨_, rfl, k (.leaf _) G _ (Same.refl G) trivial rfl trivial (W.same (same_new np))⟩
theorem ok_loose (T : Txt mg) (F : FD K mg "_law_loose" s_loose ["stream", "thing"]) (G_below : Okf P w K mg base CX0 1 "_law_below" ["stream", "many"] spBelow) (G_mixed : Okf P w K mg base CX0 2 "_law_mixed" ["stream", "some"] spMixed) : ∀ n, Okf P w K mg base CX0 (n + 2) "_law_loose" ["stream", "thing"] (spLoose n)
  | 0 => (F.none fun vs H Q E ⟨G, st, cs, m, C, d, v, _, _, _, _, h, _⟩ => Nat.not_lt_zero _ h).mono (by decide)
  | n + 1 => st_loose T F n G_below G_mixed (ok_loose T F G_below G_mixed n)
end
end Lw_loose

namespace Lw_names
open PySem PySem.Spec PyProof.Rows L2 Lr
def top (i : Nat) : Stmt := PySem.Challenge.pw_leastredo_k01_logs_hold_their_records.main.body.getD i (.Pass ⟨0, 0, 0, 0⟩)
abbrev s_is_name : Stmt := top 7
abbrev N_is_name : List Str := ["thing", "sign"]
theorem sc_is_name : FnScope ["thing", "sign"] ["thing"] (defScope s_is_name) := ⟨rfl, rfl, rfl, by decide +kernel, rfl, by decide +kernel, by decide +kernel⟩
abbrev s_names_of : Stmt := top 8
abbrev N_names_of : List Str := ["thing", "found", "one"]
theorem sc_names_of : FnScope ["thing", "found", "one"] ["thing"] (defScope s_names_of) := ⟨rfl, rfl, rfl, by decide +kernel, rfl, by decide +kernel, by decide +kernel⟩
abbrev s_lot_among : Stmt := top 9
abbrev N_lot_among : List Str := ["thing", "names", "found", "one"]
theorem sc_lot_among : FnScope ["thing", "names", "found", "one"] ["thing", "names"] (defScope s_lot_among) := ⟨rfl, rfl, rfl, by decide +kernel, rfl, by decide +kernel, by decide +kernel⟩
abbrev s_record_of : Stmt := top 11
abbrev N_record_of : List Str := ["thing", "names", "reads", "writes"]
theorem sc_record_of : FnScope ["thing", "names", "reads", "writes"] ["thing", "names"] (defScope s_record_of) := ⟨rfl, rfl, rfl, by decide +kernel, rfl, by decide +kernel, by decide +kernel⟩
abbrev k_LETTERS : Str := "abcdefghijklmnopqrstuvwxyz"
abbrev k_FIGURES : Str := "0123456789"
structure Txt (mg : Str → Option Value) : Prop where
  b : Bl mg
  L : ∃ t, mg "LETTERS" = some (.str k_LETTERS t)
  F : ∃ t, mg "FIGURES" = some (.str k_FIGURES t)
theorem in_letters (c : Nat) : decide (c ∈ k_LETTERS.cps.toList) = low c := by
  have e : k_LETTERS.cps.toList = (List.range 26).map (· + 97) := by decide +kernel
  rw [e]
  unfold low
  rw [decide_eq_decide]
  constructor
  · intro h
    obtain ⟨x, hx, rfl⟩ := List.mem_map.mp h
    have := List.mem_range.mp hx
    omega
  · intro h
    exact List.mem_map.mpr ⟨c - 97, List.mem_range.mpr (by omega), by omega⟩
theorem in_figures (c : Nat) : decide (c ∈ k_FIGURES.cps.toList) = fig c := by
  have e : k_FIGURES.cps.toList = (List.range 10).map (· + 48) := by decide +kernel
  rw [e]
  unfold fig
  rw [decide_eq_decide]
  constructor
  · intro h
    obtain ⟨x, hx, rfl⟩ := List.mem_map.mp h
    have := List.mem_range.mp hx
    omega
  · intro h
    exact List.mem_map.mpr ⟨c - 48, List.mem_range.mpr (by omega), by omega⟩
section
variable {P : Program} {w : World} {K : PySem.W.Frag} {mg : Str → Option Value} {base : Heap}
theorem ok_is_name (T : Txt mg) (F : FD K mg "is_name" s_is_name ["thing"]) : Okf P w K mg base CX0 1 "is_name" ["thing"] spIsName := by
  refine F.ok sc_is_name (fun vs H Q E h => ?_) (fun f cdv A outer s H vs Q E hr h => ?_)
  · obtain ⟨d, v, rfl, _⟩ := h
    rfl
  · obtain ⟨d, v, rfl, ty, hs, k⟩ := h
    obtain ⟨tL, c_LETTERS⟩ := T.L
    obtain ⟨tF, c_FIGURES⟩ := T.F
    refine ⟨_, (pss_cons (ps_if (PW.pt (pw_or (pt_not (pt_val (pe_callB (call_isiA (K := K)) (by rfl) T.b.isinstance (by decide +kernel) (pa_cons (pv 0) (pa_cons (pe_bltn (v := .ty "str") (by rfl) T.b.str (by decide +kernel) rfl) pa_nil))))) (pw_or1 (pt_not (pt_chain op_le op_le pe_int (pe_callB (call_lenA (K := K)) (by rfl) T.b.len (by decide +kernel) (pa_cons (pv 0) pa_nil)) pe_int)))))
    (pss_one (ps_ret pe_bl))
    pss_nil)
    (pss_cons (ps_for PassesOwn.never rfl (pi_str (pv 0)) (pg_name (i := 1) sc_is_name.nd rfl (Or.inl rfl))
    (pss_one (ps_if (PW.pt (pw_and (pt_cmpR (op_notInA (K := K)) (pv 1) (pe_glob (v := .str k_LETTERS) rfl c_LETTERS ⟨_, rfl⟩) (by rfl)) (pw_and1 (pt_cmpR (op_notInA (K := K)) (pv 1) (pe_glob (v := .str k_FIGURES) rfl c_FIGURES ⟨_, rfl⟩) (by rfl)))))
    (pss_one (ps_ret pe_bl))
    pss_nil)))
    (pss_one (ps_ret (pe_cmpR (op_inA (K := K)) (pe_ix (xix (K := K)) (pv 0) pe_int (fun _ _ => rfl)) (pe_glob (v := .str k_LETTERS) rfl c_LETTERS ⟨_, rfl⟩) (by rfl)))))), ?_⟩
    cases d with
    | str x =>
      obtain ⟨rfl, hx⟩ := hs x rfl
      refine ⟨_, rfl, isiT ty (strTy _) ⟨_, rfl, iteF ?_⟩⟩
      have hz : x.length ≤ sizeLine := Nat.le_trans hx (by decide)
      have no : ∀ {b : Bool}, nameB x = b → Q (.bl b) H := fun {b} e => by
        rw [← e]
        exact k
      refine ⟨_, rfl, rLenA.str hx ⟨_, _, rfl, rfl, ⟨_, rfl, ite2 (fun h1 => ?_) (fun h1 => ⟨_, rfl, ?_⟩)⟩⟩⟩
      · refine ⟨_, _, rfl, rfl, _, rfl, ?_⟩
        have h1' := of_decide_eq_true h1
        by_cases h8 : (x.length : Int) ≤ 8
        · rw [decide_eq_true h8]
          refine iteF ?_
          refine tnext ?_
          refine tseq ?_
          refine for_str (x := x) (fun R r => ⟨_, rfl, r⟩) (fun i σ H' => H' = H ∧ (∃ y, σ = [some (.str x), y]) ∧ sgns (x.cps.toList.take i) = true) ⟨rfl, ⟨_, rfl⟩, rfl⟩ ?_ ?_
          · rintro i c σ H' hc ⟨rfl, ⟨y, rfl⟩, hg⟩
            refine ⟨_, rfl, rInA.sign ⟨_, rfl, ?_⟩⟩
            have e1 : (if true = true then !decide (c ∈ k_LETTERS.cps.toList) else decide (c ∈ k_LETTERS.cps.toList)) = !low c := by rw [if_pos rfl, in_letters]
            rw [e1]
            cases hl : low c with
            | true =>
              refine iteF (iteF ?_)
              refine ⟨rfl, ⟨_, rfl⟩, ?_⟩
              rw [take_more hc]
              unfold sgns at hg ⊢
              rw [List.all_append, hg]
              simp [hl]
            | false =>
              refine iteT ⟨_, rfl, rInA.sign ⟨_, rfl, ?_⟩⟩
              have e2 : (if true = true then !decide (c ∈ k_FIGURES.cps.toList) else decide (c ∈ k_FIGURES.cps.toList)) = !fig c := by rw [if_pos rfl, in_figures]
              rw [e2]
              cases hf : fig c with
              | true =>
                refine iteF ?_
                refine ⟨rfl, ⟨_, rfl⟩, ?_⟩
                rw [take_more hc]
                unfold sgns at hg ⊢
                rw [List.all_append, hg]
                simp [hl, hf]
              | false =>
                refine iteT ?_
                refine no ?_
                unfold nameB
                have : sgns x.cps.toList = false := by
                  unfold sgns
                  rw [List.all_eq_false]
                  exact ⟨c, List.mem_of_getElem? hc, by simp [hl, hf]⟩
                rw [this]
                simp
          · rintro σ H' ⟨rfl, ⟨y, rfl⟩, hg⟩
            rw [List.take_length] at hg
            have hlen : x.cps.toList.length = x.length := by simp [Str.length]
            cases e : x.cps.toList with
            | nil =>
              rw [e] at hlen
              simp at hlen
              omega
            | cons c r =>
              refine ⟨_, rfl, rIx.str hz (c := c) (by rw [e]; exact atI_nat (j := 0) rfl) (rInA.sign ?_)⟩
              refine no ?_
              have e1 : (if false = true then !decide (c ∈ k_LETTERS.cps.toList) else decide (c ∈ k_LETTERS.cps.toList)) = low c := by rw [if_neg (by decide), in_letters]
              rw [e1]
              unfold nameB
              rw [hg, e, decide_eq_true (show 1 ≤ x.length ∧ x.length ≤ 8 by omega)]
              simp
        · rw [decide_eq_false h8]
          refine iteT ?_
          refine no ?_
          unfold nameB
          rw [decide_eq_false (show ¬ (1 ≤ x.length ∧ x.length ≤ 8) by omega)]
          rfl
      · refine iteT ?_
        refine no ?_
        unfold nameB
        have h1' : ¬ (1 : Int) ≤ (x.length : Int) := fun z => h1 (decide_eq_true z)
        rw [decide_eq_false (show ¬ (1 ≤ x.length ∧ x.length ≤ 8) by omega)]
        rfl
    | list ds =>
      refine ⟨_, rfl, isiT ty (strTy _) ⟨_, rfl, iteT k⟩⟩
    | tuple ds =>
      refine ⟨_, rfl, isiT ty (strTy _) ⟨_, rfl, iteT k⟩⟩
    | none =>
      refine ⟨_, rfl, isiT ty (strTy _) ⟨_, rfl, iteT k⟩⟩
    | bool b =>
      refine ⟨_, rfl, isiT ty (strTy _) ⟨_, rfl, iteT k⟩⟩
    | int i =>
      refine ⟨_, rfl, isiT ty (strTy _) ⟨_, rfl, iteT k⟩⟩
    | dict es =>
      refine ⟨_, rfl, isiT ty (strTy _) ⟨_, rfl, iteT k⟩⟩
theorem ok_names_of (T : Txt mg) (F : FD K mg "names_of" s_names_of ["thing"]) (G_is_name : Okf P w K mg base CX0 1 "is_name" ["thing"] spIsName) : Okf P w K mg base CX0 2 "names_of" ["thing"] spNamesOf := by
  refine F.ok sc_names_of (fun vs H Q E h => ?_) (fun f cdv A outer s H vs Q E hr h => ?_)
  · obtain ⟨d, v, rfl, _⟩ := h
    rfl
  · obtain ⟨d, v, rfl, r, sh, k0, k1⟩ := h
    refine ⟨_, (pss_cons (ps_if (pt_not (pt_val (pe_callB (call_isiA (K := K)) (by rfl) T.b.isinstance (by decide +kernel) (pa_cons (pv 0) (pa_cons (pe_tup (pa_cons (pe_bltn (v := .ty "list") (by rfl) T.b.list (by decide +kernel) rfl) (pa_cons (pe_bltn (v := .ty "tuple") (by rfl) T.b.tuple (by decide +kernel) rfl) pa_nil))) pa_nil)))))
    (pss_one (ps_ret pe_non))
    pss_nil)
    (pss_cons (ps_set (i := 1) sc_names_of.nd rfl (Or.inl rfl) (pe_lst pa_nil))
    (pss_cons (ps_for PassesOwn.never rfl (pi_seq (K := K) (pv 0)) (pg_name (i := 2) sc_names_of.nd rfl (Or.inl rfl))
    (pss_cons (ps_if (PW.pt (pw_or (pt_not (pt_val (pc G_is_name hr (pa_cons (pv 2) pa_nil)))) (pw_or1 (pt_cmpR (op_inA (K := K)) (pv 2) (pv 1) (by rfl)))))
    (pss_one (ps_ret pe_non))
    pss_nil)
    (pss_one (ps_expr (xbm (K := K) PySem.F.plainAttrs_list PySem.F.slot_list_append PySem.F.type_list_append mt_append (pv 1) (pa_cons (pv 2) pa_nil))))))
    (pss_one (ps_ret (pe_callB (cr_sortedA (K := K)) (by rfl) T.b.sorted (by decide +kernel) (pa_cons (pv 1) pa_nil))))))), ?_⟩
    refine ⟨_, rfl, by show 2 ≤ sizeLine; decide, fun p np => isiT2 upd_same (r.mono (same_new np)).tyd items_ty ⟨_, rfl, ?_⟩⟩
    have s1 := same_new (o := .tup [.ty "list", .ty "tuple"]) np
    cases e : itemsD d with
    | none =>
      refine iteT (k0 ?_ _ s1)
      unfold namesD
      rw [e]
      rfl
    | some ds =>
      refine iteF (tnext (tseq ⟨Nat.zero_le _, fun l nl => ?_⟩))
      obtain ⟨kd, a, vs, rfl, rs, hk⟩ := r.items (K := K) e
      have lx := rs.length
      have hl : H l = none := s1.free nl
      have en : namesD d = (namesL ds []).map sortS := by
        unfold namesD
        rw [e]
        rfl
      refine tseq ?_
      refine for_seq (xs := vs) (k := kd) (fun R r => ⟨_, rfl, r⟩) (hk _ (s1.trans (same_new nl))) (fun i σ H' => ∃ (acc : List Str) (y : Option V), σ = [some (.ref a), some (.ref l), y] ∧ Same H H' ∧ H' l = some (.lst (acc.map V.str)) ∧ acc.length ≤ i ∧ namesL (ds.drop i) acc = namesL ds []) ⟨[], _, rfl, s1.trans (same_new nl), upd_same, Nat.le_refl _, by simp⟩ (fun i σ H' _ p => ?_) ?_ ?_
      · obtain ⟨acc, y, _, s, _⟩ := p
        exact hk H' s
      · rintro i x σ H' hx ⟨acc, y, rfl, s, hL, la, eN⟩
        have hi := (List.getElem?_eq_some_iff.mp hx).1
        obtain ⟨di, hd, ri⟩ := rs.get hx
        have ri' := ri.mono s
        have edrop : ds.drop i = di :: ds.drop (i + 1) := by
          rw [List.drop_eq_getElem_cons (by omega)]
          rw [(List.getElem?_eq_some_iff.mp hd).2]
        rw [edrop] at eN
        have shi := (sh ds e).2 di (List.mem_of_getElem? hd)
        refine ⟨_, rfl, di, x, rfl, ri'.tyd, fun s0 es => ⟨by subst es; cases ri; rfl, shi s0 es⟩, ⟨_, rfl, ?_⟩⟩
        cases hn : isNameD di with
        | false =>
          refine iteT (k0 ?_ _ s)
          rw [en, ← eN, namesL_none hn]
          rfl
        | true =>
          refine iteF ?_
          cases di with
          | str s0 =>
            cases ri
            have hn' : nameB s0 = true := hn
            refine ⟨_, rfl, _, rfl, rInA.strs (.inl (SqL.of hL)) ⟨_, rfl, ?_⟩⟩
            by_cases hm : s0 ∈ acc
            · have e1 : (if false = true then !decide (s0 ∈ acc) else decide (s0 ∈ acc)) = true := by rw [if_neg (by decide), decide_eq_true hm]
              rw [e1]
              refine iteT (k0 ?_ _ s)
              rw [en, ← eN]
              show Option.map sortS (if nameB s0 = true ∧ s0 ∉ acc then namesL (ds.drop (i + 1)) (acc ++ [s0]) else none) = none
              rw [if_neg (by simp [hm])]
              rfl
            · have e1 : (if false = true then !decide (s0 ∈ acc) else decide (s0 ∈ acc)) = false := by rw [if_neg (by decide), decide_eq_false hm]
              rw [e1]
              refine iteF ?_
              have d63 := (sh ds e).1
              refine ⟨_, rfl, .inl ⟨rfl, _, SqL.of hL⟩, _, rfl, _, _, _, rfl, rfl, hL, ?_, ?_⟩
              · rw [List.length_map]
                exact sz_lt (by omega)
              · refine ⟨acc ++ [s0], _, rfl, fun b o eb => ?_, ?_, ?_, ?_⟩
                · rw [upd_ne (ne_of_none eb hl)]
                  exact s _ _ eb
                · rw [upd_same]
                  simp
                · rw [List.length_append]
                  simp
                  omega
                · rw [← eN]
                  show _ = (if nameB s0 = true ∧ s0 ∉ acc then namesL (ds.drop (i + 1)) (acc ++ [s0]) else none)
                  rw [if_pos ⟨hn', hm⟩]
          | _ => cases hn
      · rintro σ H' ⟨acc, y, rfl, s, hL, la, eN⟩
        have d63 := (sh ds e).1
        have e0 : ds.drop vs.length = [] := List.drop_eq_nil_of_le (by omega)
        rw [e0] at eN
        have eN' : some acc = namesL ds [] := eN
        refine ⟨_, rfl, l, acc, rfl, SqL.of hL, by omega, fun ys p pm srt np => ?_⟩
        refine k1 ys ?_ _ p (s.trans (same_new np)) (s.free np) upd_same
        rw [en, ← eN', sortS_of pm (sorted_pw srt)]
        rfl
theorem ok_lot_among (T : Txt mg) (F : FD K mg "lot_among" s_lot_among ["thing", "names"]) (G_names_of : Okf P w K mg base CX0 2 "names_of" ["thing"] spNamesOf) : Okf P w K mg base CX0 3 "lot_among" ["thing", "names"] (spLotAmong K) := by
  refine F.ok sc_lot_among (fun vs H Q E h => ?_) (fun f cdv A outer s H vs Q E hr h => ?_)
  · obtain ⟨d, v, a, ns, rfl, _⟩ := h
    rfl
  · obtain ⟨d, v, a, ns, rfl, r, sh, hn, k0, k1⟩ := h
    refine ⟨_, (pss_cons (ps_set (i := 2) sc_lot_among.nd rfl (Or.inl rfl) (pc G_names_of hr (pa_cons (pv 0) pa_nil)))
    (pss_cons (ps_if (pt_cmpR op_isN (pv 2) pe_non (nomark _))
    (pss_one (ps_ret pe_non))
    pss_nil)
    (pss_cons (ps_for PassesOwn.never rfl (pi_seq (K := K) (pv 2)) (pg_name (i := 3) sc_lot_among.nd rfl (Or.inl rfl))
    (pss_one (ps_if (pt_cmpR (op_notInA (K := K)) (pv 3) (pv 1) (by rfl))
    (pss_one (ps_ret pe_non))
    pss_nil)))
    (pss_one (ps_ret (pv 2)))))), ?_⟩
    refine ⟨_, rfl, d, v, rfl, r, sh, fun e H' s => ?_, fun ys e H' p s np hp => ?_⟩
    · refine ⟨_, rfl, rfl, _, rfl, iteT ?_⟩
      refine k0 ?_ _ s
      unfold lotD
      rw [e]
      rfl
    · have el : lotD d ns = if ∀ x ∈ ys, x ∈ ns then some ys else none := by
        unfold lotD
        rw [e]
        rfl
      refine ⟨_, rfl, rfl, _, rfl, iteF ?_⟩
      refine tnext (tseq ?_)
      have hn' : ∀ H', Same H H' → (SqL K H' a (ns.map V.str) ∨ SqT K H' a (ns.map V.str)) := fun H' s => hn.imp s.seq (Lr.Same.tup s)
      refine for_seq (xs := ys.map V.str) (k := true) (fun R r => ⟨_, rfl, r⟩) (SqK.lst hp) (fun i σ H2 => H2 = H' ∧ (∃ y, σ = [some v, some (.ref a), some (.ref p), y]) ∧ ∀ x ∈ ys.take i, x ∈ ns) ⟨rfl, ⟨_, rfl⟩, fun x hx => by simp at hx⟩ (fun i σ H2 _ p2 => by rw [p2.1]; exact SqK.lst hp) ?_ ?_
      · rintro i x σ H2 hx ⟨rfl, ⟨y, rfl⟩, hall⟩
        rw [List.getElem?_map] at hx
        cases ex : ys[i]? with
        | none =>
          rw [ex] at hx
          cases hx
        | some z =>
          rw [ex] at hx
          cases hx
          refine ⟨_, rfl, _, rfl, rInA.strs (hn' _ s) ⟨_, rfl, ?_⟩⟩
          by_cases hm : z ∈ ns
          · have e1 : (if true = true then !decide (z ∈ ns) else decide (z ∈ ns)) = false := by rw [if_pos rfl, decide_eq_true hm]; rfl
            rw [e1]
            refine iteF ⟨rfl, ⟨_, rfl⟩, fun x hx => ?_⟩
            rw [take_more ex] at hx
            rcases List.mem_append.mp hx with hx | hx
            · exact hall x hx
            · rw [List.mem_singleton.mp hx]
              exact hm
          · have e1 : (if true = true then !decide (z ∈ ns) else decide (z ∈ ns)) = true := by rw [if_pos rfl, decide_eq_false hm]; rfl
            rw [e1]
            refine iteT (k0 ?_ _ s)
            rw [el, if_neg]
            intro h
            exact hm (h z (List.mem_of_getElem? ex))
      · rintro σ H2 ⟨rfl, ⟨y, rfl⟩, hall⟩
        rw [List.length_map, List.take_length] at hall
        refine ⟨_, rfl, k1 ys ?_ _ p s np hp⟩
        rw [el, if_pos hall]
theorem ok_record_of (T : Txt mg) (F : FD K mg "record_of" s_record_of ["thing", "names"]) (G_lot_among : Okf P w K mg base CX0 3 "lot_among" ["thing", "names"] (spLotAmong K)) : Okf P w K mg base CX0 4 "record_of" ["thing", "names"] (spRecordOf K) := by
  refine F.ok sc_record_of (fun vs H Q E h => ?_) (fun f cdv A outer s H vs Q E hr h => ?_)
  · obtain ⟨d, v, a, ns, rfl, _⟩ := h
    rfl
  · obtain ⟨d, v, a, ns, rfl, r, sh, hn, k0, k1⟩ := h
    refine ⟨_, (pss_cons (ps_if (PW.pt (pw_or (pt_not (pt_val (pe_callB (call_isiA (K := K)) (by rfl) T.b.isinstance (by decide +kernel) (pa_cons (pv 0) (pa_cons (pe_tup (pa_cons (pe_bltn (v := .ty "list") (by rfl) T.b.list (by decide +kernel) rfl) (pa_cons (pe_bltn (v := .ty "tuple") (by rfl) T.b.tuple (by decide +kernel) rfl) pa_nil))) pa_nil))))) (pw_or1 (pt_cmpR (op_neA (K := K) hr.units) (pe_callB (call_lenA (K := K)) (by rfl) T.b.len (by decide +kernel) (pa_cons (pv 0) pa_nil)) pe_int (nomark _)))))
    (pss_one (ps_ret pe_non))
    pss_nil)
    (pss_cons (ps_set (i := 2) sc_record_of.nd rfl (Or.inl rfl) (pc G_lot_among hr (pa_cons (pe_ix (xix (K := K)) (pv 0) pe_int (fun _ _ => rfl)) (pa_cons (pv 1) pa_nil))))
    (pss_cons (ps_set (i := 3) sc_record_of.nd rfl (Or.inl rfl) (pc G_lot_among hr (pa_cons (pe_ix (xix (K := K)) (pv 0) pe_int (fun _ _ => rfl)) (pa_cons (pv 1) pa_nil))))
    (pss_cons (ps_if (PW.pt (pw_or (pt_cmpR op_isN (pv 2) pe_non (nomark _)) (pw_or1 (pt_not (xtruth (K := K) (pv 3) (by intro _; rfl))))))
    (pss_one (ps_ret pe_non))
    pss_nil)
    (pss_one (ps_ret (pe_tup (pa_cons (pe_callTy (call_tupleA (K := K)) (by rfl) T.b.tuple (by decide +kernel) (pa_cons (pv 2) pa_nil)) (pa_cons (pe_callTy (call_tupleA (K := K)) (by rfl) T.b.tuple (by decide +kernel) (pa_cons (pv 3) pa_nil)) pa_nil))))))))), ?_⟩
    refine ⟨_, rfl, by show 2 ≤ sizeLine; decide, fun p np => isiT2 upd_same (r.mono (same_new np)).tyd items_ty ⟨_, rfl, ?_⟩⟩
    have s1 := same_new (o := .tup [.ty "list", .ty "tuple"]) np
    cases e : itemsD d with
    | none =>
      refine iteT (iteT (k0 ?_ _ s1))
      unfold rowD
      rw [e]
    | some ds =>
      refine iteF ?_
      obtain ⟨kd, b, us, rfl, rs, hk⟩ := r.items (K := K) e
      have lx := rs.length
      have hl : LenV K (.ref b) _ us.length := (hk _ s1).or.imp (fun h => ⟨_, h, rfl⟩) (fun h => ⟨_, h, rfl⟩)
      refine ⟨_, rfl, rLenA.v hl (rNeA.int ⟨_, rfl, ?_⟩)⟩
      by_cases h2 : us.length = 2
      · have e1 : (!decide ((us.length : Int) = 2)) = false := by rw [decide_eq_true (by omega)]; rfl
        rw [e1]
        refine iteF (tnext ?_)
        obtain ⟨x, y, rfl⟩ : ∃ x y, us = [x, y] := by
          match us, h2 with
          | [x, y], _ => exact ⟨x, y, rfl⟩
        cases rs with
        | cons rx rr =>
        cases rr with
        | cons ry rr =>
        cases rr
        rename_i dx dy
        have shx := (sh _ e).2 dx (by simp)
        have shy := (sh _ e).2 dy (by simp)
        have ix : ∀ (i : Int) (z : V) (H' : Hp) (Q' : VK), Same H H' → atI [x, y] i = some z → Q' z H' → rIx K (.ref b) (.int i) H' Q' := fun i z H' Q' s hz q => by
          rcases (hk H' s).or with h | h
          · exact .inl ⟨_, _, _, _, rfl, rfl, h, hz, q⟩
          · exact .inr (.inl ⟨_, _, _, _, rfl, rfl, h, hz, q⟩)
        have hn' : ∀ H', Same H H' → (SqL K H' a (ns.map V.str) ∨ SqT K H' a (ns.map V.str)) := fun H' s => hn.imp s.seq (Lr.Same.tup s)
        have er : rowD d ns = (match lotD dx ns, lotD dy ns with
          | some r, some w => if w = [] then none else some (r, w)
          | _, _ => none) := by
          unfold rowD
          rw [e]
          all_goals rfl
        refine (⟨_, rfl, ix 0 x _ _ s1 (atI_nat (j := 0) rfl) ⟨_, rfl, dx, x, a, ns, rfl, rx.mono s1, shx, hn' _ s1, fun e0 H2 s2 => ?_, fun yr e0 H2 p1 s2 np1 hp1 => ?_⟩⟩)
        · refine (⟨_, rfl, ix 1 y _ _ (s1.trans s2) (atI_nat (j := 1) rfl) ⟨_, rfl, dy, y, a, ns, rfl, ry.mono (s1.trans s2), shy, hn' _ (s1.trans s2), fun e1 H3 s3 => ?_, fun yw e1 H3 p2 s3 np2 hp2 => ?_⟩⟩)
          · refine ⟨_, rfl, rfl, _, rfl, iteT (iteT (k0 ?_ _ (s1.trans (s2.trans s3))))⟩
            rw [er, e0]
          · refine ⟨_, rfl, rfl, _, rfl, iteT (iteT (k0 ?_ _ (s1.trans (s2.trans s3))))⟩
            rw [er, e0]
        · refine (⟨_, rfl, ix 1 y _ _ (s1.trans s2) (atI_nat (j := 1) rfl) ⟨_, rfl, dy, y, a, ns, rfl, ry.mono (s1.trans s2), shy, hn' _ (s1.trans s2), fun e1 H3 s3 => ?_, fun yw e1 H3 p2 s3 np2 hp2 => ?_⟩⟩)
          · refine ⟨_, rfl, rfl, _, rfl, iteF ⟨_, rfl, false, rfl, iteT (k0 ?_ _ (s1.trans (s2.trans s3)))⟩⟩
            rw [er, e0, e1]
          · have s13 := s1.trans (s2.trans s3)
            have hp1' := s3 _ _ hp1
            by_cases hw : yw = []
            · subst hw
              refine ⟨_, rfl, rfl, _, rfl, iteF ⟨_, rfl, false, .inl ⟨_, SqL.of hp2, rfl⟩, ?_⟩⟩
              refine iteT (k0 ?_ _ s13)
              rw [er, e0, e1]
              rfl
            · refine ⟨_, rfl, rfl, _, rfl, iteF ⟨_, rfl, true, .inl ⟨_, SqL.of hp2, ?_⟩, ?_⟩⟩
              · cases yw with
                | nil => exact absurd rfl hw
                | cons _ _ => rfl
              refine iteF (tnext ?_)
              refine ⟨_, rfl, p1, _, rfl, .inl ⟨SqL.of hp1', fun q nq => ?_⟩⟩
              refine ⟨_, rfl, p2, _, rfl, .inl ⟨SqL.of (same_new nq _ _ hp2), fun t nt => ?_⟩⟩
              refine ⟨by show 2 ≤ sizeLine; decide, fun u nu => ?_⟩
              have sq := same_new (o := .tup (yr.map V.str)) nq
              have st := same_new (o := .tup (yw.map V.str)) nt
              have su := same_new (o := .tup [.ref q, .ref t]) nu
              have nut : u ≠ t := fun z => by
                rw [z, upd_same] at nu
                cases nu
              have nuq : u ≠ q := fun z => by
                have := st _ _ (upd_same (H := H3) (a := q) (o := .tup (yr.map V.str)))
                rw [z, this] at nu
                cases nu
              have nqt : q ≠ t := fun z => by
                rw [← z, upd_same] at nt
                cases nt
              refine k1 yr yw ?_ _ u q t (s13.trans (sq.trans (st.trans su))) ?_ ?_ ?_ nuq nut nqt upd_same (su _ _ (st _ _ upd_same)) (su _ _ upd_same)
              · rw [er, e0, e1]
                simp only
                rw [if_neg hw]
              · exact s13.free (sq.free (st.free nu))
              · exact s13.free nq
              · exact s13.free (sq.free nt)
      · have e1 : (!decide ((us.length : Int) = 2)) = true := by rw [decide_eq_false (by omega)]; rfl
        rw [e1]
        refine iteT (k0 ?_ _ s1)
        unfold rowD
        rw [e]
        match ds, h2, lx with
        | [], _, _ => rfl
        | [_], _, _ => rfl
        | [_, _], h2, lx => exact absurd lx.symm h2
        | _ :: _ :: _ :: _, _, _ => rfl
end
end Lw_names

namespace Lw_log
open PySem PySem.Spec PyProof.Rows L2 Lr
def top (i : Nat) : Stmt := PySem.Challenge.pw_leastredo_k01_logs_hold_their_records.main.body.getD i (.Pass ⟨0, 0, 0, 0⟩)
abbrev s_Log_init : Stmt := inClass (top 12) 0
abbrev N_Log_init : List Str := ["self", "pages", "records", "names", "index", "thing", "row", "number", "name"]
theorem sc_Log_init : FnScope ["self", "pages", "records", "names", "index", "thing", "row", "number", "name"] ["self", "pages", "records"] (defScope s_Log_init) := ⟨rfl, rfl, rfl, by decide +kernel, rfl, by decide +kernel, by decide +kernel⟩
abbrev s_Log_standing : Stmt := inClass (top 12) 1
abbrev N_Log_standing : List Str := ["self", "names", "name"]
theorem sc_Log_standing : FnScope ["self", "names", "name"] ["self", "names"] (defScope s_Log_standing) := ⟨rfl, rfl, rfl, by decide +kernel, rfl, by decide +kernel, by decide +kernel⟩
abbrev s_Log_pages : Stmt := inClass (top 12) 2
abbrev N_Log_pages : List Str := ["self"]
theorem sc_Log_pages : FnScope ["self"] ["self"] (defScope s_Log_pages) := ⟨rfl, rfl, rfl, by decide +kernel, rfl, by decide +kernel, by decide +kernel⟩
abbrev s_Log_records : Stmt := inClass (top 12) 3
abbrev N_Log_records : List Str := ["self"]
theorem sc_Log_records : FnScope ["self"] ["self"] (defScope s_Log_records) := ⟨rfl, rfl, rfl, by decide +kernel, rfl, by decide +kernel, by decide +kernel⟩
abbrev s_Log_size : Stmt := inClass (top 12) 4
abbrev N_Log_size : List Str := ["self"]
theorem sc_Log_size : FnScope ["self"] ["self"] (defScope s_Log_size) := ⟨rfl, rfl, rfl, by decide +kernel, rfl, by decide +kernel, by decide +kernel⟩
structure Txt (K : PySem.W.Frag) (mg : Str → Option Value) (Cl : Addr) : Prop where
  b : Bl mg
  cl_Log : Cls K Cl
  nW : NoAttr K Cl "writers"
  nR : NoAttr K Cl "rows"
  nN : NoAttr K Cl "names"
  nD : NoAttr K Cl "needs"
section
variable {P : Program} {w : World} {K : PySem.W.Frag} {mg : Str → Option Value} {base : Heap} {Cl : Addr}
theorem ok_standing {f : Addr} {fd : FuncData} (T : Txt K mg Cl) (F : Fun K "standing" "Log.standing" s_Log_standing f fd) : FnOk P w K mg base CX0 1 f fd ["self", "names"] (spStanding Cl) := by
  refine F.ok sc_Log_standing (fun vs H Q E h => ?_) (fun cdv A outer s H vs Q E hr h => ?_)
  · obtain ⟨G, C, x, dx, aw, a, fs, kvs, rows, nms, f, rfl, _⟩ := h
    rfl
  · obtain ⟨G, C, x, dx, aw, a, fs, kvs, rows, nms, f, rfl, W, hx, hw, haw, hS, hl, hf, k⟩ := h
    have hu := hu_of hr
    refine ⟨_, (pss_one (ps_ret (pe_callTy (call_tupleA (K := K)) (by rfl) T.b.tuple (by decide +kernel) (pa_cons (pe_lc (own := [("name", 2)]) (g := gName 2) (tt := tYes) rfl sc_Log_standing.nd (pi_seq (K := K) (pv 1)) (blkOk_by (N := N_Log_standing) (sc := defScope s_Log_standing) (by decide +kernel)) (fun _ _ _ _ _ => (pg_name (i := 2) sc_Log_standing.nd rfl (Or.inl rfl))) (fun _ _ _ _ _ => pts_nil) (fun _ _ _ _ _ => (pe_tup (pa_cons (pv 2) (pa_cons (pe_ifExp (xtruth (K := K) (pe_dget hu (xfld (K := K) (pv 0) rfl) (pv 2) (fun _ _ => rfl)) (by intro _; rfl)) (pe_ix (xix (K := K)) (pe_dget hu (xfld (K := K) (pv 0) rfl) (pv 2) (fun _ _ => rfl)) (pe_un un_neg pe_int) (fun _ _ => rfl)) pe_int) pa_nil))))) pa_nil)))), ?_⟩
    obtain ⟨kd, hk⟩ := hS.kind
    refine tret (tcb1 ?_)
    refine lc_seq (xs := nms.map V.str) (k := kd) (fun R r => ⟨_, rfl, r⟩) (hk K H W) fun D nD => ⟨fun i H' => ∃ (G' : Hp) (us : List V), Same G G' ∧ WF G' ((D, .lst us) :: C) H' ∧ Reps G' ((nms.take i).map fun n => PyData.tuple [.str n, .int (ver rows n)]) us, ⟨G, [], Same.refl G, W.new nD, .nil⟩, ?_, ?_, ?_⟩
    · rintro i H' _ ⟨G', us, s, w', _⟩
      exact hk K H' (w'.drop.weak s)
    · rintro i v H' hv ⟨G', us, s, w', rs⟩
      obtain ⟨n, hn, rfl⟩ : ∃ n, nms[i]? = some n ∧ V.str n = v := by
        rw [List.getElem?_map] at hv
        cases e : nms[i]? with
        | none =>
          rw [e] at hv
          cases hv
        | some u =>
          rw [e] at hv
          exact ⟨u, rfl, Option.some.inj hv⟩
      obtain ⟨h1, h2⟩ := hf n (List.mem_of_getElem? hn)
      have li : us.length ≤ 1000 := by
        have := rs.length
        rw [List.length_map, List.length_take] at this
        omega
      have gx : H' x = some (.ins Cl dx fs) := (hx.mono s).cons.at w'
      have gw : H' aw = some (.dK kvs) := (haw.mono s).cons.at w'
      have gf : H' (f n) = some (.lst ((wr rows n).map V.int)) := (h2.mono s).cons.at w'
      have dg : DGet H' aw (.str n) (some (.ref (f n))) := by
        have := DGet.k (k := Sum.inr n) gw
        rw [h1] at this
        exact this
      refine ⟨rfl, ?_⟩
      refine ⟨_, rfl, _, rfl, x, Cl, dx, fs, _, rfl, gx, T.cl_Log, T.nW, hw, _, rfl, aw, _, rfl, dg, ?_⟩
      have fin : ∀ z : Int, z = ver rows n → ∀ p, H' p = none → ∃ acc, upd H' p (.tup [.str n, .int z]) D = some (.lst acc) ∧ acc.length < sizeLine ∧
          ∃ (G2 : Hp) (us2 : List V), Same G G2 ∧ WF G2 ((D, .lst us2) :: C) (upd (upd H' p (.tup [.str n, .int z])) D (.lst (acc ++ [.ref p]))) ∧ Reps G2 ((nms.take (i + 1)).map fun n => PyData.tuple [.str n, .int (ver rows n)]) us2 := by
        intro z ez p np
        have w2 := w'.newG (o := .tup [.str n, .int z]) np
        have sg := w'.leG (o := .tup [.str n, .int z]) np
        refine ⟨us, w2.hd, sz_lt (by omega), _, us ++ [.ref p], s.trans sg, w2.set, ?_⟩
        rw [take_more hn, List.map_append]
        subst ez
        exact (rs.mono sg).app (.cons (.tup upd_same (.cons (.str n) (.cons (.int _) .nil))) .nil)
      by_cases he : wr rows n = []
      · refine ⟨false, .inl ⟨_, SqL.of gf, by rw [he]; rfl⟩, iteF ?_⟩
        refine ⟨by show 2 ≤ sizeLine; decide, fun p np => ?_⟩
        exact fin 0 (by unfold ver; rw [he]; rfl) p np
      · refine ⟨true, .inl ⟨_, SqL.of gf, ?_⟩, iteT ?_⟩
        · cases e : wr rows n with
          | nil => exact absurd e he
          | cons _ _ => rfl
        · obtain ⟨z, hz⟩ : ∃ z, (wr rows n).getLast? = some z := by
            cases e : (wr rows n).getLast? with
            | none => exact absurd (List.getLast?_eq_none_iff.mp e) he
            | some z => exact ⟨z, rfl⟩
          have hz2 : atI ((wr rows n).map V.int) (-1) = some (.int z) := last_atI (by rw [List.getLast?_map, hz]; rfl)
          refine ⟨_, rfl, x, Cl, dx, fs, _, rfl, gx, T.cl_Log, T.nW, hw, _, rfl, aw, _, rfl, dg, ?_⟩
          refine ⟨1, rfl, rIx.lst gf hz2 ?_⟩
          refine ⟨by show 2 ≤ sizeLine; decide, fun p np => ?_⟩
          exact fin z (by unfold ver; rw [hz]; rfl) p np
    · rintro H' ⟨G', us, s, w', rs⟩
      have e : (nms.map V.str).length = nms.length := List.length_map _
      rw [e, List.take_length] at rs
      refine ⟨D, us, rfl, .inl ⟨SqL.of w'.hd, fun p np => ?_⟩⟩
      have w2 := (w'.newG (o := .tup us) np).drop
      have sg := w'.leG (o := .tup us) np
      exact k _ _ _ (s.trans sg) w2 (.tup upd_same (rs.mono sg))
end
end Lw_log

namespace Lw_init
open PySem PySem.Spec PyProof.Rows L2 Lr
def top (i : Nat) : Stmt := PySem.Challenge.pw_leastredo_k01_logs_hold_their_records.main.body.getD i (.Pass ⟨0, 0, 0, 0⟩)
abbrev s_Log_init : Stmt := inClass (top 12) 0
abbrev N_Log_init : List Str := ["self", "pages", "records", "names", "index", "thing", "row", "number", "name"]
theorem sc_Log_init : FnScope ["self", "pages", "records", "names", "index", "thing", "row", "number", "name"] ["self", "pages", "records"] (defScope s_Log_init) := ⟨rfl, rfl, rfl, by decide +kernel, rfl, by decide +kernel, by decide +kernel⟩
structure Txt (K : PySem.W.Frag) (mg : Str → Option Value) (Cl CB fB CR fR : Addr) : Prop where
  b : Bl mg
  cl_Log : Cls K Cl
  nW : NoAttr K Cl "writers"
  nR : NoAttr K Cl "rows"
  nN : NoAttr K Cl "names"
  nD : NoAttr K Cl "needs"
  x_BadPages : PySem.Exthing.Txtthing "BadPages" "BadPages.__init__" K mg CB fB
  x_BadRecords : PySem.Exindex.Txtindex "BadRecords" "BadRecords.__init__" K mg CR fR
section
variable {P : Program} {w : World} {K : PySem.W.Frag} {mg : Str → Option Value} {base : Heap} {Cl CB fB CR fR : Addr}
theorem ok_Log_init {f : Addr} {fd : FuncData} (T : Txt K mg Cl CB fB CR fR) (F : Fun K "__init__" "Log.__init__" s_Log_init f fd) (G_names_of : Okf P w K mg base CX0 2 "names_of" ["thing"] spNamesOf) (G_record_of : Okf P w K mg base CX0 4 "record_of" ["thing", "names"] (spRecordOf K))
    (G_Log_standing : Okm P w K mg base CX0 1 Cl "standing" ["self", "names"] (spStanding Cl)) : FnOk P w K mg base (L2.CX P w) 5 f fd ["self", "pages", "records"] (spLogInit Cl CB CR) := by
  refine F.okX sc_Log_init (fun vs H Q E h => ?_) (fun cdv A outer s H vs Q E hr h => ?_)
  · obtain ⟨G, C, x, dx, dp, dr, vp, vr, rfl, _⟩ := h
    rfl
  · obtain ⟨G, C, x, dx, dp, dr, vp, vr, rfl, W, hp, hd, sp, sr, kP, kR, kL⟩ := h
    have hu := hu_of hr
    refine ⟨_, (pss_cons (ps_set (i := 3) sc_Log_init.nd rfl (Or.inl rfl) (pc G_names_of hr (pa_cons (pv 1) pa_nil)))
    (pss_cons (ps_if (PW.pt (pw_or (pt_cmpR op_isN (pv 3) pe_non (nomark _)) (pw_or1 (pt_not (pt_chain op_le op_le pe_int (pe_callB (call_lenA (K := K)) (by rfl) T.b.len (by decide +kernel) (pa_cons (pv 3) pa_nil)) pe_int)))))
    (pss_one (ps_raiseLow_thing rfl T.x_BadPages hr (takes_of rfl rfl rfl rfl) (pa_cons (pv 1) pa_nil)))
    pss_nil)
    (pss_cons (ps_if (pt_not (pt_val (pe_callB (call_isiA (K := K)) (by rfl) T.b.isinstance (by decide +kernel) (pa_cons (pv 2) (pa_cons (pe_tup (pa_cons (pe_bltn (v := .ty "list") (by rfl) T.b.list (by decide +kernel) rfl) (pa_cons (pe_bltn (v := .ty "tuple") (by rfl) T.b.tuple (by decide +kernel) rfl) pa_nil))) pa_nil)))))
    (pss_one (ps_raiseLow_index rfl T.x_BadRecords hr (takes_of rfl rfl rfl rfl) (pa_cons pe_int pa_nil)))
    pss_nil)
    (pss_cons (ps_fld (pv 0) (pe_callTy (call_tupleA (K := K)) (by rfl) T.b.tuple (by decide +kernel) (pa_cons (pv 3) pa_nil)) rfl)
    (pss_cons (ps_fld (pv 0) (pe_lst pa_nil) rfl)
    (pss_cons (ps_for (passes_of rfl) rfl (pi_enumA (K := K) rfl T.b.enumerate (pa_cons (pv 2) pa_nil)) (xtup (K := K) (n := 2) rfl (pgs_cons (pg_name (i := 4) sc_Log_init.nd rfl (Or.inl rfl)) (pgs_cons (pg_name (i := 5) sc_Log_init.nd rfl (Or.inl rfl)) pgs_nil)))
    (pss_cons (ps_set (i := 6) sc_Log_init.nd rfl (Or.inl rfl) (pc G_record_of hr (pa_cons (pv 5) (pa_cons (pv 3) pa_nil))))
    (pss_cons (ps_if (PW.pt (pw_or (pt_cmpR op_isN (pv 6) pe_non (nomark _)) (pw_or1 (pt_cmpR (op_eqA (K := K) hr.units) (pv 4) pe_int (nomark _)))))
    (pss_one (ps_raiseLow_index rfl T.x_BadRecords hr (takes_of rfl rfl rfl rfl) (pa_cons (pv 4) pa_nil)))
    pss_nil)
    (pss_one (ps_expr (xbm (K := K) PySem.F.plainAttrs_list PySem.F.slot_list_append PySem.F.type_list_append mt_append (xfld (K := K) (pv 0) rfl) (pa_cons (pv 6) pa_nil)))))))
    (pss_cons (ps_fld (pv 0) (pe_dc (own := [("name", 8)]) (g := gName 8) (tt := tYes) rfl sc_Log_init.nd (pi_seq (K := K) (pv 3)) (blkOk_by (N := N_Log_init) (sc := defScope s_Log_init) (by decide +kernel)) (fun _ _ _ _ _ => (pg_name (i := 8) sc_Log_init.nd rfl (Or.inl rfl))) (fun _ _ _ _ _ => pts_nil) (fun _ _ _ _ _ => (pv 8)) (fun _ _ _ _ _ => (pe_lst pa_nil))) rfl)
    (pss_cons (ps_fld (pv 0) (pe_lst pa_nil) rfl)
    (pss_cons (ps_for (passes_of rfl) rfl (pi_enumS (K := K) rfl T.b.enumerate (pa_cons (xfld (K := K) (pv 0) rfl) pa_nil) (pk_cons pe_int pk_nil)) (xtup (K := K) (n := 2) rfl (pgs_cons (pg_name (i := 7) sc_Log_init.nd rfl (Or.inl rfl)) (pgs_cons (pg_name (i := 6) sc_Log_init.nd rfl (Or.inl rfl)) pgs_nil)))
    (pss_cons (ps_expr (xbm (K := K) PySem.F.plainAttrs_list PySem.F.slot_list_append PySem.F.type_list_append mt_append (xfld (K := K) (pv 0) rfl) (pa_cons (pm (pv 0) T.cl_Log G_Log_standing hr (pa_cons (pe_ix (xix (K := K)) (pv 6) pe_int (fun _ _ => rfl)) pa_nil)) pa_nil)))
    (pss_one (ps_for (passes_of rfl) rfl (pi_seq (K := K) (pe_ix (xix (K := K)) (pv 6) pe_int (fun _ _ => rfl))) (pg_name (i := 8) sc_Log_init.nd rfl (Or.inl rfl))
    (pss_one (ps_expr (xbm (K := K) PySem.F.plainAttrs_list PySem.F.slot_list_append PySem.F.type_list_append mt_append (pe_dget hu (xfld (K := K) (pv 0) rfl) (pv 8) (fun _ _ => rfl)) (pa_cons (pv 7) pa_nil))))))))
    (pss_one (ps_expr (xbm (K := K) PySem.F.plainAttrs_list PySem.F.slot_list_append PySem.F.type_list_append mt_append (xfld (K := K) (pv 0) rfl) (pa_cons (pm (pv 0) T.cl_Log G_Log_standing hr (pa_cons (pv 3) pa_nil)) pa_nil))))))))))))), ?_⟩
    have rp := hp.at W.drop
    have rr := hd.at W.drop
    have badP : logD dp dr = .pages → ∀ {G' : Hp} {D : List Cell} {H' : Hp} (d : Addr), Same G G' → WF G' (D ++ C) H' → H' d = none → E (.ref CB) (some d) (upd H' d (.xd [(("thing" : Str), vp)])) := fun e G' D H' d s w hd =>
      kP e _ _ d (s.trans (w.leG hd)) (w.newG hd).dropL upd_same
    have badR : ∀ i : Nat, logD dp dr = .records i → ∀ {G' : Hp} {D : List Cell} {H' : Hp} (d : Addr), Same G G' → WF G' (D ++ C) H' → H' d = none → E (.ref CR) (some d) (upd H' d (.xd [(("index" : Str), .int i)])) := fun i e G' D H' d s w hd =>
      kR i e _ _ d (s.trans (w.leG hd)) (w.newG hd).dropL upd_same
    refine ⟨_, rfl, dp, vp, rfl, rp, sp, fun en H1 s1 => ?_, fun ns en H1 pn s1 np hpn => ?_⟩
    · refine ⟨_, rfl, rfl, _, rfl, iteT (iteT ⟨_, rfl, _, rfl, fun d hd => badP ?_ (D := [_]) d (Same.refl G) (W.same s1) hd⟩)⟩
      unfold logD
      rw [en]
    · have W1 := W.add s1 np hpn
      have g1 : Same G (upd G pn (.lst (ns.map V.str))) := W.leG np
      obtain ⟨G1, eG1⟩ : ∃ G1, G1 = upd G pn (.lst (ns.map V.str)) := ⟨_, rfl⟩
      rw [← eG1] at W1 g1
      have hpG : G1 pn = some (.lst (ns.map V.str)) := by
        rw [eG1]
        exact upd_same
      have eD : logD dp dr = if 1 ≤ ns.length ∧ ns.length ≤ 12 then (match itemsD dr with
          | none => .records 0
          | some ds => match rowsL ns ds 0 [] with
            | .error i => .records i
            | .ok rows => .log ⟨ns, rows⟩) else .pages := by
        unfold logD
        rw [en]
        all_goals rfl
      have bad2 : ¬ (1 ≤ ns.length ∧ ns.length ≤ 12) → logD dp dr = .pages := fun h => by rw [eD, if_neg h]
      refine ⟨_, rfl, rfl, _, rfl, iteF ?_⟩
      refine ⟨_, rfl, rLenA.v (n := ns.length) (.inl ⟨_, SqL.of hpn, by simp⟩) ⟨_, _, rfl, rfl, ⟨_, rfl, ite2 (fun h1 => ⟨_, _, rfl, rfl, ?_⟩) (fun h1 => ?_)⟩⟩⟩
      rotate_left
      · refine ⟨_, rfl, iteT ⟨_, rfl, _, rfl, fun d hd => badP (bad2 fun h => h1 (decide_eq_true (by omega))) (D := [_]) d (Same.refl G) (W.same s1) hd⟩⟩
      have h1' : (1 : Int) ≤ ns.length := of_decide_eq_true h1
      refine ⟨_, rfl, ?_⟩
      by_cases h2 : (ns.length : Int) ≤ 12
      rotate_left
      · rw [decide_eq_false h2]
        refine iteT ⟨_, rfl, _, rfl, fun d hd => badP (bad2 fun h => h2 (by omega)) (D := [_]) d (Same.refl G) (W.same s1) hd⟩
      rw [decide_eq_true h2]
      have hnn : 1 ≤ ns.length ∧ ns.length ≤ 12 := ⟨by omega, by omega⟩
      rw [if_pos hnn] at eD
      refine iteF (tnext ?_)
      obtain ⟨nd, srt, nb⟩ := namesD_ok en
      refine ⟨_, rfl, by show 2 ≤ sizeLine; decide, fun p np => isiT2 upd_same ((rr.mono s1).mono (same_new np)).tyd items_ty ⟨_, rfl, ?_⟩⟩
      have W2 := W1.newG (o := .tup [.ty "list", .ty "tuple"]) np
      have g2 := g1.trans (W1.leG (o := .tup [.ty "list", .ty "tuple"]) np)
      have hpG2 := W1.leG (o := .tup [.ty "list", .ty "tuple"]) np _ _ hpG
      generalize upd G1 p (.tup [.ty "list", .ty "tuple"]) = G2 at W2 g2 hpG2
      generalize upd H1 p (.tup [.ty "list", .ty "tuple"]) = H2 at W2
      cases e : itemsD dr with
      | none =>
        rw [e] at eD
        refine iteT ⟨_, rfl, fun d hd => badR 0 eD (D := [_]) d g2 W2 hd⟩
      | some ds =>
        rw [e] at eD
        obtain ⟨l60, shd⟩ := sr ds e
        obtain ⟨L, hL, rL⟩ := hd
        obtain ⟨kd, a, vs, rfl, rs, hk⟩ := rL.items (K := K) e
        refine iteF (tnext (tseq ?_))
        refine ⟨_, rfl, pn, _, rfl, .inl ⟨SqL.of (W2.getG hpG2), fun an nan => ?_⟩⟩
        have W3 := W2.newG (o := .tup (ns.map V.str)) nan
        refine ⟨_, rfl, x, Cl, dx, [], rfl, W3.hd, T.cl_Log, T.nN, by decide, ?_⟩
        rw [putF1]
        have W4 := W3.set (u := .ins Cl dx ([("names", V.ref an)] : List (Str × V)))
        have g4 := g2.trans (W2.leG (o := .tup (ns.map V.str)) nan)
        have hpG4 := W2.leG (o := .tup (ns.map V.str)) nan _ _ hpG2
        have hanG : (upd G2 an (.tup (ns.map V.str))) an = some (.tup (ns.map V.str)) := upd_same
        generalize upd G2 an (.tup (ns.map V.str)) = G4 at W4 g4 hpG4 hanG
        generalize upd (upd H2 an (.tup (ns.map V.str))) x (.ins Cl dx ([("names", V.ref an)] : List (Str × V))) = H4 at W4
        refine tseq ⟨Nat.zero_le _, fun ar nar => ?_⟩
        have W5 := (W4.new (o := .lst []) nar).swap
        refine ⟨_, rfl, x, Cl, dx, _, rfl, W5.hd, T.cl_Log, T.nR, by show 1 < 1000; decide, ?_⟩
        rw [putF2]
        have W6 := W5.set (u := .ins Cl dx ([("names", V.ref an), ("rows", V.ref ar)] : List (Str × V)))
        generalize upd (upd H4 ar (.lst [])) x (.ins Cl dx ([("names", V.ref an), ("rows", V.ref ar)] : List (Str × V))) = H6 at W6
        refine tseq ?_
        have hk6 : ∀ {G' : Hp} {D : List Cell} {H' : Hp}, Same G G' → WF G' (D ++ C) H' → SqK kd K H' a vs := fun s w => hk _ (sees_same hL (w.dropL.weak s) |>.trans (Same.refl _))
        refine ⟨_, rfl, kd, a, vs, rfl, ?_, for_enumE (xs := vs) (c := 0) (fun i σ H' => ∃ (G' : Hp) (rvs : List V) (acc : List Lr.Row), Same G4 G' ∧ WF G' ((x, .ins Cl dx ([("names", V.ref an), ("rows", V.ref ar)] : List (Str × V))) :: (ar, .lst rvs) :: C) H' ∧ Reps G' (acc.map recD) rvs ∧ acc.length = i ∧ rowsL ns (ds.drop i) i acc = rowsL ns ds 0 [] ∧
          ∃ y1 y2 y3 y4 y5, σ = [some (.ref x), some vp, some (.ref a), some (.ref pn), y1, y2, y3, y4, y5]) ⟨G4, [], [], Same.refl _, W6, .nil, rfl, rfl, _, _, _, _, _, rfl⟩ ?_ ?_ ?_⟩
        · exact hk6 (D := [_, _]) g4 W6
        · rintro i σ H' _ ⟨G', rvs, acc, sg, w, _⟩
          exact hk6 (D := [_, _]) (g4.trans sg) w
        · rintro i v Tq σ H' hx ⟨G', rvs, acc, sg, w, rr', la, eN, y1, y2, y3, y4, y5, rfl⟩ nT
          have hi := (List.getElem?_eq_some_iff.mp hx).1
          have lx := rs.length
          obtain ⟨di, hdi, ri⟩ := rs.get hx
          have edrop : ds.drop i = di :: ds.drop (i + 1) := by
            rw [List.drop_eq_getElem_cons (by omega)]
            rw [(List.getElem?_eq_some_iff.mp hdi).2]
          rw [edrop] at eN
          have w1 := w.newG (o := .tup [.int (0 + ((i : Nat) : Int)), v]) nT
          have sg1 := sg.trans (w.leG (o := .tup [.int (0 + ((i : Nat) : Int)), v]) nT)
          have rr1 := rr'.mono (w.leG (o := .tup [.int (0 + ((i : Nat) : Int)), v]) nT)
          refine ⟨Tq, _, rfl, SqT.of upd_same, rfl, ?_⟩
          generalize upd G' Tq (.tup [.int (0 + ((i : Nat) : Int)), v]) = G7 at w1 sg1 rr1
          generalize upd H' Tq (.tup [.int (0 + ((i : Nat) : Int)), v]) = H7 at w1
          have hpn7 : H7 pn = some (.lst (ns.map V.str)) := w1.getG (sg1 _ _ hpG4)
          refine gc2 ?_
          refine tseq ?_
          refine tasg ?_
          refine (⟨_, rfl, _, rfl, di, v, pn, ns, rfl, ri.mono (sees_same hL ((w1.dropL (A := [_, _])).weak (g4.trans sg1))), shd di (List.mem_of_getElem? hdi), .inl (SqL.of hpn7), fun er H8 s8 => ?_, fun r wq er H8 p8 q8 t8 s8 np8 nq8 nt8 npq npt nqt e1 e2 e3 => ?_⟩)
          · have eb : logD dp dr = .records i := by
              rw [eD]
              show (match rowsL ns ds 0 [] with
                | .error i => LogR.records i
                | .ok rows => .log ⟨ns, rows⟩) = _
              rw [← eN]
              unfold rowsL
              rw [er]
            refine ⟨_, rfl, rfl, _, rfl, iteT (iteT ⟨_, rfl, _, rfl, fun d hd => ?_⟩)⟩
            rw [Int.zero_add]
            exact badR i eb (D := [_, _]) d (g4.trans sg1) (w1.same s8) hd
          · refine ⟨_, rfl, rfl, _, rfl, iteF ⟨_, rfl, rEqA.int ⟨_, rfl, ?_⟩⟩⟩
            by_cases h60 : i = 60
            · have eb : logD dp dr = .records i := by
                rw [eD]
                show (match rowsL ns ds 0 [] with
                  | .error i => LogR.records i
                  | .ok rows => .log ⟨ns, rows⟩) = _
                rw [← eN]
                unfold rowsL
                rw [er]
                simp only [h60, if_true]
              rw [decide_eq_true (by omega)]
              refine iteT ⟨_, rfl, _, rfl, fun d hd => ?_⟩
              rw [Int.zero_add]
              exact badR i eb (D := [_, _]) d (g4.trans sg1) (w1.same s8) hd
            · rw [decide_eq_false (by omega)]
              refine iteF (tnext ?_)
              obtain ⟨G8, w8, s78, f1, f2, f3⟩ := w1.add3 s8 np8 nq8 nt8 npq npt nqt e1 e2 e3
              have har := w8.swap.hd
              have lr := rr1.length
              rw [List.length_map] at lr
              refine ⟨_, rfl, x, Cl, dx, _, _, rfl, w8.hd, T.cl_Log, T.nR, lk_rows _ _ _, .inl ⟨rfl, _, SqL.of har⟩, _, rfl, _, _, _, rfl, rfl, har, sz_lt (by omega), ?_⟩
              refine ⟨G8, rvs ++ [.ref p8], acc ++ [(r, wq)], sg1.trans s78, w8.swap.set.swap, ?_, by rw [List.length_append, la]; rfl, ?_, _, _, _, _, _, rfl⟩
              · rw [List.map_append]
                refine (rr1.mono s78).app (.cons (.tup f1 (.cons (.tup f2 (rep_strs _)) (.cons (.tup f3 (rep_strs _)) .nil))) .nil)
              · rw [← eN]
                conv => rhs; unfold rowsL
                rw [er]
                simp only [h60, if_false]
        · rintro σ H' ⟨G', rvs, rows, sg, w, rr', la, eN, y1, y2, y3, y4, y5, rfl⟩
          have lx := rs.length
          have e0 : ds.drop vs.length = [] := List.drop_eq_nil_of_le (by omega)
          rw [e0] at eN
          have eL : logD dp dr = .log ⟨ns, rows⟩ := by
            rw [eD]
            show (match rowsL ns ds 0 [] with
              | .error i => LogR.records i
              | .ok rows => .log ⟨ns, rows⟩) = _
            rw [← eN]
            rfl
          obtain ⟨rok, rl⟩ := rowsL_ok eN.symm (fun r hr => by cases hr) rfl (by omega)
          have k9 := kL _ eL
          have hpG' := sg _ _ hpG4
          have hanG' := sg _ _ hanG
          have g' := g4.trans sg
          clear eN eL kL kR badR eD e0 kP badP
          clear sg g4
          refine tnx ?_
          refine tseq ?_
          refine tfld ?_
          obtain ⟨fs2, efs2⟩ : ∃ fs2, fs2 = ([("names", V.ref an), ("rows", V.ref ar)] : List (Str × V)) := ⟨_, rfl⟩
          rw [← efs2] at w
          refine dc_seq (xs := ns.map V.str) (k := true) (fun R r => ⟨_, rfl, r⟩) (SqK.lst (w.getG hpG')) fun D nD => ⟨fun j H2 => ∃ nas, nas.map (·.1) = ns.take j ∧ WF G' ((D, .dK (wdict nas)) :: (wcells nas (fun _ => []) ++ (x, .ins Cl dx fs2) :: (ar, .lst rvs) :: C)) H2, ⟨[], rfl, w.new nD⟩, fun j H2 _ ⟨nas, _, w2⟩ => SqK.lst (w2.getG hpG'), ?_, ?_⟩
          · rintro j v H2 hv ⟨nas, en2, w2⟩
            obtain ⟨n, hn, rfl⟩ := map_get hv
            have hj := (List.getElem?_eq_some_iff.mp hn).1
            have ll : nas.length = j := by
              have := congrArg List.length en2
              rw [List.length_map, List.length_take] at this
              omega
            refine ⟨rfl, ?_⟩
            refine ⟨_, rfl, ⟨Nat.zero_le _, fun l nl => ?_⟩⟩
            have nn : n ∉ nas.map (·.1) := fun z => by
              rw [en2] at z
              have nd' : (ns.take (j + 1)).Nodup := nd.sublist (List.take_sublist _ _)
              rw [take_more hn] at nd'
              exact (List.nodup_append.mp nd').2.2 n z n (by simp) rfl
            have w3 := (w2.new (o := .lst []) nl).swap
            refine ⟨_, Sum.inr n, rfl, w3.hd, sz_lt (by unfold wdict; rw [List.length_map]; omega), nas ++ [(n, l)], by rw [List.map_append, en2, take_more hn]; rfl, ?_⟩
            rw [wdict_put nn, wcells_app]
            refine (w3.set).perm (List.Perm.cons _ ?_)
            show ((l, HO.lst []) :: (wcells nas (fun _ => []) ++ _)).Perm ((wcells nas (fun _ => []) ++ [(l, HO.lst [])]) ++ _)
            rw [List.append_assoc]
            exact List.perm_middle.symm
          · rintro H2 ⟨nas, en2, w2⟩
            rw [List.length_map, List.take_length] at en2
            have w3 := w2.perm (List.Perm.symm (List.perm_middle (l₁ := wcells nas (fun _ => []))))
            have w4 := WF.perm (D := wcells nas (fun _ => []) ++ (x, .ins Cl dx fs2) :: (D, .dK (wdict nas)) :: (ar, .lst rvs) :: C) w3 (List.Perm.append_left _ (List.Perm.swap _ _ _))
            clear w2 w3
            refine ⟨_, rfl, x, Cl, dx, fs2, rfl, w4.getApp, T.cl_Log, T.nW, by rw [efs2]; show 2 < 1000; decide, ?_⟩
            rw [efs2, putF3]
            have w5 := w4.setApp (u := .ins Cl dx ([("names", V.ref an), ("rows", V.ref ar), ("writers", V.ref D)] : List (Str × V)))
            generalize upd H2 x (.ins Cl dx ([("names", V.ref an), ("rows", V.ref ar), ("writers", V.ref D)] : List (Str × V))) = H3 at w5
            refine tseq ⟨Nat.zero_le _, fun ad nad => ?_⟩
            have w6 := WF.perm (D := wcells nas (fun _ => []) ++ (x, .ins Cl dx ([("names", V.ref an), ("rows", V.ref ar), ("writers", V.ref D)] : List (Str × V))) :: (ad, .lst []) :: (D, .dK (wdict nas)) :: (ar, .lst rvs) :: C) (w5.newApp (o := .lst []) nad) (List.Perm.append_left _ (List.Perm.swap _ _ _))
            refine ⟨_, rfl, x, Cl, dx, _, rfl, w6.getApp, T.cl_Log, T.nD, by show 3 < 1000; decide, ?_⟩
            rw [putF4]
            have w7 := w6.setApp (u := .ins Cl dx (logF an ar D ad))
            have w8 := WF.perm (D := wcells nas (fun _ => []) ++ (ad, .lst []) :: (x, .ins Cl dx (logF an ar D ad)) :: (D, .dK (wdict nas)) :: (ar, .lst rvs) :: C) w7 (List.Perm.append_left _ (List.Perm.swap _ _ _))
            generalize upd (upd H3 ad (.lst [])) x _ = H4 at w8
            clear w4 w5 w6 w7
            obtain ⟨fA, hfA⟩ := addr_of nas (by rw [en2]; exact nd)
            have eLen : rows.length = rvs.length := by
              have := rr'.length
              rwa [List.length_map] at this
            -- what standing is given
            have give : ∀ (G9 : Hp) (gw : Str → List Int) (Z : List Cell) (H9 : Hp) (sgo : Same G' G9), ∀ (rs0 : List Lr.Row), (∀ n ∈ ns, gw n = wr rs0 n) → ∀ (b : Addr) (nms : List Str), (∀ n ∈ nms, n ∈ ns) → ∀ n ∈ nms, valV (wdict nas) (Sum.inr n : Key) = some (.ref (fA n)) ∧ Sees G9 (wcells nas gw ++ Z) (fA n) (.lst ((wr rs0 n).map V.int)) := by
              intro G9 gw Z H9 _ rs0 hgw b nms hsub n hn
              have hm : n ∈ nas.map (·.1) := by
                rw [en2]
                exact hsub n hn
              obtain ⟨p, hp, rfl⟩ := List.mem_map.mp hm
              refine ⟨?_, .inr (List.mem_append_left _ ?_)⟩
              · rw [hfA p hp]
                exact wdict_get (by rw [en2]; exact nd) hp
              · rw [hfA p hp, ← hgw p.1 (hsub _ hn)]
                exact List.mem_map.mpr ⟨p, hp, rfl⟩
            obtain ⟨fs9, efs9⟩ : ∃ fs9, fs9 = logF an ar D ad := ⟨_, rfl⟩
            have lkN : fs9.lookup ("needs" : Str) = some (.ref ad) := by rw [efs9]; exact lk_needs _ _ _ _ _
            have lkW : fs9.lookup ("writers" : Str) = some (.ref D) := by rw [efs9]; exact lk_writers _ _ _ _
            have lkR : fs9.lookup ("rows" : Str) = some (.ref ar) := by rw [efs9]; exact lk_rows _ _ _
            have lkS : fs9.lookup ("standing" : Str) = none := by
              rw [efs9]
              unfold logF
              rw [look_cons, if_neg (by decide +kernel), look_cons, if_neg (by decide +kernel), look_cons, if_neg (by decide +kernel), look_cons, if_neg (by decide +kernel)]
              rfl
            have n12 : ∀ xs : List Str, xs.Nodup → (∀ n ∈ xs, n ∈ ns) → xs.length ≤ 1000 := fun xs h1 h2 => by
              have := nodup_len h1 h2
              omega
            rw [← efs9] at w8
            obtain ⟨Z, eZ⟩ : ∃ Z : List Cell, Z = (D, .dK (wdict nas)) :: (ar, .lst rvs) :: C := ⟨_, rfl⟩
            have inX : ∀ (gw : Str → List Int) (nvs : List V), (x, HO.ins Cl dx fs9) ∈ wcells nas gw ++ (ad, .lst nvs) :: (x, .ins Cl dx fs9) :: Z := fun gw nvs => List.mem_append_right _ (List.mem_cons_of_mem _ List.mem_cons_self)
            have inD : ∀ (gw : Str → List Int) (nvs : List V), (D, HO.dK (wdict nas)) ∈ wcells nas gw ++ (ad, .lst nvs) :: (x, .ins Cl dx fs9) :: Z := fun gw nvs => by
              rw [eZ]
              exact List.mem_append_right _ (List.mem_cons_of_mem _ (List.mem_cons_of_mem _ List.mem_cons_self))
            have inR : ∀ (gw : Str → List Int) (nvs : List V), (ar, HO.lst rvs) ∈ wcells nas gw ++ (ad, .lst nvs) :: (x, .ins Cl dx fs9) :: Z := fun gw nvs => by
              rw [eZ]
              exact List.mem_append_right _ (List.mem_cons_of_mem _ (List.mem_cons_of_mem _ (List.mem_cons_of_mem _ List.mem_cons_self)))
            rw [← eZ] at w8
            refine tseq ?_
            refine ⟨_, rfl, x, Cl, dx, fs9, _, rfl, w8.get (inX _ _), T.cl_Log, T.nR, lkR, true, ar, rvs, 1, rfl, rfl, by decide, by decide, SqK.lst (w8.get (inR _ _)), for_enumE (xs := rvs) (c := 1) (fun i σ H' => ∃ (G9 : Hp) (nvs : List V), Same G' G9 ∧ WF G9 (wcells nas (wr (rows.take i)) ++ (ad, .lst nvs) :: (x, .ins Cl dx fs9) :: Z) H' ∧ Reps G9 ((List.range i).map fun k => needD (rows.take k) ((rows[k]?).getD ([], [])).1) nvs ∧
              ∃ y1 y2 y3 y4 y5, σ = [some (.ref x), some vp, some (.ref a), some (.ref pn), y1, y2, y3, y4, y5]) ⟨G', [], Same.refl _, ?_, .nil, _, _, _, _, _, rfl⟩ ?_ ?_ ?_⟩
            · rw [wcells_congr (g' := fun _ => []) (fun p _ => rfl)]
              exact w8
            · rintro i σ H' _ ⟨G9, nvs, _, w, _⟩
              exact SqK.lst (w.get (inR _ _))
            · rintro i v Tq σ H5 hx ⟨G9, nvs, sg, w, rn, z1, z2, z3, z4, z5, rfl⟩ nT
              have hi := (List.getElem?_eq_some_iff.mp hx).1
              obtain ⟨r, hrr, ri⟩ := recs_get (rr'.mono sg) hx
              obtain ⟨b, q, t, rfl, gb, gq, gt⟩ := rec_at ri
              obtain ⟨o1, o2, o3, o4, o5, _, _⟩ := rok r (List.mem_of_getElem? hrr)
              have w1 := w.newG (o := .tup [.int (1 + ((i : Nat) : Int)), .ref b]) nT
              have sn := w.leG (o := .tup [.int (1 + ((i : Nat) : Int)), .ref b]) nT
              have sg1 := sg.trans sn
              have rn1 := rn.mono sn
              have gb1 := sn _ _ gb
              have gq1 := sn _ _ gq
              have gt1 := sn _ _ gt
              refine ⟨Tq, _, rfl, SqT.of upd_same, rfl, ?_⟩
              generalize upd G9 Tq (.tup [.int (1 + ((i : Nat) : Int)), .ref b]) = G7 at w1 sg1 rn1 gb1 gq1 gt1
              generalize upd H5 Tq (.tup [.int (1 + ((i : Nat) : Int)), .ref b]) = H7 at w1
              clear gb gq gt sn w rn sg
              refine gc2 ?_
              refine tseq ?_
              have ln := rn1.length
              rw [List.length_map, List.length_range] at ln
              refine ⟨_, rfl, x, Cl, dx, fs9, _, rfl, w1.get (inX _ _), T.cl_Log, T.nD, lkN, .inl ⟨rfl, _, SqL.of w1.getApp⟩, ?_⟩
              refine ⟨_, rfl, x, dx, fs9, rfl, w1.get (inX _ _), lkS, _, rfl, rIx.tup (w1.getG gb1) (atI_nat (j := 0) rfl) ?_⟩
              refine ⟨G7, _, x, dx, D, q, fs9, wdict nas, rows.take i, r.1, fA, rfl, w1, .inr (inX _ _), lkW, .inr (inD _ _), .inr (.inl gq1), n12 _ o4 o2, give G7 _ _ H7 sg1 _ (fun n _ => rfl) q r.1 o2, fun G8 H8 v s8 w8 rep => ?_⟩
              refine ⟨_, _, _, rfl, rfl, w8.getApp, sz_lt (by omega), ?_⟩
              have w9 := w8.setApp (u := .lst (nvs ++ [v]))
              generalize upd H8 ad (.lst (nvs ++ [v])) = H9 at w9
              refine for_seq (xs := r.2.map V.str) (k := false) (fun R r => ⟨_, rfl, rIx.tup (w9.getG (s8 _ _ gb1)) (atI_nat (j := 1) rfl) r⟩) (SqK.tup (w9.getG (s8 _ _ gt1))) (fun j σ H' => WF G8 (wcells nas (wrJ (rows.take i) (r.2.take j)) ++ (ad, .lst (nvs ++ [v])) :: (x, .ins Cl dx fs9) :: Z) H' ∧
                ∃ y1 y2 y5, σ = [some (.ref x), some vp, some (.ref a), some (.ref pn), y1, y2, some (.ref b), some (.int (1 + ((i : Nat) : Int))), y5]) ⟨?_, _, _, _, rfl⟩ (fun j σ H' _ p => SqK.tup (p.1.getG (s8 _ _ gt1))) ?_ ?_
              · rw [wcells_congr (g' := wr (rows.take i)) (fun p _ => by unfold wrJ; simp)]
                exact w9
              · rintro j v2 σ H' hv ⟨w, u1, u2, u5, rfl⟩
                obtain ⟨n, hn, rfl⟩ := map_get hv
                have hm : n ∈ nas.map (·.1) := by
                  rw [en2]
                  exact o3 n (List.mem_of_getElem? hn)
                obtain ⟨p, hp, rfl⟩ := List.mem_map.mp hm
                have dg : DGet H' D (.str p.1) (some (.ref p.2)) := by
                  have := DGet.k (k := Sum.inr p.1) (w.get (inD _ _))
                  rw [wdict_get (by rw [en2]; exact nd) hp] at this
                  exact this
                obtain ⟨A1, B1, c1, c2⟩ := wcells_split hp (by rw [en2]; exact nd) (wrJ (rows.take i) (r.2.take j)) (wrJ (rows.take i) (r.2.take j) p.1 ++ [1 + ((i : Nat) : Int)])
                have wx := w.get (inX _ _)
                rw [c1, List.append_assoc] at w
                have lw := wrJ_len (rows.take i) (r.2.take j) p.1
                rw [List.length_take] at lw
                refine ⟨_, rfl, x, Cl, dx, fs9, _, rfl, wx, T.cl_Log, T.nW, lkW, _, rfl, D, _, rfl, dg, .inl ⟨rfl, _, SqL.of w.getApp⟩, _, rfl, ?_⟩
                refine ⟨_, _, _, rfl, rfl, w.getApp, sz_lt (by rw [List.length_map]; omega), ?_, _, _, _, rfl⟩
                have w2 := w.setApp (u := .lst ((wrJ (rows.take i) (r.2.take j) p.1 ++ [1 + ((i : Nat) : Int)]).map V.int))
                rw [List.map_append] at w2
                have c3 : wcells nas (wrJ (rows.take i) (r.2.take (j + 1))) = A1 ++ (p.2, HO.lst ((wrJ (rows.take i) (r.2.take j) p.1 ++ [1 + ((i : Nat) : Int)]).map V.int)) :: B1 := by
                  rw [← c2]
                  refine wcells_congr fun p' _ => ?_
                  rw [wrJ_step hn o5]
                  have : (((rows.take i).length : Nat) : Int) + 1 = 1 + ((i : Nat) : Int) := by
                    rw [List.length_take]
                    omega
                  rw [this]
                rw [c3, List.append_assoc, List.map_append]
                exact w2
              · rintro σ H' ⟨w, u1, u2, u5, rfl⟩
                rw [List.length_map, List.take_length, wcells_congr (g' := wr (rows.take (i + 1))) (fun p _ => by rw [take_more hrr]; exact wrJ_all)] at w
                refine ⟨G8, nvs ++ [v], sg1.trans s8, w, ?_, _, _, _, _, _, rfl⟩
                rw [List.range_succ, List.map_append]
                refine (rn1.mono s8).app (.cons ?_ .nil)
                show Rep G8 (needD (rows.take i) ((rows[i]?).getD ([], [])).1) v
                rw [hrr]
                exact rep
            · rintro σ H5 ⟨G9, nvs, sg, w, rn, z1, z2, z3, z4, z5, rfl⟩
              refine tnx ?_
              have ln := rn.length
              rw [List.length_map, List.length_range] at ln
              rw [← eLen, List.take_length] at w
              refine ⟨_, rfl, x, Cl, dx, fs9, _, rfl, w.get (inX _ _), T.cl_Log, T.nD, lkN, .inl ⟨rfl, _, SqL.of w.getApp⟩, ?_⟩
              refine ⟨_, rfl, x, dx, fs9, rfl, w.get (inX _ _), lkS, _, rfl, ?_⟩
              refine ⟨G9, _, x, dx, D, pn, fs9, wdict nas, rows, ns, fA, rfl, w, .inr (inX _ _), lkW, .inr (inD _ _), .inl (.inl (sg _ _ hpG')), n12 _ nd (fun n h => h), give G9 _ _ H5 sg _ (fun n _ => rfl) pn ns (fun n h => h), fun G8 H8 v s8 w8 rep => ?_⟩
              refine ⟨_, _, _, rfl, rfl, w8.getApp, sz_lt (by omega), ?_⟩
              have w9 := w8.setApp (u := .lst (nvs ++ [v]))
              generalize upd H8 ad (.lst (nvs ++ [v])) = H9 at w9
              rw [eZ] at w9
              have w10 : WF G8 ((wcells nas (wr rows) ++ [(ad, .lst (nvs ++ [v])), (x, .ins Cl dx fs9), (D, .dK (wdict nas)), (ar, .lst rvs)]) ++ C) H9 := by
                rw [List.append_assoc]
                exact w9
              obtain ⟨G3, w11, s3, hall⟩ := w10.frzAll
              have s83 := s8.trans s3
              refine k9 G3 H9 (g'.trans (sg.trans s83)) w11 ⟨⟨dx, an, ar, D, ad, rvs, nvs ++ [v], fA, ?_, s83 _ _ (sg _ _ hanG'), hall (ar, _) (List.mem_append_right _ (by simp)), rr'.mono (sg.trans s83), ?_, fun n hn => ?_, hall (ad, _) (List.mem_append_right _ (by simp)), ?_⟩, hnn, nd, srt, nb, rl, rok⟩
              · rw [← efs9]
                exact hall (x, _) (List.mem_append_right _ (by simp))
              · have e9 : wdict nas = ns.map fun n => (Sum.inr n, V.ref (fA n)) := by
                  rw [← en2, List.map_map]
                  unfold wdict
                  refine List.map_congr_left fun p hp => ?_
                  show _ = (Sum.inr p.1, V.ref (fA p.1))
                  rw [hfA p hp]
                show G3 D = some (.dK (ns.map fun n => (Sum.inr n, V.ref (fA n))))
                rw [← e9]
                exact hall (D, _) (List.mem_append_right _ (by simp))
              · have hm : n ∈ nas.map (·.1) := by
                  rw [en2]
                  exact hn
                obtain ⟨p, hp, rfl⟩ := List.mem_map.mp hm
                rw [hfA p hp]
                exact hall (p.2, _) (List.mem_append_left _ (List.mem_map.mpr ⟨p, hp, rfl⟩))
              · unfold LogM.needs
                refine ((rn.mono s83).app (.cons (rep.mono s3) .nil) : Reps G3 (_ ++ [needD rows ns]) _) |> fun h => ?_
                rw [← eLen] at h
                exact h
end
end Lw_init

namespace Lw_meth
open PySem PySem.Spec PyProof.Rows L2 Lr
def top (i : Nat) : Stmt := PySem.Challenge.pw_leastredo_k01_logs_hold_their_records.main.body.getD i (.Pass ⟨0, 0, 0, 0⟩)
abbrev s_Log_pages : Stmt := inClass (top 12) 2
abbrev N_Log_pages : List Str := ["self"]
theorem sc_Log_pages : FnScope ["self"] ["self"] (defScope s_Log_pages) := ⟨rfl, rfl, rfl, by decide +kernel, rfl, by decide +kernel, by decide +kernel⟩
abbrev s_Log_records : Stmt := inClass (top 12) 3
abbrev N_Log_records : List Str := ["self"]
theorem sc_Log_records : FnScope ["self"] ["self"] (defScope s_Log_records) := ⟨rfl, rfl, rfl, by decide +kernel, rfl, by decide +kernel, by decide +kernel⟩
abbrev s_Log_size : Stmt := inClass (top 12) 4
abbrev N_Log_size : List Str := ["self"]
theorem sc_Log_size : FnScope ["self"] ["self"] (defScope s_Log_size) := ⟨rfl, rfl, rfl, by decide +kernel, rfl, by decide +kernel, by decide +kernel⟩
abbrev s_start : Stmt := top 14
abbrev N_start : List Str := ["script"]
theorem sc_start : FnScope ["script"] ["script"] (defScope s_start) := ⟨rfl, rfl, rfl, by decide +kernel, rfl, by decide +kernel, by decide +kernel⟩
structure Txt (K : PySem.W.Frag) (mg : Str → Option Value) (Cl : Addr) : Prop where
  b : Bl mg
  cl_Log : Cls K Cl
  nR : NoAttr K Cl "rows"
  nN : NoAttr K Cl "names"
section
variable {P : Program} {w : World} {K : PySem.W.Frag} {mg : Str → Option Value} {base : Heap} {Cl : Addr}
theorem ok_Log_pages {f : Addr} {fd : FuncData} (T : Txt K mg Cl) (F : Fun K "pages" "Log.pages" s_Log_pages f fd) : FnOk P w K mg base CX0 1 f fd ["self"] (spPages Cl) := by
  refine F.ok sc_Log_pages (fun vs H Q E h => ?_) (fun cdv A outer s H vs Q E hr h => ?_)
  · obtain ⟨G, x, L, rfl, _⟩ := h
    rfl
  · obtain ⟨G, x, L, rfl, A, s, k⟩ := h
    refine ⟨_, (pss_one (ps_ret (pe_callTy (call_listA (K := K) rfl) (by rfl) T.b.list (by decide +kernel) (pa_cons (xfld (K := K) (pv 0) rfl) pa_nil)))), ?_⟩
    obtain ⟨dx, an, ar, aw, ad, rvs, nvs, fa, h1, h2, h3, h4, h5, h6, h7, h8⟩ := A.ex
    refine ⟨_, rfl, x, Cl, dx, _, _, rfl, s _ _ h1, T.cl_Log, T.nN, lk_names _ _, rListA.sq (.inr (SqT.of (s _ _ h2))) fun l nl => k l nl⟩
theorem ok_Log_records {f : Addr} {fd : FuncData} (T : Txt K mg Cl) (F : Fun K "records" "Log.records" s_Log_records f fd) : FnOk P w K mg base CX0 1 f fd ["self"] (spRecords Cl) := by
  refine F.ok sc_Log_records (fun vs H Q E h => ?_) (fun cdv A outer s H vs Q E hr h => ?_)
  · obtain ⟨G, x, L, rfl, _⟩ := h
    rfl
  · obtain ⟨G, x, L, rfl, A, s, k⟩ := h
    refine ⟨_, (pss_one (ps_ret (pe_callTy (call_listA (K := K) rfl) (by rfl) T.b.list (by decide +kernel) (pa_cons (xfld (K := K) (pv 0) rfl) pa_nil)))), ?_⟩
    obtain ⟨dx, an, ar, aw, ad, rvs, nvs, fa, h1, h2, h3, h4, h5, h6, h7, h8⟩ := A.ex
    refine ⟨_, rfl, x, Cl, dx, _, _, rfl, s _ _ h1, T.cl_Log, T.nR, lk_rows _ _ _, rListA.sq (.inl (SqL.of (s _ _ h3))) fun l nl => k l _ nl h4⟩
theorem ok_Log_size {f : Addr} {fd : FuncData} (T : Txt K mg Cl) (F : Fun K "size" "Log.size" s_Log_size f fd) : FnOk P w K mg base CX0 1 f fd ["self"] (spSize Cl) := by
  refine F.ok sc_Log_size (fun vs H Q E h => ?_) (fun cdv A outer s H vs Q E hr h => ?_)
  · obtain ⟨G, x, L, rfl, _⟩ := h
    rfl
  · obtain ⟨G, x, L, rfl, A, s, k⟩ := h
    refine ⟨_, (pss_one (ps_ret (pe_callB (call_lenA (K := K)) (by rfl) T.b.len (by decide +kernel) (pa_cons (xfld (K := K) (pv 0) rfl) pa_nil)))), ?_⟩
    obtain ⟨dx, an, ar, aw, ad, rvs, nvs, fa, h1, h2, h3, h4, h5, h6, h7, h8⟩ := A.ex
    have e := h4.length
    rw [List.length_map] at e
    rw [e] at k
    exact ⟨_, rfl, x, Cl, dx, _, _, rfl, s _ _ h1, T.cl_Log, T.nR, lk_rows _ _ _, rLenA.v (.inl ⟨_, SqL.of (s _ _ h3), rfl⟩) k⟩
theorem ok_start (T : Txt K mg Cl) (F : FD K mg "_law_start" s_start ["script"]) : Okf P w K mg base CX0 1 "_law_start" ["script"] (spStart K) := by
  refine F.ok sc_start (fun vs H Q E h => ?_) (fun f cdv A outer s H vs Q E hr h => ?_)
  · obtain ⟨G, C, a, l, rfl, _⟩ := h
    rfl
  · obtain ⟨G, C, a, l, rfl, W, S, k⟩ := h
    refine ⟨_, (pss_one (ps_ret (pe_lst (pa_cons (pe_callTy (call_listA (K := K) rfl) (by rfl) T.b.list (by decide +kernel) (pa_cons (pv 0) pa_nil)) (pa_cons pe_int (pa_cons pe_int (pa_cons pe_int pa_nil))))))), ?_⟩
    refine ⟨_, rfl, rListA.sq (.inl S) fun cs ncs => ⟨by show 4 ≤ sizeLine; decide, fun st nst => ?_⟩⟩
    refine k st cs _ ⟨l, 0, 0, 43, ?_, by decide, by decide, by decide, by decide, by decide⟩
    exact (W.new ncs).new nst
end
end Lw_meth

namespace Lw_name
open PySem PySem.Spec PyProof.Rows L2 Lr
def top (i : Nat) : Stmt := PySem.Challenge.pw_leastredo_k01_logs_hold_their_records.main.body.getD i (.Pass ⟨0, 0, 0, 0⟩)
abbrev s_name : Stmt := top 25
abbrev N_name : List Str := ["stream", "signs", "name", "turn"]
theorem sc_name : FnScope ["stream", "signs", "name", "turn"] ["stream"] (defScope s_name) := ⟨rfl, rfl, rfl, by decide +kernel, rfl, by decide +kernel, by decide +kernel⟩
abbrev s_names : Stmt := top 26
abbrev N_names : List Str := ["stream", "many", "found", "turn", "free", "k", "name"]
theorem sc_names : FnScope ["stream", "many", "found", "turn", "free", "k", "name"] ["stream", "many"] (defScope s_names) := ⟨rfl, rfl, rfl, by decide +kernel, rfl, by decide +kernel, by decide +kernel⟩
structure Txt (mg : Str → Option Value) : Prop where
  b : Bl mg
abbrev k_signs : Str := "abcdefghijklmnopqrstuvwxyz0123456789"
theorem signs_low (d : Nat) (h : d < 26) : ∃ c, k_signs.cps.toList[d]? = some c ∧ low c = true := by
  have e : ∀ d : Fin 26, (match k_signs.cps.toList[d.val]? with | some c => low c | none => false) = true := by decide +kernel
  have := e ⟨d, h⟩
  simp only at this
  split at this
  · rename_i c q
    exact ⟨c, q, this⟩
  · cases this
theorem signs_all (d : Nat) (h : d < 36) : ∃ c, k_signs.cps.toList[d]? = some c ∧ (low c || fig c) = true := by
  have e : ∀ d : Fin 36, (match k_signs.cps.toList[d.val]? with | some c => low c || fig c | none => false) = true := by decide +kernel
  have := e ⟨d, h⟩
  simp only at this
  split at this
  · rename_i c q
    exact ⟨c, q, this⟩
  · cases this
section
variable {P : Program} {w : World} {K : PySem.W.Frag} {mg : Str → Option Value} {base : Heap}
theorem ok_name (T : Txt mg) (F : FD K mg "_law_name" s_name ["stream"]) (G_below : Okf P w K mg base CX0 1 "_law_below" ["stream", "many"] spBelow) (G_pick : Okf P w K mg base CX0 2 "_law_pick" ["stream", "some"] spPick) : Okf P w K mg base CX0 3 "_law_name" ["stream"] spName := by
  refine F.ok sc_name (fun vs H Q E h => ?_) (fun f cdv A outer s H vs Q E hr h => ?_)
  · obtain ⟨G, st, cs, n, C, rfl, _⟩ := h
    rfl
  · obtain ⟨G, st, cs, n, C, rfl, n40, W, k⟩ := h
    refine ⟨_, (pss_cons (ps_set (i := 1) sc_name.nd rfl (Or.inl rfl) pe_str)
    (pss_cons (ps_set (i := 2) sc_name.nd rfl (Or.inl rfl) (pe_ix (xix (K := K)) (pv 1) (pc G_below hr (pa_cons (pv 0) (pa_cons pe_int pa_nil))) (fun _ _ => rfl)))
    (pss_cons (ps_for PassesOwn.never rfl (pi_range1 rfl T.b.range (pa_cons (pc G_pick hr (pa_cons (pv 0) (pa_cons (pe_lst (pa_cons pe_int (pa_cons pe_int (pa_cons pe_int (pa_cons pe_int (pa_cons pe_int (pa_cons pe_int (pa_cons pe_int (pa_cons pe_int (pa_cons pe_int (pa_cons pe_int pa_nil))))))))))) pa_nil))) pa_nil)) (pg_name (i := 3) sc_name.nd rfl (Or.inl rfl))
    (pss_one (ps_set (i := 2) sc_name.nd rfl (Or.inl rfl) (pe_op (op_addA (K := K)) (pv 2) (pe_ix (xix (K := K)) (pv 1) (pc G_below hr (pa_cons (pv 0) (pa_cons pe_int pa_nil))) (fun _ _ => rfl))))))
    (pss_one (ps_ret (pv 2)))))), ?_⟩
    refine tseq (tseq ?_)
    refine ⟨_, rfl, _, rfl, G, st, cs, n, C, 26, rfl, by decide, by decide, by omega, W, fun d H1 hd W1 => ?_⟩
    obtain ⟨c, hc, lc⟩ := signs_low d (by omega)
    refine rIx.str (by decide +kernel) (atI_nat hc) ?_
    refine tnx (tseq ?_)
    refine ⟨_, rfl, by show 10 ≤ sizeLine; decide, fun p np => ?_⟩
    have W2 := W1.newG (o := .lst [.int 0, .int 0, .int 1, .int 1, .int 2, .int 3, .int 4, .int 5, .int 6, .int 7]) np
    have gp : (upd G p (.lst [.int 0, .int 0, .int 1, .int 1, .int 2, .int 3, .int 4, .int 5, .int 6, .int 7])) p = _ := upd_same
    refine ⟨_, st, cs, _, C, p, _, rfl, by decide, by decide, by omega, W2, .gl gp, fun i v H3 hv W3 => ?_⟩
    have hz : ∃ z : Nat, z ≤ 7 ∧ v = .int z := by
      have hm := List.mem_of_getElem? hv
      simp only [List.mem_cons, List.not_mem_nil, or_false] at hm
      rcases hm with rfl | rfl | rfl | rfl | rfl | rfl | rfl | rfl | rfl | rfl
      · exact ⟨0, by decide, rfl⟩
      · exact ⟨0, by decide, rfl⟩
      · exact ⟨1, by decide, rfl⟩
      · exact ⟨1, by decide, rfl⟩
      · exact ⟨2, by decide, rfl⟩
      · exact ⟨3, by decide, rfl⟩
      · exact ⟨4, by decide, rfl⟩
      · exact ⟨5, by decide, rfl⟩
      · exact ⟨6, by decide, rfl⟩
      · exact ⟨7, by decide, rfl⟩
    obtain ⟨z, hz, rfl⟩ := hz
    have sg := W1.leG (o := .lst [.int 0, .int 0, .int 1, .int 1, .int 2, .int 3, .int 4, .int 5, .int 6, .int 7]) np
    have W4 : SW G st cs (n + 1 + 1) C H3 := SW.weak W3 sg
    refine ⟨z, rfl, by omega, by omega, for_range (n := ((z : Nat) : Int).toNat) (fun i σ H' => ∃ s y, σ = [some (.ref st), some (.str k_signs), some (.str s), y] ∧ nameP s ∧ s.length = i + 1 ∧ SW G st cs (n + 2 + i) C H') ⟨⟨#[c]⟩, _, rfl, ⟨?_, c, [], rfl, lc⟩, rfl, W4⟩ ?_ ?_⟩
    · unfold sgns
      simp [lc]
    · rintro i σ H4 hi ⟨s, y, rfl, hp, hl, W5⟩
      have hi' : i < z := by omega
      refine ⟨_, rfl, _, rfl, _, rfl, G, st, cs, _, C, 36, rfl, by decide, by decide, by omega, W5, fun d H5 hd W6 => ?_⟩
      obtain ⟨c2, hc2, lc2⟩ := signs_all d (by omega)
      refine rIx.str (by decide +kernel) (atI_nat hc2) ?_
      refine rAddA.str (by rw [one_len]; omega) ?_
      refine ⟨_, _, rfl, hp.app (by unfold sgns; simpa using lc2), by rw [len_app, one_len]; omega, W6⟩
    · rintro σ H4 ⟨s, y, rfl, hp, hl, W5⟩
      refine ⟨_, rfl, k s _ (hp.name (by omega)) (W5.mono (by omega))⟩
theorem ok_names (T : Txt mg) (F : FD K mg "_law_names" s_names ["stream", "many"]) (G_name : Okf P w K mg base CX0 3 "_law_name" ["stream"] spName) : Okf P w K mg base CX0 4 "_law_names" ["stream", "many"] spNames := by
  refine F.ok sc_names (fun vs H Q E h => ?_) (fun f cdv A outer s H vs Q E hr h => ?_)
  · obtain ⟨G, st, cs, n, C, m, rfl, _⟩ := h
    rfl
  · obtain ⟨G, st, cs, n, C, m, rfl, hm, n40, W, k⟩ := h
    refine ⟨_, (pss_cons (ps_set (i := 2) sc_names.nd rfl (Or.inr rfl) (pe_lst pa_nil))
    (pss_cons (ps_for PassesOwn.never rfl (pi_range1 rfl T.b.range (pa_cons (pv 1) pa_nil)) (pg_name (i := 3) sc_names.nd rfl (Or.inl rfl))
    (pss_cons (ps_set (i := 4) sc_names.nd rfl (Or.inl rfl) (pe_op (op_addA (K := K)) (pe_lst (pa_cons (pc G_name hr (pa_cons (pv 0) pa_nil)) pa_nil)) (pe_lc (own := [("k", 5)]) (g := gName 5) (tt := tYes) rfl sc_names.nd (pi_range1 rfl T.b.range (pa_cons pe_int pa_nil)) (blkOk_by (N := N_names) (sc := defScope s_names) (by decide +kernel)) (fun _ _ _ _ _ => (pg_name (i := 5) sc_names.nd rfl (Or.inl rfl))) (fun _ _ _ _ _ => pts_nil) (fun _ _ _ _ _ => (pe_op (op_addA (K := K)) pe_str (pe_callTy call_str_int (by rfl) T.b.str (by decide +kernel) (pa_cons (pv 5) pa_nil)))))))
    (pss_one (ps_expr (xbm (K := K) PySem.F.plainAttrs_list PySem.F.slot_list_append PySem.F.type_list_append mt_append (pv 2) (pa_cons (pe_ix (xix (K := K)) (pe_lc (own := [("name", 6)]) (g := gName 6) rfl sc_names.nd (pi_seq (K := K) (pv 4)) (blkOk_by (N := N_names) (sc := defScope s_names) (by decide +kernel)) (fun _ _ _ _ _ => (pg_name (i := 6) sc_names.nd rfl (Or.inl rfl))) (fun _ _ _ _ _ => (pts_one (pt_cmpR (op_notInA (K := K)) (pv 6) (pv 2) (by rfl)))) (fun _ _ _ _ _ => (pv 6))) pe_int (fun _ _ => rfl)) pa_nil))))))
    (pss_one (ps_ret (pe_callB (cr_sortedA (K := K)) (by rfl) T.b.sorted (by decide +kernel) (pa_cons (pv 2) pa_nil)))))), ?_⟩
    refine tseq ⟨Nat.zero_le _, fun l nl => ?_⟩
    have W1 := W.new (o := .lst []) nl
    refine tnx (tseq ?_)
    refine ⟨_, rfl, m, rfl, by omega, by omega, for_range (n := ((m : Nat) : Int).toNat) (fun i σ H' => ∃ (xs : List Str) (y1 y2 : Option V), σ = [some (.ref st), some (.int m), some (.ref l), y1, y2, none, none] ∧ xs.length = i ∧ xs.Nodup ∧ (∀ s ∈ xs, nameB s = true) ∧ SW G st cs (n + 9 * i) ((l, .lst (xs.map V.str)) :: C) H') ⟨[], _, _, rfl, rfl, List.nodup_nil, (fun s hs => by cases hs), W1⟩ ?_ ?_⟩
    · rintro i σ H2 hi ⟨xs, y1, y2, rfl, hl, nd, nb, W2⟩
      have hi' : i < m := by omega
      refine tseq ?_
      refine tasg ?_
      refine (⟨_, rfl, G, st, cs, _, _, rfl, by omega, W2, fun s H3 hs W3 => ⟨by show 1 ≤ sizeLine; decide, fun p np => ?_⟩⟩)
      have W4 := W3.newG (o := .lst [.str s]) np
      have sg4 := W3.leG (o := .lst [.str s]) np
      have gp : (upd G p (.lst [.str s])) p = some (.lst [.str s]) := upd_same
      generalize upd G p (.lst [.str s]) = G4 at W4 sg4 gp
      generalize upd H3 p (.lst [.str s]) = H4 at W4
      refine ⟨_, rfl, by decide, by decide, fun D nD => ?_⟩
      refine lc_range (n := (13 : Int).toNat) (fun j H' => SW G4 st cs (n + 9 * i + 9) ((D, .lst (((List.range j).map vk).map V.str)) :: (l, .lst (xs.map V.str)) :: C) H') (W4.new nD) ?_ ?_
      · rintro j H5 hj W5
        have hj' : j < 13 := hj
        refine ⟨rfl, _, rfl, _, rfl, (by
          have : ((0 : Int) + (j : Nat)).natAbs = j := by omega
          rw [this]
          exact Nat.lt_of_le_of_lt (Nat.log2_le_self j) (by omega)), rAddA.str ?_ ?_⟩
        · rw [Int.zero_add]
          exact vk_len j hj'
        · refine ⟨_, W5.hd, sz_lt (by simp; omega), ?_⟩
          have e : (((List.range (j + 1)).map vk).map V.str) = ((List.range j).map vk).map V.str ++ [.str (("v" : Str) ++ Str.ofString (toString ((0 : Int) + (j : Nat))))] := by
            rw [List.range_succ, List.map_append, List.map_append, Int.zero_add]
            rfl
          rw [e]
          exact W5.set
      · rintro H5 W5
        refine rAddA.lst (xs := [.str s]) (ys := ((List.range 13).map vk).map V.str) (W5.getG gp) W5.hd (by simp) fun q nq => ?_
        have W6 := W5.newG (o := .lst ([.str s] ++ ((List.range 13).map vk).map V.str)) nq
        have sg6 := sg4.trans (W5.leG (o := .lst ([.str s] ++ ((List.range 13).map vk).map V.str)) nq)
        have gq : (upd G4 q (.lst ([.str s] ++ ((List.range 13).map vk).map V.str))) q = some (.lst ((s :: (List.range 13).map vk).map V.str)) := upd_same
        generalize upd G4 q _ = G6 at W6 sg6 gq
        generalize upd H5 q _ = H6 at W6
        have W7 := W6.drop
        clear W6 W5 W4
        refine ⟨_, rfl, .inl ⟨rfl, _, SqL.of W7.hd⟩, ?_⟩
        refine tc1 ?_
        refine top_ ?_
        have eix : ∀ v : Str, (if true = true then !decide (v ∈ xs) else decide (v ∈ xs)) = decide (v ∉ xs) := fun v => by simp
        refine lc_seq (xs := (s :: (List.range 13).map vk).map V.str) (k := true) (fun R r => ⟨_, rfl, r⟩) (SqK.lst (W7.getG gq)) fun D2 nD2 => ⟨fun j H' => SW G6 st cs (n + 9 * i + 9) ((D2, .lst ((((s :: (List.range 13).map vk).take j).filter fun n => decide (n ∉ xs)).map V.str)) :: (l, .lst (xs.map V.str)) :: C) H', W7.new nD2, fun j H' _ W => SqK.lst (W.getG gq), ?_, ?_⟩
        · rintro j v H8 hv W8
          obtain ⟨u, hu, rfl⟩ := map_get hv
          have e := filter_take (fun n => decide (n ∉ xs)) hu
          refine ⟨rfl, ?_⟩
          refine ⟨_, rfl, _, rfl, rInA.strs (.inl (SqL.of W8.swap.hd)) ⟨_, rfl, ?_⟩⟩
          rw [eix]
          refine ite2 (fun h => ?_) (fun h => ?_)
          · rw [if_pos h] at e
            refine ⟨_, rfl, _, W8.hd, sz_lt ?_, ?_⟩
            · rw [List.length_map]
              refine Nat.le_trans (List.length_filter_le _ _) ?_
              rw [List.length_take]
              simp
              omega
            · show SW G6 st cs (n + 9 * i + 9) ((D2, .lst ((((s :: (List.range 13).map vk).take (j + 1)).filter fun n => decide (n ∉ xs)).map V.str)) :: (l, .lst (xs.map V.str)) :: C) _
              rw [e, List.map_append]
              exact W8.set
          · rw [if_neg h, List.append_nil] at e
            show SW G6 st cs (n + 9 * i + 9) ((D2, .lst ((((s :: (List.range 13).map vk).take (j + 1)).filter fun n => decide (n ∉ xs)).map V.str)) :: (l, .lst (xs.map V.str)) :: C) _
            rw [e]
            exact W8
        · rintro H8 W8
          rw [List.length_map, List.take_length] at W8
          have hf := vk_free xs (by omega) s
          cases ef : (s :: (List.range 13).map vk).filter (fun n => decide (n ∉ xs)) with
          | nil => exact absurd ef hf
          | cons u r =>
            rw [ef] at W8
            have hu : u ∈ (s :: (List.range 13).map vk).filter (fun n => decide (n ∉ xs)) := by
              rw [ef]
              exact List.mem_cons_self
            obtain ⟨hu1, hu2⟩ := List.mem_filter.mp hu
            have hu2' : u ∉ xs := by simpa using hu2
            have hu3 : nameB u = true := by
              rcases List.mem_cons.mp hu1 with rfl | hu1
              · exact hs
              · obtain ⟨q, hq, rfl⟩ := List.mem_map.mp hu1
                exact vk_ok q (List.mem_range.mp hq)
            refine rIx.lst W8.hd (atI_nat (j := 0) rfl) ?_
            have W9 := W8.swap.set (u := .lst (xs.map V.str ++ [.str u]))
            refine ⟨_, _, _, rfl, rfl, W8.swap.hd, sz_lt (by rw [List.length_map]; omega), xs ++ [u], _, _, rfl, by simp [hl], ?_, ?_, ?_⟩
            · exact List.nodup_append.mpr ⟨nd, by simp, fun a ha b hb e => hu2' (by rw [List.mem_singleton.mp hb] at e; exact e ▸ ha)⟩
            · intro t ht
              rcases List.mem_append.mp ht with ht | ht
              · exact nb t ht
              · rw [List.mem_singleton.mp ht]
                exact hu3
            · have e : (xs ++ [u]).map V.str = xs.map V.str ++ [.str u] := by simp
              rw [e]
              have := (W9.swap.drop).weak sg6
              have e9 : n + 9 * (i + 1) = n + 9 * i + 9 := by omega
              rw [e9]
              exact this
    · rintro σ H2 ⟨xs, y1, y2, rfl, hl, nd, nb, W2⟩
      have hl' : xs.length = m := by omega
      refine ⟨_, rfl, l, xs, rfl, SqL.of W2.hd, by omega, fun ys p pm srt np => ?_⟩
      have e9 : n + 9 * ((m : Nat) : Int).toNat = n + 9 * m := by omega
      rw [e9] at W2
      refine k ys p _ (by rw [pm.length_eq]; exact hl') (pm.nodup_iff.mpr nd) (sorted_pw srt) (fun s hs => nb s (pm.mem_iff.mp hs)) ?_
      exact (W2.new np).swap.drop
end
end Lw_name

namespace Lw_rec
open PySem PySem.Spec PyProof.Rows L2 Lr
def top (i : Nat) : Stmt := PySem.Challenge.pw_leastredo_k01_logs_hold_their_records.main.body.getD i (.Pass ⟨0, 0, 0, 0⟩)
abbrev s_record : Stmt := top 27
abbrev N_record : List Str := ["stream", "pages", "plain", "one", "kind", "writes", "reads"]
theorem sc_record : FnScope ["stream", "pages", "plain", "one", "kind", "writes", "reads"] ["stream", "pages", "plain"] (defScope s_record) := ⟨rfl, rfl, rfl, by decide +kernel, rfl, by decide +kernel, by decide +kernel⟩
abbrev s_log : Stmt := top 28
abbrev N_log : List Str := ["stream", "size", "many", "count", "pages", "plain", "k"]
theorem sc_log : FnScope ["stream", "size", "many", "count", "pages", "plain", "k"] ["stream", "size"] (defScope s_log) := ⟨rfl, rfl, rfl, by decide +kernel, rfl, by decide +kernel, by decide +kernel⟩
structure Txt (mg : Str → Option Value) : Prop where
  b : Bl mg
section
variable {P : Program} {w : World} {K : PySem.W.Frag} {mg : Str → Option Value} {base : Heap}
theorem ok_record (T : Txt mg) (F : FD K mg "_law_record" s_record ["stream", "pages", "plain"]) (G_below : Okf P w K mg base CX0 1 "_law_below" ["stream", "many"] spBelow) (G_pick : Okf P w K mg base CX0 2 "_law_pick" ["stream", "some"] spPick)
    (G_lot : Okf P w K mg base CX0 2 "_law_lot" ["stream", "some", "share"] spLot) : Okf P w K mg base CX0 3 "_law_record" ["stream", "pages", "plain"] spRecord := by
  refine F.ok sc_record (fun vs H Q E h => ?_) (fun f cdv A outer s H vs Q E hr h => ?_)
  · obtain ⟨G, st, cs, n, C, a, ns, b, rfl, _⟩ := h
    rfl
  · obtain ⟨G, st, cs, n, C, a, ns, b, rfl, l1, l12, nd, srt, nb, S, n40, W, k⟩ := h
    refine ⟨_, (pss_cons (ps_set (i := 3) sc_record.nd rfl (Or.inl rfl) (pc G_pick hr (pa_cons (pv 0) (pa_cons (pv 1) pa_nil))))
    (pss_cons (ps_set (i := 4) sc_record.nd rfl (Or.inl rfl) (pc G_below hr (pa_cons (pv 0) (pa_cons pe_int pa_nil))))
    (pss_cons (ps_if (pt_cmpR op_lt (pv 4) pe_int (nomark _))
    (pss_one (ps_ret (pe_tup (pa_cons (pe_tup pa_nil) (pa_cons (pe_tup (pa_cons (pv 3) pa_nil)) pa_nil)))))
    pss_nil)
    (pss_cons (ps_if (PW.pt (pw_or (pt_cmpR (op_eqA (K := K) hr.units) (pv 4) pe_int (nomark _)) (pw_or1 (xtruth (K := K) (pv 2) (by intro _; rfl)))))
    (pss_one (ps_ret (pe_tup (pa_cons (pe_tup (pa_cons (pv 3) pa_nil)) (pa_cons (pe_tup (pa_cons (pv 3) pa_nil)) pa_nil)))))
    pss_nil)
    (pss_cons (ps_if (pt_cmpR op_lt (pv 4) pe_int (nomark _))
    (pss_one (ps_ret (pe_tup (pa_cons (pe_tup (pa_cons (pc G_pick hr (pa_cons (pv 0) (pa_cons (pv 1) pa_nil))) pa_nil)) (pa_cons (pe_tup (pa_cons (pv 3) pa_nil)) pa_nil)))))
    pss_nil)
    (pss_cons (ps_set (i := 5) sc_record.nd rfl (Or.inl rfl) (pc G_lot hr (pa_cons (pv 0) (pa_cons (pv 1) (pa_cons pe_int pa_nil)))))
    (pss_cons (ps_if (pt_cmpR (op_eqA (K := K) hr.units) (pv 5) (pe_lst pa_nil) (nomark _))
    (pss_one (ps_set (i := 5) sc_record.nd rfl (Or.inl rfl) (pe_lst (pa_cons (pv 3) pa_nil))))
    pss_nil)
    (pss_cons (ps_set (i := 6) sc_record.nd rfl (Or.inl rfl) (pe_ifExp (pt_cmpR (op_eqA (K := K) hr.units) (pv 4) pe_int (nomark _)) (pe_lst pa_nil) (pc G_lot hr (pa_cons (pv 0) (pa_cons (pv 1) (pa_cons pe_int pa_nil))))))
    (pss_one (ps_ret (pe_tup (pa_cons (pe_callTy (call_tupleA (K := K)) (by rfl) T.b.tuple (by decide +kernel) (pa_cons (pv 6) pa_nil)) (pa_cons (pe_callTy (call_tupleA (K := K)) (by rfl) T.b.tuple (by decide +kernel) (pa_cons (pv 5) pa_nil)) pa_nil))))))))))))), ?_⟩
    have lm : (ns.map V.str).length = ns.length := List.length_map _
    refine ⟨_, rfl, _, rfl, G, st, cs, n, C, a, _, rfl, by omega, by omega, by omega, W, S, fun i v H1 hv W1 => ?_⟩
    obtain ⟨x, hx, rfl⟩ := map_get hv
    have hxn : x ∈ ns := List.mem_of_getElem? hx
    have sx : [x].Sublist ns := List.singleton_sublist.mpr hxn
    refine ⟨_, rfl, G, st, cs, _, C, 9, rfl, by decide, by decide, by omega, W1, fun d H2 hd W2 => ?_⟩
    have fin : ∀ {a b : List Str} {H' : Hp} {m : Nat}, a.Sublist ns → b.Sublist ns → b ≠ [] → m ≤ n + 30 → SW G st cs m C H' → ∀ p, H' p = none → ∀ q, (upd H' p (.tup (a.map V.str))) q = none → ∀ t, (upd (upd H' p (.tup (a.map V.str))) q (.tup (b.map V.str))) t = none →
        Q (.ref t) (upd (upd (upd H' p (.tup (a.map V.str))) q (.tup (b.map V.str))) t (.tup [.ref p, .ref q])) := fun ha hb h0 hm w p np q nq t nt => by
      obtain ⟨G', sg, w', r⟩ := w.recG np nq nt
      exact k _ _ G' _ (RowOk.sub ha hb h0 nd srt) r sg (w'.mono hm)
    refine ⟨_, rfl, _, _, rfl, rfl, ⟨_, rfl, ite2 (fun h1 => ?_) (fun h1 => ?_)⟩⟩
    · refine ⟨Nat.zero_le _, fun p np => ⟨_, rfl, by show 1 ≤ sizeLine; decide, fun q nq => ⟨by show 2 ≤ sizeLine; decide, fun t nt => ?_⟩⟩⟩
      exact fin (a := []) (b := [x]) (List.nil_sublist _) sx (by simp) (by omega) W2 p np q nq t nt
    have one : ∀ {x : Str} {H' : Hp} {m : Nat} {y : Str}, y ∈ ns → x ∈ ns → m ≤ n + 30 → SW G st cs m C H' → ∀ p, H' p = none → ∀ q, (upd H' p (.tup [.str y])) q = none → ∀ t, (upd (upd H' p (.tup [.str y])) q (.tup [.str x])) t = none →
        Q (.ref t) (upd (upd (upd H' p (.tup [.str y])) q (.tup [.str x])) t (.tup [.ref p, .ref q])) := fun {x H' m y} hy hx hm w p np q nq t nt =>
      fin (a := [y]) (b := [x]) (List.singleton_sublist.mpr hy) (List.singleton_sublist.mpr hx) (by simp) hm w p np q nq t nt
    refine tnext (tseq ?_)
    refine ⟨_, rfl, rEqA.int ⟨_, rfl, ite2 (fun h2 => ?_) (fun h2 => ?_)⟩⟩
    · refine ⟨_, rfl, by show 1 ≤ sizeLine; decide, fun p np => ⟨_, rfl, by show 1 ≤ sizeLine; decide, fun q nq => ⟨by show 2 ≤ sizeLine; decide, fun t nt => ?_⟩⟩⟩
      exact one hxn hxn (by omega) W2 p np q nq t nt
    · refine ⟨_, rfl, b, rfl, ite2 (fun h3 => ?_) (fun h3 => ?_)⟩
      · refine ⟨_, rfl, by show 1 ≤ sizeLine; decide, fun p np => ⟨_, rfl, by show 1 ≤ sizeLine; decide, fun q nq => ⟨by show 2 ≤ sizeLine; decide, fun t nt => ?_⟩⟩⟩
        exact one hxn hxn (by omega) W2 p np q nq t nt
      · refine tnext (tseq ?_)
        refine ⟨_, rfl, _, _, rfl, rfl, ⟨_, rfl, ite2 (fun h4 => ?_) (fun h4 => ?_)⟩⟩
        · refine ⟨_, rfl, _, rfl, G, st, cs, _, C, a, _, rfl, by omega, by omega, by omega, W2, S, fun i v H3 hv W3 => ?_⟩
          obtain ⟨y, hy, rfl⟩ := map_get hv
          refine ⟨by show 1 ≤ sizeLine; decide, fun p np => ⟨_, rfl, by show 1 ≤ sizeLine; decide, fun q nq => ⟨by show 2 ≤ sizeLine; decide, fun t nt => ?_⟩⟩⟩
          exact one (List.mem_of_getElem? hy) hxn (by omega) W3 p np q nq t nt
        · refine tnext (tseq ?_)
          refine ⟨_, rfl, _, rfl, G, st, cs, _, C, a, _, 3, rfl, by decide, by decide, by omega, by omega, W2, S, fun ys l H3 hs nl W3 => ?_⟩
          obtain ⟨zs, hz, rfl⟩ := sub_strs hs
          have nbz : ∀ s ∈ zs, nameB s = true := fun s h => nb s (hz.subset h)
          refine tnx ?_
          refine tjoin (fun σ' H' => ∃ (zs : List Str) (l : Addr) (D : List Cell), σ' = [some (.ref st), some (.ref a), some (.bl b), some (.str x), some (.int d), some (.ref l), none] ∧ zs.Sublist ns ∧ zs ≠ [] ∧ SW G st cs (n + 1 + 1 + ns.length) ((l, .lst (zs.map V.str)) :: C) H') ?_ (fun tail => ?_)
          · rintro σ' H5 ⟨zs, l, D, rfl, hz, z0, W5⟩
            have lastly : ∀ (us : List Str) (r : Addr) (H6 : Hp), us.Sublist ns → SW G st cs (n + 1 + 1 + ns.length + ns.length) ((r, .lst (us.map V.str)) :: (l, .lst (zs.map V.str)) :: C) H6 → ∀ p, H6 p = none → ∀ q, (upd H6 p (.tup (us.map V.str))) q = none → ∀ t, (upd (upd H6 p (.tup (us.map V.str))) q (.tup (zs.map V.str))) t = none →
                Q (.ref t) (upd (upd (upd H6 p (.tup (us.map V.str))) q (.tup (zs.map V.str))) t (.tup [.ref p, .ref q])) := fun us r H6 hu w p np q nq t nt =>
              fin hu hz z0 (by omega) w.drop.drop p np q nq t nt
            refine tseq ?_
            refine ⟨_, rfl, rEqA.int ⟨_, rfl, ite2 (fun h5 => ?_) (fun h5 => ?_)⟩⟩
            · refine ⟨Nat.zero_le _, fun r nr => ?_⟩
              have W6 := (W5.new (o := .lst []) nr).mono (show n + 1 + 1 + ns.length ≤ n + 1 + 1 + ns.length + ns.length by omega)
              refine ⟨_, rfl, r, _, rfl, .inl ⟨SqL.of W6.hd, fun p np => ⟨_, rfl, l, _, rfl, .inl ⟨SqL.of (same_new np _ _ W6.swap.hd), fun q nq => ⟨by show 2 ≤ sizeLine; decide, fun t nt => ?_⟩⟩⟩⟩⟩
              exact lastly [] r _ (List.nil_sublist _) W6 p np q nq t nt
            · refine ⟨_, rfl, _, rfl, G, st, cs, _, _, a, _, 2, rfl, by decide, by decide, by omega, by omega, W5, S.cons, fun ys r H6 hs nr W6 => ?_⟩
              obtain ⟨us, hu, rfl⟩ := sub_strs hs
              rw [lm] at W6
              refine ⟨_, rfl, r, _, rfl, .inl ⟨SqL.of W6.hd, fun p np => ⟨_, rfl, l, _, rfl, .inl ⟨SqL.of (same_new np _ _ W6.swap.hd), fun q nq => ⟨by show 2 ≤ sizeLine; decide, fun t nt => ?_⟩⟩⟩⟩⟩
              exact lastly us r _ hu W6 p np q nq t nt
          · rw [lm] at W3
            refine ⟨_, rfl, Nat.zero_le _, fun e ne => rEqA.dat (.lst (SqL.of (same_new ne _ _ W3.hd)) (dpStrs _ _ zs)) (.lst (SqL.of upd_same) .nil) (shStrs zs nbz) rfl ⟨_, rfl, ?_⟩⟩
            have W4 := W3.same (same_new (o := .lst []) ne)
            generalize upd H3 e (.lst []) = H4 at W4
            rw [eqv_nil]
            refine ite2 (fun h5 => ?_) (fun h5 => ?_)
            · refine ⟨_, rfl, by show 1 ≤ sizeLine; decide, fun l2 nl2 => ?_⟩
              exact tail _ _ ⟨[x], l2, [], rfl, sx, by simp, (W4.new nl2).swap.drop⟩
            · exact tail _ _ ⟨zs, l, [], rfl, hz, by simpa using h5, W4⟩
theorem ok_log (T : Txt mg) (F : FD K mg "_law_log" s_log ["stream", "size"]) (G_below : Okf P w K mg base CX0 1 "_law_below" ["stream", "many"] spBelow) (G_chance : Okf P w K mg base CX0 2 "_law_chance" ["stream", "many"] spChance)
    (G_names : Okf P w K mg base CX0 4 "_law_names" ["stream", "many"] spNames) (G_record : Okf P w K mg base CX0 3 "_law_record" ["stream", "pages", "plain"] spRecord) : Okf P w K mg base CX0 5 "_law_log" ["stream", "size"] spLog := by
  refine F.ok sc_log (fun vs H Q E h => ?_) (fun f cdv A outer s H vs Q E hr h => ?_)
  · obtain ⟨G, st, cs, n, C, z, rfl, _⟩ := h
    rfl
  · obtain ⟨G, st, cs, n, C, z, rfl, z2, n40, W, k⟩ := h
    refine ⟨_, (pss_cons (ps_set (i := 2) sc_log.nd rfl (Or.inl rfl) (pe_op (op_addA (K := K)) pe_int (pc G_below hr (pa_cons (pv 0) (pa_cons (pe_ix (xix (K := K)) (pe_lst (pa_cons pe_int (pa_cons pe_int (pa_cons pe_int pa_nil)))) (pv 1) (fun _ _ => rfl)) pa_nil)))))
    (pss_cons (ps_set (i := 3) sc_log.nd rfl (Or.inl rfl) (pc G_below hr (pa_cons (pv 0) (pa_cons (pe_ix (xix (K := K)) (pe_lst (pa_cons pe_int (pa_cons pe_int (pa_cons pe_int pa_nil)))) (pv 1) (fun _ _ => rfl)) pa_nil))))
    (pss_cons (ps_if (PW.pt (pw_and (pt_cmpR (op_eqA (K := K) hr.units) (pv 1) pe_int (nomark _)) (pw_and1 (pt_val (pc G_chance hr (pa_cons (pv 0) (pa_cons pe_int pa_nil)))))))
    (pss_one (ps_asg (pe_tup (pa_cons pe_int (pa_cons pe_int pa_nil))) (xtup (K := K) (n := 2) rfl (pgs_cons (pg_name (i := 2) sc_log.nd rfl (Or.inl rfl)) (pgs_cons (pg_name (i := 3) sc_log.nd rfl (Or.inl rfl)) pgs_nil)))))
    pss_nil)
    (pss_cons (ps_set (i := 4) sc_log.nd rfl (Or.inr rfl) (pc G_names hr (pa_cons (pv 0) (pa_cons (pv 2) pa_nil))))
    (pss_cons (ps_set (i := 5) sc_log.nd rfl (Or.inr rfl) (pc G_chance hr (pa_cons (pv 0) (pa_cons pe_int pa_nil))))
    (pss_one (ps_ret (pe_lst (pa_cons (pv 4) (pa_cons (pe_lc (own := [("k", 6)]) (g := gName 6) (tt := tYes) rfl sc_log.nd (pi_range1 rfl T.b.range (pa_cons (pv 3) pa_nil)) (blkOk_by (N := N_log) (sc := defScope s_log) (by decide +kernel)) (fun _ _ _ _ _ => (pg_name (i := 6) sc_log.nd rfl (Or.inl rfl))) (fun _ _ _ _ _ => pts_nil) (fun _ _ _ _ _ => (pc G_record hr (pa_cons (pv 0) (pa_cons (pv 4) (pa_cons (pv 5) pa_nil)))))) pa_nil)))))))))), ?_⟩
    have at1 : ∃ m : Nat, 1 ≤ m ∧ m ≤ 12 ∧ atI [V.int 4, .int 6, .int 12] (z : Int) = some (.int m) := by
      match z, z2 with
      | 0, _ => exact ⟨4, by decide, by decide, rfl⟩
      | 1, _ => exact ⟨6, by decide, by decide, rfl⟩
      | 2, _ => exact ⟨12, by decide, by decide, rfl⟩
    have at2 : ∃ m : Nat, 1 ≤ m ∧ m ≤ 61 ∧ atI [V.int 7, .int 15, .int 61] (z : Int) = some (.int m) := by
      match z, z2 with
      | 0, _ => exact ⟨7, by decide, by decide, rfl⟩
      | 1, _ => exact ⟨15, by decide, by decide, rfl⟩
      | 2, _ => exact ⟨61, by decide, by decide, rfl⟩
    obtain ⟨m1, m1a, m1b, e1⟩ := at1
    obtain ⟨m2, m2a, m2b, e2⟩ := at2
    refine ⟨_, rfl, by show 3 ≤ sizeLine; decide, fun p np => ⟨_, rfl, rIx.lst upd_same e1 ⟨G, st, cs, n, C, m1, rfl, by omega, by omega, by omega, W.same (same_new np), fun d1 H1 hd1 W1 => rAddA.int ?_⟩⟩⟩
    refine tnx (tseq ?_)
    refine ⟨_, rfl, by show 3 ≤ sizeLine; decide, fun q nq => ⟨_, rfl, rIx.lst upd_same e2 ⟨G, st, cs, _, C, m2, rfl, by omega, by omega, by omega, W1.same (same_new nq), fun d2 H2 hd2 W2 => ?_⟩⟩⟩
    refine tnx ?_
    refine tjoin (fun σ' H' => ∃ (a b : Nat), σ' = [some (.ref st), some (.int z), some (.int a), some (.int b), none, none, none] ∧ 1 ≤ a ∧ a ≤ 12 ∧ b ≤ 60 ∧ SW G st cs (n + 3) C H') ?_ (fun tail => ?_)
    · rintro σ' H3 ⟨a, b, rfl, a1, a12, b60, W3⟩
      refine tseq ?_
      refine ⟨_, rfl, _, rfl, G, st, cs, _, C, a, rfl, by omega, by omega, W3, fun ns p H4 ln nd srt nb W4 => ?_⟩
      refine tnx (tseq ?_)
      refine ⟨_, rfl, G, st, cs, _, _, 8, rfl, by decide, by decide, by omega, W4, fun plain H5 W5 => ?_⟩
      refine tnx ?_
      refine tret ?_
      refine ⟨_, rfl, _, rfl, b, rfl, by omega, by omega, fun D nD => ?_⟩
      refine lc_range (n := ((b : Nat) : Int).toNat) (fun i H' => ∃ (G' : Hp) (rvs : List V) (rows : List Lr.Row), Same G G' ∧ SW G' st cs (n + 3 + 9 * a + 1 + 30 * i) ((D, .lst rvs) :: (p, .lst (ns.map V.str)) :: C) H' ∧ Reps G' (rows.map recD) rvs ∧ rows.length = i ∧ ∀ r ∈ rows, RowOk ns r)
        ⟨G, [], [], Same.refl G, W5.new nD, .nil, rfl, fun r hr => by cases hr⟩ ?_ ?_
      · rintro i H6 hi ⟨G', rvs, rows, sg, W6, rr, li, ro⟩
        have hi' : i < b := by omega
        have lr := rr.length
        rw [List.length_map] at lr
        refine ⟨rfl, _, rfl, _, rfl, _, rfl, G', st, cs, _, _, p, ns, plain, rfl, by omega, by omega, nd, srt, nb, Seq.hd.cons, by omega, W6, fun r v G2 H7 rok rep s2 W7 => ?_⟩
        refine ⟨rvs, W7.hd, sz_lt (by omega), G2, rvs ++ [v], rows ++ [r], sg.trans s2, ?_, ?_, by rw [List.length_append, li]; rfl, fun q hq => ?_⟩
        · have e : n + 3 + 9 * a + 1 + 30 * (i + 1) = n + 3 + 9 * a + 1 + 30 * i + 30 := by omega
          rw [e]
          exact W7.set
        · rw [List.map_append]
          exact (rr.mono s2).app (.cons rep .nil)
        · rcases List.mem_append.mp hq with hq | hq
          · exact ro q hq
          · rw [List.mem_singleton.mp hq]
            exact rok
      · rintro H6 ⟨G', rvs, rows, sg, W6, rr, li, ro⟩
        refine ⟨by show 2 ≤ sizeLine; decide, fun t nt => ?_⟩
        have W7 := (W6.new (o := .lst [.ref p, .ref D]) nt)
        have s1 := W7.leF
        have W8 := W7.frz
        have s2 := W8.leF
        have W9 := W8.frz
        have s3 := W9.leF
        have W10 := W9.frz
        have s123 := s1.trans (s2.trans s3)
        exact k ⟨ns, rows⟩ t _ _ ⟨⟨p, D, rvs, s3 _ _ (s2 _ _ upd_same), upd_same, s3 _ _ upd_same, rr.mono s123⟩, ⟨by show 1 ≤ ns.length; omega, by show ns.length ≤ 12; omega⟩, nd, srt, nb, by show rows.length ≤ 60; omega, ro⟩ (sg.trans s123) (W10.mono (by omega))
    · refine ⟨_, rfl, rEqA.int ⟨_, rfl, ite2 (fun h1 => ?_) (fun h1 => ?_)⟩⟩
      · refine ⟨_, rfl, G, st, cs, _, C, 2, rfl, by decide, by decide, by omega, W2, fun b H3 W3 => ⟨_, rfl, ite2 (fun h2 => ?_) (fun h2 => ?_)⟩⟩
        · refine ⟨by show 2 ≤ sizeLine; decide, fun t nt => ⟨_, _, rfl, SqT.of upd_same, rfl, gc2 ?_⟩⟩
          exact tail _ _ ⟨12, 60, rfl, by decide, by decide, by decide, W3.same (same_new nt)⟩
        · exact tail _ _ ⟨1 + d1, d2, by rfl, by omega, by omega, by omega, W3⟩
      · exact tail _ _ ⟨1 + d1, d2, by rfl, by omega, by omega, by omega, W2.mono (by omega)⟩
end
end Lw_rec

namespace Lw_made
open PySem PySem.Spec PyProof.Rows L2 Lr
def top (i : Nat) : Stmt := PySem.Challenge.pw_leastredo_k01_logs_hold_their_records.main.body.getD i (.Pass ⟨0, 0, 0, 0⟩)
abbrev s_made : Stmt := top 29
abbrev N_made : List Str := ["stream", "log", "rows", "row"]
theorem sc_made : FnScope ["stream", "log", "rows", "row"] ["stream", "log"] (defScope s_made) := ⟨rfl, rfl, rfl, by decide +kernel, rfl, by decide +kernel, by decide +kernel⟩
abbrev s_aheld : Stmt := top 33
abbrev N_aheld : List Str := ["stream", "log", "pages", "rows", "made", "other", "one", "told", "row"]
theorem sc_aheld : FnScope ["stream", "log", "pages", "rows", "made", "other", "one", "told", "row"] ["stream", "log"] (defScope s_aheld) := ⟨rfl, rfl, rfl, by decide +kernel, rfl, by decide +kernel, by decide +kernel⟩
structure Txt (K : PySem.W.Frag) (mg : Str → Option Value) (Cl : Addr) : Prop where
  b : Bl mg
  cl_Log : Cls K Cl
section
variable {P : Program} {w : World} {K : PySem.W.Frag} {mg : Str → Option Value} {base : Heap} {Cl CB CR : Addr}
theorem ok_made (T : Txt K mg Cl) (F : FD K mg "_law_made" s_made ["stream", "log"]) (G_mixed : Okf P w K mg base CX0 2 "_law_mixed" ["stream", "some"] spMixed)
    (G_loose : Okf P w K mg base CX0 6 "_law_loose" ["stream", "thing"] (spLoose 4)) (M_Log : MkC P w K mg base (L2.CX P w) 5 "Log" Cl ["self", "pages", "records"] (spLogInit Cl CB CR)) : Okf P w K mg base CX0 7 "_law_made" ["stream", "log"] (spMade Cl) := by
  refine F.ok sc_made (fun vs H Q E h => ?_) (fun f cdv A outer s H vs Q E hr h => ?_)
  · obtain ⟨G, st, cs, n, C, a, L, rfl, _⟩ := h
    rfl
  · obtain ⟨G, st, cs, n, C, a, L, rfl, V0, n40, W, k⟩ := h
    refine ⟨_, (pss_cons (ps_setLc (i := 2) (own := [("row", 3)]) (g := gName 3) (tt := tYes) rfl sc_made.nd rfl rfl (sw_true rfl rfl rfl (by decide +kernel)) (pi_seq (K := K) (pe_ix (xix (K := K)) (pv 1) pe_int (fun _ _ => rfl))) (blkOk_by (N := N_made) (sc := defScope s_made) (by decide +kernel)) (fun _ _ _ _ _ => (pg_name (i := 3) sc_made.nd rfl (Or.inl rfl))) (fun _ _ _ _ _ => pts_nil) (fun _ _ _ _ _ => (pe_lst (pa_cons (pc G_mixed hr (pa_cons (pv 0) (pa_cons (pe_ix (xix (K := K)) (pv 3) pe_int (fun _ _ => rfl)) pa_nil))) (pa_cons (pc G_mixed hr (pa_cons (pv 0) (pa_cons (pe_ix (xix (K := K)) (pv 3) pe_int (fun _ _ => rfl)) pa_nil))) pa_nil)))))
    (pss_one (ps_ret (pmk M_Log hr (pa_cons (pc G_loose hr (pa_cons (pv 0) (pa_cons (pc G_mixed hr (pa_cons (pv 0) (pa_cons (pe_ix (xix (K := K)) (pv 1) pe_int (fun _ _ => rfl)) pa_nil))) pa_nil))) (pa_cons (pc G_loose hr (pa_cons (pv 0) (pa_cons (pv 2) pa_nil))) pa_nil)))))), ?_⟩
    obtain ⟨lp, lq, rvs, g1, g2, g3, g4⟩ := V0.ex
    have l60 := V0.rl
    have n12 := V0.nn.2
    refine tseq ?_
    refine loop_rows (L := L) (fun _ => rfl) rfl (fun _ => rfl) (fun _ => rfl) W V0 (by omega) fun ps ts D H1 rp ok ed W1 => ?_
    refine tnx ?_
    refine tret ?_
    have lps : ps.length ≤ 60 := by rw [← rp.1]; exact l60
    have bps := rp.b V0
    refine ⟨_, rfl, _, rfl, _, rfl, rIx.lst (W1.getG g1) (atI_nat (j := 0) rfl) ⟨G, st, cs, _, _, lp, _, rfl, by rw [List.length_map]; omega, by rw [List.length_map]; omega, W1, .gl g2, fun ys p H2 hpm np W2 => ?_⟩⟩
    obtain ⟨zs, rfl, hz⟩ := perm_strs hpm
    have lz := hz.length_eq
    rw [List.length_map] at W2
    have nbz : ∀ s ∈ zs, nameB s = true := fun s hs => V0.nb s (hz.mem_iff.mp hs)
    have d1 : depD (.list (zs.map .str)) < 4 := by
      show depDL (zs.map .str) + 1 < 4
      rw [dep_strs]
      decide
    have d2 : depD (.list (ps.map rawD)) < 4 := by
      have := dep_raw ps
      show depDL (ps.map rawD) + 1 < 4
      omega
    have z1 : szD (.list (zs.map .str)) = 1 := by
      show szDL (zs.map .str) + 1 = 1
      rw [sz_strs]
    have z2 : szD (.list (ps.map rawD)) ≤ 181 := by
      show szDL (ps.map rawD) + 1 ≤ 181
      rw [sz_raw]
      omega
    refine ⟨G, st, cs, _, _, .list (zs.map .str), .ref p, rfl, W2, RepC.strs (.inr List.mem_cons_self), ⟨plain_strs _, by rw [List.length_map]; omega⟩, d1, by rw [z1]; omega, fun t1 G2 H3 s2 ok1 en1 pl1 W3 => ?_⟩
    rw [z1] at W3
    have rR : RepC G ((D, .lst (vals ts)) :: (cellsL ts ++ C)) (.list (ps.map rawD)) (.ref D) := by
      have := RepC.tree (t := Lr.T.lst D ts) (C := C) (show (Lr.T.lst D ts).Ok G from ok) W1.wf
      rw [← ed]
      exact this
    refine ⟨_, rfl, _, rfl, G2, st, cs, _, _, .list (ps.map rawD), .ref D, rfl, W3, ((rR.cons).app).mono s2, ⟨plain_raw ps bps, by rw [List.length_map]; omega⟩, d2, by omega, fun t2 G3 H4 s3 ok2 en2 pl2 W4 => ?_⟩
    intro x dx nx nd ne
    have eD : logD t1.data t2.data = .log L := by
      rw [← logD_norm, en1, en2, logD_norm]
      exact logD_of V0 hz rp
    refine SW.make W4 ((((RepC.tree ok1 W3.wf)).mono s3).app) (RepC.tree ok2 W4.wf) (ShortD.norm ?_) (LongD.norm ?_) eD nx nd ne fun G5 H5 s5 W5 A => ?_
    · rw [en1, norm_strs]
      exact short_strs (by omega) nbz
    · rw [en2, norm_raw]
      exact long_raw V0 rp
    · exact k x G5 H5 (s2.trans (s3.trans s5)) A (((W5.dropL).dropL).drop.drop.dropL.mono (by omega))
theorem ok_aheld (T : Txt K mg Cl) (F : FD K mg "_law_aheld" s_aheld ["stream", "log"]) (G_mixed : Okf P w K mg base CX0 2 "_law_mixed" ["stream", "some"] spMixed) (G_spoilt : Okf P w K mg base CX0 5 "_law_spoilt" ["thing"] (spSpoilt 5))
    (G_same : Okf P w K mg base CX0 5 "_law_same" ["found", "due"] (spSame 5)) (G_apart : Okf P w K mg base CX0 6 "_law_apart" ["thing"] (spApart 5)) (G_made : Okf P w K mg base CX0 7 "_law_made" ["stream", "log"] (spMade Cl))
    (G_Log_size : Okm P w K mg base CX0 1 Cl "size" ["self"] (spSize Cl)) (G_Log_pages : Okm P w K mg base CX0 1 Cl "pages" ["self"] (spPages Cl)) (G_Log_records : Okm P w K mg base CX0 1 Cl "records" ["self"] (spRecords Cl))
    (M_Log : MkC P w K mg base (L2.CX P w) 5 "Log" Cl ["self", "pages", "records"] (spLogInit Cl CB CR)) : Okf P w K mg base CX0 8 "_law_aheld" ["stream", "log"] spAheld := by
  refine F.ok sc_aheld (fun vs H Q E h => ?_) (fun f cdv A outer s H vs Q E hr h => ?_)
  · obtain ⟨G, st, cs, n, C, a, L, rfl, _⟩ := h
    rfl
  · obtain ⟨G, st, cs, n, C, a, L, rfl, V0, n40, W, k⟩ := h
    refine ⟨_, (pss_cons (ps_set (i := 2) sc_aheld.nd rfl (Or.inl rfl) (pc G_mixed hr (pa_cons (pv 0) (pa_cons (pe_ix (xix (K := K)) (pv 1) pe_int (fun _ _ => rfl)) pa_nil))))
    (pss_cons (ps_setLc (i := 3) (own := [("row", 8)]) (g := gName 8) (tt := tYes) rfl sc_aheld.nd rfl rfl (sw_true rfl rfl rfl (by decide +kernel)) (pi_seq (K := K) (pe_ix (xix (K := K)) (pv 1) pe_int (fun _ _ => rfl))) (blkOk_by (N := N_aheld) (sc := defScope s_aheld) (by decide +kernel)) (fun _ _ _ _ _ => (pg_name (i := 8) sc_aheld.nd rfl (Or.inl rfl))) (fun _ _ _ _ _ => pts_nil) (fun _ _ _ _ _ => (pe_lst (pa_cons (pc G_mixed hr (pa_cons (pv 0) (pa_cons (pe_ix (xix (K := K)) (pv 8) pe_int (fun _ _ => rfl)) pa_nil))) (pa_cons (pc G_mixed hr (pa_cons (pv 0) (pa_cons (pe_ix (xix (K := K)) (pv 8) pe_int (fun _ _ => rfl)) pa_nil))) pa_nil)))))
    (pss_cons (ps_set (i := 4) sc_aheld.nd rfl (Or.inl rfl) (pmk M_Log hr (pa_cons (pv 2) (pa_cons (pv 3) pa_nil))))
    (pss_cons (ps_expr (pc G_spoilt hr (pa_cons (pv 2) pa_nil)))
    (pss_cons (ps_expr (pc G_spoilt hr (pa_cons (pv 3) pa_nil)))
    (pss_cons (ps_set (i := 5) sc_aheld.nd rfl (Or.inl rfl) (pc G_made hr (pa_cons (pv 0) (pa_cons (pv 1) pa_nil))))
    (pss_cons (ps_for PassesOwn.never rfl (pi_seq (K := K) (pe_lst (pa_cons (pv 4) (pa_cons (pv 5) (pa_cons (pv 4) pa_nil))))) (pg_name (i := 6) sc_aheld.nd rfl (Or.inl rfl))
    (pss_cons (ps_if (pt_not (pt_val (pc G_same hr (pa_cons (pm0 (pv 6) T.cl_Log G_Log_size hr) (pa_cons (pe_callB (call_lenA (K := K)) (by rfl) T.b.len (by decide +kernel) (pa_cons (pe_ix (xix (K := K)) (pv 1) pe_int (fun _ _ => rfl)) pa_nil)) pa_nil)))))
    (pss_one (ps_ret pe_bl))
    pss_nil)
    (pss_cons (ps_set (i := 7) sc_aheld.nd rfl (Or.inl rfl) (pe_lst (pa_cons (pm0 (pv 6) T.cl_Log G_Log_pages hr) (pa_cons (pm0 (pv 6) T.cl_Log G_Log_records hr) pa_nil))))
    (pss_one (ps_if (PW.pt (pw_or (pt_not (pt_val (pc G_same hr (pa_cons (pv 7) (pa_cons (pv 1) pa_nil))))) (pw_or1 (pt_not (pt_val (pc G_apart hr (pa_cons (pv 7) pa_nil)))))))
    (pss_one (ps_ret pe_bl))
    pss_nil)))))
    (pss_one (ps_ret pe_bl))))))))), ?_⟩
    obtain ⟨lp, lq, rvs, g1, g2, g3, g4⟩ := V0.ex
    have l60 := V0.rl
    have n12 := V0.nn.2
    refine tseq (tasg ?_)
    refine ⟨_, rfl, _, rfl, rIx.lst (W.getG g1) (atI_nat (j := 0) rfl) ⟨G, st, cs, _, _, lp, _, rfl, by rw [List.length_map]; omega, by rw [List.length_map]; omega, W, .gl g2, fun ys p H1 hpm np W1 => ?_⟩⟩
    obtain ⟨zs, rfl, hz⟩ := perm_strs hpm
    have lz := hz.length_eq
    rw [List.length_map] at W1
    have nbz : ∀ s ∈ zs, nameB s = true := fun s hs => V0.nb s (hz.mem_iff.mp hs)
    refine tnx (tseq (tasg ?_))
    refine loop_rows (L := L) (fun _ => rfl) rfl (fun _ => rfl) (fun _ => rfl) W1 V0 (by omega) fun ps ts D H2 rp ok ed W2 => ?_
    have lps : ps.length ≤ 60 := by rw [← rp.1]; exact l60
    have bps := rp.b V0
    have rR : RepC G ((D, .lst (vals ts)) :: (cellsL ts ++ ((p, .lst (zs.map V.str)) :: C))) (.list (ps.map rawD)) (.ref D) := by
      have := RepC.tree (t := Lr.T.lst D ts) (C := (p, .lst (zs.map V.str)) :: C) (show (Lr.T.lst D ts).Ok G from ok) W2.wf
      rw [← ed]
      exact this
    have rP : RepC G ((D, .lst (vals ts)) :: (cellsL ts ++ ((p, .lst (zs.map V.str)) :: C))) (.list (zs.map .str)) (.ref p) := RepC.strs (.inr (List.mem_cons_of_mem _ (List.mem_append_right _ List.mem_cons_self)))
    refine tnx (tseq (tasg ?_))
    refine ⟨_, rfl, _, rfl, fun x dx nx nd ne => SW.make W2 rP rR (short_strs (by omega) nbz) (long_raw V0 rp) (logD_of V0 hz rp) nx nd ne fun G3 H3 s3 W3 A3 => ?_⟩
    refine tnx (tseq ?_)
    have W3' : SW G3 st cs (n + L.names.length + 2000) ((Lr.T.lst p (strT zs)).cells ++ ((D, .lst (vals ts)) :: (cellsL ts ++ C))) H3 := by
      rw [strs_cells]
      exact W3.perm (List.perm_middle (l₁ := (D, HO.lst (vals ts)) :: cellsL ts))
    have c1 : CleanD (Lr.T.lst p (strT zs)).data := by
      show CleanD (.list (dataL (strT zs)))
      rw [strT_data]
      exact ⟨clean_strs _ nbz, by rw [List.length_map]; omega⟩
    have c2 : CleanD (Lr.T.lst D ts).data := by
      show CleanD (.list (dataL ts))
      rw [ed]
      exact ⟨clean_raw ps bps, by rw [List.length_map]; omega⟩
    have e1 : (Lr.T.lst p (strT zs)).dep < 5 := by
      rw [Lr.T.dep_data c1]
      show depDL (dataL (strT zs)) + 1 < 5
      rw [strT_data, dep_strs]
      decide
    have e2 : (Lr.T.lst D ts).dep < 5 := by
      rw [Lr.T.dep_data c2]
      show depDL (dataL ts) + 1 < 5
      rw [ed]
      have := dep_raw ps
      omega
    refine tdrop (tcall1 ⟨_, rfl, ?_⟩)
    refine (SW.spoilt (t := Lr.T.lst p (strT zs)) W3' (strT_ok zs) (Lr.T.small_data c1) e1 fun H4 W4 => ?_)
    have W5 : SW G3 st cs (n + L.names.length + 2000) ((Lr.T.lst D ts).cells ++ C) H4 := W4.dropL
    refine tnx (tseq ?_)
    refine tdrop (tcall1 ⟨_, rfl, ?_⟩)
    refine (SW.spoilt (t := Lr.T.lst D ts) W5 (show OkL G3 ts from OkL.mono s3 ok) (Lr.T.small_data c2) e2 fun H5 W6 => ?_)
    have W7 := W6.dropL
    clear W6 W5 W4 W3' W3 W2 W1 rR rP
    refine tnx (tseq (tasg ?_))
    refine ⟨_, rfl, _, rfl, G3, st, cs, _, C, a, L, rfl, V0.mono s3, by omega, W7, fun y G4 H6 s4 A4 W8 => ?_⟩
    refine tnx (tseq ?_)
    have s34 := s3.trans s4
    have A3' := A3.mono s4
    refine .inl ⟨_, rfl, _, rfl, _, rfl, by show 3 ≤ sizeLine; decide, fun l nl => ?_⟩
    have W9 := W8.newG (o := .lst [.ref x, .ref y, .ref x]) nl
    have s9 := W8.leG (o := .lst [.ref x, .ref y, .ref x]) nl
    have gl : (upd G4 l (.lst [.ref x, .ref y, .ref x])) l = some (.lst [.ref x, .ref y, .ref x]) := upd_same
    have A3n := A3'.mono s9
    have A4n := A4.mono s9
    have s349 := s34.trans s9
    generalize upd G4 l (.lst [.ref x, .ref y, .ref x]) = G5 at W9 s9 gl A3n A4n s349
    generalize upd H6 l (.lst [.ref x, .ref y, .ref x]) = H7 at W9
    refine ⟨l, rfl, ⟨_, SqL.of (W9.getG gl)⟩, for_list (K := K) (a := l) (xs := [.ref x, .ref y, .ref x]) (fun i σ H' => ∃ (G' : Hp) (y1 y2 : Option V), Same G5 G' ∧ SW G' st cs (n + L.names.length + 2000 + 3000) C H' ∧ σ = [some (.ref st), some (.ref a), some (.ref p), some (.ref D), some (.ref x), some (.ref y), y1, y2, none]) ⟨G5, _, _, Same.refl _, W9, rfl⟩ ?_ ?_ ?_⟩
    · rintro i σ H' _ ⟨G', _, _, s, w, _⟩
      exact SqL.of (w.getG (s _ _ gl))
    · rintro i v σ H8 hv ⟨G', y1, y2, s, w, rfl⟩
      obtain ⟨z, rfl, Az⟩ : ∃ z, v = .ref z ∧ LogAt Cl G' z L := by
        have hm := List.mem_of_getElem? hv
        simp only [List.mem_cons, List.not_mem_nil, or_false] at hm
        rcases hm with rfl | rfl | rfl
        · exact ⟨x, rfl, A3n.mono s⟩
        · exact ⟨y, rfl, A4n.mono s⟩
        · exact ⟨x, rfl, A3n.mono s⟩
      have V1 := V0.mono (s349.trans s)
      obtain ⟨lp', lq', rvs', h1, h2, h3, h4⟩ := V1.ex
      have lr := h4.length
      rw [List.length_map] at lr
      obtain ⟨dx, an, ar, aw, ad, rv2, nv2, fa, b1, _⟩ := Az.ex
      have bz := w.getG b1
      refine tseq ?_
      refine ⟨_, rfl, z, dx, _, rfl, bz, lk_none (by decide) (by decide) (by decide) (by decide), ⟨G', z, L, rfl, Az, w.sub, ?_⟩⟩
      refine ⟨_, rfl, rIx.lst (w.getG h1) (atI_nat (j := 1) rfl) (rLenA.v (n := rvs'.length) (.inl ⟨_, SqL.of (w.getG h3), rfl⟩) ?_)⟩
      rw [← lr]
      refine ⟨.int (L.rows.length : Int), _, _, rfl, .int _, .int _, trivial, by show 0 < 5; decide, fun H9 s9 => ⟨_, rfl, iteF ?_⟩⟩
      have w2 := w.same s9
      have bz2 := w2.getG b1
      refine tnext (tseq (tasg ?_))
      refine ⟨_, rfl, z, dx, _, rfl, bz2, lk_none (by decide) (by decide) (by decide) (by decide), ⟨G', z, L, rfl, Az, w2.sub, fun q1 nq1 => ?_⟩⟩
      have w3 := w2.new (o := .lst (L.names.map V.str)) nq1
      have bz3 := w3.getG b1
      refine ⟨_, rfl, z, dx, _, rfl, bz3, lk_none (by decide) (by decide) (by decide) (by decide), ⟨G', z, L, rfl, Az, w3.sub, fun q2 rw2 nq2 r2 => ?_⟩⟩
      have w4 := w3.new (o := .lst rw2) nq2
      refine ⟨by show 2 ≤ sizeLine; decide, fun q3 nq3 => ?_⟩
      have w5 := w4.new (o := .lst [.ref q1, .ref q2]) nq3
      obtain ⟨tr, t1, t2, t3, t4⟩ := rec_trees r2
      have ecell : (Lr.T.lst q3 [.lst q1 (strT L.names), .lst q2 tr]).cells = [(q3, .lst [.ref q1, .ref q2]), (q1, .lst (L.names.map V.str)), (q2, .lst rw2)] := by
        show (q3, HO.lst [.ref q1, .ref q2]) :: (((q1, HO.lst (vals (strT L.names))) :: cellsL (strT L.names)) ++ (((q2, HO.lst (vals tr)) :: cellsL tr) ++ [])) = _
        rw [strT_vals, strT_cells, t2, t4]
        rfl
      have edata : (Lr.T.lst q3 [.lst q1 (strT L.names), .lst q2 tr]).data = toldD L := by
        show PyData.list [.list (dataL (strT L.names)), .list (dataL tr)] = _
        rw [strT_data, t3]
        rfl
      have w6 : SW G' st cs (n + L.names.length + 2000 + 3000) ((Lr.T.lst q3 [.lst q1 (strT L.names), .lst q2 tr]).cells ++ C) (upd (upd (upd H9 q1 (.lst (L.names.map V.str))) q2 (.lst rw2)) q3 (.lst [.ref q1, .ref q2])) := by
        rw [ecell]
        exact w5.perm (List.Perm.cons _ (List.Perm.swap _ _ _))
      have okT : (Lr.T.lst q3 [.lst q1 (strT L.names), .lst q2 tr]).Ok G' := ⟨strT_ok _, t1, trivial⟩
      have rT := (RepC.tree okT w6.wf).at w6.wf
      rw [edata] at rT
      refine tnx ?_
      refine ⟨_, rfl, _, rfl, toldD L, _, _, rfl, rT, (rep_log V1).mono w6.sub, Plain.eqa (plain_told V0), by rw [Plain.dpS (plain_told V0)]; exact dep_told L, fun H10 s10 => ⟨_, rfl, iteF ?_⟩⟩
      have w7 := w6.same s10
      refine tnotb (tcall1 ⟨_, rfl, ?_⟩)
      refine SW.apart (t := Lr.T.lst q3 [.lst q1 (strT L.names), .lst q2 tr]) w7 okT trivial (by rw [edata]; exact clean_told V0) (by rw [edata]; exact dep_told L) fun H11 w8 => ⟨_, rfl, iteF ?_⟩
      exact ⟨G', _, _, s, w8, rfl⟩
    · rintro σ H8 ⟨G', y1, y2, s, w, rfl⟩
      exact k G' H8 (s349.trans s) (w.mono (by omega))
end
end Lw_made

namespace Lw_anop
open PySem PySem.Spec PyProof.Rows L2 Lr
def top (i : Nat) : Stmt := PySem.Challenge.pw_leastredo_k01_logs_hold_their_records.main.body.getD i (.Pass ⟨0, 0, 0, 0⟩)
abbrev s_ano_pages : Stmt := top 30
abbrev N_ano_pages : List Str := ["stream", "pages", "name", "wrong", "kind"]
theorem sc_ano_pages : FnScope ["stream", "pages", "name", "wrong", "kind"] ["stream", "pages"] (defScope s_ano_pages) := ⟨rfl, rfl, rfl, by decide +kernel, rfl, by decide +kernel, by decide +kernel⟩
structure Txt (mg : Str → Option Value) : Prop where
  b : Bl mg
section
variable {P : Program} {w : World} {K : PySem.W.Frag} {mg : Str → Option Value} {base : Heap}
theorem ok_ano_pages (T : Txt mg) (F : FD K mg "_law_ano_pages" s_ano_pages ["stream", "pages"]) (G_below : Okf P w K mg base CX0 1 "_law_below" ["stream", "many"] spBelow) (G_pick : Okf P w K mg base CX0 2 "_law_pick" ["stream", "some"] spPick) (G_mixed : Okf P w K mg base CX0 2 "_law_mixed" ["stream", "some"] spMixed)
    (G_names : Okf P w K mg base CX0 4 "_law_names" ["stream", "many"] spNames) : Okf P w K mg base CX0 5 "_law_ano_pages" ["stream", "pages"] spAnoPages := by
  refine F.ok sc_ano_pages (fun vs H Q E h => ?_) (fun f cdv A outer s H vs Q E hr h => ?_)
  · obtain ⟨G, st, cs, n, C, a, ns, rfl, _⟩ := h
    rfl
  · obtain ⟨G, st, cs, n, C, a, ns, rfl, l1, l12, nb, ga, n40, W, k⟩ := h
    refine ⟨_, (pss_cons (ps_set (i := 2) sc_ano_pages.nd rfl (Or.inl rfl) (pc G_pick hr (pa_cons (pv 0) (pa_cons (pv 1) pa_nil))))
    (pss_cons (ps_set (i := 3) sc_ano_pages.nd rfl (Or.inl rfl) (pe_lst (pa_cons (xbm0 (K := K) PySem.F.plainAttrs_str PySem.F.slot_str_upper PySem.F.type_str_upper mt_upper (pv 2)) (pa_cons (pe_slice (xsl (K := K)) (pe_op (op_addA (K := K)) (pv 2) pe_str) po_none (po_some pe_int)) (pa_cons (pe_op (op_addA (K := K)) pe_str (pe_slice (xsl (K := K)) (pv 2) po_none (po_some pe_int))) (pa_cons (pe_op (op_addA (K := K)) (pe_slice (xsl (K := K)) (pv 2) po_none (po_some pe_int)) pe_str) (pa_cons (pe_op (op_addA (K := K)) (pe_slice (xsl (K := K)) (pv 2) po_none (po_some pe_int)) pe_str) (pa_cons (pe_op (op_addA (K := K)) (pe_slice (xsl (K := K)) (pv 2) po_none (po_some pe_int)) pe_str) (pa_cons pe_str pa_nil)))))))))
    (pss_cons (ps_set (i := 3) sc_ano_pages.nd rfl (Or.inl rfl) (pe_op (op_addA (K := K)) (pv 3) (pe_lst (pa_cons (pe_op (op_addA (K := K)) (pe_slice (xsl (K := K)) (pv 2) po_none (po_some pe_int)) pe_str) (pa_cons (pe_op (op_addA (K := K)) (pe_op (op_addA (K := K)) (pe_slice (xsl (K := K)) (pv 2) po_none (po_some pe_int)) pe_str) (pe_slice (xsl (K := K)) (pv 2) (po_some pe_int) (po_some pe_int))) (pa_cons (pe_op (op_addA (K := K)) (pe_slice (xsl (K := K)) (pv 2) po_none (po_some pe_int)) pe_str) pa_nil))))))
    (pss_cons (ps_set (i := 4) sc_ano_pages.nd rfl (Or.inl rfl) (pc G_below hr (pa_cons (pv 0) (pa_cons pe_int pa_nil))))
    (pss_cons (ps_if (pt_cmpR (op_eqA (K := K) hr.units) (pv 4) pe_int (nomark _))
    (pss_one (ps_ret (pc G_pick hr (pa_cons (pv 0) (pa_cons (pe_lst (pa_cons (pe_lst pa_nil) (pa_cons (pe_tup pa_nil) (pa_cons pe_non (pa_cons (pv 2) (pa_cons pe_int (pa_cons pe_bl (pa_cons (pe_disp (pps_cons (pv 2) pe_int pps_nil) (by rfl) (by rfl) (fun z => by cases z) (by decide)) pa_nil)))))))) pa_nil)))))
    pss_nil)
    (pss_cons (ps_if (pt_cmpR (op_eqA (K := K) hr.units) (pv 4) pe_int (nomark _))
    (pss_one (ps_ret (pc G_mixed hr (pa_cons (pv 0) (pa_cons (pe_op (op_addA (K := K)) (pe_slice (xsl (K := K)) (pv 1) po_none (po_some pe_int)) (pe_lst (pa_cons (pv 2) (pa_cons (pv 2) pa_nil)))) pa_nil)))))
    pss_nil)
    (pss_cons (ps_if (pt_cmpR (op_eqA (K := K) hr.units) (pv 4) pe_int (nomark _))
    (pss_one (ps_ret (pc G_mixed hr (pa_cons (pv 0) (pa_cons (pe_op (op_addA (K := K)) (pc G_names hr (pa_cons (pv 0) (pa_cons pe_int pa_nil))) (pe_lst (pa_cons pe_str pa_nil))) pa_nil)))))
    pss_nil)
    (pss_cons (ps_if (pt_cmpR (op_eqA (K := K) hr.units) (pv 4) pe_int (nomark _))
    (pss_one (ps_ret (pc G_mixed hr (pa_cons (pv 0) (pa_cons (pe_op (op_addA (K := K)) (pe_slice (xsl (K := K)) (pv 1) po_none (po_some pe_int)) (pe_lst (pa_cons (pc G_pick hr (pa_cons (pv 0) (pa_cons (pe_lst (pa_cons pe_non (pa_cons pe_int (pa_cons pe_bl (pa_cons (pe_lst (pa_cons (pv 2) pa_nil)) (pa_cons (pe_tup (pa_cons (pv 2) pa_nil)) pa_nil)))))) pa_nil))) pa_nil))) pa_nil)))))
    pss_nil)
    (pss_one (ps_ret (pc G_mixed hr (pa_cons (pv 0) (pa_cons (pe_op (op_addA (K := K)) (pe_slice (xsl (K := K)) (pv 1) po_none (po_some pe_int)) (pe_lst (pa_cons (pc G_pick hr (pa_cons (pv 0) (pa_cons (pv 3) pa_nil))) pa_nil))) pa_nil))))))))))))), ?_⟩
    have lm : (ns.map V.str).length = ns.length := List.length_map _
    refine tseq (tasg ?_)
    refine ⟨_, rfl, _, rfl, G, st, cs, n, C, a, _, rfl, by omega, by omega, by omega, W, .gl ga, fun i v H1 hv W1 => ?_⟩
    obtain ⟨u, hu, rfl⟩ := map_get hv
    have hun : nameB u = true := nb u (List.mem_of_getElem? hu)
    have l8 := nameB_len hun
    have sz8 : u.length ≤ sizeLine := Nat.le_trans l8 (by decide)
    refine tnx (tseq (tasg ?_))
    have lA : ("abcdefgh0" : Str).length = 9 := by decide +kernel
    have c5 := cut_len u none (some (5 : Int))
    have c7 := cut_len u none (some (7 : Int))
    have c1 := cut_len u none (some (1 : Int))
    have c17 := cut_len u (some (1 : Int)) (some (7 : Int))
    have u1 : ("_" : Str).length = 1 := by decide +kernel
    have u2 : (" " : Str).length = 1 := by decide +kernel
    have u3 : ("\n" : Str).length = 1 := by decide +kernel
    have u4 : ("B" : Str).length = 1 := by decide +kernel
    have u5 : ("-" : Str).length = 1 := by decide +kernel
    have u6 : ("7" : Str).length = 1 := by decide +kernel
    refine ⟨_, rfl, rfl, u, rfl, rfl, by omega, ?_⟩
    refine ⟨_, rfl, rAddA.str (by omega) ⟨9, rfl, .inr (.inl ⟨_, rfl, Nat.le_trans (show (u ++ ("abcdefgh0" : Str)).length ≤ 100 by rw [len_app]; omega) (by decide), ?_⟩)⟩⟩
    refine ⟨_, rfl, 7, rfl, .inr (.inl ⟨_, rfl, sz8, rAddA.str (by omega) ?_⟩)⟩
    refine ⟨_, rfl, 5, rfl, .inr (.inl ⟨_, rfl, sz8, rAddA.str (by omega) ?_⟩)⟩
    refine ⟨_, rfl, 5, rfl, .inr (.inl ⟨_, rfl, sz8, rAddA.str (by omega) ?_⟩)⟩
    refine ⟨_, rfl, 5, rfl, .inr (.inl ⟨_, rfl, sz8, rAddA.str (by omega) ?_⟩)⟩
    refine ⟨by show 7 ≤ sizeLine; decide, fun p1 np1 => ?_⟩
    have W2 := W1.newG (o := .lst ((wrongs1 u).map V.str)) np1
    have g2 := W1.leG (o := .lst ((wrongs1 u).map V.str)) np1
    have gp1 : (upd G p1 (.lst ((wrongs1 u).map V.str))) p1 = some (.lst ((wrongs1 u).map V.str)) := upd_same
    have ga2 := g2 _ _ ga
    refine tnx (tseq (tasg ?_))
    refine ⟨_, rfl, _, rfl, 7, rfl, .inr (.inl ⟨_, rfl, sz8, rAddA.str (by omega) ?_⟩)⟩
    refine ⟨_, rfl, 1, rfl, .inr (.inl ⟨_, rfl, sz8, rAddA.str (by omega) ?_⟩)⟩
    refine ⟨_, rfl, 1, rfl, 7, rfl, .inr (.inl ⟨_, rfl, sz8, rAddA.str (by rw [len_app]; omega) ?_⟩)⟩
    refine ⟨_, rfl, 5, rfl, .inr (.inl ⟨_, rfl, sz8, rAddA.str (by omega) ?_⟩)⟩
    refine ⟨by show 3 ≤ sizeLine; decide, fun p2 np2 => ?_⟩
    have W3 := W2.newG (o := .lst ((wrongs2 u).map V.str)) np2
    have g3 := W2.leG (o := .lst ((wrongs2 u).map V.str)) np2
    refine rAddA.lst (xs := (wrongs1 u).map V.str) (ys := (wrongs2 u).map V.str) (W3.getG (g3 _ _ gp1)) upd_same (by show 7 + 3 ≤ 1000000; decide) fun p3 np3 => ?_
    have W4 := W3.newG (o := .lst ((wrongs1 u).map V.str ++ (wrongs2 u).map V.str)) np3
    have g4 := W3.leG (o := .lst ((wrongs1 u).map V.str ++ (wrongs2 u).map V.str)) np3
    have gp3 : (upd (upd (upd G p1 (.lst ((wrongs1 u).map V.str))) p2 (.lst ((wrongs2 u).map V.str))) p3 (.lst ((wrongs1 u).map V.str ++ (wrongs2 u).map V.str))) p3 = some (.lst ((wrongs1 u ++ wrongs2 u).map V.str)) := by
      rw [List.map_append]
      exact upd_same
    have sG := g2.trans (g3.trans g4)
    generalize upd (upd (upd G p1 (.lst ((wrongs1 u).map V.str))) p2 (.lst ((wrongs2 u).map V.str))) p3 (.lst ((wrongs1 u).map V.str ++ (wrongs2 u).map V.str)) = G4 at W4 gp3 sG
    clear W3 W2 W1 g2 g3 g4 gp1 ga2
    have ga4 := sG _ _ ga
    refine tnx (tseq (tasg ?_))
    refine ⟨_, rfl, G4, st, cs, _, C, 9, rfl, by decide, by decide, by omega, W4, fun d H5 hd W5 => ?_⟩
    have mix : ∀ {G' : Hp} {ts0 : List Lr.T} {ys : List V} {D : Addr} {H' : Hp} {m : Nat}, Same G G' → (∀ t ∈ ts0, GoodT G' t) → ts0.length ≤ 20 → (∀ ts, ts.Perm ts0 → BadP (.list (dataL ts))) → m ≤ n + 300 → ys.Perm (vals ts0) → SW G' st cs m ((D, .lst ys) :: (cellsL ts0 ++ C)) H' → Q (.ref D) H' := by
      intro G' ts0 ys D H' m s hg hl hb hm hp w
      obtain ⟨ts, e, hpt⟩ := perm_map_inv hp ts0 rfl
      refine k (.lst D ts) G' H' s (AnoT.list (fun t ht => hg t (hpt.mem_iff.mp ht)) (by rw [hpt.length_eq]; exact hl) (hb ts hpt)) ?_
      show SW G' st cs (n + 300) (((D, .lst (vals ts)) :: cellsL ts) ++ C) H'
      rw [show vals ts = ys from e.symm]
      exact ((w.mono hm).perm (List.Perm.cons _ (List.Perm.append_right _ (cellsL_perm hpt.symm))))
    have lots : ∀ {G' : Hp} {zs : List Str} {ys : List V} {D : Addr} {H' : Hp} {m : Nat}, Same G G' → (∀ s ∈ zs, s.length ≤ 1000000) → zs.length ≤ 20 → (∀ ys : List Str, ys.Perm zs → ys.Nodup → (∀ y ∈ ys, nameB y = true) → ¬ (1 ≤ ys.length ∧ ys.length ≤ 12)) → m ≤ n + 300 → ys.Perm (zs.map V.str) → SW G' st cs m ((D, .lst ys) :: C) H' → Q (.ref D) H' := by
      intro G' zs ys D H' m s hz hl hb hm hp w
      refine mix (ts0 := strT zs) (ys := ys) s (good_strs hz) (by rw [strT_len]; exact hl) (fun ts hts => BadP.list fun ys e nd nbb => hb ys (strT_data_perm hts e) nd nbb) hm (by rw [strT_vals]; exact hp) ?_
      rw [strT_cells]
      exact w
    have shn : ∀ s ∈ ns, s.length ≤ 1000000 := fun s hs => Nat.le_trans (nameB_len (nb s hs)) (by decide)
    have sht : ∀ s ∈ ns.take 11, s.length ≤ 1000000 := fun s hs => shn s (List.mem_of_mem_take hs)
    have lt : (ns.take 11).length ≤ 11 := List.length_take_le _ _
    have ecut : cutV (ns.map V.str) none (some (11 : Int)) = (ns.take 11).map V.str := by
      have := cutV_pre (ns.map V.str) 11
      rw [← List.map_take] at this
      exact this
    refine tnx (tseq ?_)
    refine ⟨_, rfl, rEqA.int ⟨_, rfl, ite2 (fun h0 => ?_) (fun h0 => ?_)⟩⟩
    · refine tret ?_
      refine ⟨_, rfl, Nat.zero_le _, fun o1 no1 => ?_⟩
      have W6 := W5.new (o := .lst []) no1
      refine ⟨Nat.zero_le _, fun o2 no2 => ?_⟩
      have W7 := W6.newG (o := .tup []) no2
      have s7 := W6.leG (o := .tup []) no2
      have go2 : (upd G4 o2 (.tup [])) o2 = some (.tup []) := upd_same
      refine ⟨_, rfl, ?_⟩
      intro o3 no3
      have W8 := (W7.new (o := .dK []) no3)
      refine ⟨_, rfl, ?_⟩
      refine ⟨W8.hd, [(Sum.inr u, .int 1)], rfl, by show 1 ≤ 15; decide, ?_⟩
      have W9 := W8.set (u := .dK [(Sum.inr u, V.int 1)])
      refine ⟨by show 7 ≤ sizeLine; decide, fun o4 no4 => ?_⟩
      have W10 := W9.newG (o := .lst [.ref o1, .ref o2, .non, .str u, .int 0, .bl true, .ref o3]) no4
      have s10 := W9.leG (o := .lst [.ref o1, .ref o2, .non, .str u, .int 0, .bl true, .ref o3]) no4
      refine ⟨_, st, cs, _, _, o4, _, rfl, by show 0 < 7; decide, by show 7 < 2 ^ 59; decide, by omega, W10, .gl upd_same, fun j v H7 hv W11 => ?_⟩
      have go9 := s10 _ _ go2
      have sg9 := sG.trans (s7.trans s10)
      have hm := List.mem_of_getElem? hv
      simp only [List.mem_cons, List.not_mem_nil, or_false] at hm
      have W12 := W11.mono (show n + 1 + 1 + 1 ≤ n + 300 by omega)
      have leaf : ∀ v : V, scal1 v → (∀ s, scalD v = .str s → s.length ≤ 1000000) → itemsD (scalD v) = none → Q v H7 := fun v hs hl hi => by
        have e1 : (Lr.T.leaf v).spoil.data = scalD v := rfl
        have e2 : Eqa (scalD v) ∧ dpS (scalD v) = 0 := by cases v <;> exact ⟨trivial, rfl⟩
        refine k (.leaf v) _ H7 sg9 ⟨hs, trivial, by show 0 < 5; decide, by rw [e1]; exact e2.1, by rw [e1, e2.2]; decide, fun ds e => ?_, BadP.none ?_⟩ W12.drop.drop
        · have e' : itemsD (scalD v) = some ds := e
          rw [hi] at e'
          cases e'
        · show namesD (scalD v) = none
          unfold namesD
          rw [hi]
          rfl
      rcases hm with rfl | rfl | rfl | rfl | rfl | rfl | rfl
      · refine k (.lst o1 []) _ H7 sg9 ⟨trivial, ⟨Nat.zero_le _, trivial⟩, by show 1 < 5; decide, ⟨⟨trivial, trivial⟩, by show 1 ≤ 100000; decide⟩, by show 1 < 5; decide, fun ds e => ?_, BadP.list fun ys e _ _ => ?_⟩ W12.drop
        · cases e
          exact ⟨Nat.zero_le _, fun d hd => by cases hd⟩
        · cases ys with
          | nil => simp
          | cons _ _ => cases e
      · refine k (.tup o2 []) _ H7 sg9 ⟨⟨go9, trivial⟩, ⟨Nat.zero_le _, trivial⟩, by show 1 < 5; decide, ⟨trivial, Nat.zero_le _⟩, by show 1 < 5; decide, fun ds e => ?_, BadP.len (ns := []) ?_ (by simp)⟩ W12.drop.drop
        · cases e
          exact ⟨Nat.zero_le _, fun d hd => by cases hd⟩
        · show (namesL [] []).map sortS = some []
          show some (sortS []) = some []
          rw [List.length_eq_zero_iff.mp (show (sortS []).length = 0 by rw [sortS_length]; rfl)]
      · exact leaf .non trivial (fun s e => by cases e) rfl
      · exact leaf (.str u) trivial (fun s e => by cases e; omega) rfl
      · exact leaf (.int 0) trivial (fun s e => by cases e) rfl
      · exact leaf (.bl true) trivial (fun s e => by cases e) rfl
      · refine k (.dic o3 [(Sum.inr u, .leaf (.int 1))]) _ H7 sg9 ⟨⟨by simp, fun p hp => ?_, trivial, trivial⟩, ⟨by show 1 ≤ 100000; decide, trivial, trivial⟩, by show 1 < 5; decide, ⟨⟨⟨Sum.inr u, rfl⟩, trivial, ⟨Sum.inr LATE, rfl⟩, trivial, trivial⟩, by show 2 ≤ 100000; decide⟩, by show 3 < 5; decide, (fun ds e => by cases e), BadP.none rfl⟩ (W12.swap.drop)
        rw [List.mem_singleton.mp hp]
        intro z
        exact nameB_ne_late hun (Sum.inr.inj z)
    refine tnext (tseq ?_)
    refine ⟨_, rfl, rEqA.int ⟨_, rfl, ite2 (fun h1 => ?_) (fun h1 => ?_)⟩⟩
    · refine tret ?_
      refine ⟨_, rfl, _, rfl, 11, rfl, .inl ⟨a, _, rfl, SqL.of (W5.getG ga4), fun q nq => ?_⟩⟩
      rw [ecut]
      have W6 := W5.newG (o := .lst ((ns.take 11).map V.str)) nq
      have s6 := W5.leG (o := .lst ((ns.take 11).map V.str)) nq
      have gq : (upd G4 q (.lst ((ns.take 11).map V.str))) q = some (.lst ((ns.take 11).map V.str)) := upd_same
      refine ⟨_, rfl, _, rfl, by show 2 ≤ sizeLine; decide, fun r nr => ?_⟩
      have W7 := W6.newG (o := .lst [.str u, .str u]) nr
      have s7 := W6.leG (o := .lst [.str u, .str u]) nr
      refine rAddA.lst (W7.getG (s7 _ _ gq)) upd_same (by rw [List.length_map]; simp; omega) fun t nt => ?_
      have W8 := W7.newG (o := .lst ((ns.take 11).map V.str ++ [.str u, .str u])) nt
      have s8 := W7.leG (o := .lst ((ns.take 11).map V.str ++ [.str u, .str u])) nt
      have e8 : (ns.take 11).map V.str ++ [.str u, .str u] = (ns.take 11 ++ [u, u]).map V.str := by rw [List.map_append]; rfl
      refine ⟨_, st, cs, _, C, t, _, rfl, by rw [e8, List.length_map, List.length_append]; simp; omega, by rw [e8, List.length_map, List.length_append]; simp; omega, W8, .gl upd_same, fun ys D H' hp nD W9 => ?_⟩
      have lq : ((ns.take 11).map V.str ++ [V.str u, V.str u]).length ≤ 13 := by rw [e8, List.length_map, List.length_append]; simp; omega
      rw [e8] at hp
      refine lots (sG.trans (s6.trans (s7.trans s8))) (fun s hs => ?_) (by rw [List.length_append]; simp; omega) (fun ys hys nd nbb => ?_) (by omega) hp W9
      · rcases List.mem_append.mp hs with hs | hs
        · exact sht s hs
        · have : s = u := by simpa using hs
          rw [this]
          omega
      · have := hys.nodup_iff.mp nd
        have := (List.nodup_append.mp this).2.1
        simp at this
    refine tnext (tseq ?_)
    refine ⟨_, rfl, rEqA.int ⟨_, rfl, ite2 (fun h2 => ?_) (fun h2 => ?_)⟩⟩
    · refine tret ?_
      refine ⟨_, rfl, _, rfl, G4, st, cs, _, C, 12, rfl, by decide, by omega, W5, fun zs p H6 lz nd srt nbz W6 => ?_⟩
      refine ⟨by show 1 ≤ sizeLine; decide, fun r nr => ?_⟩
      have W7 := W6.newG (o := .lst [.str "v99"]) nr
      have s7 := W6.leG (o := .lst [.str "v99"]) nr
      refine rAddA.lst W7.hd upd_same (by rw [List.length_map]; simp; omega) fun t nt => ?_
      have W8 := W7.newG (o := .lst (zs.map V.str ++ [.str "v99"])) nt
      have s8 := W7.leG (o := .lst (zs.map V.str ++ [.str "v99"])) nt
      have e8 : zs.map V.str ++ [.str "v99"] = (zs ++ [("v99" : Str)]).map V.str := by rw [List.map_append]; rfl
      have lq : (zs.map V.str ++ [V.str "v99"]).length = 13 := by rw [e8, List.length_map, List.length_append, lz]; rfl
      refine ⟨_, st, cs, _, _, t, _, rfl, by rw [lq]; decide, by rw [lq]; omega, W8, .gl upd_same, fun ys D H' hp nD W9 => ?_⟩
      rw [lq] at W9
      rw [e8] at hp
      refine lots (sG.trans (s7.trans s8)) (fun s hs => ?_) (by rw [List.length_append, lz]; decide) (fun ys hys nd nbb => ?_) (by omega) hp W9.swap.drop
      · rcases List.mem_append.mp hs with hs | hs
        · exact Nat.le_trans (nameB_len (nbz s hs)) (by decide)
        · rw [List.mem_singleton.mp hs]
          decide +kernel
      · have := hys.length_eq
        rw [List.length_append, lz] at this
        simp at this
        omega
    refine tnext (tseq ?_)
    refine ⟨_, rfl, rEqA.int ⟨_, rfl, ite2 (fun h3 => ?_) (fun h3 => ?_)⟩⟩
    · refine tret ?_
      refine ⟨_, rfl, _, rfl, 11, rfl, .inl ⟨a, _, rfl, SqL.of (W5.getG ga4), fun q nq => ?_⟩⟩
      rw [ecut]
      have W6 := W5.newG (o := .lst ((ns.take 11).map V.str)) nq
      have s6 := W5.leG (o := .lst ((ns.take 11).map V.str)) nq
      have gq : (upd G4 q (.lst ((ns.take 11).map V.str))) q = some (.lst ((ns.take 11).map V.str)) := upd_same
      refine ⟨_, rfl, _, rfl, by show 1 ≤ sizeLine; decide, fun o1 no1 => ?_⟩
      have W7 := W6.new (o := .lst [.str u]) no1
      refine ⟨_, rfl, by show 1 ≤ sizeLine; decide, fun o2 no2 => ?_⟩
      have W8 := W7.newG (o := .tup [.str u]) no2
      have s7 := W7.leG (o := .tup [.str u]) no2
      have go2 : (upd (upd G4 q (.lst ((ns.take 11).map V.str))) o2 (.tup [.str u])) o2 = some (.tup [.str u]) := upd_same
      refine ⟨by show 5 ≤ sizeLine; decide, fun o3 no3 => ?_⟩
      have W9 := W8.newG (o := .lst [.non, .int 1, .bl true, .ref o1, .ref o2]) no3
      have s8 := W8.leG (o := .lst [.non, .int 1, .bl true, .ref o1, .ref o2]) no3
      refine ⟨_, st, cs, _, _, o3, _, rfl, by show 0 < 5; decide, by show 5 < 2 ^ 59; decide, by omega, W9, .gl upd_same, fun j v H7 hv W10 => ?_⟩
      have gq9 := s8 _ _ (s7 _ _ gq)
      have go9 := s8 _ _ go2
      have sg9 := sG.trans (s6.trans (s7.trans s8))
      generalize upd (upd (upd G4 q (.lst ((ns.take 11).map V.str))) o2 (.tup [.str u])) o3 (.lst [.non, .int 1, .bl true, .ref o1, .ref o2]) = G9 at W10 gq9 go9 sg9
      obtain ⟨tv, etv, gtv, wtv, btv⟩ : ∃ tv : Lr.T, tv.val = v ∧ (∀ G', Same G9 G' → GoodT G' tv) ∧ SW G9 st cs (n + 1 + 1 + 1) (tv.cells ++ C) H7 ∧ ∀ s, tv.data ≠ .str s := by
        have hm := List.mem_of_getElem? hv
        simp only [List.mem_cons, List.not_mem_nil, or_false] at hm
        rcases hm with rfl | rfl | rfl | rfl | rfl
        · exact ⟨.leaf .non, rfl, fun G' _ => ⟨trivial, trivial, Nat.zero_le _, trivial, Nat.zero_le _, fun s e => by cases e⟩, W10.drop, fun s e => by cases e⟩
        · exact ⟨.leaf (.int 1), rfl, fun G' _ => ⟨trivial, trivial, Nat.zero_le _, trivial, Nat.zero_le _, fun s e => by cases e⟩, W10.drop, fun s e => by cases e⟩
        · exact ⟨.leaf (.bl true), rfl, fun G' _ => ⟨trivial, trivial, Nat.zero_le _, trivial, Nat.zero_le _, fun s e => by cases e⟩, W10.drop, fun s e => by cases e⟩
        · exact ⟨.lst o1 [.leaf (.str u)], rfl, fun G' _ => ⟨⟨trivial, trivial⟩, ⟨by show 1 ≤ 100000; decide, trivial, trivial⟩, by show 1 ≤ 1; decide, ⟨⟨trivial, trivial, trivial⟩, by show 2 ≤ 100000; decide⟩, by show 1 ≤ 1; decide, fun s e => by cases e⟩, W10, fun s e => by cases e⟩
        · exact ⟨.tup o2 [.leaf (.str u)], rfl, fun G' s9 => ⟨⟨s9 _ _ go9, trivial, trivial⟩, ⟨by show 1 ≤ 100000; decide, trivial, trivial⟩, by show 1 ≤ 1; decide, ⟨⟨trivial, trivial⟩, by show 1 ≤ 100000; decide⟩, by show 1 ≤ 1; decide, fun s e => by cases e⟩, W10.drop, fun s e => by cases e⟩
      subst etv
      refine ⟨by show 1 ≤ sizeLine; decide, fun r nr => ?_⟩
      have W11 := wtv.newG (o := .lst [tv.val]) nr
      have s11 := wtv.leG (o := .lst [tv.val]) nr
      refine rAddA.lst (W11.getG (s11 _ _ gq9)) upd_same (by rw [List.length_map]; simp; omega) fun t nt => ?_
      have W12 := W11.newG (o := .lst ((ns.take 11).map V.str ++ [tv.val])) nt
      have s12 := W11.leG (o := .lst ((ns.take 11).map V.str ++ [tv.val])) nt
      have e8 : (ns.take 11).map V.str ++ [tv.val] = vals (strT (ns.take 11) ++ [tv]) := by
        rw [vals, List.map_append]
        show _ = vals (strT (ns.take 11)) ++ _
        rw [strT_vals]
        rfl
      have lq : ((ns.take 11).map V.str ++ [tv.val]).length ≤ 12 := by rw [List.length_append, List.length_map]; simp; omega
      refine ⟨_, st, cs, _, _, t, _, rfl, by omega, by omega, W12, .gl upd_same, fun ys D H' hp nD W13 => ?_⟩
      rw [e8] at hp
      refine mix (ts0 := strT (ns.take 11) ++ [tv]) (ys := ys) (sg9.trans (s11.trans s12)) (fun t2 ht => ?_) (by rw [List.length_append, strT_len]; simp; omega) (fun ts hts => BadP.list fun ys e nd nbb => ?_) (Nat.le_refl _) hp ?_
      · rcases List.mem_append.mp ht with ht | ht
        · exact good_strs sht t2 ht
        · rw [List.mem_singleton.mp ht]
          exact gtv _ (s11.trans s12)
      · have hin : tv ∈ ts := hts.mem_iff.mpr (List.mem_append_right _ (by simp))
        have h9 : tv.data ∈ ys.map PyData.str := by
          rw [← e, dataL_map]
          exact List.mem_map.mpr ⟨tv, hin, rfl⟩
        obtain ⟨s, _, es⟩ := List.mem_map.mp h9
        exact absurd es.symm (btv s)
      · rw [cellsL_append, strT_cells]
        show SW _ st cs _ ((D, .lst ys) :: ((tv.cells ++ []) ++ C)) H'
        rw [List.append_nil]
        exact W13.mono (by omega)
    · refine tnext ?_
      refine tret ?_
      refine ⟨_, rfl, _, rfl, 11, rfl, .inl ⟨a, _, rfl, SqL.of (W5.getG ga4), fun q nq => ?_⟩⟩
      rw [ecut]
      have W6 := W5.newG (o := .lst ((ns.take 11).map V.str)) nq
      have s6 := W5.leG (o := .lst ((ns.take 11).map V.str)) nq
      have gq : (upd G4 q (.lst ((ns.take 11).map V.str))) q = some (.lst ((ns.take 11).map V.str)) := upd_same
      refine ⟨_, rfl, _, rfl, _, st, cs, _, C, p3, _, rfl, by show 0 < 10; decide, by show 10 < 2 ^ 59; decide, by omega, W6, .gl (s6 _ _ gp3), fun j v H7 hv W7 => ?_⟩
      obtain ⟨wv, hw, rfl⟩ := map_get hv
      obtain ⟨wb, wl⟩ := wrong_ok hun wv (List.mem_of_getElem? hw)
      refine ⟨by show 1 ≤ sizeLine; decide, fun r nr => ?_⟩
      have W8 := W7.newG (o := .lst [.str wv]) nr
      have s7 := W7.leG (o := .lst [.str wv]) nr
      refine rAddA.lst (W8.getG (s7 _ _ gq)) upd_same (by rw [List.length_map]; simp; omega) fun t nt => ?_
      have W9 := W8.newG (o := .lst ((ns.take 11).map V.str ++ [.str wv])) nt
      have s8 := W8.leG (o := .lst ((ns.take 11).map V.str ++ [.str wv])) nt
      have e8 : (ns.take 11).map V.str ++ [.str wv] = (ns.take 11 ++ [wv]).map V.str := by rw [List.map_append]; rfl
      have lq : ((ns.take 11).map V.str ++ [V.str wv]).length ≤ 12 := by rw [e8, List.length_map, List.length_append]; simp; omega
      refine ⟨_, st, cs, _, C, t, _, rfl, by omega, by omega, W9, .gl upd_same, fun ys D H' hp nD W10 => ?_⟩
      rw [e8] at hp
      refine lots (sG.trans (s6.trans (s7.trans s8))) (fun s hs => ?_) (by rw [List.length_append]; simp; omega) (fun ys hys nd nbb => ?_) (by omega) hp W10
      · rcases List.mem_append.mp hs with hs | hs
        · exact sht s hs
        · rw [List.mem_singleton.mp hs]
          omega
      · have := nbb wv (hys.mem_iff.mpr (List.mem_append_right _ (by simp)))
        rw [wb] at this
        cases this
end
end Lw_anop

namespace Lw_anor
open PySem PySem.Spec PyProof.Rows L2 Lr
def top (i : Nat) : Stmt := PySem.Challenge.pw_leastredo_k01_logs_hold_their_records.main.body.getD i (.Pass ⟨0, 0, 0, 0⟩)
abbrev s_ano_record : Stmt := top 31
abbrev N_ano_record : List Str := ["stream", "pages", "name", "strange", "kind", "one"]
theorem sc_ano_record : FnScope ["stream", "pages", "name", "strange", "kind", "one"] ["stream", "pages"] (defScope s_ano_record) := ⟨rfl, rfl, rfl, by decide +kernel, rfl, by decide +kernel, by decide +kernel⟩
structure Txt (mg : Str → Option Value) : Prop where
  b : Bl mg
section
variable {P : Program} {w : World} {K : PySem.W.Frag} {mg : Str → Option Value} {base : Heap}
theorem ok_ano_record (T : Txt mg) (F : FD K mg "_law_ano_record" s_ano_record ["stream", "pages"]) (G_below : Okf P w K mg base CX0 1 "_law_below" ["stream", "many"] spBelow) (G_pick : Okf P w K mg base CX0 2 "_law_pick" ["stream", "some"] spPick) :
    Okf P w K mg base CX0 3 "_law_ano_record" ["stream", "pages"] spAnoRecord := by
  refine F.ok sc_ano_record (fun vs H Q E h => ?_) (fun f cdv A outer s H vs Q E hr h => ?_)
  · obtain ⟨G, st, cs, n, C, a, ns, rfl, _⟩ := h
    rfl
  · obtain ⟨G, st, cs, n, C, a, ns, rfl, l1, l12, nb, ga, n40, W, k⟩ := h
    refine ⟨_, (pss_cons (ps_set (i := 2) sc_ano_record.nd rfl (Or.inl rfl) (pc G_pick hr (pa_cons (pv 0) (pa_cons (pv 1) pa_nil))))
    (pss_cons (ps_set (i := 3) sc_ano_record.nd rfl (Or.inl rfl) (pe_op (op_addA (K := K)) (pe_lc (own := [("one", 5)]) (g := gName 5) rfl sc_ano_record.nd (pi_seq (K := K) (pe_lst (pa_cons (pe_op (op_addA (K := K)) (pv 2) pe_str) (pa_cons (pe_op (op_addA (K := K)) pe_str (pv 2)) (pa_cons pe_str (pa_cons pe_str pa_nil)))))) (blkOk_by (N := N_ano_record) (sc := defScope s_ano_record) (by decide +kernel)) (fun _ _ _ _ _ => (pg_name (i := 5) sc_ano_record.nd rfl (Or.inl rfl))) (fun _ _ _ _ _ => (pts_one (pt_cmpR (op_notInA (K := K)) (pv 5) (pv 1) (by rfl)))) (fun _ _ _ _ _ => (pv 5))) (pe_lst (pa_cons pe_str pa_nil))))
    (pss_cons (ps_set (i := 4) sc_ano_record.nd rfl (Or.inl rfl) (pc G_below hr (pa_cons (pv 0) (pa_cons pe_int pa_nil))))
    (pss_cons (ps_if (pt_cmpR (op_eqA (K := K) hr.units) (pv 4) pe_int (nomark _))
    (pss_one (ps_ret (pc G_pick hr (pa_cons (pv 0) (pa_cons (pe_lst (pa_cons pe_non (pa_cons pe_int (pa_cons (pv 2) (pa_cons (pe_lst pa_nil) (pa_cons (pe_lst (pa_cons (pe_lst (pa_cons (pv 2) pa_nil)) pa_nil)) (pa_cons (pe_lst (pa_cons (pe_lst (pa_cons (pv 2) pa_nil)) (pa_cons (pe_lst (pa_cons (pv 2) pa_nil)) (pa_cons (pe_lst pa_nil) pa_nil)))) (pa_cons (pe_disp (pps_cons pe_str (pe_lst pa_nil) (pps_cons pe_str (pe_lst (pa_cons (pv 2) pa_nil)) pps_nil)) (by rfl) (by rfl) (fun z => by cases z) (by decide)) pa_nil)))))))) pa_nil)))))
    pss_nil)
    (pss_cons (ps_if (pt_cmpR (op_eqA (K := K) hr.units) (pv 4) pe_int (nomark _))
    (pss_one (ps_ret (pe_lst (pa_cons (pe_lst pa_nil) (pa_cons (pe_lst pa_nil) pa_nil)))))
    pss_nil)
    (pss_cons (ps_if (pt_cmpR (op_eqA (K := K) hr.units) (pv 4) pe_int (nomark _))
    (pss_one (ps_ret (pe_lst (pa_cons (pe_lst (pa_cons (pv 2) pa_nil)) (pa_cons (pe_tup pa_nil) pa_nil)))))
    pss_nil)
    (pss_cons (ps_if (pt_cmpR (op_eqA (K := K) hr.units) (pv 4) pe_int (nomark _))
    (pss_one (ps_ret (pe_tup (pa_cons (pe_lst (pa_cons (pv 2) (pa_cons (pv 2) pa_nil))) (pa_cons (pe_lst (pa_cons (pv 2) pa_nil)) pa_nil)))))
    pss_nil)
    (pss_cons (ps_if (pt_cmpR (op_eqA (K := K) hr.units) (pv 4) pe_int (nomark _))
    (pss_one (ps_ret (pe_lst (pa_cons (pe_lst pa_nil) (pa_cons (pe_lst (pa_cons (pv 2) (pa_cons (pv 2) pa_nil))) pa_nil)))))
    pss_nil)
    (pss_cons (ps_if (pt_cmpR (op_eqA (K := K) hr.units) (pv 4) pe_int (nomark _))
    (pss_one (ps_ret (pe_lst (pa_cons (pe_lst (pa_cons (pc G_pick hr (pa_cons (pv 0) (pa_cons (pv 3) pa_nil))) pa_nil)) (pa_cons (pe_lst (pa_cons (pv 2) pa_nil)) pa_nil)))))
    pss_nil)
    (pss_cons (ps_if (pt_cmpR (op_eqA (K := K) hr.units) (pv 4) pe_int (nomark _))
    (pss_one (ps_ret (pe_lst (pa_cons (pe_lst pa_nil) (pa_cons (pe_lst (pa_cons (pv 2) (pa_cons (pc G_pick hr (pa_cons (pv 0) (pa_cons (pv 3) pa_nil))) pa_nil))) pa_nil)))))
    pss_nil)
    (pss_one (ps_ret (pc G_pick hr (pa_cons (pv 0) (pa_cons (pe_lst (pa_cons (pe_lst (pa_cons (pv 2) (pa_cons (pe_lst (pa_cons (pv 2) pa_nil)) pa_nil))) (pa_cons (pe_lst (pa_cons pe_non (pa_cons (pe_lst (pa_cons (pv 2) pa_nil)) pa_nil))) (pa_cons (pe_lst (pa_cons (pe_lst pa_nil) (pa_cons (pv 2) pa_nil))) (pa_cons (pe_lst (pa_cons (pe_lst pa_nil) (pa_cons (pe_disp (pps_cons (pv 2) pe_int pps_nil) (by rfl) (by rfl) (fun z => by cases z) (by decide)) pa_nil))) (pa_cons (pe_lst (pa_cons (pe_lst (pa_cons pe_non pa_nil)) (pa_cons (pe_lst (pa_cons (pv 2) pa_nil)) pa_nil))) (pa_cons (pe_lst (pa_cons (pe_lst pa_nil) (pa_cons (pe_lst (pa_cons pe_int pa_nil)) pa_nil))) pa_nil))))))) pa_nil))))))))))))))), ?_⟩
    have lm : (ns.map V.str).length = ns.length := List.length_map _
    refine tseq (tasg ?_)
    refine ⟨_, rfl, _, rfl, G, st, cs, n, C, a, _, rfl, by omega, by omega, by omega, W, .gl ga, fun i v H1 hv W1 => ?_⟩
    obtain ⟨u, hu, rfl⟩ := map_get hv
    have hun : nameB u = true := nb u (List.mem_of_getElem? hu)
    have l8 := nameB_len hun
    have u1 : ("0" : Str).length = 1 := by decide +kernel
    have u2 : ("q" : Str).length = 1 := by decide +kernel
    refine tnx (tseq (tasg (top_ ?_)))
    refine .inl ⟨_, rfl, rAddA.str (by omega) ⟨_, rfl, rAddA.str (by omega) ?_⟩⟩
    refine ⟨by show 4 ≤ sizeLine; decide, fun q nq => ?_⟩
    obtain ⟨ss, ess⟩ : ∃ ss : List Str, ss = [u ++ ("0" : Str), ("q" : Str) ++ u, "zz", "v7"] := ⟨_, rfl⟩
    have lss : ∀ s ∈ ss, s.length ≤ 100 := by
      rw [ess]
      intro s hs
      simp only [List.mem_cons, List.not_mem_nil, or_false] at hs
      rcases hs with rfl | rfl | rfl | rfl
      · rw [len_app]; omega
      · rw [len_app]; omega
      · decide +kernel
      · decide +kernel
    have W2 := W1.newG (o := .lst (ss.map V.str)) nq
    have g2 := W1.leG (o := .lst (ss.map V.str)) nq
    have gq : (upd G q (.lst (ss.map V.str))) q = some (.lst (ss.map V.str)) := upd_same
    have ga2 := g2 _ _ ga
    have e4 : upd H1 q (.lst [V.str (u ++ ("0" : Str)), V.str (("q" : Str) ++ u), V.str "zz", V.str "v7"]) = upd H1 q (.lst (ss.map V.str)) := by rw [ess]; rfl
    have l4 : ss.length = 4 := by rw [ess]; rfl
    rw [e4]
    clear ess e4
    generalize upd G q (.lst (ss.map V.str)) = G2 at W2 g2 gq ga2
    generalize upd H1 q (.lst (ss.map V.str)) = H2 at W2
    refine ⟨q, rfl, ⟨_, SqL.of (W2.getG gq)⟩, fun D nD => lc_list (K := K) (a := q) (xs := ss.map V.str) (fun j H' => SW G2 st cs (n + 1) ((D, .lst (((ss.take j).filter fun n => decide (n ∉ ns)).map V.str)) :: C) H') (W2.new nD) (fun j H' _ W => SqL.of (W.getG gq)) ?_ ?_⟩
    · rintro j v H8 hv2 W8
      obtain ⟨y, hy, rfl⟩ := map_get hv2
      have e := filter_take (fun n => decide (n ∉ ns)) hy
      have eix : (if true = true then !decide (y ∈ ns) else decide (y ∈ ns)) = decide (y ∉ ns) := by simp
      refine ⟨rfl, ?_⟩
      refine ⟨_, rfl, _, rfl, rInA.strs (.inl (SqL.of (W8.getG ga2))) ⟨_, rfl, ?_⟩⟩
      rw [eix]
      refine ite2 (fun h => ?_) (fun h => ?_)
      · rw [if_pos h] at e
        refine ⟨_, rfl, _, W8.hd, sz_lt ?_, ?_⟩
        · rw [List.length_map]
          refine Nat.le_trans (List.length_filter_le _ _) ?_
          rw [List.length_take]
          omega
        · show SW G2 st cs (n + 1) ((D, .lst (((ss.take (j + 1)).filter fun n => decide (n ∉ ns)).map V.str)) :: C) _
          rw [e, List.map_append]
          exact W8.set
      · rw [if_neg h, List.append_nil] at e
        show SW G2 st cs (n + 1) ((D, .lst (((ss.take (j + 1)).filter fun n => decide (n ∉ ns)).map V.str)) :: C) _
        rw [e]
        exact W8
    rintro H8 W8
    rw [List.length_map, List.take_length] at W8
    obtain ⟨fs, efs⟩ : ∃ fs, fs = ss.filter fun n => decide (n ∉ ns) := ⟨_, rfl⟩
    rw [← efs] at W8
    have lfs : fs.length ≤ 4 := by
      rw [efs, ← l4]
      exact List.length_filter_le _ _
    refine ⟨by show 1 ≤ sizeLine; decide, fun r nr => ?_⟩
    have W9 := W8.newG (o := .lst [.str "Zz"]) nr
    have s9 := W8.leG (o := .lst [.str "Zz"]) nr
    refine rAddA.lst W9.hd upd_same (by rw [List.length_map]; simp; omega) fun t nt => ?_
    have W10 := (W9.newG (o := .lst (fs.map V.str ++ [.str "Zz"])) nt).drop
    have s10 := W9.leG (o := .lst (fs.map V.str ++ [.str "Zz"])) nt
    obtain ⟨sg, esg⟩ : ∃ sg, sg = fs ++ [("Zz" : Str)] := ⟨_, rfl⟩
    have gt : (upd (upd G2 r (.lst [.str "Zz"])) t (.lst (fs.map V.str ++ [.str "Zz"]))) t = some (.lst (sg.map V.str)) := by
      rw [upd_same, esg, List.map_append]
      rfl
    have sgo : ∀ s ∈ sg, s ∉ ns ∧ s.length ≤ 1000000 := by
      intro s hs
      rw [esg] at hs
      rcases List.mem_append.mp hs with hs | hs
      · rw [efs] at hs
        obtain ⟨h1, h2⟩ := List.mem_filter.mp hs
        exact ⟨by simpa using h2, by have := lss s h1; omega⟩
      · rw [List.mem_singleton.mp hs]
        refine ⟨fun hz => ?_, by decide +kernel⟩
        have := nb _ hz
        revert this
        decide +kernel
    have lsg : 0 < sg.length ∧ sg.length ≤ 5 := by
      rw [esg, List.length_append]
      exact ⟨by simp, by simp; omega⟩
    have sG := g2.trans (s9.trans s10)
    generalize upd (upd G2 r (.lst [.str "Zz"])) t (.lst (fs.map V.str ++ [.str "Zz"])) = G4 at W10 gt sG
    have mapl : (sg.map V.str).length = sg.length := List.length_map _
    refine tnx (tseq (tasg ?_))
    refine ⟨_, rfl, G4, st, cs, _, C, 8, rfl, by decide, by decide, by omega, W10, fun d H5 hd W5 => ?_⟩
    have fin : ∀ {d : PyData} {v : V} {G' H' : Hp} {m : Nat}, Same G4 G' → Rep G' d v → BadR ns d → m ≤ n + 20 → SW G' st cs m C H' → Q v H' := fun s r b hm w => k _ _ _ _ (sG.trans s) r b (w.mono hm)
    have hu9 : shS (.str u) := by show u.length ≤ 1000000; omega
    have no : ∀ {d : PyData}, itemsD d = none → BadR ns d := fun {d} h => ⟨by unfold rowD; rw [h], short2_0 h⟩
    refine tnx (tseq ?_)
    refine ⟨_, rfl, rEqA.int ⟨_, rfl, ite2 (fun h0 => ?_) (fun h0 => ?_)⟩⟩
    · refine tret ?_
      have hb : ∀ d ∈ [PyData.none, .int 1, .str u, .list [], .list [.list [.str u]], .list [.list [.str u], .list [.str u], .list []], .dict [(.str "reads", .list []), (.str "writes", .list [.str u])]], BadR ns d := by
        intro d hd
        simp only [List.mem_cons, List.not_mem_nil, or_false] at hd
        rcases hd with rfl | rfl | rfl | rfl | rfl | rfl | rfl
        · exact no rfl
        · exact no rfl
        · exact no rfl
        · exact ⟨rfl, short2_l (Nat.zero_le _) trivial⟩
        · exact ⟨rfl, short2_l (by show 1 ≤ 100000; decide) ⟨⟨by show 1 ≤ 63; decide, hu9, trivial⟩, trivial⟩⟩
        · exact ⟨rfl, short2_l (by show 3 ≤ 100000; decide) ⟨⟨by show 1 ≤ 63; decide, hu9, trivial⟩, ⟨by show 1 ≤ 63; decide, hu9, trivial⟩, ⟨Nat.zero_le _, trivial⟩, trivial⟩⟩
        · exact no rfl
      refine ⟨_, rfl, _, rfl, by show 0 ≤ sizeLine; decide, fun a1 na1 => ?_⟩
      obtain ⟨GA1, sA1, WA1, r1⟩ := W5.lstG na1 .nil
      refine ⟨_, rfl, by show 1 ≤ sizeLine; decide, fun a2 na2 => ?_⟩
      obtain ⟨GA2, sA2, WA2, r2⟩ := WA1.lstG na2 (.cons (.str u) .nil)
      refine ⟨by show 1 ≤ sizeLine; decide, fun a3 na3 => ?_⟩
      obtain ⟨GA3, sA3, WA3, r3⟩ := WA2.lstG na3 (.cons r2 .nil)
      refine ⟨_, rfl, by show 1 ≤ sizeLine; decide, fun a4 na4 => ?_⟩
      obtain ⟨GA4, sA4, WA4, r4⟩ := WA3.lstG na4 (.cons (.str u) .nil)
      refine ⟨_, rfl, by show 1 ≤ sizeLine; decide, fun a5 na5 => ?_⟩
      obtain ⟨GA5, sA5, WA5, r5⟩ := WA4.lstG na5 (.cons (.str u) .nil)
      refine ⟨by show 0 ≤ sizeLine; decide, fun a6 na6 => ?_⟩
      obtain ⟨GA6, sA6, WA6, r6⟩ := WA5.lstG na6 .nil
      refine ⟨by show 3 ≤ sizeLine; decide, fun a7 na7 => ?_⟩
      obtain ⟨GA7, sA7, WA7, r7⟩ := WA6.lstG na7 (.cons (r4.mono (sA5.trans sA6)) (.cons (r5.mono sA6) (.cons r6 .nil)))
      intro d1 nd1
      have WD1 := WA7.new (o := .dK []) nd1
      refine ⟨by show 0 ≤ sizeLine; decide, fun a8 na8 => ?_⟩
      obtain ⟨GA8, sA8, WA8, r8⟩ := WD1.lstG na8 .nil
      refine ⟨_, rfl, by show 1 ≤ sizeLine; decide, fun a9 na9 => ?_⟩
      obtain ⟨GA9, sA9, WA9, r9⟩ := WA8.lstG na9 (.cons (.str u) .nil)
      refine ⟨WA9.hd, [(Sum.inr ("reads" : Str), V.ref a8), (Sum.inr ("writes" : Str), V.ref a9)], rfl, by show 2 ≤ 15; decide, ?_⟩
      have WE10 := WA9.set (u := .dK [(Sum.inr ("reads" : Str), V.ref a8), (Sum.inr ("writes" : Str), V.ref a9)])
      have sA10 := WE10.leF
      have WA10 := WE10.frz
      have r10 : Rep _ _ (V.ref d1) := .dic (H := upd _ d1 (.dK [(Sum.inr ("reads" : Str), V.ref a8), (Sum.inr ("writes" : Str), V.ref a9)])) upd_same (RepK.mono sA10 (.cons (k := Sum.inr "reads") (r8.mono sA9) (.cons (k := Sum.inr "writes") r9 .nil)))
      refine ⟨by show 7 ≤ sizeLine; decide, fun a11 na11 => ?_⟩
      obtain ⟨GA11, sA11, WA11, r11⟩ := WA10.lstG na11 (.cons .non (.cons (.int 1) (.cons (.str u) (.cons (r1.mono (sA2.trans (sA3.trans (sA4.trans (sA5.trans (sA6.trans (sA7.trans (sA8.trans (sA9.trans sA10))))))))) (.cons (r3.mono (sA4.trans (sA5.trans (sA6.trans (sA7.trans (sA8.trans (sA9.trans sA10))))))) (.cons (r7.mono (sA8.trans (sA9.trans sA10))) (.cons r10 .nil)))))))
      cases r11 with
      | lst gl rl =>
        refine ⟨_, st, cs, _, C, a11, _, rfl, by rw [← rl.length]; show 0 < 7; decide, by rw [← rl.length]; show 7 < 2 ^ 59; decide, by omega, WA11, .gl gl, fun j v H9 hv2 WZ => ?_⟩
        obtain ⟨d9, b9, r9⟩ := Reps.pick rl hb hv2
        exact fin (sA1.trans (sA2.trans (sA3.trans (sA4.trans (sA5.trans (sA6.trans (sA7.trans (sA8.trans (sA9.trans (sA10.trans sA11)))))))))) r9 b9 (by omega) WZ
    refine tnext (tseq ?_)
    refine ⟨_, rfl, rEqA.int ⟨_, rfl, ite2 (fun h1 => ?_) (fun h1 => ?_)⟩⟩
    · refine tret ?_
      refine ⟨Nat.zero_le _, fun p1 np1 => ?_⟩
      obtain ⟨G5, s5, W6, r5⟩ := W5.lstG np1 .nil
      refine ⟨Nat.zero_le _, fun p2 np2 => ?_⟩
      obtain ⟨G6, s6, W7, r6⟩ := W6.lstG np2 .nil
      refine ⟨by show 2 ≤ sizeLine; decide, fun p3 np3 => ?_⟩
      obtain ⟨G7, s7, W8, r7⟩ := W7.lstG np3 (.cons (r5.mono s6) (.cons r6 .nil))
      exact fin (s5.trans (s6.trans s7)) r7 ⟨row_e lotD_nil, short2_l (by show 2 ≤ 100000; decide) ⟨⟨Nat.zero_le _, trivial⟩, ⟨Nat.zero_le _, trivial⟩, trivial⟩⟩ (by omega) W8
    refine tnext (tseq ?_)
    refine ⟨_, rfl, rEqA.int ⟨_, rfl, ite2 (fun h2 => ?_) (fun h2 => ?_)⟩⟩
    · refine tret ?_
      refine ⟨_, rfl, by show 1 ≤ sizeLine; decide, fun p1 np1 => ?_⟩
      obtain ⟨G5, s5, W6, r5⟩ := W5.lstG np1 (.cons (.str u) .nil)
      refine ⟨Nat.zero_le _, fun p2 np2 => ?_⟩
      obtain ⟨G6, s6, W7, r6⟩ := W6.tupG np2 .nil
      refine ⟨by show 2 ≤ sizeLine; decide, fun p3 np3 => ?_⟩
      obtain ⟨G7, s7, W8, r7⟩ := W7.lstG np3 (.cons (r5.mono s6) (.cons r6 .nil))
      exact fin (s5.trans (s6.trans s7)) r7 ⟨row_e lotD_nilT, short2_l (by show 2 ≤ 100000; decide) ⟨⟨by show 1 ≤ 63; decide, hu9, trivial⟩, ⟨Nat.zero_le _, trivial⟩, trivial⟩⟩ (by omega) W8
    refine tnext (tseq ?_)
    refine ⟨_, rfl, rEqA.int ⟨_, rfl, ite2 (fun h3 => ?_) (fun h3 => ?_)⟩⟩
    · refine tret ?_
      refine ⟨_, rfl, _, rfl, by show 2 ≤ sizeLine; decide, fun p1 np1 => ?_⟩
      obtain ⟨G5, s5, W6, r5⟩ := W5.lstG np1 (.cons (.str u) (.cons (.str u) .nil))
      refine ⟨_, rfl, by show 1 ≤ sizeLine; decide, fun p2 np2 => ?_⟩
      obtain ⟨G6, s6, W7, r6⟩ := W6.lstG np2 (.cons (.str u) .nil)
      refine ⟨by show 2 ≤ sizeLine; decide, fun p3 np3 => ?_⟩
      obtain ⟨G7, s7, W8, r7⟩ := W7.tupG np3 (.cons (r5.mono s6) (.cons r6 .nil))
      exact fin (s5.trans (s6.trans s7)) r7 ⟨row_t lotD_dup, short2_t (by show 2 ≤ 100000; decide) ⟨⟨by show 2 ≤ 63; decide, hu9, hu9, trivial⟩, ⟨by show 1 ≤ 63; decide, hu9, trivial⟩, trivial⟩⟩ (by omega) W8
    refine tnext (tseq ?_)
    refine ⟨_, rfl, rEqA.int ⟨_, rfl, ite2 (fun h4 => ?_) (fun h4 => ?_)⟩⟩
    · refine tret ?_
      refine ⟨Nat.zero_le _, fun p1 np1 => ?_⟩
      obtain ⟨G5, s5, W6, r5⟩ := W5.lstG np1 .nil
      refine ⟨_, rfl, _, rfl, by show 2 ≤ sizeLine; decide, fun p2 np2 => ?_⟩
      obtain ⟨G6, s6, W7, r6⟩ := W6.lstG np2 (.cons (.str u) (.cons (.str u) .nil))
      refine ⟨by show 2 ≤ sizeLine; decide, fun p3 np3 => ?_⟩
      obtain ⟨G7, s7, W8, r7⟩ := W7.lstG np3 (.cons (r5.mono s6) (.cons r6 .nil))
      exact fin (s5.trans (s6.trans s7)) r7 ⟨row_b lotD_dup, short2_l (by show 2 ≤ 100000; decide) ⟨⟨Nat.zero_le _, trivial⟩, ⟨by show 2 ≤ 63; decide, hu9, hu9, trivial⟩, trivial⟩⟩ (by omega) W8
    refine tnext (tseq ?_)
    refine ⟨_, rfl, rEqA.int ⟨_, rfl, ite2 (fun h5 => ?_) (fun h5 => ?_)⟩⟩
    · refine tret ?_
      refine ⟨_, rfl, _, rfl, G4, st, cs, _, C, t, _, rfl, by omega, by omega, by omega, W5, .gl gt, fun j v H6 hv2 W6 => ?_⟩
      obtain ⟨z, hz, rfl⟩ := map_get hv2
      obtain ⟨z1, z2⟩ := sgo z (List.mem_of_getElem? hz)
      refine ⟨by show 1 ≤ sizeLine; decide, fun p1 np1 => ?_⟩
      obtain ⟨G5, s5, W6, r5⟩ := W6.lstG np1 (.cons (.str z) .nil)
      refine ⟨_, rfl, by show 1 ≤ sizeLine; decide, fun p2 np2 => ?_⟩
      obtain ⟨G6, s6, W7, r6⟩ := W6.lstG np2 (.cons (.str u) .nil)
      refine ⟨by show 2 ≤ sizeLine; decide, fun p3 np3 => ?_⟩
      obtain ⟨G7, s7, W8, r7⟩ := W7.lstG np3 (.cons (r5.mono s6) (.cons r6 .nil))
      exact fin (s5.trans (s6.trans s7)) r7 ⟨row_a (lotD_not (d := .str z) (by simp) fun s hs e => by cases e; exact z1 hs), short2_l (by show 2 ≤ 100000; decide) ⟨⟨by show 1 ≤ 63; decide, z2, trivial⟩, ⟨by show 1 ≤ 63; decide, hu9, trivial⟩, trivial⟩⟩ (by omega) W8
    refine tnext (tseq ?_)
    refine ⟨_, rfl, rEqA.int ⟨_, rfl, ite2 (fun h6 => ?_) (fun h6 => ?_)⟩⟩
    · refine tret ?_
      refine ⟨Nat.zero_le _, fun p1 np1 => ?_⟩
      obtain ⟨G5, s5, W6, r5⟩ := W5.lstG np1 .nil
      refine ⟨_, rfl, _, rfl, _, rfl, G5, st, cs, _, C, t, _, rfl, by omega, by omega, by omega, W6, .gl (s5 _ _ gt), fun j v H6 hv2 W6 => ?_⟩
      obtain ⟨z, hz, rfl⟩ := map_get hv2
      obtain ⟨z1, z2⟩ := sgo z (List.mem_of_getElem? hz)
      refine ⟨by show 2 ≤ sizeLine; decide, fun p2 np2 => ?_⟩
      obtain ⟨G6, s6, W7, r6⟩ := W6.lstG np2 (.cons (.str u) (.cons (.str z) .nil))
      refine ⟨by show 2 ≤ sizeLine; decide, fun p3 np3 => ?_⟩
      obtain ⟨G7, s7, W8, r7⟩ := W7.lstG np3 (.cons (r5.mono s6) (.cons r6 .nil))
      exact fin (s5.trans (s6.trans s7)) r7 ⟨row_b (lotD_not (d := .str z) (by simp) fun s hs e => by cases e; exact z1 hs), short2_l (by show 2 ≤ 100000; decide) ⟨⟨Nat.zero_le _, trivial⟩, ⟨by show 2 ≤ 63; decide, hu9, z2, trivial⟩, trivial⟩⟩ (by omega) W8
    refine tnext ?_
    refine tret ?_
    have hb : ∀ d ∈ [PyData.list [.str u, .list [.str u]], .list [.none, .list [.str u]], .list [.list [], .str u], .list [.list [], .dict [(.str u, .int 1)]], .list [.list [.none], .list [.str u]], .list [.list [], .list [.int 1]]], BadR ns d := by
      intro d hd
      simp only [List.mem_cons, List.not_mem_nil, or_false] at hd
      rcases hd with rfl | rfl | rfl | rfl | rfl | rfl
      · exact ⟨row_a rfl, short2_l (by show 2 ≤ 100000; decide) ⟨trivial, ⟨by show 1 ≤ 63; decide, hu9, trivial⟩, trivial⟩⟩
      · exact ⟨row_a rfl, short2_l (by show 2 ≤ 100000; decide) ⟨trivial, ⟨by show 1 ≤ 63; decide, hu9, trivial⟩, trivial⟩⟩
      · exact ⟨row_b rfl, short2_l (by show 2 ≤ 100000; decide) ⟨⟨Nat.zero_le _, trivial⟩, trivial, trivial⟩⟩
      · exact ⟨row_b rfl, short2_l (by show 2 ≤ 100000; decide) ⟨⟨Nat.zero_le _, trivial⟩, trivial, trivial⟩⟩
      · exact ⟨row_a (lotD_not (d := .none) (by simp) fun s hs e => by cases e), short2_l (by show 2 ≤ 100000; decide) ⟨⟨by show 1 ≤ 63; decide, trivial, trivial⟩, ⟨by show 1 ≤ 63; decide, hu9, trivial⟩, trivial⟩⟩
      · exact ⟨row_b (lotD_not (d := .int 1) (by simp) fun s hs e => by cases e), short2_l (by show 2 ≤ 100000; decide) ⟨⟨Nat.zero_le _, trivial⟩, ⟨by show 1 ≤ 63; decide, trivial, trivial⟩, trivial⟩⟩
    refine ⟨_, rfl, _, rfl, _, rfl, by show 1 ≤ sizeLine; decide, fun a1 na1 => ?_⟩
    obtain ⟨GA1, sA1, WA1, r1⟩ := W5.lstG na1 (.cons (.str u) .nil)
    refine ⟨by show 2 ≤ sizeLine; decide, fun a2 na2 => ?_⟩
    obtain ⟨GA2, sA2, WA2, r2⟩ := WA1.lstG na2 (.cons (.str u) (.cons r1 .nil))
    refine ⟨_, rfl, by show 1 ≤ sizeLine; decide, fun a3 na3 => ?_⟩
    obtain ⟨GA3, sA3, WA3, r3⟩ := WA2.lstG na3 (.cons (.str u) .nil)
    refine ⟨by show 2 ≤ sizeLine; decide, fun a4 na4 => ?_⟩
    obtain ⟨GA4, sA4, WA4, r4⟩ := WA3.lstG na4 (.cons .non (.cons r3 .nil))
    refine ⟨by show 0 ≤ sizeLine; decide, fun a5 na5 => ?_⟩
    obtain ⟨GA5, sA5, WA5, r5⟩ := WA4.lstG na5 .nil
    refine ⟨_, rfl, by show 2 ≤ sizeLine; decide, fun a6 na6 => ?_⟩
    obtain ⟨GA6, sA6, WA6, r6⟩ := WA5.lstG na6 (.cons r5 (.cons (.str u) .nil))
    refine ⟨by show 0 ≤ sizeLine; decide, fun a7 na7 => ?_⟩
    obtain ⟨GA7, sA7, WA7, r7⟩ := WA6.lstG na7 .nil
    intro d1 nd1
    have WD1 := WA7.new (o := .dK []) nd1
    refine ⟨_, rfl, WD1.hd, [(Sum.inr (u : Str), V.int 1)], rfl, by show 1 ≤ 15; decide, ?_⟩
    have WE8 := WD1.set (u := .dK [(Sum.inr (u : Str), V.int 1)])
    have sA8 := WE8.leF
    have WA8 := WE8.frz
    have r8 : Rep _ _ (V.ref d1) := .dic (H := upd _ d1 (.dK [(Sum.inr (u : Str), V.int 1)])) upd_same (RepK.mono sA8 (.cons (k := Sum.inr u) (.int 1) .nil))
    refine ⟨by show 2 ≤ sizeLine; decide, fun a9 na9 => ?_⟩
    obtain ⟨GA9, sA9, WA9, r9⟩ := WA8.lstG na9 (.cons (r7.mono sA8) (.cons r8 .nil))
    refine ⟨by show 1 ≤ sizeLine; decide, fun a10 na10 => ?_⟩
    obtain ⟨GA10, sA10, WA10, r10⟩ := WA9.lstG na10 (.cons .non .nil)
    refine ⟨_, rfl, by show 1 ≤ sizeLine; decide, fun a11 na11 => ?_⟩
    obtain ⟨GA11, sA11, WA11, r11⟩ := WA10.lstG na11 (.cons (.str u) .nil)
    refine ⟨by show 2 ≤ sizeLine; decide, fun a12 na12 => ?_⟩
    obtain ⟨GA12, sA12, WA12, r12⟩ := WA11.lstG na12 (.cons (r10.mono sA11) (.cons r11 .nil))
    refine ⟨by show 0 ≤ sizeLine; decide, fun a13 na13 => ?_⟩
    obtain ⟨GA13, sA13, WA13, r13⟩ := WA12.lstG na13 .nil
    refine ⟨by show 1 ≤ sizeLine; decide, fun a14 na14 => ?_⟩
    obtain ⟨GA14, sA14, WA14, r14⟩ := WA13.lstG na14 (.cons (.int 1) .nil)
    refine ⟨by show 2 ≤ sizeLine; decide, fun a15 na15 => ?_⟩
    obtain ⟨GA15, sA15, WA15, r15⟩ := WA14.lstG na15 (.cons (r13.mono sA14) (.cons r14 .nil))
    refine ⟨by show 6 ≤ sizeLine; decide, fun a16 na16 => ?_⟩
    obtain ⟨GA16, sA16, WA16, r16⟩ := WA15.lstG na16 (.cons (r2.mono (sA3.trans (sA4.trans (sA5.trans (sA6.trans (sA7.trans (sA8.trans (sA9.trans (sA10.trans (sA11.trans (sA12.trans (sA13.trans (sA14.trans sA15))))))))))))) (.cons (r4.mono (sA5.trans (sA6.trans (sA7.trans (sA8.trans (sA9.trans (sA10.trans (sA11.trans (sA12.trans (sA13.trans (sA14.trans sA15))))))))))) (.cons (r6.mono (sA7.trans (sA8.trans (sA9.trans (sA10.trans (sA11.trans (sA12.trans (sA13.trans (sA14.trans sA15))))))))) (.cons (r9.mono (sA10.trans (sA11.trans (sA12.trans (sA13.trans (sA14.trans sA15)))))) (.cons (r12.mono (sA13.trans (sA14.trans sA15))) (.cons r15 .nil))))))
    cases r16 with
    | lst gl rl =>
      refine ⟨_, st, cs, _, C, a16, _, rfl, by rw [← rl.length]; show 0 < 6; decide, by rw [← rl.length]; show 6 < 2 ^ 59; decide, by omega, WA16, .gl gl, fun j v H9 hv2 WZ => ?_⟩
      obtain ⟨d9, b9, r9⟩ := Reps.pick rl hb hv2
      exact fin (sA1.trans (sA2.trans (sA3.trans (sA4.trans (sA5.trans (sA6.trans (sA7.trans (sA8.trans (sA9.trans (sA10.trans (sA11.trans (sA12.trans (sA13.trans (sA14.trans (sA15.trans sA16))))))))))))))) r9 b9 (by omega) WZ
end
end Lw_anor

namespace Lw_anol
open PySem PySem.Spec PyProof.Rows L2 Lr
def top (i : Nat) : Stmt := PySem.Challenge.pw_leastredo_k01_logs_hold_their_records.main.body.getD i (.Pass ⟨0, 0, 0, 0⟩)
abbrev s_ano_log_made : Stmt := top 32
abbrev N_ano_log_made : List Str := ["pages", "rows", "found", "e"]
theorem sc_ano_log_made : FnScope ["pages", "rows", "found", "e"] ["pages", "rows"] (defScope s_ano_log_made) := ⟨rfl, rfl, rfl, by decide +kernel, rfl, by decide +kernel, by decide +kernel⟩
structure Txt (K : PySem.W.Frag) (mg : Str → Option Value) (Cl CB fB CR fR : Addr) : Prop where
  b : Bl mg
  x_BadPages : PySem.Exthing.Txtthing "BadPages" "BadPages.__init__" K mg CB fB
  x_BadRecords : PySem.Exindex.Txtindex "BadRecords" "BadRecords.__init__" K mg CR fR
  nBR : PySem.W.exmOne K (.ref CR) (.ref CB) = some false
section
variable {P : Program} {w : World} {K : PySem.W.Frag} {mg : Str → Option Value} {base : Heap} {Cl CB fB CR fR : Addr}
theorem ok_ano_log_made (T : Txt K mg Cl CB fB CR fR) (F : FD K mg "_law_ano_log_made" s_ano_log_made ["pages", "rows"]) (M_Log : MkC P w K mg base (L2.CX P w) 5 "Log" Cl ["self", "pages", "records"] (spLogInit Cl CB CR)) :
    Okf P w K mg base CX0 8 "_law_ano_log_made" ["pages", "rows"] spAnoLogMade := by
  refine F.ok sc_ano_log_made (fun vs H Q E h => ?_) (fun f cdv A outer s H vs Q E hr h => ?_)
  · obtain ⟨G, C, dp, dr, vp, vr, rfl, _⟩ := h
    rfl
  · obtain ⟨G, C, dp, dr, vp, vr, rfl, W, hp, hd, sp, sr, nL, kP, kR⟩ := h
    refine ⟨_, (pss_cons (ps_set (i := 2) sc_ano_log_made.nd rfl (Or.inl rfl) pe_non)
      (pss_cons (ps_try_asMany (n := "e") (i := 3) (Wout := fun _ _ _ _ => False) rfl rfl sc_ano_log_made.nd rfl rfl (fun u s' ⟨_, _, _, _, _, _, _, _, _, _, _, _, _, _, _, _, w⟩ => w.elim)
        (fun W pn xe tk po => pss_one (ps_expr (pmkS M_Log (hr.mono (by omega)) (fun σ => passAt tk σ) (pa_cons (pv 0) (pa_cons (pv 1) pa_nil)))))
        (HdsAs.cons ⟨rfl, by decide, .inl T.x_BadPages.gC⟩ (fun a oe cls d pn hz hf => pss_one (ps_set (i := 2) sc_ano_log_made.nd rfl (Or.inl rfl) (pe_tup (pa_cons pe_str (pa_cons (L2.pe_byLow_thing T.x_BadPages hz hf (pv 3)) pa_nil)))))
        (HdsAs.cons ⟨rfl, by decide, .inl T.x_BadRecords.gC⟩ (fun a oe cls d pn hz hf => pss_one (ps_set (i := 2) sc_ano_log_made.nd rfl (Or.inl rfl) (pe_tup (pa_cons pe_str (pa_cons (L2.pe_byLow_index T.x_BadRecords hz hf (pv 3)) pa_nil)))))
        HdsAs.nil)))
      (pss_one (ps_ret (pv 2))))), ?_⟩
    refine tnx (tseq ?_)
    refine tdrop ?_
    refine ⟨_, rfl, _, rfl, fun x dx nx nd ne => ?_⟩
    have w1 := W.newG (o := .own x) nd
    have s1 := W.leG (o := .own x) nd
    have w2 := w1.new (o := .ins Cl dx []) (show (upd H dx (.own x)) x = none by rw [upd_ne (fun z => ne z.symm)]; exact nx)
    refine ⟨_, _, x, dx, dp, dr, vp, vr, rfl, w2, (hp.mono s1), (hd.mono s1), sp, sr, (fun e G' H' dd s w gd => ?_), (fun i e G' H' dd s w gd => ?_), fun L e => (nL L e).elim⟩
    · refine ⟨true, T.x_BadPages.te, fun _ a na => ?_, fun z => by cases z⟩
      refine tasg ?_
      refine ⟨_, rfl, rfl, rfl, dd, vp, rfl, w.getG gd, by show 2 ≤ sizeLine; decide, fun p np => ?_⟩
      exact ⟨_, rfl, kP e _ _ p (s1.trans (s.trans (w.leG np))) (w.newG np) upd_same⟩
    · refine ⟨false, T.nBR, (fun z => by cases z), fun _ => ⟨true, T.x_BadRecords.te, fun _ a na => ?_, fun z => by cases z⟩⟩
      refine tasg ?_
      refine ⟨_, rfl, rfl, rfl, dd, .int i, rfl, w.getG gd, by show 2 ≤ sizeLine; decide, fun p np => ?_⟩
      exact ⟨_, rfl, kR i e _ _ p (s1.trans (s.trans (w.leG np))) (w.newG np) upd_same⟩
end
end Lw_anol

namespace Lw_law
open PySem PySem.Spec PyProof.Rows L2 Lr
def top (i : Nat) : Stmt := PySem.Challenge.pw_leastredo_k01_logs_hold_their_records.main.body.getD i (.Pass ⟨0, 0, 0, 0⟩)
abbrev s_law : Stmt := top 34
abbrev N_law : List Str := ["script", "stream", "size", "log", "turn", "thing", "found", "rows", "at", "full", "k"]
theorem sc_law : FnScope ["script", "stream", "size", "log", "turn", "thing", "found", "rows", "at", "full", "k"] ["script"] (defScope s_law) := ⟨rfl, rfl, rfl, by decide +kernel, rfl, by decide +kernel, by decide +kernel⟩
structure Txt (K : PySem.W.Frag) (mg : Str → Option Value) (Cl : Addr) : Prop where
  b : Bl mg
  cl_Log : Cls K Cl
section
variable {P : Program} {w : World} {K : PySem.W.Frag} {mg : Str → Option Value} {base : Heap} {Cl CB CR : Addr}
theorem ok_law {f : Addr} {fd : FuncData} (T : Txt K mg Cl) (F : Fun K "law" "law" s_law f fd) (G_start : Okf P w K mg base CX0 1 "_law_start" ["script"] (spStart K)) (G_below : Okf P w K mg base CX0 1 "_law_below" ["stream", "many"] spBelow) (G_chance : Okf P w K mg base CX0 2 "_law_chance" ["stream", "many"] spChance) (G_pick : Okf P w K mg base CX0 2 "_law_pick" ["stream", "some"] spPick)
    (G_log : Okf P w K mg base CX0 5 "_law_log" ["stream", "size"] spLog) (G_record : Okf P w K mg base CX0 3 "_law_record" ["stream", "pages", "plain"] spRecord) (G_aheld : Okf P w K mg base CX0 8 "_law_aheld" ["stream", "log"] spAheld)
    (G_ano_pages : Okf P w K mg base CX0 5 "_law_ano_pages" ["stream", "pages"] spAnoPages) (G_ano_record : Okf P w K mg base CX0 3 "_law_ano_record" ["stream", "pages"] spAnoRecord) (G_ano_log_made : Okf P w K mg base CX0 8 "_law_ano_log_made" ["pages", "rows"] spAnoLogMade)
    (G_spoilt : Okf P w K mg base CX0 5 "_law_spoilt" ["thing"] (spSpoilt 5)) (G_same : Okf P w K mg base CX0 5 "_law_same" ["found", "due"] (spSame 5)) (G_Log_size : Okm P w K mg base CX0 1 Cl "size" ["self"] (spSize Cl))
    (M_Log : MkC P w K mg base (L2.CX P w) 5 "Log" Cl ["self", "pages", "records"] (spLogInit Cl CB CR)) : FnOk P w K mg base CX0 9 f fd ["script"] (spLaw K) := by
  refine F.ok sc_law (fun vs H Q E h => ?_) (fun cdv A outer s H vs Q E hr h => ?_)
  · obtain ⟨a, ns, rfl, _⟩ := h
    rfl
  · obtain ⟨a0, ns0, rfl, S0, _, k⟩ := h
    refine ⟨_, (pss_cons (ps_set (i := 1) sc_law.nd rfl (Or.inr rfl) (pc G_start hr (pa_cons (pv 0) pa_nil)))
    (pss_cons (ps_for PassesOwn.never rfl (pi_seq (K := K) (pe_lst (pa_cons pe_int (pa_cons (pc G_below hr (pa_cons (pv 1) (pa_cons pe_int pa_nil))) pa_nil)))) (pg_name (i := 2) sc_law.nd rfl (Or.inl rfl))
    (pss_cons (ps_set (i := 3) sc_law.nd rfl (Or.inr rfl) (pc G_log hr (pa_cons (pv 1) (pa_cons (pv 2) pa_nil))))
    (pss_cons (ps_if (pt_not (pt_val (pc G_aheld hr (pa_cons (pv 1) (pa_cons (pv 3) pa_nil)))))
    (pss_one (ps_ret pe_bl))
    pss_nil)
    (pss_cons (ps_for PassesOwn.never rfl (pi_range1 rfl T.b.range (pa_cons pe_int pa_nil)) (pg_name (i := 4) sc_law.nd rfl (Or.inl rfl))
    (pss_cons (ps_set (i := 5) sc_law.nd rfl (Or.inl rfl) (pc G_ano_pages hr (pa_cons (pv 1) (pa_cons (pe_ix (xix (K := K)) (pv 3) pe_int (fun _ _ => rfl)) pa_nil))))
    (pss_cons (ps_set (i := 6) sc_law.nd rfl (Or.inl rfl) (pc G_ano_log_made hr (pa_cons (pv 5) (pa_cons (pc G_pick hr (pa_cons (pv 1) (pa_cons (pe_lst (pa_cons (pe_lst pa_nil) (pa_cons (pe_ix (xix (K := K)) (pv 3) pe_int (fun _ _ => rfl)) (pa_cons pe_non (pa_cons (pe_lst (pa_cons pe_non pa_nil)) pa_nil))))) pa_nil))) pa_nil))))
    (pss_cons (ps_expr (pc G_spoilt hr (pa_cons (pv 5) pa_nil)))
    (pss_cons (ps_if (PW.pt (pw_or (pt_cmpR op_isN (pv 6) pe_non (nomark _)) (pw_or (pt_cmpR (op_neA (K := K) hr.units) (pe_ix (xix (K := K)) (pv 6) pe_int (fun _ _ => rfl)) pe_str (nomark _)) (pw_or1 (pt_not (pt_val (pc G_same hr (pa_cons (pe_ix (xix (K := K)) (pv 6) pe_int (fun _ _ => rfl)) (pa_cons (pv 5) pa_nil)))))))))
    (pss_one (ps_ret pe_bl))
    pss_nil)
    (pss_cons (ps_set (i := 7) sc_law.nd rfl (Or.inl rfl) (pe_slice (xsl (K := K)) (pe_callTy (call_listA (K := K) rfl) (by rfl) T.b.list (by decide +kernel) (pa_cons (pe_ix (xix (K := K)) (pv 3) pe_int (fun _ _ => rfl)) pa_nil)) po_none (po_some pe_int)))
    (pss_cons (ps_set (i := 8) sc_law.nd rfl (Or.inl rfl) (pc G_below hr (pa_cons (pv 1) (pa_cons (pe_op (op_addA (K := K)) (pe_callB (call_lenA (K := K)) (by rfl) T.b.len (by decide +kernel) (pa_cons (pv 7) pa_nil)) pe_int) pa_nil))))
    (pss_cons (ps_expr (xbm (K := K) PySem.F.plainAttrs_list PySem.F.slot_list_insert PySem.F.type_list_insert mt_insert (pv 7) (pa_cons (pv 8) (pa_cons (pc G_ano_record hr (pa_cons (pv 1) (pa_cons (pe_ix (xix (K := K)) (pv 3) pe_int (fun _ _ => rfl)) pa_nil))) pa_nil))))
    (pss_cons (ps_if (pt_val (pc G_chance hr (pa_cons (pv 1) (pa_cons pe_int pa_nil))))
    (pss_one (ps_expr (xbm (K := K) PySem.F.plainAttrs_list PySem.F.slot_list_append PySem.F.type_list_append mt_append (pv 7) (pa_cons (pc G_ano_record hr (pa_cons (pv 1) (pa_cons (pe_ix (xix (K := K)) (pv 3) pe_int (fun _ _ => rfl)) pa_nil))) pa_nil))))
    pss_nil)
    (pss_one (ps_if (pt_not (pt_val (pc G_same hr (pa_cons (pc G_ano_log_made hr (pa_cons (pe_ix (xix (K := K)) (pv 3) pe_int (fun _ _ => rfl)) (pa_cons (pc G_pick hr (pa_cons (pv 1) (pa_cons (pe_lst (pa_cons (pv 7) (pa_cons (pe_callTy (call_tupleA (K := K)) (by rfl) T.b.tuple (by decide +kernel) (pa_cons (pv 7) pa_nil)) pa_nil))) pa_nil))) pa_nil))) (pa_cons (pe_tup (pa_cons pe_str (pa_cons (pv 8) pa_nil))) pa_nil)))))
    (pss_one (ps_ret pe_bl))
    pss_nil)))))))))))
    (pss_cons (ps_setLc (i := 9) (own := [("k", 10)]) (g := gName 10) (tt := tYes) rfl sc_law.nd rfl rfl (sw_true rfl rfl rfl (by decide +kernel)) (pi_range1 rfl T.b.range (pa_cons pe_int pa_nil)) (blkOk_by (N := N_law) (sc := defScope s_law) (by decide +kernel)) (fun _ _ _ _ _ => (pg_name (i := 10) sc_law.nd rfl (Or.inl rfl))) (fun _ _ _ _ _ => pts_nil) (fun _ _ _ _ _ => (pc G_record hr (pa_cons (pv 1) (pa_cons (pe_ix (xix (K := K)) (pv 3) pe_int (fun _ _ => rfl)) (pa_cons pe_bl pa_nil))))))
    (pss_cons (ps_if (pt_not (pt_val (pc G_same hr (pa_cons (pm0 (pmk M_Log hr (pa_cons (pe_ix (xix (K := K)) (pv 3) pe_int (fun _ _ => rfl)) (pa_cons (pv 9) pa_nil))) T.cl_Log G_Log_size hr) (pa_cons pe_int pa_nil)))))
    (pss_one (ps_ret pe_bl))
    pss_nil)
    (pss_cons (ps_expr (xbm (K := K) PySem.F.plainAttrs_list PySem.F.slot_list_append PySem.F.type_list_append mt_append (pv 9) (pa_cons (pc G_pick hr (pa_cons (pv 1) (pa_cons (pe_op (op_addA (K := K)) (pv 9) (pe_lst (pa_cons pe_non pa_nil))) pa_nil))) pa_nil)))
    (pss_cons (ps_if (pt_not (pt_val (pc G_same hr (pa_cons (pc G_ano_log_made hr (pa_cons (pe_ix (xix (K := K)) (pv 3) pe_int (fun _ _ => rfl)) (pa_cons (pv 9) pa_nil))) (pa_cons (pe_tup (pa_cons pe_str (pa_cons pe_int pa_nil))) pa_nil)))))
    (pss_one (ps_ret pe_bl))
    pss_nil)
    (pss_cons (ps_set (i := 5) sc_law.nd rfl (Or.inl rfl) (pc G_pick hr (pa_cons (pv 1) (pa_cons (pe_lst (pa_cons pe_non (pa_cons pe_int (pa_cons pe_str (pa_cons pe_dnewK (pa_cons pe_bl pa_nil)))))) pa_nil))))
    (pss_one (ps_if (pt_not (pt_val (pc G_same hr (pa_cons (pc G_ano_log_made hr (pa_cons (pe_ix (xix (K := K)) (pv 3) pe_int (fun _ _ => rfl)) (pa_cons (pv 5) pa_nil))) (pa_cons (pe_tup (pa_cons pe_str (pa_cons pe_int pa_nil))) pa_nil)))))
    (pss_one (ps_ret pe_bl))
    pss_nil)))))))))))
    (pss_one (ps_ret pe_bl)))), ?_⟩
    have W00 : WF H [] H := ⟨Same.refl H, (fun c hc => by cases hc), List.nodup_nil⟩
    refine tseq (tasg ?_)
    refine ⟨_, rfl, H, [], a0, ns0, rfl, W00, S0, fun st cs H1 W1 => ?_⟩
    refine tnx (tseq ?_)
    refine .inl ⟨_, rfl, H, st, cs, 0, [], 2, rfl, by decide, by decide, by decide, W1, fun d H2 hd W2 => ⟨by show 2 ≤ sizeLine; decide, fun l nl => ?_⟩⟩
    have W3 := W2.newG (o := .lst [.int 2, .int d]) nl
    have gl : (upd H l (.lst [.int 2, .int d])) l = some (.lst [.int 2, .int d]) := upd_same
    generalize upd H l (.lst [.int 2, .int d]) = G1 at W3 gl
    generalize upd H2 l (.lst [.int 2, .int d]) = H3 at W3
    refine ⟨l, rfl, ⟨_, SqL.of (W3.getG gl)⟩, for_list (K := K) (a := l) (xs := [.int 2, .int d]) (fun i σ H' => ∃ (G' : Hp) (y2 y3 y4 y5 y6 y7 y8 y9 : Option V), Same G1 G' ∧ SW G' st cs (0 + 1 + 30000 * i) [] H' ∧ σ = [some (.ref a0), some (.ref st), y2, y3, y4, y5, y6, y7, y8, y9, none]) ⟨G1, _, _, _, _, _, _, _, _, Same.refl _, W3, rfl⟩ ?_ ?_ ?_⟩
    · rintro i σ H' _ ⟨G', _, _, _, _, _, _, _, _, s, w, _⟩
      exact SqL.of (w.getG (s _ _ gl))
    rotate_left
    · rintro σ H8 ⟨G', _, _, _, _, _, _, _, _, s, w, rfl⟩
      exact k H8
    rintro i v σ H4 hv ⟨G2, y2, y3, y4, y5, y6, y7, y8, y9, s2, W4, rfl⟩
    have hi : i < 2 := (List.getElem?_eq_some_iff.mp hv).1
    obtain ⟨z, z2, rfl⟩ : ∃ z : Nat, z ≤ 2 ∧ v = .int z := by
      have hm := List.mem_of_getElem? hv
      simp only [List.mem_cons, List.not_mem_nil, or_false] at hm
      rcases hm with rfl | rfl
      · exact ⟨2, by decide, rfl⟩
      · exact ⟨d, by omega, rfl⟩
    obtain ⟨n, en⟩ : ∃ n, n = 0 + 1 + 30000 * i := ⟨_, rfl⟩
    have n1 : n ≤ 30001 := by omega
    rw [← en] at W4
    refine tseq (tasg ?_)
    refine ⟨_, rfl, _, rfl, G2, st, cs, n, [], z, rfl, z2, by omega, W4, fun L a G3 H5 V0 s3 W5 => ?_⟩
    refine tnx (tseq ?_)
    refine ⟨_, rfl, _, rfl, G3, st, cs, _, [], a, L, rfl, V0, by omega, W5, fun G4 H6 s4 W6 => ⟨_, rfl, iteF ?_⟩⟩
    have V4 := V0.mono s4
    have PG := V0.pgs
    have s24 := s2.trans (s3.trans s4)
    refine tnext (tseq ?_)
    refine ⟨3, rfl, by decide, by decide, for_range (n := (3 : Int).toNat) (fun i σ H' => ∃ (G' : Hp) (y4 y5 y6 y7 y8 y9 : Option V), Same G4 G' ∧ SW G' st cs (n + 3000 + 6000 + 500 * i) [] H' ∧ σ = [some (.ref a0), some (.ref st), some (.int z), some (.ref a), y4, y5, y6, y7, y8, y9, none]) ⟨G4, _, _, _, _, _, _, Same.refl _, W6, rfl⟩ ?_ ?_⟩
    · rintro j σ H7 hj ⟨G5, x4, x5, x6, x7, x8, x9, s5, W7, rfl⟩
      have hj' : j < 3 := hj
      obtain ⟨m, em⟩ : ∃ m, m = n + 3000 + 6000 + 500 * j := ⟨_, rfl⟩
      have m1 : m ≤ 41000 := by omega
      rw [← em] at W7
      obtain ⟨lp, lq, rvs, g1, g2, g3, g4⟩ := (V4.mono s5).ex
      have VL := V4.mono s5
      refine tseq (tasg ?_)
      refine ⟨_, rfl, _, rfl, rIx.lst (W7.getG g1) (atI_nat (j := 0) rfl) ⟨G5, st, cs, m, [], lp, L.names, rfl, PG.nn.1, PG.nn.2, PG.nb, g2, by omega, W7, fun t G6 H8 s6 A6 W8 => ?_⟩⟩
      refine tnx (tseq (tasg ?_))
      have V6 := VL.mono s6
      obtain ⟨lp6, lq6, rv6, k1, k2, k3, k4⟩ := V6.ex
      have lr6 := k4.length
      rw [List.length_map] at lr6
      have l60 := V6.rl
      refine tcall2 ⟨_, rfl, _, rfl, Nat.zero_le _, fun p1 np1 => ?_⟩
      obtain ⟨G7, s7, W9, r1⟩ := W8.lstG np1 .nil
      refine ⟨_, rfl, rIx.lst (W9.getG (s7 _ _ k1)) (atI_nat (j := 1) rfl) ?_⟩
      refine ⟨by show 1 ≤ sizeLine; decide, fun p2 np2 => ?_⟩
      obtain ⟨G8, s8, W10, r2⟩ := W9.lstG np2 (.cons .non .nil)
      have rL : Rep G8 (.list (L.rows.map recD)) (.ref lq6) := .lst (s8 _ _ (s7 _ _ k3)) (k4.mono (s7.trans s8))
      refine ⟨by show 4 ≤ sizeLine; decide, fun p3 np3 => ?_⟩
      obtain ⟨G9, s9, W11, r3⟩ := W10.lstG np3 (.cons (r1.mono s8) (.cons rL (.cons .non (.cons r2 .nil))))
      have lg : ∀ e ∈ [PyData.list [], .list (L.rows.map recD), .none, .list [.none]], LongD e := by
        intro e he
        simp only [List.mem_cons, List.not_mem_nil, or_false] at he
        rcases he with rfl | rfl | rfl | rfl
        · exact long_of rfl (Nat.zero_le _) (fun e he => by cases he)
        · refine long_of rfl (by rw [List.length_map]; omega) fun e he => ?_
          obtain ⟨r, hr2, rfl⟩ := List.mem_map.mp he
          exact short2_rec PG (V6.rok r hr2)
        · exact long_non rfl
        · refine long_of rfl (by show 1 ≤ 100000; decide) fun e he => ?_
          rw [List.mem_singleton.mp he]
          exact short2_0 rfl
      cases r3 with
      | lst gp3 rl3 =>
      refine ⟨G9, st, cs, _, _, p3, _, rfl, by rw [← rl3.length]; show 0 < 4; decide, by rw [← rl3.length]; show 4 < 2 ^ 59; decide, by omega, W11, .gl gp3, fun i9 v9 H9 hv9 W12 => ?_⟩
      obtain ⟨d9, ld9, rd9⟩ := Reps.pick rl3 lg hv9
      have s69 := s7.trans (s8.trans s9)
      have A9 := A6.mono s69
      refine SW.anoP W12 (RepC.tree A9.ok W12.wf) (RepC.of rd9) A9.st ld9 (A9.bad d9) fun G10 H10 pf s10 W13 gpf => ?_
      refine tnx (tseq ?_)
      refine tdrop (tcall1 ⟨_, rfl, ?_⟩)
      have A10 := A9.mono s10
      refine SW.spoilt (t := t) W13 A10.ok A10.sm A10.dp fun H11 W14 => ?_
      refine tnx (tseq ?_)
      refine ⟨_, rfl, rfl, _, rfl, iteF ?_⟩
      refine ⟨_, rfl, rIx.tup (W14.getG gpf) (atI_nat (j := 0) rfl) (rNeA.sc rfl (by decide +kernel) ⟨_, rfl, iteF ?_⟩)⟩
      have rsp := rep_spoilt A10.ok W14.wf
      refine ⟨_, rfl, rIx.tup (W14.getG gpf) (atI_nat (j := 1) rfl) ?_⟩
      refine ⟨_, rfl, t.spoil.data, _, _, rfl, rsp, rsp, A10.eq, A10.ds, fun H12 s12 => ⟨_, rfl, iteF ?_⟩⟩
      have W15 := (W14.same s12).dropL
      have s510 := s6.trans (s69.trans s10)
      have V10 := VL.mono s510
      clear W14 W13 W12 W11 W10 W9 W8 rsp rd9 rl3 r1 r2 rL
      refine tnext (tseq (tasg ?_))
      obtain ⟨lpA, lqA, rvA, h1, h2, h3, h4⟩ := V10.ex
      have lrA := h4.length
      rw [List.length_map] at lrA
      refine ⟨_, rfl, rIx.lst (W15.getG h1) (atI_nat (j := 1) rfl) (rListA.sq (.inl (SqL.of (W15.getG h3))) fun q1 nq1 => ⟨59, rfl, .inl ⟨q1, _, rfl, SqL.of upd_same, fun q2 nq2 => ?_⟩⟩)⟩
      have ec : cutV rvA none (some (59 : Int)) = rvA.take 59 := cutV_pre rvA 59
      rw [ec]
      have W16 := W15.newG (o := .lst rvA) nq1
      have s16 := W15.leG (o := .lst rvA) nq1
      have W17 := W16.new (o := .lst (rvA.take 59)) nq2
      obtain ⟨R5, eR5⟩ : ∃ R5, R5 = L.rows.take 59 := ⟨_, rfl⟩
      have lR5 : (rvA.take 59).length = R5.length := by rw [eR5, List.length_take, List.length_take, lrA]
      have l59 : R5.length ≤ 59 := by rw [eR5]; exact List.length_take_le _ _
      have oR5 : ∀ r ∈ R5, RowOk L.names r := fun r hr2 => V10.rok r (List.mem_of_mem_take (by rw [← eR5]; exact hr2))
      have rR5 : Reps (upd G10 q1 (.lst rvA)) (R5.map recD) (rvA.take 59) := by
        rw [eR5, List.map_take]
        exact (h4.mono s16).take 59
      have h1' := s16 _ _ h1
      have h2' := s16 _ _ h2
      have s516 := s510.trans s16
      generalize upd G10 q1 (.lst rvA) = G16 at W17 rR5 h1' h2' s516
      generalize upd (upd H12 q1 (.lst rvA)) q2 (.lst (rvA.take 59)) = H17 at W17
      clear W16 W15
      refine tnx (tseq (tasg ?_))
      refine ⟨_, rfl, _, rfl, rLenA.v (n := R5.length) (.inl ⟨_, SqL.of W17.hd, lR5.symm⟩) (rAddA.int ⟨G16, st, cs, _, _, (R5.length : Int) + 1, rfl, by omega, by omega, by omega, W17, fun at_ H18 hat W18 => ?_⟩)⟩
      have hat' : at_ ≤ R5.length := by omega
      refine tnx (tseq ?_)
      refine tdrop ?_
      refine ⟨_, rfl, .inl ⟨rfl, _, SqL.of W18.hd⟩, _, rfl, ?_⟩
      refine ⟨_, rfl, _, rfl, rIx.lst (W18.getG h1') (atI_nat (j := 0) rfl) ⟨G16, st, cs, _, _, lpA, L.names, rfl, PG.nn.1, PG.nn.2, PG.nb, h2', by omega, W18, fun bd bv G19 H19 s19 rb B W19 => ?_⟩⟩
      refine ⟨q2, _, at_, bv, rfl, rfl, W19.hd, sz_lt (by omega), by omega, by omega, ?_⟩
      have et : ((at_ : Nat) : Int).toNat = at_ := rfl
      rw [et]
      have W20 := W19.set (u := .lst ((rvA.take 59).take at_ ++ [bv] ++ (rvA.take 59).drop at_))
      obtain ⟨pre, epre⟩ : ∃ pre, pre = R5.take at_ := ⟨_, rfl⟩
      have lpre : pre.length = at_ := by rw [epre, List.length_take]; omega
      have opre : ∀ r ∈ pre, RowOk L.names r := fun r hr2 => oR5 r (List.mem_of_mem_take (by rw [← epre]; exact hr2))
      have rAll : Reps G19 (pre.map recD ++ bd :: (R5.drop at_).map recD) ((rvA.take 59).take at_ ++ [bv] ++ (rvA.take 59).drop at_) := by
        rw [List.append_assoc, epre, List.map_take, List.map_drop]
        exact ((rR5.mono s19).take at_).app (.cons rb ((rR5.mono s19).drop at_))
      have g1' := s19 _ _ h1'
      have g2' := s19 _ _ h2'
      have s519 := s516.trans s19
      generalize (rvA.take 59).take at_ ++ [bv] ++ (rvA.take 59).drop at_ = vR at W20 rAll
      refine tnx ?_
      refine tjoin (fun σ' H' => ∃ (G' : Hp) (vs : List V) (rest : List PyData), Same G19 G' ∧ Reps G' (pre.map recD ++ bd :: rest) vs ∧ (∀ e ∈ rest, Short2 e) ∧ rest.length ≤ 100 ∧ SW G' st cs (m + 400) [(q2, .lst vs)] H' ∧ ∃ y5 y6 y9, σ' = [some (.ref a0), some (.ref st), some (.int z), some (.ref a), some (.int (0 + ((j : Nat) : Int))), y5, y6, some (.ref q2), some (.int at_), y9, none]) ?_ (fun tail => ?_)
      · rintro σ' H21 ⟨G21, vs, rest, s21, rv, shr, lrest, W21, y5, y6, y9, rfl⟩
        have W22 := W21.frz
        have s22 := W21.leF
        have gq2 : (upd G21 q2 (.lst vs)) q2 = some (.lst vs) := upd_same
        have rv2 := rv.mono s22
        have g1b := s22 _ _ (s21 _ _ g1')
        have g2b := s22 _ _ (s21 _ _ g2')
        have s522 := s519.trans (s21.trans s22)
        generalize upd G21 q2 (.lst vs) = G22 at W22 gq2 rv2 g1b g2b s522
        have shAll : ∀ e ∈ pre.map recD ++ bd :: rest, Short2 e := by
          intro e he
          rcases List.mem_append.mp he with he | he
          · obtain ⟨r, hr2, rfl⟩ := List.mem_map.mp he
            exact short2_rec PG (opre r hr2)
          · rcases List.mem_cons.mp he with rfl | he
            · exact B.sh
            · exact shr e he
        have lAll : (pre.map recD ++ bd :: rest).length ≤ 100000 := by
          rw [List.length_append, List.length_map, List.length_cons]
          omega
        refine tifnb (tcall2 (tcall2 ?_))
        refine ⟨_, rfl, rIx.lst (W22.getG g1b) (atI_nat (j := 0) rfl) ⟨_, rfl, _, rfl, _, rfl, q2, vs, rfl, .inl ⟨SqL.of (W22.getG gq2), fun tq ntq => ?_⟩⟩⟩
        obtain ⟨G23, s23, W23, r23⟩ := W22.tupG ntq rv2
        refine ⟨by show 2 ≤ sizeLine; decide, fun p np => ?_⟩
        obtain ⟨G24, s24', W24, r24⟩ := W23.lstG np (.cons (.lst (s23 _ _ gq2) (rv2.mono s23)) (.cons r23 .nil))
        cases r24 with
        | lst gp24 rl24 =>
        refine ⟨G24, st, cs, _, [], p, _, rfl, by rw [← rl24.length]; show 0 < 2; decide, by rw [← rl24.length]; show 2 < 2 ^ 59; decide, by omega, W24, .gl gp24, fun iv v Hv hv2 W25 => ?_⟩
        obtain ⟨D, hD, rD⟩ := Reps.pick (P := fun D => itemsD D = some (pre.map recD ++ bd :: rest)) rl24 (fun e he => by
          simp only [List.mem_cons, List.not_mem_nil, or_false] at he
          rcases he with rfl | rfl <;> rfl) hv2
        have rN : Rep G24 (.list (L.names.map .str)) (.ref lpA) := .lst (s24' _ _ (s23 _ _ g2b)) (rep_strs _)
        refine SW.anoR W25 (RepC.of rN) (RepC.of rD) (short_ns PG) (long_of hD lAll shAll) (logD_bad PG opre (by omega) B.no hD) fun G26 H26 pf s26 W26 gpf => ?_
        rw [lpre] at gpf
        refine ⟨_, rfl, by show 2 ≤ sizeLine; decide, fun tp ntp => ?_⟩
        refine same_rec W26 gpf ntp fun H27 W27 => ⟨_, rfl, iteF ?_⟩
        exact ⟨G26, _, _, _, _, _, _, s5.trans (s522.trans (s23.trans (s24'.trans s26))), W27.mono (by omega), rfl⟩
      · have lvR := rAll.length
        rw [List.length_append, List.length_map, List.length_cons, List.length_map, List.length_drop] at lvR
        refine ⟨_, rfl, G19, st, cs, _, _, 2, rfl, by decide, by decide, by omega, W20, fun b H20 W21 => ⟨_, rfl, ite2 (fun hb => ?_) (fun hb => ?_)⟩⟩
        · refine tdrop ?_
          refine ⟨_, rfl, .inl ⟨rfl, _, SqL.of W21.hd⟩, _, rfl, _, rfl, rIx.lst (W21.getG g1') (atI_nat (j := 0) rfl) ⟨G19, st, cs, _, _, lpA, L.names, rfl, PG.nn.1, PG.nn.2, PG.nb, g2', by omega, W21, fun bd2 bv2 G20 H22 s20 rb2 B2 W22 => ⟨q2, _, bv2, rfl, rfl, W22.hd, sz_lt (by omega), ?_⟩⟩⟩
          refine tail _ _ ⟨G20, vR ++ [bv2], (R5.drop at_).map recD ++ [bd2], s20, ?_, fun e he => ?_, ?_, (W22.set).mono (by omega), _, _, _, rfl⟩
          · have := (rAll.mono s20).app (.cons rb2 .nil)
            rw [List.append_assoc] at this
            exact this
          · rcases List.mem_append.mp he with he | he
            · obtain ⟨r, hr2, rfl⟩ := List.mem_map.mp he
              exact short2_rec PG (oR5 r (List.mem_of_mem_drop hr2))
            · rw [List.mem_singleton.mp he]
              exact B2.sh
          · rw [List.length_append, List.length_map, List.length_drop]
            simp
            omega
        · refine tail _ _ ⟨G19, vR, (R5.drop at_).map recD, Same.refl _, rAll, fun e he => ?_, ?_, W21.mono (by omega), _, _, _, rfl⟩
          · obtain ⟨r, hr2, rfl⟩ := List.mem_map.mp he
            exact short2_rec PG (oR5 r (List.mem_of_mem_drop hr2))
          · rw [List.length_map, List.length_drop]
            omega
    · rintro σ H7 ⟨G5, x4, x5, x6, x7, x8, x9, s5, W7, rfl⟩
      have e3 : (3 : Int).toNat = 3 := rfl
      rw [e3] at W7
      obtain ⟨lp, lq, rvs, g1, g2, g3, g4⟩ := (V4.mono s5).ex
      refine tnx ?_
      obtain ⟨m, em⟩ : ∃ m, m = n + 3000 + 6000 + 500 * 3 := ⟨_, rfl⟩
      rw [← em] at W7
      refine tseq (tasg ?_)
      refine ⟨60, rfl, by decide, by decide, fun D nD => ?_⟩
      refine lc_range (n := (60 : Int).toNat) (fun i H' => ∃ (G' : Hp) (rvs : List V) (rows : List Lr.Row), Same G5 G' ∧ SW G' st cs (m + 30 * i) [(D, .lst rvs)] H' ∧ Reps G' (rows.map recD) rvs ∧ rows.length = i ∧ ∀ r ∈ rows, RowOk L.names r) ⟨G5, [], [], Same.refl _, W7.new nD, .nil, rfl, fun r hr => by cases hr⟩ ?_ ?_
      · rintro i2 H8 hi2 ⟨G', rvs2, rows, sg, W8, rr, li, ro⟩
        have hi3 : i2 < 60 := hi2
        have lr := rr.length
        rw [List.length_map] at lr
        refine ⟨rfl, _, rfl, _, rfl, rIx.lst (W8.getG (sg _ _ g1)) (atI_nat (j := 0) rfl) ⟨G', st, cs, _, _, lp, L.names, false, rfl, PG.nn.1, PG.nn.2, PG.nd, PG.sorted, PG.nb, .gl (sg _ _ g2), by omega, W8, fun r v G2 H9 rok rep s2 W9 => ?_⟩⟩
        refine ⟨rvs2, W9.hd, sz_lt (by omega), G2, rvs2 ++ [v], rows ++ [r], sg.trans s2, ?_, ?_, by rw [List.length_append, li]; rfl, fun q hq => ?_⟩
        · have e : m + 30 * (i2 + 1) = m + 30 * i2 + 30 := by omega
          rw [e]
          exact W9.set
        · rw [List.map_append]
          exact (rr.mono s2).app (.cons rep .nil)
        · rcases List.mem_append.mp hq with hq | hq
          · exact ro q hq
          · rw [List.mem_singleton.mp hq]
            exact rok
      rintro H8 ⟨G8, rvs8, rows, s8, W8, rr, li, ro⟩
      have e60 : (60 : Int).toNat = 60 := rfl
      rw [e60] at li W8
      have lr8 := rr.length
      rw [List.length_map] at lr8
      have h1 := s8 _ _ g1
      have h2 := s8 _ _ g2
      have shR : ∀ e ∈ rows.map recD, Short2 e := fun e he => by
        obtain ⟨r, hr2, rfl⟩ := List.mem_map.mp he
        exact short2_rec PG (ro r hr2)
      have rN : Rep G8 (.list (L.names.map .str)) (.ref lp) := .lst h2 (rep_strs _)
      refine tnx (tseq ?_)
      refine tifnb (tcall2 ?_)
      refine ⟨_, rfl, rIx.lst (W8.getG h1) (atI_nat (j := 0) rfl) ⟨_, rfl, fun x dx nx nd ne => SW.make W8 (RepC.of rN) (RepC.own List.mem_cons_self (W8.noG List.mem_cons_self) rr) (short_ns PG) (long_of rfl (by rw [List.length_map]; omega) shR) (logD_recs PG ro (by omega)) nx nd ne fun G9 H9 s9 W9 A9 => ?_⟩⟩
      obtain ⟨dx9, an, ar, aw, ad, rv2, nv2, fa, b1, _⟩ := A9.ex
      refine ⟨x, dx9, _, rfl, W9.getG b1, lk_none (by decide) (by decide) (by decide) (by decide), ⟨G9, x, _, rfl, A9, W9.sub, ?_⟩⟩
      have e61 : ((rows.length : Nat) : Int) = 60 := by omega
      refine ⟨.int 60, _, _, rfl, (by show Rep _ (.int 60) (.int ((rows.length : Nat) : Int)); rw [e61]; exact .int _), .int _, trivial, by show 0 < 5; decide, fun H10 s10 => ⟨_, rfl, iteF ?_⟩⟩
      have W10 := W9.same s10
      have h1' := s9 _ _ h1
      have h2' := s9 _ _ h2
      have rr9 := rr.mono s9
      refine tnext (tseq (tdrop ?_))
      refine ⟨_, rfl, .inl ⟨rfl, _, SqL.of W10.hd⟩, _, rfl, _, rfl, by show 1 ≤ sizeLine; decide, fun p1 np1 => ?_⟩
      obtain ⟨G11, s11, W11, r11⟩ := W10.lstG np1 (.cons .non .nil)
      refine rAddA.lst W11.hd upd_same (by simp; omega) fun p2 np2 => ?_
      obtain ⟨G12, s12, W12, r12⟩ := W11.lstG np2 ((rr9.mono s11).app (.cons .non .nil))
      cases r12 with
      | lst gp12 rl12 =>
      have l12 := rl12.length
      rw [List.length_append, List.length_map] at l12
      refine ⟨G12, st, cs, _, _, p2, _, rfl, by rw [← l12]; simp, by rw [← l12]; simp; omega, by omega, W12, .gl gp12, fun iv v H13 hv2 W13 => ?_⟩
      obtain ⟨dl, sdl, rdl⟩ := Reps.pick (P := Short2) rl12 (fun e he => by
        rcases List.mem_append.mp he with he | he
        · exact shR e he
        · rw [List.mem_singleton.mp he]
          exact short2_0 rfl) hv2
      refine ⟨D, _, v, rfl, rfl, W13.hd, sz_lt (by omega), ?_⟩
      have W14 := (W13.set (u := .lst (rvs8 ++ [v])))
      have s14 := W14.leF
      have W15 := W14.frz
      have s915 := s11.trans (s12.trans s14)
      have gD : (upd G12 D (.lst (rvs8 ++ [v]))) D = some (.lst (rvs8 ++ [v])) := upd_same
      have rF : Rep (upd G12 D (.lst (rvs8 ++ [v]))) (.list (rows.map recD ++ [dl])) (.ref D) := .lst gD ((rr9.mono s915).app (.cons (rdl.mono s14) .nil))
      have h1b := s915 _ _ h1'
      have h2b := s915 _ _ h2'
      have sAll := s5.trans (s8.trans (s9.trans s915))
      generalize upd G12 D (.lst (rvs8 ++ [v])) = G15 at W15 rF h1b h2b sAll
      refine tnx (tseq ?_)
      refine tifnb (tcall2 (tcall2 ?_))
      refine ⟨_, rfl, rIx.lst (W15.getG h1b) (atI_nat (j := 0) rfl) ⟨_, rfl, ?_⟩⟩
      have rN15 : Rep G15 (.list (L.names.map .str)) (.ref lp) := .lst h2b (rep_strs _)
      refine SW.anoR W15 (RepC.of rN15) (RepC.of rF) (short_ns PG) (long_of rfl (by rw [List.length_append, List.length_map]; simp; omega) (fun e he => by
        rcases List.mem_append.mp he with he | he
        · exact shR e he
        · rw [List.mem_singleton.mp he]
          exact sdl)) (logD_61 PG ro li rfl) fun G16 H16 pf s16 W16 gpf => ?_
      refine ⟨by show 2 ≤ sizeLine; decide, fun tp ntp => ?_⟩
      refine same_rec W16 gpf ntp fun H17 W17 => ⟨_, rfl, iteF ?_⟩
      refine tnext (tseq (tasg ?_))
      refine ⟨_, rfl, ?_⟩
      intro pd npd
      have W18 := W17.newG (o := .dK []) npd
      have s18 := W17.leG (o := .dK []) npd
      have rd18 : Rep (upd G16 pd (.dK [])) (.dict []) (.ref pd) := .dic upd_same .nil
      refine ⟨by show 5 ≤ sizeLine; decide, fun p3 np3 => ?_⟩
      obtain ⟨G19, s19, W19, r19⟩ := W18.lstG np3 (.cons .non (.cons (.int 0) (.cons (.str "a") (.cons rd18 (.cons (.bl true) .nil)))))
      cases r19 with
      | lst gp19 rl19 =>
      refine ⟨G19, st, cs, _, _, p3, _, rfl, by rw [← rl19.length]; show 0 < 5; decide, by rw [← rl19.length]; show 5 < 2 ^ 59; decide, by omega, W19, .gl gp19, fun iw v20 H20 hv3 W20 => ?_⟩
      obtain ⟨d20, i20, r20⟩ := Reps.pick (P := fun e => itemsD e = none) rl19 (fun e he => by
        simp only [List.mem_cons, List.not_mem_nil, or_false] at he
        rcases he with rfl | rfl | rfl | rfl | rfl <;> rfl) hv3
      have s1619 := s16.trans (s18.trans s19)
      have h1c := s1619 _ _ h1b
      have h2c := s1619 _ _ h2b
      have rN20 : Rep G19 (.list (L.names.map .str)) (.ref lp) := .lst h2c (rep_strs _)
      refine tnx ?_
      refine tifnb (tcall2 (tcall2 ?_))
      refine ⟨_, rfl, rIx.lst (W20.getG h1c) (atI_nat (j := 0) rfl) ⟨_, rfl, ?_⟩⟩
      refine SW.anoR W20 (RepC.of rN20) (RepC.of r20) (short_ns PG) (long_non i20) (logD_non PG i20) fun G21 H21 pg2 s21 W21 gpg => ?_
      refine ⟨by show 2 ≤ sizeLine; decide, fun tp2 ntp2 => ?_⟩
      refine same_rec W21 gpg ntp2 fun H22 W22 => ⟨_, rfl, iteF ?_⟩
      exact ⟨G21, _, _, _, _, _, _, _, _, s24.trans (sAll.trans (s1619.trans s21)), W22.mono (by omega), rfl⟩
end
end Lw_law

namespace Lw_all
open PySem PySem.Spec PyProof.Rows L2 Lr
theorem all_mk {l : PySem.W.OpenLaw} {w : World} {K : PySem.W.Frag} {h : Heap} {mg : Str → Option Value} {fa C CP CR fl fxP fxR fm0 fm1 fm2 fm3 fm4 fd0 fd1 fd2 fd3 fd4 fd5 fd6 fd7 fd8 fd9 fd10 fd11 fd12 fd13 fd14 fd15 fd16 fd17 fd18 fd19 fd20 fd21 fd22 fd23 : Addr} {tL tF : Tok} (X : K.In h) (G : h.Ns mainGlobals mg) (hfa : mg "law" = some (.ref fa))
    {odm0 anm0 : Option Addr} {slm0 : Array (Option Value)} {ocm0 kVm0 dcm0 pmm0 cdm0 ctm0 : Value}
    {odm1 anm1 : Option Addr} {slm1 : Array (Option Value)} {ocm1 kVm1 dcm1 pmm1 cdm1 ctm1 : Value}
    {odm2 anm2 : Option Addr} {slm2 : Array (Option Value)} {ocm2 kVm2 dcm2 pmm2 cdm2 ctm2 : Value}
    {odm3 anm3 : Option Addr} {slm3 : Array (Option Value)} {ocm3 kVm3 dcm3 pmm3 cdm3 ctm3 : Value}
    {odm4 anm4 : Option Addr} {slm4 : Array (Option Value)} {ocm4 kVm4 dcm4 pmm4 cdm4 ctm4 : Value}
    {odd0 and0 : Option Addr} {sld0 : Array (Option Value)} {ocd0 kVd0 dcd0 pmd0 cdd0 ctd0 : Value}
    {odd1 and1 : Option Addr} {sld1 : Array (Option Value)} {ocd1 kVd1 dcd1 pmd1 cdd1 ctd1 : Value}
    {odd2 and2 : Option Addr} {sld2 : Array (Option Value)} {ocd2 kVd2 dcd2 pmd2 cdd2 ctd2 : Value}
    {odd3 and3 : Option Addr} {sld3 : Array (Option Value)} {ocd3 kVd3 dcd3 pmd3 cdd3 ctd3 : Value}
    {odd4 and4 : Option Addr} {sld4 : Array (Option Value)} {ocd4 kVd4 dcd4 pmd4 cdd4 ctd4 : Value}
    {odd5 and5 : Option Addr} {sld5 : Array (Option Value)} {ocd5 kVd5 dcd5 pmd5 cdd5 ctd5 : Value}
    {odd6 and6 : Option Addr} {sld6 : Array (Option Value)} {ocd6 kVd6 dcd6 pmd6 cdd6 ctd6 : Value}
    {odd7 and7 : Option Addr} {sld7 : Array (Option Value)} {ocd7 kVd7 dcd7 pmd7 cdd7 ctd7 : Value}
    {odd8 and8 : Option Addr} {sld8 : Array (Option Value)} {ocd8 kVd8 dcd8 pmd8 cdd8 ctd8 : Value}
    {odd9 and9 : Option Addr} {sld9 : Array (Option Value)} {ocd9 kVd9 dcd9 pmd9 cdd9 ctd9 : Value}
    {odd10 and10 : Option Addr} {sld10 : Array (Option Value)} {ocd10 kVd10 dcd10 pmd10 cdd10 ctd10 : Value}
    {odd11 and11 : Option Addr} {sld11 : Array (Option Value)} {ocd11 kVd11 dcd11 pmd11 cdd11 ctd11 : Value}
    {odd12 and12 : Option Addr} {sld12 : Array (Option Value)} {ocd12 kVd12 dcd12 pmd12 cdd12 ctd12 : Value}
    {odd13 and13 : Option Addr} {sld13 : Array (Option Value)} {ocd13 kVd13 dcd13 pmd13 cdd13 ctd13 : Value}
    {odd14 and14 : Option Addr} {sld14 : Array (Option Value)} {ocd14 kVd14 dcd14 pmd14 cdd14 ctd14 : Value}
    {odd15 and15 : Option Addr} {sld15 : Array (Option Value)} {ocd15 kVd15 dcd15 pmd15 cdd15 ctd15 : Value}
    {odd16 and16 : Option Addr} {sld16 : Array (Option Value)} {ocd16 kVd16 dcd16 pmd16 cdd16 ctd16 : Value}
    {odd17 and17 : Option Addr} {sld17 : Array (Option Value)} {ocd17 kVd17 dcd17 pmd17 cdd17 ctd17 : Value}
    {odd18 and18 : Option Addr} {sld18 : Array (Option Value)} {ocd18 kVd18 dcd18 pmd18 cdd18 ctd18 : Value}
    {odd19 and19 : Option Addr} {sld19 : Array (Option Value)} {ocd19 kVd19 dcd19 pmd19 cdd19 ctd19 : Value}
    {odd20 and20 : Option Addr} {sld20 : Array (Option Value)} {ocd20 kVd20 dcd20 pmd20 cdd20 ctd20 : Value}
    {odd21 and21 : Option Addr} {sld21 : Array (Option Value)} {ocd21 kVd21 dcd21 pmd21 cdd21 ctd21 : Value}
    {odd22 and22 : Option Addr} {sld22 : Array (Option Value)} {ocd22 kVd22 dcd22 pmd22 cdd22 ctd22 : Value}
    {odd23 and23 : Option Addr} {sld23 : Array (Option Value)} {ocd23 kVd23 dcd23 pmd23 cdd23 ctd23 : Value}
    {odl anl : Option Addr} {sll : Array (Option Value)} {ocl kVl dcl pml cdl ctl : Value}
    {nmP qP : Str} {NP : Addr} {bsP bmP : List Value} {snP : List Str} {subP : List Value} {abP : Bool} {colP : Option Bool} {ddP : Option Addr} {m0P m1P m2P m3P m5P : Option Value}
    {odxP anxP : Option Addr} {slxP : Array (Option Value)} {ocxP dcxP pmxP cdxP ctxP : Value} {p1P p2P q1P q2P q3P q4P : Pos}
    {nmR qR : Str} {NR : Addr} {bsR bmR : List Value} {snR : List Str} {subR : List Value} {abR : Bool} {colR : Option Bool} {ddR : Option Addr} {m0R m1R m2R m3R m5R : Option Value}
    {odxR anxR : Option Addr} {slxR : Array (Option Value)} {ocxR dcxR pmxR cdxR ctxR : Value} {p1R p2R q1R q2R q3R q4R : Pos}
    (aC : PySem.W.nsIn K mainGlobals "Log" = some (some (.ref C)))
    (am0 : PySem.W.findIn K (.ref C) "__init__" = some (some (.ref fm0)))
    (im0 : PySem.W.isFn K (.ref fm0) = true)
    (lm0 : K.lookup fm0 = some ⟨ocm0, odm0, .func (PySem.W.fnOf "__init__" "Log.__init__" (defArgs Lw_init.s_Log_init) (defBody Lw_init.s_Log_init) (defScope Lw_init.s_Log_init) .none kVm0 dcm0 pmm0 anm0 cdm0 ctm0), slm0⟩)
    (cm0 : PySem.W.codeIn K cdm0 "Log.__init__" = true)
    (km0 : PySem.W.keepIn K (.ref fm0) = true)
    (am1 : PySem.W.findIn K (.ref C) "standing" = some (some (.ref fm1)))
    (im1 : PySem.W.isFn K (.ref fm1) = true)
    (lm1 : K.lookup fm1 = some ⟨ocm1, odm1, .func (PySem.W.fnOf "standing" "Log.standing" (defArgs Lw_log.s_Log_standing) (defBody Lw_log.s_Log_standing) (defScope Lw_log.s_Log_standing) .none kVm1 dcm1 pmm1 anm1 cdm1 ctm1), slm1⟩)
    (cm1 : PySem.W.codeIn K cdm1 "Log.standing" = true)
    (km1 : PySem.W.keepIn K (.ref fm1) = true)
    (am2 : PySem.W.findIn K (.ref C) "pages" = some (some (.ref fm2)))
    (im2 : PySem.W.isFn K (.ref fm2) = true)
    (lm2 : K.lookup fm2 = some ⟨ocm2, odm2, .func (PySem.W.fnOf "pages" "Log.pages" (defArgs Lw_meth.s_Log_pages) (defBody Lw_meth.s_Log_pages) (defScope Lw_meth.s_Log_pages) .none kVm2 dcm2 pmm2 anm2 cdm2 ctm2), slm2⟩)
    (cm2 : PySem.W.codeIn K cdm2 "Log.pages" = true)
    (km2 : PySem.W.keepIn K (.ref fm2) = true)
    (am3 : PySem.W.findIn K (.ref C) "records" = some (some (.ref fm3)))
    (im3 : PySem.W.isFn K (.ref fm3) = true)
    (lm3 : K.lookup fm3 = some ⟨ocm3, odm3, .func (PySem.W.fnOf "records" "Log.records" (defArgs Lw_meth.s_Log_records) (defBody Lw_meth.s_Log_records) (defScope Lw_meth.s_Log_records) .none kVm3 dcm3 pmm3 anm3 cdm3 ctm3), slm3⟩)
    (cm3 : PySem.W.codeIn K cdm3 "Log.records" = true)
    (km3 : PySem.W.keepIn K (.ref fm3) = true)
    (am4 : PySem.W.findIn K (.ref C) "size" = some (some (.ref fm4)))
    (im4 : PySem.W.isFn K (.ref fm4) = true)
    (lm4 : K.lookup fm4 = some ⟨ocm4, odm4, .func (PySem.W.fnOf "size" "Log.size" (defArgs Lw_meth.s_Log_size) (defBody Lw_meth.s_Log_size) (defScope Lw_meth.s_Log_size) .none kVm4 dcm4 pmm4 anm4 cdm4 ctm4), slm4⟩)
    (cm4 : PySem.W.codeIn K cdm4 "Log.size" = true)
    (km4 : PySem.W.keepIn K (.ref fm4) = true)
    (ad0 : PySem.W.nsIn K mainGlobals "_law_below" = some (some (.ref fd0)))
    (ld0 : K.lookup fd0 = some ⟨ocd0, odd0, .func (PySem.W.fnOf "_law_below" "_law_below" (defArgs Lw_below.s_below) (defBody Lw_below.s_below) (defScope Lw_below.s_below) .none kVd0 dcd0 pmd0 and0 cdd0 ctd0), sld0⟩)
    (cd0 : PySem.W.codeIn K cdd0 "_law_below" = true)
    (kd0 : PySem.W.keepIn K (.ref fd0) = true)
    (ad1 : PySem.W.nsIn K mainGlobals "_law_chance" = some (some (.ref fd1)))
    (ld1 : K.lookup fd1 = some ⟨ocd1, odd1, .func (PySem.W.fnOf "_law_chance" "_law_chance" (defArgs Lw_draws.s_chance) (defBody Lw_draws.s_chance) (defScope Lw_draws.s_chance) .none kVd1 dcd1 pmd1 and1 cdd1 ctd1), sld1⟩)
    (cd1 : PySem.W.codeIn K cdd1 "_law_chance" = true)
    (kd1 : PySem.W.keepIn K (.ref fd1) = true)
    (ad2 : PySem.W.nsIn K mainGlobals "_law_pick" = some (some (.ref fd2)))
    (ld2 : K.lookup fd2 = some ⟨ocd2, odd2, .func (PySem.W.fnOf "_law_pick" "_law_pick" (defArgs Lw_draws.s_pick) (defBody Lw_draws.s_pick) (defScope Lw_draws.s_pick) .none kVd2 dcd2 pmd2 and2 cdd2 ctd2), sld2⟩)
    (cd2 : PySem.W.codeIn K cdd2 "_law_pick" = true)
    (kd2 : PySem.W.keepIn K (.ref fd2) = true)
    (ad3 : PySem.W.nsIn K mainGlobals "_law_mixed" = some (some (.ref fd3)))
    (ld3 : K.lookup fd3 = some ⟨ocd3, odd3, .func (PySem.W.fnOf "_law_mixed" "_law_mixed" (defArgs Lw_draws.s_mixed) (defBody Lw_draws.s_mixed) (defScope Lw_draws.s_mixed) .none kVd3 dcd3 pmd3 and3 cdd3 ctd3), sld3⟩)
    (cd3 : PySem.W.codeIn K cdd3 "_law_mixed" = true)
    (kd3 : PySem.W.keepIn K (.ref fd3) = true)
    (ad4 : PySem.W.nsIn K mainGlobals "_law_lot" = some (some (.ref fd4)))
    (ld4 : K.lookup fd4 = some ⟨ocd4, odd4, .func (PySem.W.fnOf "_law_lot" "_law_lot" (defArgs Lw_draws.s_lot) (defBody Lw_draws.s_lot) (defScope Lw_draws.s_lot) .none kVd4 dcd4 pmd4 and4 cdd4 ctd4), sld4⟩)
    (cd4 : PySem.W.codeIn K cdd4 "_law_lot" = true)
    (kd4 : PySem.W.keepIn K (.ref fd4) = true)
    (ad5 : PySem.W.nsIn K mainGlobals "_law_spoilt" = some (some (.ref fd5)))
    (ld5 : K.lookup fd5 = some ⟨ocd5, odd5, .func (PySem.W.fnOf "_law_spoilt" "_law_spoilt" (defArgs Lw_spoilt.s_spoilt) (defBody Lw_spoilt.s_spoilt) (defScope Lw_spoilt.s_spoilt) .none kVd5 dcd5 pmd5 and5 cdd5 ctd5), sld5⟩)
    (cd5 : PySem.W.codeIn K cdd5 "_law_spoilt" = true)
    (kd5 : PySem.W.keepIn K (.ref fd5) = true)
    (ad6 : PySem.W.nsIn K mainGlobals "_law_is_once" = some (some (.ref fd6)))
    (ld6 : K.lookup fd6 = some ⟨ocd6, odd6, .func (PySem.W.fnOf "_law_is_once" "_law_is_once" (defArgs Lw_once.s_is_once) (defBody Lw_once.s_is_once) (defScope Lw_once.s_is_once) .none kVd6 dcd6 pmd6 and6 cdd6 ctd6), sld6⟩)
    (cd6 : PySem.W.codeIn K cdd6 "_law_is_once" = true)
    (kd6 : PySem.W.keepIn K (.ref fd6) = true)
    (ad7 : PySem.W.nsIn K mainGlobals "_law_apart" = some (some (.ref fd7)))
    (ld7 : K.lookup fd7 = some ⟨ocd7, odd7, .func (PySem.W.fnOf "_law_apart" "_law_apart" (defArgs Lw_once.s_apart) (defBody Lw_once.s_apart) (defScope Lw_once.s_apart) .none kVd7 dcd7 pmd7 and7 cdd7 ctd7), sld7⟩)
    (cd7 : PySem.W.codeIn K cdd7 "_law_apart" = true)
    (kd7 : PySem.W.keepIn K (.ref fd7) = true)
    (ad8 : PySem.W.nsIn K mainGlobals "_law_same" = some (some (.ref fd8)))
    (ld8 : K.lookup fd8 = some ⟨ocd8, odd8, .func (PySem.W.fnOf "_law_same" "_law_same" (defArgs Lw_same.s_same) (defBody Lw_same.s_same) (defScope Lw_same.s_same) .none kVd8 dcd8 pmd8 and8 cdd8 ctd8), sld8⟩)
    (cd8 : PySem.W.codeIn K cdd8 "_law_same" = true)
    (kd8 : PySem.W.keepIn K (.ref fd8) = true)
    (ad9 : PySem.W.nsIn K mainGlobals "_law_loose" = some (some (.ref fd9)))
    (ld9 : K.lookup fd9 = some ⟨ocd9, odd9, .func (PySem.W.fnOf "_law_loose" "_law_loose" (defArgs Lw_loose.s_loose) (defBody Lw_loose.s_loose) (defScope Lw_loose.s_loose) .none kVd9 dcd9 pmd9 and9 cdd9 ctd9), sld9⟩)
    (cd9 : PySem.W.codeIn K cdd9 "_law_loose" = true)
    (kd9 : PySem.W.keepIn K (.ref fd9) = true)
    (ad10 : PySem.W.nsIn K mainGlobals "is_name" = some (some (.ref fd10)))
    (ld10 : K.lookup fd10 = some ⟨ocd10, odd10, .func (PySem.W.fnOf "is_name" "is_name" (defArgs Lw_names.s_is_name) (defBody Lw_names.s_is_name) (defScope Lw_names.s_is_name) .none kVd10 dcd10 pmd10 and10 cdd10 ctd10), sld10⟩)
    (cd10 : PySem.W.codeIn K cdd10 "is_name" = true)
    (kd10 : PySem.W.keepIn K (.ref fd10) = true)
    (ad11 : PySem.W.nsIn K mainGlobals "names_of" = some (some (.ref fd11)))
    (ld11 : K.lookup fd11 = some ⟨ocd11, odd11, .func (PySem.W.fnOf "names_of" "names_of" (defArgs Lw_names.s_names_of) (defBody Lw_names.s_names_of) (defScope Lw_names.s_names_of) .none kVd11 dcd11 pmd11 and11 cdd11 ctd11), sld11⟩)
    (cd11 : PySem.W.codeIn K cdd11 "names_of" = true)
    (kd11 : PySem.W.keepIn K (.ref fd11) = true)
    (ad12 : PySem.W.nsIn K mainGlobals "lot_among" = some (some (.ref fd12)))
    (ld12 : K.lookup fd12 = some ⟨ocd12, odd12, .func (PySem.W.fnOf "lot_among" "lot_among" (defArgs Lw_names.s_lot_among) (defBody Lw_names.s_lot_among) (defScope Lw_names.s_lot_among) .none kVd12 dcd12 pmd12 and12 cdd12 ctd12), sld12⟩)
    (cd12 : PySem.W.codeIn K cdd12 "lot_among" = true)
    (kd12 : PySem.W.keepIn K (.ref fd12) = true)
    (ad13 : PySem.W.nsIn K mainGlobals "record_of" = some (some (.ref fd13)))
    (ld13 : K.lookup fd13 = some ⟨ocd13, odd13, .func (PySem.W.fnOf "record_of" "record_of" (defArgs Lw_names.s_record_of) (defBody Lw_names.s_record_of) (defScope Lw_names.s_record_of) .none kVd13 dcd13 pmd13 and13 cdd13 ctd13), sld13⟩)
    (cd13 : PySem.W.codeIn K cdd13 "record_of" = true)
    (kd13 : PySem.W.keepIn K (.ref fd13) = true)
    (ad14 : PySem.W.nsIn K mainGlobals "_law_start" = some (some (.ref fd14)))
    (ld14 : K.lookup fd14 = some ⟨ocd14, odd14, .func (PySem.W.fnOf "_law_start" "_law_start" (defArgs Lw_meth.s_start) (defBody Lw_meth.s_start) (defScope Lw_meth.s_start) .none kVd14 dcd14 pmd14 and14 cdd14 ctd14), sld14⟩)
    (cd14 : PySem.W.codeIn K cdd14 "_law_start" = true)
    (kd14 : PySem.W.keepIn K (.ref fd14) = true)
    (ad15 : PySem.W.nsIn K mainGlobals "_law_name" = some (some (.ref fd15)))
    (ld15 : K.lookup fd15 = some ⟨ocd15, odd15, .func (PySem.W.fnOf "_law_name" "_law_name" (defArgs Lw_name.s_name) (defBody Lw_name.s_name) (defScope Lw_name.s_name) .none kVd15 dcd15 pmd15 and15 cdd15 ctd15), sld15⟩)
    (cd15 : PySem.W.codeIn K cdd15 "_law_name" = true)
    (kd15 : PySem.W.keepIn K (.ref fd15) = true)
    (ad16 : PySem.W.nsIn K mainGlobals "_law_names" = some (some (.ref fd16)))
    (ld16 : K.lookup fd16 = some ⟨ocd16, odd16, .func (PySem.W.fnOf "_law_names" "_law_names" (defArgs Lw_name.s_names) (defBody Lw_name.s_names) (defScope Lw_name.s_names) .none kVd16 dcd16 pmd16 and16 cdd16 ctd16), sld16⟩)
    (cd16 : PySem.W.codeIn K cdd16 "_law_names" = true)
    (kd16 : PySem.W.keepIn K (.ref fd16) = true)
    (ad17 : PySem.W.nsIn K mainGlobals "_law_record" = some (some (.ref fd17)))
    (ld17 : K.lookup fd17 = some ⟨ocd17, odd17, .func (PySem.W.fnOf "_law_record" "_law_record" (defArgs Lw_rec.s_record) (defBody Lw_rec.s_record) (defScope Lw_rec.s_record) .none kVd17 dcd17 pmd17 and17 cdd17 ctd17), sld17⟩)
    (cd17 : PySem.W.codeIn K cdd17 "_law_record" = true)
    (kd17 : PySem.W.keepIn K (.ref fd17) = true)
    (ad18 : PySem.W.nsIn K mainGlobals "_law_log" = some (some (.ref fd18)))
    (ld18 : K.lookup fd18 = some ⟨ocd18, odd18, .func (PySem.W.fnOf "_law_log" "_law_log" (defArgs Lw_rec.s_log) (defBody Lw_rec.s_log) (defScope Lw_rec.s_log) .none kVd18 dcd18 pmd18 and18 cdd18 ctd18), sld18⟩)
    (cd18 : PySem.W.codeIn K cdd18 "_law_log" = true)
    (kd18 : PySem.W.keepIn K (.ref fd18) = true)
    (ad19 : PySem.W.nsIn K mainGlobals "_law_made" = some (some (.ref fd19)))
    (ld19 : K.lookup fd19 = some ⟨ocd19, odd19, .func (PySem.W.fnOf "_law_made" "_law_made" (defArgs Lw_made.s_made) (defBody Lw_made.s_made) (defScope Lw_made.s_made) .none kVd19 dcd19 pmd19 and19 cdd19 ctd19), sld19⟩)
    (cd19 : PySem.W.codeIn K cdd19 "_law_made" = true)
    (kd19 : PySem.W.keepIn K (.ref fd19) = true)
    (ad20 : PySem.W.nsIn K mainGlobals "_law_aheld" = some (some (.ref fd20)))
    (ld20 : K.lookup fd20 = some ⟨ocd20, odd20, .func (PySem.W.fnOf "_law_aheld" "_law_aheld" (defArgs Lw_made.s_aheld) (defBody Lw_made.s_aheld) (defScope Lw_made.s_aheld) .none kVd20 dcd20 pmd20 and20 cdd20 ctd20), sld20⟩)
    (cd20 : PySem.W.codeIn K cdd20 "_law_aheld" = true)
    (kd20 : PySem.W.keepIn K (.ref fd20) = true)
    (ad21 : PySem.W.nsIn K mainGlobals "_law_ano_pages" = some (some (.ref fd21)))
    (ld21 : K.lookup fd21 = some ⟨ocd21, odd21, .func (PySem.W.fnOf "_law_ano_pages" "_law_ano_pages" (defArgs Lw_anop.s_ano_pages) (defBody Lw_anop.s_ano_pages) (defScope Lw_anop.s_ano_pages) .none kVd21 dcd21 pmd21 and21 cdd21 ctd21), sld21⟩)
    (cd21 : PySem.W.codeIn K cdd21 "_law_ano_pages" = true)
    (kd21 : PySem.W.keepIn K (.ref fd21) = true)
    (ad22 : PySem.W.nsIn K mainGlobals "_law_ano_record" = some (some (.ref fd22)))
    (ld22 : K.lookup fd22 = some ⟨ocd22, odd22, .func (PySem.W.fnOf "_law_ano_record" "_law_ano_record" (defArgs Lw_anor.s_ano_record) (defBody Lw_anor.s_ano_record) (defScope Lw_anor.s_ano_record) .none kVd22 dcd22 pmd22 and22 cdd22 ctd22), sld22⟩)
    (cd22 : PySem.W.codeIn K cdd22 "_law_ano_record" = true)
    (kd22 : PySem.W.keepIn K (.ref fd22) = true)
    (ad23 : PySem.W.nsIn K mainGlobals "_law_ano_log_made" = some (some (.ref fd23)))
    (ld23 : K.lookup fd23 = some ⟨ocd23, odd23, .func (PySem.W.fnOf "_law_ano_log_made" "_law_ano_log_made" (defArgs Lw_anol.s_ano_log_made) (defBody Lw_anol.s_ano_log_made) (defScope Lw_anol.s_ano_log_made) .none kVd23 dcd23 pmd23 and23 cdd23 ctd23), sld23⟩)
    (cd23 : PySem.W.codeIn K cdd23 "_law_ano_log_made" = true)
    (kd23 : PySem.W.keepIn K (.ref fd23) = true)
    (al : PySem.W.nsIn K mainGlobals "law" = some (some (.ref fl)))
    (ll : K.lookup fl = some ⟨ocl, odl, .func (PySem.W.fnOf "law" "law" (defArgs Lw_law.s_law) (defBody Lw_law.s_law) (defScope Lw_law.s_law) .none kVl dcl pml anl cdl ctl), sll⟩)
    (cl : PySem.W.codeIn K cdl "law" = true)
    (kl : PySem.W.keepIn K (.ref fl) = true)
    (pg : PySem.W.plainGet K C Str.empty = true)
    (hd : PySem.W.hasDictIn K C = true)
    (po : PySem.W.plainOver K C = true)
    (sa : PySem.W.findIn K (.ref C) "__setattr__" = some (some (.builtin "object.__setattr__")))
    (mk : PySem.W.makesIn K C = true)
    (kc : PySem.W.keepIn K (.ref C) = true)
    (n_names : PySem.W.findIn K (.ref C) "names" = some none)
    (n_rows : PySem.W.findIn K (.ref C) "rows" = some none)
    (n_writers : PySem.W.findIn K (.ref C) "writers" = some none)
    (n_needs : PySem.W.findIn K (.ref C) "needs" = some none)
    (z_len : PySem.W.nsIn K mainGlobals "len" = some none)
    (z_list : PySem.W.nsIn K mainGlobals "list" = some none)
    (z_tuple : PySem.W.nsIn K mainGlobals "tuple" = some none)
    (z_dict : PySem.W.nsIn K mainGlobals "dict" = some none)
    (z_int : PySem.W.nsIn K mainGlobals "int" = some none)
    (z_str : PySem.W.nsIn K mainGlobals "str" = some none)
    (z_bool : PySem.W.nsIn K mainGlobals "bool" = some none)
    (z_isinstance : PySem.W.nsIn K mainGlobals "isinstance" = some none)
    (z_range : PySem.W.nsIn K mainGlobals "range" = some none)
    (z_enumerate : PySem.W.nsIn K mainGlobals "enumerate" = some none)
    (z_zip : PySem.W.nsIn K mainGlobals "zip" = some none)
    (z_all : PySem.W.nsIn K mainGlobals "all" = some none)
    (z_any : PySem.W.nsIn K mainGlobals "any" = some none)
    (z_sorted : PySem.W.nsIn K mainGlobals "sorted" = some none)
    (z_min : PySem.W.nsIn K mainGlobals "min" = some none)
    (z_max : PySem.W.nsIn K mainGlobals "max" = some none)
    (z_sum : PySem.W.nsIn K mainGlobals "sum" = some none)
    (hL : PySem.W.nsIn K mainGlobals "LETTERS" = some (some (.str Lw_names.k_LETTERS tL)))
    (hF : PySem.W.nsIn K mainGlobals "FIGURES" = some (some (.str Lw_names.k_FIGURES tF)))
    (axP : PySem.W.nsIn K mainGlobals "BadPages" = some (some (.ref CP)))
    (xLP : K.lookup CP = some (excClassObj nmP qP CP NP bsP bmP true snP subP abP colP ddP m0P m1P m2P m3P m5P "ValueError.__new__"))
    (rvP : PySem.HandSPX.refsVE bmP = true)
    (sxP : PySem.W.findIn K (.ref CP) "__setattr__" = some (some (.builtin "object.__setattr__")))
    (gxP : PySem.W.findIn K (.ref CP) "__getattribute__" = some (some (.builtin "BaseException.__getattribute__")))
    (hxP : PySem.W.findIn K (.ref CP) "__getattr__" = some none)
    (nxP : PySem.W.findIn K (.ref CP) "thing" = some none)
    (ixP : PySem.W.findIn K (.ref CP) "__init__" = some (some (.ref fxP)))
    (txP : PySem.W.typeIn K (.ref fxP) = some (.type "function"))
    (lxP : K.lookup fxP = some ⟨ocxP, odxP, .func (PySem.W.fnOf "__init__" "BadPages.__init__" (PySem.Exthing.iA p1P p2P) (PySem.Exthing.iB q1P q2P q3P q4P) PySem.Exthing.iS .none .none dcxP pmxP anxP cdxP ctxP), slxP⟩)
    (cxP : PySem.W.codeIn K cdxP "BadPages.__init__" = true)
    (kxP : PySem.W.keepIn K (.ref CP) = true)
    (exP : PySem.W.subIn K (.ref CP) (.type "BaseException") = some true)
    (tyP : PySem.W.typeIn K (.ref CP) = some (.type "type"))
    (hdP : PySem.W.hasDictIn K CP = true)
    (ssP : PySem.W.subIn K (.ref CP) (.ref CP) = some true)
    (axR : PySem.W.nsIn K mainGlobals "BadRecords" = some (some (.ref CR)))
    (xLR : K.lookup CR = some (excClassObj nmR qR CR NR bsR bmR true snR subR abR colR ddR m0R m1R m2R m3R m5R "ValueError.__new__"))
    (rvR : PySem.HandSPX.refsVE bmR = true)
    (sxR : PySem.W.findIn K (.ref CR) "__setattr__" = some (some (.builtin "object.__setattr__")))
    (gxR : PySem.W.findIn K (.ref CR) "__getattribute__" = some (some (.builtin "BaseException.__getattribute__")))
    (hxR : PySem.W.findIn K (.ref CR) "__getattr__" = some none)
    (nxR : PySem.W.findIn K (.ref CR) "index" = some none)
    (ixR : PySem.W.findIn K (.ref CR) "__init__" = some (some (.ref fxR)))
    (txR : PySem.W.typeIn K (.ref fxR) = some (.type "function"))
    (lxR : K.lookup fxR = some ⟨ocxR, odxR, .func (PySem.W.fnOf "__init__" "BadRecords.__init__" (PySem.Exindex.iA p1R p2R) (PySem.Exindex.iB q1R q2R q3R q4R) PySem.Exindex.iS .none .none dcxR pmxR anxR cdxR ctxR), slxR⟩)
    (cxR : PySem.W.codeIn K cdxR "BadRecords.__init__" = true)
    (kxR : PySem.W.keepIn K (.ref CR) = true)
    (exR : PySem.W.subIn K (.ref CR) (.type "BaseException") = some true)
    (tyR : PySem.W.typeIn K (.ref CR) = some (.type "type"))
    (hdR : PySem.W.hasDictIn K CR = true)
    (ssR : PySem.W.subIn K (.ref CR) (.ref CR) = some true)
    (sRP : PySem.W.subIn K (.ref CR) (.ref CP) = some false) :
    ∃ fd : FuncData, (∀ (s : Shared) (v : Value), BindsTo s fd ⟨[v], []⟩ [("script", v)]) ∧ ∀ base : Heap, K.In base → base.Ns mainGlobals mg → FnOk l.prog w K mg base CX0 9 fa fd ["script"] (spLaw K) := by
  have e := hfa.symm.trans (PySem.W.mg_of X G al)
  cases e
  have B : Bl mg := ⟨PySem.W.mg_none_of X G z_len, PySem.W.mg_none_of X G z_list, PySem.W.mg_none_of X G z_tuple, PySem.W.mg_none_of X G z_dict, PySem.W.mg_none_of X G z_int, PySem.W.mg_none_of X G z_str, PySem.W.mg_none_of X G z_bool, PySem.W.mg_none_of X G z_isinstance, PySem.W.mg_none_of X G z_range, PySem.W.mg_none_of X G z_enumerate, PySem.W.mg_none_of X G z_zip, PySem.W.mg_none_of X G z_all, PySem.W.mg_none_of X G z_any, PySem.W.mg_none_of X G z_sorted, PySem.W.mg_none_of X G z_min, PySem.W.mg_none_of X G z_max, PySem.W.mg_none_of X G z_sum⟩
  have CC : Cls K C := ⟨pg, hd, po, sa⟩
  have xP : PySem.Exthing.Txtthing "BadPages" "BadPages.__init__" K mg CP fxP := { gC := PySem.W.mg_of X G axP, cls := ⟨nmP, qP, NP, bsP, bmP, snP, subP, abP, colP, ddP, m0P, m1P, m2P, m3P, m5P, xLP, rvP⟩, sa := sxP, ga := gxP, gg := hxP, noN := nxP, iC := ixP, tC := txP, kC := kxP, exC := exP, tyC := tyP, hdC := hdP, te := PySem.W.exm_ref exP hdP tyP ssP, fn := ⟨_, _, _, _, _, _, _, _, _, _, _, _, _, _, lxP, cxP⟩ }
  have xR : PySem.Exindex.Txtindex "BadRecords" "BadRecords.__init__" K mg CR fxR := { gC := PySem.W.mg_of X G axR, cls := ⟨nmR, qR, NR, bsR, bmR, snR, subR, abR, colR, ddR, m0R, m1R, m2R, m3R, m5R, xLR, rvR⟩, sa := sxR, ga := gxR, gg := hxR, noN := nxR, iC := ixR, tC := txR, kC := kxR, exC := exR, tyC := tyR, hdC := hdR, te := PySem.W.exm_ref exR hdR tyR ssR, fn := ⟨_, _, _, _, _, _, _, _, _, _, _, _, _, _, lxR, cxR⟩ }
  have Fm0 := fun_mk (st := Lw_init.s_Log_init) lm0 cm0 km0
  have bm0 := Fm0.binds (ps := ["self", "pages", "records"]) fun _ _ _ _ _ _ us hl => match us, hl with | [_, _, _], _ => rfl
  have Fm1 := fun_mk (st := Lw_log.s_Log_standing) lm1 cm1 km1
  have bm1 := Fm1.binds (ps := ["self", "names"]) fun _ _ _ _ _ _ us hl => match us, hl with | [_, _], _ => rfl
  have Fm2 := fun_mk (st := Lw_meth.s_Log_pages) lm2 cm2 km2
  have bm2 := Fm2.binds (ps := ["self"]) fun _ _ _ _ _ _ us hl => match us, hl with | [_], _ => rfl
  have Fm3 := fun_mk (st := Lw_meth.s_Log_records) lm3 cm3 km3
  have bm3 := Fm3.binds (ps := ["self"]) fun _ _ _ _ _ _ us hl => match us, hl with | [_], _ => rfl
  have Fm4 := fun_mk (st := Lw_meth.s_Log_size) lm4 cm4 km4
  have bm4 := Fm4.binds (ps := ["self"]) fun _ _ _ _ _ _ us hl => match us, hl with | [_], _ => rfl
  have Fd0 := fun_mk (st := Lw_below.s_below) ld0 cd0 kd0
  have D_below : FD K mg "_law_below" Lw_below.s_below ["stream", "many"] := ⟨_, _, PySem.W.mg_of X G ad0, Fd0, Fd0.binds (ps := ["stream", "many"]) fun _ _ _ _ _ _ us hl => match us, hl with | [_, _], _ => rfl⟩
  have Fd1 := fun_mk (st := Lw_draws.s_chance) ld1 cd1 kd1
  have D_chance : FD K mg "_law_chance" Lw_draws.s_chance ["stream", "many"] := ⟨_, _, PySem.W.mg_of X G ad1, Fd1, Fd1.binds (ps := ["stream", "many"]) fun _ _ _ _ _ _ us hl => match us, hl with | [_, _], _ => rfl⟩
  have Fd2 := fun_mk (st := Lw_draws.s_pick) ld2 cd2 kd2
  have D_pick : FD K mg "_law_pick" Lw_draws.s_pick ["stream", "some"] := ⟨_, _, PySem.W.mg_of X G ad2, Fd2, Fd2.binds (ps := ["stream", "some"]) fun _ _ _ _ _ _ us hl => match us, hl with | [_, _], _ => rfl⟩
  have Fd3 := fun_mk (st := Lw_draws.s_mixed) ld3 cd3 kd3
  have D_mixed : FD K mg "_law_mixed" Lw_draws.s_mixed ["stream", "some"] := ⟨_, _, PySem.W.mg_of X G ad3, Fd3, Fd3.binds (ps := ["stream", "some"]) fun _ _ _ _ _ _ us hl => match us, hl with | [_, _], _ => rfl⟩
  have Fd4 := fun_mk (st := Lw_draws.s_lot) ld4 cd4 kd4
  have D_lot : FD K mg "_law_lot" Lw_draws.s_lot ["stream", "some", "share"] := ⟨_, _, PySem.W.mg_of X G ad4, Fd4, Fd4.binds (ps := ["stream", "some", "share"]) fun _ _ _ _ _ _ us hl => match us, hl with | [_, _, _], _ => rfl⟩
  have Fd5 := fun_mk (st := Lw_spoilt.s_spoilt) ld5 cd5 kd5
  have D_spoilt : FD K mg "_law_spoilt" Lw_spoilt.s_spoilt ["thing"] := ⟨_, _, PySem.W.mg_of X G ad5, Fd5, Fd5.binds (ps := ["thing"]) fun _ _ _ _ _ _ us hl => match us, hl with | [_], _ => rfl⟩
  have Fd6 := fun_mk (st := Lw_once.s_is_once) ld6 cd6 kd6
  have D_is_once : FD K mg "_law_is_once" Lw_once.s_is_once ["thing"] := ⟨_, _, PySem.W.mg_of X G ad6, Fd6, Fd6.binds (ps := ["thing"]) fun _ _ _ _ _ _ us hl => match us, hl with | [_], _ => rfl⟩
  have Fd7 := fun_mk (st := Lw_once.s_apart) ld7 cd7 kd7
  have D_apart : FD K mg "_law_apart" Lw_once.s_apart ["thing"] := ⟨_, _, PySem.W.mg_of X G ad7, Fd7, Fd7.binds (ps := ["thing"]) fun _ _ _ _ _ _ us hl => match us, hl with | [_], _ => rfl⟩
  have Fd8 := fun_mk (st := Lw_same.s_same) ld8 cd8 kd8
  have D_same : FD K mg "_law_same" Lw_same.s_same ["found", "due"] := ⟨_, _, PySem.W.mg_of X G ad8, Fd8, Fd8.binds (ps := ["found", "due"]) fun _ _ _ _ _ _ us hl => match us, hl with | [_, _], _ => rfl⟩
  have Fd9 := fun_mk (st := Lw_loose.s_loose) ld9 cd9 kd9
  have D_loose : FD K mg "_law_loose" Lw_loose.s_loose ["stream", "thing"] := ⟨_, _, PySem.W.mg_of X G ad9, Fd9, Fd9.binds (ps := ["stream", "thing"]) fun _ _ _ _ _ _ us hl => match us, hl with | [_, _], _ => rfl⟩
  have Fd10 := fun_mk (st := Lw_names.s_is_name) ld10 cd10 kd10
  have D_is_name : FD K mg "is_name" Lw_names.s_is_name ["thing"] := ⟨_, _, PySem.W.mg_of X G ad10, Fd10, Fd10.binds (ps := ["thing"]) fun _ _ _ _ _ _ us hl => match us, hl with | [_], _ => rfl⟩
  have Fd11 := fun_mk (st := Lw_names.s_names_of) ld11 cd11 kd11
  have D_names_of : FD K mg "names_of" Lw_names.s_names_of ["thing"] := ⟨_, _, PySem.W.mg_of X G ad11, Fd11, Fd11.binds (ps := ["thing"]) fun _ _ _ _ _ _ us hl => match us, hl with | [_], _ => rfl⟩
  have Fd12 := fun_mk (st := Lw_names.s_lot_among) ld12 cd12 kd12
  have D_lot_among : FD K mg "lot_among" Lw_names.s_lot_among ["thing", "names"] := ⟨_, _, PySem.W.mg_of X G ad12, Fd12, Fd12.binds (ps := ["thing", "names"]) fun _ _ _ _ _ _ us hl => match us, hl with | [_, _], _ => rfl⟩
  have Fd13 := fun_mk (st := Lw_names.s_record_of) ld13 cd13 kd13
  have D_record_of : FD K mg "record_of" Lw_names.s_record_of ["thing", "names"] := ⟨_, _, PySem.W.mg_of X G ad13, Fd13, Fd13.binds (ps := ["thing", "names"]) fun _ _ _ _ _ _ us hl => match us, hl with | [_, _], _ => rfl⟩
  have Fd14 := fun_mk (st := Lw_meth.s_start) ld14 cd14 kd14
  have D_start : FD K mg "_law_start" Lw_meth.s_start ["script"] := ⟨_, _, PySem.W.mg_of X G ad14, Fd14, Fd14.binds (ps := ["script"]) fun _ _ _ _ _ _ us hl => match us, hl with | [_], _ => rfl⟩
  have Fd15 := fun_mk (st := Lw_name.s_name) ld15 cd15 kd15
  have D_name : FD K mg "_law_name" Lw_name.s_name ["stream"] := ⟨_, _, PySem.W.mg_of X G ad15, Fd15, Fd15.binds (ps := ["stream"]) fun _ _ _ _ _ _ us hl => match us, hl with | [_], _ => rfl⟩
  have Fd16 := fun_mk (st := Lw_name.s_names) ld16 cd16 kd16
  have D_names : FD K mg "_law_names" Lw_name.s_names ["stream", "many"] := ⟨_, _, PySem.W.mg_of X G ad16, Fd16, Fd16.binds (ps := ["stream", "many"]) fun _ _ _ _ _ _ us hl => match us, hl with | [_, _], _ => rfl⟩
  have Fd17 := fun_mk (st := Lw_rec.s_record) ld17 cd17 kd17
  have D_record : FD K mg "_law_record" Lw_rec.s_record ["stream", "pages", "plain"] := ⟨_, _, PySem.W.mg_of X G ad17, Fd17, Fd17.binds (ps := ["stream", "pages", "plain"]) fun _ _ _ _ _ _ us hl => match us, hl with | [_, _, _], _ => rfl⟩
  have Fd18 := fun_mk (st := Lw_rec.s_log) ld18 cd18 kd18
  have D_log : FD K mg "_law_log" Lw_rec.s_log ["stream", "size"] := ⟨_, _, PySem.W.mg_of X G ad18, Fd18, Fd18.binds (ps := ["stream", "size"]) fun _ _ _ _ _ _ us hl => match us, hl with | [_, _], _ => rfl⟩
  have Fd19 := fun_mk (st := Lw_made.s_made) ld19 cd19 kd19
  have D_made : FD K mg "_law_made" Lw_made.s_made ["stream", "log"] := ⟨_, _, PySem.W.mg_of X G ad19, Fd19, Fd19.binds (ps := ["stream", "log"]) fun _ _ _ _ _ _ us hl => match us, hl with | [_, _], _ => rfl⟩
  have Fd20 := fun_mk (st := Lw_made.s_aheld) ld20 cd20 kd20
  have D_aheld : FD K mg "_law_aheld" Lw_made.s_aheld ["stream", "log"] := ⟨_, _, PySem.W.mg_of X G ad20, Fd20, Fd20.binds (ps := ["stream", "log"]) fun _ _ _ _ _ _ us hl => match us, hl with | [_, _], _ => rfl⟩
  have Fd21 := fun_mk (st := Lw_anop.s_ano_pages) ld21 cd21 kd21
  have D_ano_pages : FD K mg "_law_ano_pages" Lw_anop.s_ano_pages ["stream", "pages"] := ⟨_, _, PySem.W.mg_of X G ad21, Fd21, Fd21.binds (ps := ["stream", "pages"]) fun _ _ _ _ _ _ us hl => match us, hl with | [_, _], _ => rfl⟩
  have Fd22 := fun_mk (st := Lw_anor.s_ano_record) ld22 cd22 kd22
  have D_ano_record : FD K mg "_law_ano_record" Lw_anor.s_ano_record ["stream", "pages"] := ⟨_, _, PySem.W.mg_of X G ad22, Fd22, Fd22.binds (ps := ["stream", "pages"]) fun _ _ _ _ _ _ us hl => match us, hl with | [_, _], _ => rfl⟩
  have Fd23 := fun_mk (st := Lw_anol.s_ano_log_made) ld23 cd23 kd23
  have D_ano_log_made : FD K mg "_law_ano_log_made" Lw_anol.s_ano_log_made ["pages", "rows"] := ⟨_, _, PySem.W.mg_of X G ad23, Fd23, Fd23.binds (ps := ["pages", "rows"]) fun _ _ _ _ _ _ us hl => match us, hl with | [_, _], _ => rfl⟩
  refine ⟨PySem.W.fnOf "law" "law" (defArgs Lw_law.s_law) (defBody Lw_law.s_law) (defScope Lw_law.s_law) .none kVl dcl pml anl cdl ctl, fun s v => .of_eq rfl, fun base _ _ => ?_⟩
  have G_below : Okf l.prog w K mg base CX0 1 "_law_below" ["stream", "many"] spBelow := Lw_below.ok_below ⟨B⟩ D_below
  have G_chance : Okf l.prog w K mg base CX0 2 "_law_chance" ["stream", "many"] spChance := Lw_draws.ok_chance ⟨B⟩ D_chance G_below
  have G_pick : Okf l.prog w K mg base CX0 2 "_law_pick" ["stream", "some"] spPick := Lw_draws.ok_pick ⟨B⟩ D_pick G_below
  have G_mixed : Okf l.prog w K mg base CX0 2 "_law_mixed" ["stream", "some"] spMixed := Lw_draws.ok_mixed ⟨B⟩ D_mixed G_below
  have G_lot : Okf l.prog w K mg base CX0 2 "_law_lot" ["stream", "some", "share"] spLot := Lw_draws.ok_lot ⟨B⟩ D_lot G_below
  have G_spoilt : Okf l.prog w K mg base CX0 5 "_law_spoilt" ["thing"] (spSpoilt 5) := Lw_spoilt.ok_spoilt ⟨B⟩ D_spoilt 5
  have G_is_once : Okf l.prog w K mg base CX0 5 "_law_is_once" ["thing"] (spOnce 5) := Lw_once.ok_is_once ⟨B⟩ D_is_once 5
  have G_apart : Okf l.prog w K mg base CX0 6 "_law_apart" ["thing"] (spApart 5) := Lw_once.ok_apart ⟨B⟩ D_apart 5 G_spoilt G_is_once
  have G_same : Okf l.prog w K mg base CX0 5 "_law_same" ["found", "due"] (spSame 5) := Lw_same.ok_same ⟨B⟩ D_same 5
  have G_loose : Okf l.prog w K mg base CX0 6 "_law_loose" ["stream", "thing"] (spLoose 4) := Lw_loose.ok_loose ⟨B⟩ D_loose G_below G_mixed 4
  have TN : Lw_names.Txt mg := ⟨B, ⟨tL, PySem.W.mg_of X G hL⟩, ⟨tF, PySem.W.mg_of X G hF⟩⟩
  have G_is_name : Okf l.prog w K mg base CX0 1 "is_name" ["thing"] spIsName := Lw_names.ok_is_name TN D_is_name
  have G_names_of : Okf l.prog w K mg base CX0 2 "names_of" ["thing"] spNamesOf := Lw_names.ok_names_of TN D_names_of G_is_name
  have G_lot_among : Okf l.prog w K mg base CX0 3 "lot_among" ["thing", "names"] (spLotAmong K) := Lw_names.ok_lot_among TN D_lot_among G_names_of
  have G_record_of : Okf l.prog w K mg base CX0 4 "record_of" ["thing", "names"] (spRecordOf K) := Lw_names.ok_record_of TN D_record_of G_lot_among
  have G_standing : Okm l.prog w K mg base CX0 1 C "standing" ["self", "names"] (spStanding C) := ⟨fm1, _, ⟨am1, im1, km1⟩, bm1, Lw_log.ok_standing ⟨B, CC, n_writers, n_rows, n_names, n_needs⟩ Fm1⟩
  have M_Log : MkC l.prog w K mg base (L2.CX l.prog w) 5 "Log" C ["self", "pages", "records"] (spLogInit C CP CR) := ⟨⟨fm0, _, ⟨mk, am0, im0, kc⟩, Lw_init.ok_Log_init ⟨B, CC, n_writers, n_rows, n_names, n_needs, xP, xR⟩ Fm0 G_names_of G_record_of G_standing, bm0⟩, PySem.W.mg_of X G aC⟩
  have G_Log_pages : Okm l.prog w K mg base CX0 1 C "pages" ["self"] (spPages C) := ⟨fm2, _, ⟨am2, im2, km2⟩, bm2, Lw_meth.ok_Log_pages ⟨B, CC, n_rows, n_names⟩ Fm2⟩
  have G_Log_records : Okm l.prog w K mg base CX0 1 C "records" ["self"] (spRecords C) := ⟨fm3, _, ⟨am3, im3, km3⟩, bm3, Lw_meth.ok_Log_records ⟨B, CC, n_rows, n_names⟩ Fm3⟩
  have G_Log_size : Okm l.prog w K mg base CX0 1 C "size" ["self"] (spSize C) := ⟨fm4, _, ⟨am4, im4, km4⟩, bm4, Lw_meth.ok_Log_size ⟨B, CC, n_rows, n_names⟩ Fm4⟩
  have G_start : Okf l.prog w K mg base CX0 1 "_law_start" ["script"] (spStart K) := Lw_meth.ok_start (Cl := C) ⟨B, CC, n_rows, n_names⟩ D_start
  have G_name : Okf l.prog w K mg base CX0 3 "_law_name" ["stream"] spName := Lw_name.ok_name ⟨B⟩ D_name G_below G_pick
  have G_names : Okf l.prog w K mg base CX0 4 "_law_names" ["stream", "many"] spNames := Lw_name.ok_names ⟨B⟩ D_names G_name
  have G_record : Okf l.prog w K mg base CX0 3 "_law_record" ["stream", "pages", "plain"] spRecord := Lw_rec.ok_record ⟨B⟩ D_record G_below G_pick G_lot
  have G_log : Okf l.prog w K mg base CX0 5 "_law_log" ["stream", "size"] spLog := Lw_rec.ok_log ⟨B⟩ D_log G_below G_chance G_names G_record
  have G_made : Okf l.prog w K mg base CX0 7 "_law_made" ["stream", "log"] (spMade C) := Lw_made.ok_made ⟨B, CC⟩ D_made G_mixed G_loose M_Log
  have G_aheld : Okf l.prog w K mg base CX0 8 "_law_aheld" ["stream", "log"] spAheld := Lw_made.ok_aheld ⟨B, CC⟩ D_aheld G_mixed G_spoilt G_same G_apart G_made G_Log_size G_Log_pages G_Log_records M_Log
  have G_ano_pages : Okf l.prog w K mg base CX0 5 "_law_ano_pages" ["stream", "pages"] spAnoPages := Lw_anop.ok_ano_pages ⟨B⟩ D_ano_pages G_below G_pick G_mixed G_names
  have G_ano_record : Okf l.prog w K mg base CX0 3 "_law_ano_record" ["stream", "pages"] spAnoRecord := Lw_anor.ok_ano_record ⟨B⟩ D_ano_record G_below G_pick
  have G_ano_log_made : Okf l.prog w K mg base CX0 8 "_law_ano_log_made" ["pages", "rows"] spAnoLogMade := Lw_anol.ok_ano_log_made (Cl := C) ⟨B, xP, xR, PySem.W.exm_ref exP hdP tyP sRP⟩ D_ano_log_made M_Log
  exact Lw_law.ok_law ⟨B, CC⟩ (fun_mk (st := Lw_law.s_law) ll cl kl) G_start G_below G_chance G_pick G_log G_record G_aheld G_ano_pages G_ano_record G_ano_log_made G_spoilt G_same G_Log_size M_Log
theorem walk {l : PySem.W.OpenLaw} {q : Program} {loose : List Str} {XP : (Str → Option Value) → Heap → Prop} {YP : World → Heap → Prop} {d : DefRec} {K : Params → PySem.W.Frag} (hn : l.most = some 63) (hdf : d.params.defaults = [])
    (hY : ∀ (w : World) (h : Heap), YP w h → (K w.params).In h)
    (F : ∀ (w : World) (mg : Str → Option Value) (fa : Addr) (h : Heap), (K w.params).In h → h.Ns mainGlobals mg → mg d.name = some (.ref fa) →
      ∃ fd : FuncData, (∀ (s : Shared) (u : Value), BindsTo s fd ⟨[u], []⟩ [("script", u)]) ∧ ∀ base : Heap, (K w.params).In base → base.Ns mainGlobals mg → FnOk l.prog w (K w.params) mg base CX0 9 fa fd ["script"] (spLaw (K w.params))) :
    PySem.W.WalkO q loose XP YP l.row.toRowW d [] (fun f vs => PySem.call f vs) :=
  L2.walk_of (n := 63) (k := 9) (x := "script") (CX := fun _ => CX0) (sp := fun w => spLaw (K w.params)) hn (by decide) hdf ⟨rfl, by decide, by decide⟩ hY F (fun _ _ a ns hl _ hS => ⟨a, ns, rfl, hS, hl, fun _ => rfl⟩) fun _ _ _ _ _ z => z
end Lw_all
open PySem PySem.W PyProof.Rows in
set_option maxRecDepth 100000 in
set_option maxHeartbeats 0 in
theorem PySem.Challenge.cw_leastredo_k01_logs_hold_their_records_holds : PySem.Challenge.rw_leastredo_k01_logs_hold_their_records.Holds := by
  w_on; o_law; k_head; (case hw => w_witness2)
  k_fill
  refine Lw_all.walk (l := PySem.Challenge.rw_leastredo_k01_logs_hold_their_records) rfl rfl (fun w h Y => PySem.W.kIn_of Y) ?F
  case F =>
    intro w mg fa h KX G hmg
    refine' Lw_all.all_mk KX G hmg ?aC ?am0 ?im0 ?lm0 ?cm0 ?km0 ?am1 ?im1 ?lm1 ?cm1 ?km1 ?am2 ?im2 ?lm2 ?cm2 ?km2 ?am3 ?im3 ?lm3 ?cm3 ?km3 ?am4 ?im4 ?lm4 ?cm4 ?km4 ?ad0 ?ld0 ?cd0 ?kd0 ?ad1 ?ld1 ?cd1 ?kd1 ?ad2 ?ld2 ?cd2 ?kd2 ?ad3 ?ld3 ?cd3 ?kd3 ?ad4 ?ld4 ?cd4 ?kd4 ?ad5 ?ld5 ?cd5 ?kd5 ?ad6 ?ld6 ?cd6 ?kd6 ?ad7 ?ld7 ?cd7 ?kd7 ?ad8 ?ld8 ?cd8 ?kd8 ?ad9 ?ld9 ?cd9 ?kd9 ?ad10 ?ld10 ?cd10 ?kd10 ?ad11 ?ld11 ?cd11 ?kd11 ?ad12 ?ld12 ?cd12 ?kd12 ?ad13 ?ld13 ?cd13 ?kd13 ?ad14 ?ld14 ?cd14 ?kd14 ?ad15 ?ld15 ?cd15 ?kd15 ?ad16 ?ld16 ?cd16 ?kd16 ?ad17 ?ld17 ?cd17 ?kd17 ?ad18 ?ld18 ?cd18 ?kd18 ?ad19 ?ld19 ?cd19 ?kd19 ?ad20 ?ld20 ?cd20 ?kd20 ?ad21 ?ld21 ?cd21 ?kd21 ?ad22 ?ld22 ?cd22 ?kd22 ?ad23 ?ld23 ?cd23 ?kd23 ?al ?ll ?cl ?kl ?pg ?hd ?po ?sa ?mk ?kc ?n_names ?n_rows ?n_writers ?n_needs ?z_len ?z_list ?z_tuple ?z_dict ?z_int ?z_str ?z_bool ?z_isinstance ?z_range ?z_enumerate ?z_zip ?z_all ?z_any ?z_sorted ?z_min ?z_max ?z_sum ?hL ?hF ?axP ?xLP ?rvP ?sxP ?gxP ?hxP ?nxP ?ixP ?txP ?lxP ?cxP ?kxP ?exP ?tyP ?hdP ?ssP ?axR ?xLR ?rvR ?sxR ?gxR ?hxR ?nxR ?ixR ?txR ?lxR ?cxR ?kxR ?exR ?tyR ?hdR ?ssR ?sRP
    (case aC => k_is)
    (case am0 => k_is)
    (case im0 => k_is)
    (case lm0 => k_is)
    (case cm0 => k_is)
    (case km0 => k_is)
    (case am1 => k_is)
    (case im1 => k_is)
    (case lm1 => k_is)
    (case cm1 => k_is)
    (case km1 => k_is)
    (case am2 => k_is)
    (case im2 => k_is)
    (case lm2 => k_is)
    (case cm2 => k_is)
    (case km2 => k_is)
    (case am3 => k_is)
    (case im3 => k_is)
    (case lm3 => k_is)
    (case cm3 => k_is)
    (case km3 => k_is)
    (case am4 => k_is)
    (case im4 => k_is)
    (case lm4 => k_is)
    (case cm4 => k_is)
    (case km4 => k_is)
    (case ad0 => k_is)
    (case ld0 => k_is)
    (case cd0 => k_is)
    (case kd0 => k_is)
    (case ad1 => k_is)
    (case ld1 => k_is)
    (case cd1 => k_is)
    (case kd1 => k_is)
    (case ad2 => k_is)
    (case ld2 => k_is)
    (case cd2 => k_is)
    (case kd2 => k_is)
    (case ad3 => k_is)
    (case ld3 => k_is)
    (case cd3 => k_is)
    (case kd3 => k_is)
    (case ad4 => k_is)
    (case ld4 => k_is)
    (case cd4 => k_is)
    (case kd4 => k_is)
    (case ad5 => k_is)
    (case ld5 => k_is)
    (case cd5 => k_is)
    (case kd5 => k_is)
    (case ad6 => k_is)
    (case ld6 => k_is)
    (case cd6 => k_is)
    (case kd6 => k_is)
    (case ad7 => k_is)
    (case ld7 => k_is)
    (case cd7 => k_is)
    (case kd7 => k_is)
    (case ad8 => k_is)
    (case ld8 => k_is)
    (case cd8 => k_is)
    (case kd8 => k_is)
    (case ad9 => k_is)
    (case ld9 => k_is)
    (case cd9 => k_is)
    (case kd9 => k_is)
    (case ad10 => k_is)
    (case ld10 => k_is)
    (case cd10 => k_is)
    (case kd10 => k_is)
    (case ad11 => k_is)
    (case ld11 => k_is)
    (case cd11 => k_is)
    (case kd11 => k_is)
    (case ad12 => k_is)
    (case ld12 => k_is)
    (case cd12 => k_is)
    (case kd12 => k_is)
    (case ad13 => k_is)
    (case ld13 => k_is)
    (case cd13 => k_is)
    (case kd13 => k_is)
    (case ad14 => k_is)
    (case ld14 => k_is)
    (case cd14 => k_is)
    (case kd14 => k_is)
    (case ad15 => k_is)
    (case ld15 => k_is)
    (case cd15 => k_is)
    (case kd15 => k_is)
    (case ad16 => k_is)
    (case ld16 => k_is)
    (case cd16 => k_is)
    (case kd16 => k_is)
    (case ad17 => k_is)
    (case ld17 => k_is)
    (case cd17 => k_is)
    (case kd17 => k_is)
    (case ad18 => k_is)
    (case ld18 => k_is)
    (case cd18 => k_is)
    (case kd18 => k_is)
    (case ad19 => k_is)
    (case ld19 => k_is)
    (case cd19 => k_is)
    (case kd19 => k_is)
    (case ad20 => k_is)
    (case ld20 => k_is)
    (case cd20 => k_is)
    (case kd20 => k_is)
    (case ad21 => k_is)
    (case ld21 => k_is)
    (case cd21 => k_is)
    (case kd21 => k_is)
    (case ad22 => k_is)
    (case ld22 => k_is)
    (case cd22 => k_is)
    (case kd22 => k_is)
    (case ad23 => k_is)
    (case ld23 => k_is)
    (case cd23 => k_is)
    (case kd23 => k_is)
    (case al => k_is)
    (case ll => k_is)
    (case cl => k_is)
    (case kl => k_is)
    (case pg => k_is)
    (case hd => k_is)
    (case po => k_is)
    (case sa => k_is)
    (case mk => k_is)
    (case kc => k_is)
    (case n_names => k_is)
    (case n_rows => k_is)
    (case n_writers => k_is)
    (case n_needs => k_is)
    (case z_len => k_is)
    (case z_list => k_is)
    (case z_tuple => k_is)
    (case z_dict => k_is)
    (case z_int => k_is)
    (case z_str => k_is)
    (case z_bool => k_is)
    (case z_isinstance => k_is)
    (case z_range => k_is)
    (case z_enumerate => k_is)
    (case z_zip => k_is)
    (case z_all => k_is)
    (case z_any => k_is)
    (case z_sorted => k_is)
    (case z_min => k_is)
    (case z_max => k_is)
    (case z_sum => k_is)
    (case hL => k_is)
    (case hF => k_is)
    (case axP => k_is)
    (case xLP => k_is)
    (case rvP => first | rfl | decide +kernel | k_is)
    (case sxP => k_is)
    (case gxP => k_is)
    (case hxP => k_is)
    (case nxP => k_is)
    (case ixP => k_is)
    (case txP => k_is)
    (case lxP => k_is)
    (case cxP => k_is)
    (case kxP => k_is)
    (case exP => k_is)
    (case tyP => k_is)
    (case hdP => k_is)
    (case ssP => first | rfl | k_is)
    (case axR => k_is)
    (case xLR => k_is)
    (case rvR => first | rfl | decide +kernel | k_is)
    (case sxR => k_is)
    (case gxR => k_is)
    (case hxR => k_is)
    (case nxR => k_is)
    (case ixR => k_is)
    (case txR => k_is)
    (case lxR => k_is)
    (case cxR => k_is)
    (case kxR => k_is)
    (case exR => k_is)
    (case tyR => k_is)
    (case hdR => k_is)
    (case ssR => first | rfl | k_is)
    (case sRP => first | k_is | rfl)
