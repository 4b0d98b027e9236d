import PyProof.Rows.All
import HandS.ExcIs
import Wide.All
import OpenK.AllK
import Wide.FinOn
import HandS.ForMost
import HandS.Wide
import HandS.IsInst
import HandS.Exc
import HandS.TryOnly
import HandS.ExcOwn
import HandS.WordsExc
import HandS.TryMany
import HandS.DictComp
import HandS.NoneIn
import HandS.Zip
import HandS.Conv
import HandS.Flow
import HandS.ListItems
import HandS.TupAny
import HandS.SetFor
import PyProof.EqAt
import PyProof.EqKinds
import PyProof.TupleCall
import KE.OsGo
import HandS.ForExc
import HandS.CallSlots
import KE.GoesEnumKw
import KE.GoesMore
import HandS.Defaults
import HandS.Style
import PySem.Challenge.RW_leastredo_k12_whole_least_redo_of_great
set_option Elab.async false
set_option linter.all false
set_option maxRecDepth 100000
set_option maxHeartbeats 8000000
/-! # A frozen world G, cells of one's own C, the heap H -/
namespace Lr
open PySem PySem.Spec PyProof.Rows L2

abbrev Cell := Addr × HO
/-- G: what stands for good; C: what is held alone and may change; both lie in H -/
structure WF (G : Hp) (C : List Cell) (H : Hp) : Prop where
  sub : Same G H
  own : ∀ c ∈ C, H c.1 = some c.2 ∧ G c.1 = none
  nd : (C.map Prod.fst).Nodup

theorem same_new {H : Hp} {p : Addr} {o : HO} (h : H p = none) : Same H (upd H p o) := fun b u e => by
  rw [upd_ne (ne_of_none e h)]
  exact e
namespace WF
variable {G H H' : Hp} {C : List Cell} {p q : Addr} {o u : HO}
theorem get (w : WF G C H) (h : (p, o) ∈ C) : H p = some o := (w.own _ h).1
theorem getG (w : WF G C H) (h : G p = some o) : H p = some o := w.sub _ _ h
theorem noG (w : WF G C H) (h : (p, o) ∈ C) : G p = none := (w.own _ h).2
theorem hd (w : WF G ((p, o) :: C) H) : H p = some o := w.get List.mem_cons_self
theorem gnone (w : WF G C H) (h : H p = none) : G p = none := w.sub.free h
theorem notin (w : WF G C H) (h : H p = none) : p ∉ C.map Prod.fst := fun hm => by
  obtain ⟨c, hc, e⟩ := List.mem_map.mp hm
  have q := (w.own c hc).1
  rw [e, h] at q
  cases q
theorem same (w : WF G C H) (s : Same H H') : WF G C H' := ⟨w.sub.trans s, fun c hc => ⟨s _ _ (w.own c hc).1, (w.own c hc).2⟩, w.nd⟩
/-- a new cell of one's own -/
theorem new (w : WF G C H) (h : H p = none) : WF G ((p, o) :: C) (upd H p o) := by
  have w' := w.same (same_new (o := o) h)
  refine ⟨w'.sub, fun c hc => ?_, ?_⟩
  · rcases List.mem_cons.mp hc with rfl | hc
    · exact ⟨upd_same, w.gnone h⟩
    · exact w'.own c hc
  · rw [List.map_cons]
    exact List.nodup_cons.mpr ⟨w.notin h, w.nd⟩
/-- a new thing that stands for good -/
theorem newG (w : WF G C H) (h : H p = none) : WF (upd G p o) C (upd H p o) := by
  have w' := w.same (same_new (o := o) h)
  refine ⟨fun b x e => ?_, fun c hc => ⟨(w'.own c hc).1, ?_⟩, w.nd⟩
  · by_cases hb : b = p
    · subst hb
      rw [upd_same] at e
      rw [upd_same]
      exact e
    · rw [upd_ne hb] at e
      rw [upd_ne hb]
      exact w.sub _ _ e
  · have n : c.1 ≠ p := fun z => by
      have q := (w.own c hc).1
      rw [z, h] at q
      cases q
    rw [upd_ne n]
    exact (w.own c hc).2
theorem leG (w : WF G C H) (h : H p = none) : Same G (upd G p o) := same_new (w.gnone h)
theorem hdne (w : WF G ((p, o) :: C) H) : ∀ c ∈ C, c.1 ≠ p := fun c hc z => by
  have q := w.nd
  rw [List.map_cons] at q
  exact (List.nodup_cons.mp q).1 (List.mem_map.mpr ⟨c, hc, z⟩)
/-- the first cell changes -/
theorem set (w : WF G ((p, o) :: C) H) : WF G ((p, u) :: C) (upd H p u) := by
  have g : G p = none := w.noG List.mem_cons_self
  refine ⟨fun b x e => ?_, fun c hc => ?_, w.nd⟩
  · rw [upd_ne (ne_of_none e g)]
    exact w.sub _ _ e
  · rcases List.mem_cons.mp hc with rfl | hc
    · exact ⟨upd_same, g⟩
    · rw [upd_ne (w.hdne c hc)]
      exact w.own c (List.mem_cons_of_mem _ hc)
theorem perm {D : List Cell} (w : WF G C H) (e : C.Perm D) : WF G D H :=
  ⟨w.sub, fun c hc => w.own c (e.mem_iff.mpr hc), (e.map Prod.fst).nodup_iff.mp w.nd⟩
/-- the first cell stands for good from now on -/
theorem frz (w : WF G ((p, o) :: C) H) : WF (upd G p o) C H := by
  refine ⟨fun b x e => ?_, fun c hc => ?_, ?_⟩
  · by_cases hb : b = p
    · subst hb
      rw [upd_same] at e
      rw [w.hd]
      exact e
    · rw [upd_ne hb] at e
      exact w.sub _ _ e
  · rw [upd_ne (w.hdne c hc)]
    exact w.own c (List.mem_cons_of_mem _ hc)
  · have q := w.nd
    rw [List.map_cons] at q
    exact (List.nodup_cons.mp q).2
theorem leF (w : WF G ((p, o) :: C) H) : Same G (upd G p o) := same_new (w.noG List.mem_cons_self)
theorem drop {c : Cell} (w : WF G (c :: C) H) : WF G C H :=
  ⟨w.sub, fun d hd => w.own d (List.mem_cons_of_mem _ hd), (List.nodup_cons.mp (show ((c.1) :: C.map Prod.fst).Nodup from w.nd)).2⟩
theorem swap {c d : Cell} (w : WF G (c :: d :: C) H) : WF G (d :: c :: C) H := w.perm (List.Perm.swap _ _ _)
/-- the first one behind the next two -/
theorem rot {a b c : Cell} (w : WF G (a :: b :: c :: C) H) : WF G (b :: c :: a :: C) H :=
  w.perm ((List.Perm.swap _ _ _).trans (List.Perm.cons _ (List.Perm.swap _ _ _)))
/-- the third one first -/
theorem rot' {a b c : Cell} (w : WF G (a :: b :: c :: C) H) : WF G (c :: a :: b :: C) H :=
  w.perm ((List.Perm.cons _ (List.Perm.swap _ _ _)).trans (List.Perm.swap _ _ _))
end WF

/-! ### a def by its name -/
structure FD (K : PySem.W.Frag) (mg : Str → Option Value) (x : Str) (st : Stmt) (ps : List Str) : Prop where
  ex : ∃ (f : Addr) (fd : FuncData), mg x = some (.ref f) ∧ Fun K x x st f fd ∧ Binds K fd ps []
def Okf (P : Program) (w : World) (K : PySem.W.Frag) (mg : Str → Option Value) (base : Heap) (CX : CXT) (k : Nat) (x : Str) (ps : List Str) (sp : Sp) : Prop :=
  ∃ (f : Addr) (fd : FuncData), mg x = some (.ref f) ∧ PySem.W.keepIn K (.ref f) = true ∧ Binds K fd ps [] ∧ FnOk P w K mg base CX k f fd ps sp
section
variable {P : Program} {w : World} {K : PySem.W.Frag} {mg : Str → Option Value} {base : Heap} {CX : CXT} {j k : Nat} {x : Str} {ps : List Str} {sp sp' : Sp}
theorem Okf.mono (F : Okf P w K mg base CX j x ps sp) (h : j ≤ k) : Okf P w K mg base CX k x ps sp := by
  obtain ⟨f, fd, a, b, c, d⟩ := F
  exact ⟨f, fd, a, b, c, d.mono h⟩
theorem Okf.imp (F : Okf P w K mg base CX k x ps sp) (h : ∀ vs H Q E, sp' vs H Q E → sp vs H Q E) : Okf P w K mg base CX k x ps sp' := by
  obtain ⟨f, fd, a, b, c, d⟩ := F
  exact ⟨f, fd, a, b, c, d.imp h⟩
theorem FD.ok {st : Stmt} {N : List Str} (F : FD K mg x st ps) (S : FnScope N ps (defScope st)) (len : ∀ vs H Q E, sp vs H Q E → vs.length = ps.length)
    (hbody : ∀ (f : Addr) (cdv : Value) (A : Around) (outer : List Env) (s : Shared) (H : Hp) (vs : List V) (Q : VK) (E : XK), Room k (A.deeper (envOfC x (defScope st) s.heap.objs.size f cdv)) → sp vs H Q E →
      ∃ t, PSs (cxOf CX0 P w K mg base N x (defScope st) f cdv A outer s H E).nox (defBody st) t ∧ t { nx := fun _ H' => Q .non H', rt := Q } (start N vs) H) : Okf P w K mg base CX0 (k + 1) x ps sp := by
  obtain ⟨f, fd, a, b, c⟩ := F.ex
  exact ⟨f, fd, a, b.kp, c, b.ok S len (hbody f)⟩
theorem FD.okX {st : Stmt} {N : List Str} (F : FD K mg x st ps) (S : FnScope N ps (defScope st)) (len : ∀ vs H Q E, sp vs H Q E → vs.length = ps.length)
    (hbody : ∀ (f : Addr) (cdv : Value) (A : Around) (outer : List Env) (s : Shared) (H : Hp) (vs : List V) (Q : VK) (E : XK), Room k (A.deeper (envOfC x (defScope st) s.heap.objs.size f cdv)) → sp vs H Q E →
      ∃ t, PSs (cxOf (L2.CX P w) P w K mg base N x (defScope st) f cdv A outer s H E) (defBody st) t ∧ t { nx := fun _ H' => Q .non H', rt := Q } (start N vs) H) : Okf P w K mg base (L2.CX P w) (k + 1) x ps sp := by
  obtain ⟨f, fd, a, b, c⟩ := F.ex
  exact ⟨f, fd, a, b.kp, c, b.okX S len (hbody f)⟩
end
section
variable {X : Cx} {CX : CXT} {k k' : Nat} {x : Str} {ps : List Str} {sp : Sp} {E : XK} {p pos : Pos} {e : Expr} {es : List Expr} {t : TA}
/-- f(e, ..): a def by its name -/
theorem pcall (F : Okf X.prog X.w X.K X.mg X.base CX k x ps sp) (hr : Room k' X.A) (hx : Passes CX X E) (ha : PA X (e :: es) t) (hk : k ≤ k' := by omega) (hg : Gl X x := by rfl)
    (hdb : (x == ("__debug__" : Str)) = false := by decide) (he : starEach (e :: es) X.env = (false, eval e X.env) :: starEach es X.env := by rfl) (hpl : (backTo pos (starEach es X.env)).any (·.1) = false := by rfl) :
    PE X (.Call (.Name x p) (e :: es) [] pos) (tCall sp [] E t) := by
  obtain ⟨f, fd, a, b, c, d⟩ := F
  exact pe_call d (hr.mono hk) hg a b c .nil hx ha hdb he hpl
/-- .. of a def that lets nothing out -/
theorem pc (F : Okf X.prog X.w X.K X.mg X.base CX0 k x ps sp) (hr : Room k' X.A) (ha : PA X (e :: es) t) (hk : k ≤ k' := by omega) (hg : Gl X x := by rfl)
    (hdb : (x == ("__debug__" : Str)) = false := by decide) (he : starEach (e :: es) X.env = (false, eval e X.env) :: starEach es X.env := by rfl) (hpl : (backTo pos (starEach es X.env)).any (·.1) = false := by rfl) :
    PE X (.Call (.Name x p) (e :: es) [] pos) (tCall sp [] E0 t) := pcall F hr pass0 ha hk hg hdb he hpl
end
end Lr

/-! # The spring of draws -/
namespace Lr
open PySem PySem.Spec PyProof.Rows L2
/-- the spring at st (its cells' list at cs), of at most n draws so far, and the cells C of one's own -/
def SW (G : Hp) (st cs : Addr) (n : Nat) (C : List Cell) (H : Hp) : Prop :=
  ∃ (l : List Int) (a b c : Int), WF G ((st, .lst [.ref cs, .int a, .int b, .int c]) :: (cs, .lst (l.map V.int)) :: C) H ∧ 0 ≤ a ∧ 0 ≤ b ∧ b ≤ (n : Int) ∧ 0 ≤ c ∧ c < 2147483648
namespace SW
variable {G H H' : Hp} {st cs : Addr} {n m : Nat} {C D : List Cell} {p q : Addr} {o u : HO}
theorem wf (w : SW G st cs n C H) : WF G C H := by
  obtain ⟨l, a, b, c, w, _⟩ := w
  exact w.drop.drop
theorem mono (w : SW G st cs n C H) (h : n ≤ m) : SW G st cs m C H := by
  obtain ⟨l, a, b, c, w, h1, h2, h3, h4⟩ := w
  exact ⟨l, a, b, c, w, h1, h2, by omega, h4⟩
theorem same (w : SW G st cs n C H) (s : Same H H') : SW G st cs n C H' := by
  obtain ⟨l, a, b, c, w, k⟩ := w
  exact ⟨l, a, b, c, w.same s, k⟩
theorem new (w : SW G st cs n C H) (h : H p = none) : SW G st cs n ((p, o) :: C) (upd H p o) := by
  obtain ⟨l, a, b, c, w, k⟩ := w
  exact ⟨l, a, b, c, (w.new h).rot, k⟩
theorem newG (w : SW G st cs n C H) (h : H p = none) : SW (upd G p o) st cs n C (upd H p o) := by
  obtain ⟨l, a, b, c, w, k⟩ := w
  exact ⟨l, a, b, c, w.newG h, k⟩
theorem set (w : SW G st cs n ((p, o) :: C) H) : SW G st cs n ((p, u) :: C) (upd H p u) := by
  obtain ⟨l, a, b, c, w, k⟩ := w
  exact ⟨l, a, b, c, (w.rot'.set).rot, k⟩
theorem frz (w : SW G st cs n ((p, o) :: C) H) : SW (upd G p o) st cs n C H := by
  obtain ⟨l, a, b, c, w, k⟩ := w
  exact ⟨l, a, b, c, w.rot'.frz, k⟩
theorem perm (w : SW G st cs n C H) (e : C.Perm D) : SW G st cs n D H := by
  obtain ⟨l, a, b, c, w, k⟩ := w
  exact ⟨l, a, b, c, w.perm ((e.cons _).cons _), k⟩
theorem drop {c : Cell} (w : SW G st cs n (c :: C) H) : SW G st cs n C H := by
  obtain ⟨l, a, b, d, w, k⟩ := w
  exact ⟨l, a, b, d, w.rot'.drop, k⟩
theorem swap {c d : Cell} (w : SW G st cs n (c :: d :: C) H) : SW G st cs n (d :: c :: C) H := w.perm (List.Perm.swap _ _ _)
theorem sub (w : SW G st cs n C H) : Same G H := w.wf.sub
theorem getG (w : SW G st cs n C H) (h : G p = some o) : H p = some o := w.wf.getG h
theorem get (w : SW G st cs n C H) (h : (p, o) ∈ C) : H p = some o := w.wf.get h
theorem hd (w : SW G st cs n ((p, o) :: C) H) : H p = some o := w.wf.hd
theorem gnone (w : SW G st cs n C H) (h : H p = none) : G p = none := w.wf.gnone h
theorem noG (w : SW G st cs n C H) (h : (p, o) ∈ C) : G p = none := w.wf.noG h
theorem leG (w : SW G st cs n C H) (h : H p = none) : Same G (upd G p o) := w.wf.leG h
theorem leF (w : SW G st cs n ((p, o) :: C) H) : Same G (upd G p o) := w.wf.leF
end SW
/-- _law_below(stream, many): a number below many -/
def spBelow : Sp := fun vs H Q _ => ∃ (G : Hp) (st cs : Addr) (n : Nat) (C : List Cell) (m : Int), vs = [.ref st, .int m] ∧ 0 < m ∧ m < 2 ^ 60 ∧ n < 2 ^ 40 ∧ SW G st cs n C H ∧
  ∀ (d : Nat) (H' : Hp), (d : Int) < m → SW G st cs (n + 1) C H' → Q (.int d) H'
end Lr

/-! # Rules that leave the kind of their operands to the reading -/
namespace Lr
open PySem PySem.Spec PyProof.Rows L2
section
variable {X : Cx} {K : PySem.W.Frag}
theorem OpR.or {f : Value → Value → Sem Value} {r r' : R2} (h : OpR X f r) (h' : OpR X f r') : OpR X f (fun x y H Q => r x y H Q ∨ r' x y H Q) := fun pins s σ H x y v u Q I r1 r2 q => by
  rcases q with q | q
  · exact h pins s σ H x y v u Q I r1 r2 q
  · exact h' pins s σ H x y v u Q I r1 r2 q
theorem CallR.or {f : Value} {r r' : List V → Hp → VK → Prop} (h : CallR X f r) (h' : CallR X f r') : CallR X f (fun xs H Q => r xs H Q ∨ r' xs H Q) := fun pins s σ H xs us Q I r1 q => by
  rcases q with q | q
  · exact h pins s σ H xs us Q I r1 q
  · exact h' pins s σ H xs us Q I r1 q
/-- + : ints | texts | lists | tuples -/
def rAddS : R2 := fun x y H Q => ∃ i j, x = .str i ∧ y = .str j ∧ i.length + j.length ≤ sizeLine ∧ Q (.str (i ++ j)) H
@[irreducible] def rAddA (K : PySem.W.Frag) : R2 := fun x y H Q => (∃ i j, x = .int i ∧ y = .int j ∧ Q (.int (i + j)) H) ∨ rAddS x y H Q ∨ rCat x y H Q ∨ rCatA K x y H Q
theorem op_addA (hK : X.K = K := by rfl) : OpR X (binaryOp .Add) (rAddA K) := by
  subst hK
  unfold rAddA
  exact OpR.or op_add (OpR.or op_add_str (OpR.or op_cat op_catA))
theorem rAddA.int {K : PySem.W.Frag} {i j : Int} {H : Hp} {Q : VK} (q : Q (.int (i + j)) H) : rAddA K (.int i) (.int j) H Q := by
  unfold rAddA
  exact .inl ⟨_, _, rfl, rfl, q⟩
theorem rAddA.str {K : PySem.W.Frag} {i j : Str} {H : Hp} {Q : VK} (h : i.length + j.length ≤ 1000000) (q : Q (.str (i ++ j)) H) : rAddA K (.str i) (.str j) H Q := by
  unfold rAddA
  exact .inr (.inl ⟨_, _, rfl, rfl, Nat.le_trans h (by decide), q⟩)
theorem rAddA.lst {K : PySem.W.Frag} {a b : Addr} {xs ys : List V} {H : Hp} {Q : VK} (ha : H a = some (.lst xs)) (hb : H b = some (.lst ys)) (h : xs.length + ys.length ≤ 1000000) (q : ∀ p, H p = none → Q (.ref p) (upd H p (.lst (xs ++ ys)))) : rAddA K (.ref a) (.ref b) H Q := by
  unfold rAddA
  exact .inr (.inr (.inl ⟨_, _, _, _, rfl, rfl, ha, hb, Nat.le_trans h (by decide), q⟩))
/-- * : ints -/
@[irreducible] def rMulA : R2 := fun x y H Q => (∃ i j, x = .int i ∧ y = .int j ∧ CMul i j ∧ Q (.int (i * j)) H) ∨ rI CMulW (fun i j => .int (i * j)) x y H Q ∨ rRep x y H Q
theorem op_mulA : OpR X (binaryOp .Mult) rMulA := by
  unfold rMulA
  exact OpR.or op_mul (OpR.or op_mulW op_rep)
theorem rMulA.left {i j : Int} {H : Hp} {Q : VK} (h1 : -(2 ^ 64) < i) (h2 : i < 2 ^ 64) (q : Q (.int (i * j)) H) : rMulA (.int i) (.int j) H Q := by
  unfold rMulA
  exact .inl ⟨_, _, rfl, rfl, .inl ⟨h1, h2⟩, q⟩
theorem rMulA.right {i j : Int} {H : Hp} {Q : VK} (h1 : -(2 ^ 64) < j) (h2 : j < 2 ^ 64) (q : Q (.int (i * j)) H) : rMulA (.int i) (.int j) H Q := by
  unfold rMulA
  exact .inl ⟨_, _, rfl, rfl, .inr ⟨h1, h2⟩, q⟩
/-- ==, != : scalars | data -/
@[irreducible] def rEqA (K : PySem.W.Frag) : R2 := fun x y H Q => rEq x y H Q ∨ rEqD K x y H Q
@[irreducible] def rNeA (K : PySem.W.Frag) : R2 := fun x y H Q => rNe x y H Q ∨ rNeD K x y H Q
theorem op_eqA (hu : X.A.units + 64 < cLine) (hK : X.K = K := by rfl) : OpR X (compareOp .Eq) (rEqA K) := by
  subst hK
  unfold rEqA
  exact OpR.or op_eq (op_eqD hu)
theorem op_neA (hu : X.A.units + 64 < cLine) (hK : X.K = K := by rfl) : OpR X (compareOp .NotEq) (rNeA K) := by
  subst hK
  unfold rNeA
  exact OpR.or op_ne (op_neD hu)
theorem rEqA.sc {K : PySem.W.Frag} {x y : V} {H : Hp} {Q : VK} {b : Bool} (h : scal x y = true) (e : decide (x = y) = b) (q : Q (.bl b) H) : rEqA K x y H Q := by
  unfold rEqA
  exact .inl ⟨h, by rw [e]; exact q⟩
theorem rNeA.sc {K : PySem.W.Frag} {x y : V} {H : Hp} {Q : VK} {b : Bool} (h : scal x y = true) (e : (!decide (x = y)) = b) (q : Q (.bl b) H) : rNeA K x y H Q := by
  unfold rNeA
  exact .inl ⟨h, by rw [e]; exact q⟩
theorem dec_int (i j : Int) : decide (V.int i = V.int j) = decide (i = j) := by
  by_cases h : i = j
  · subst h; simp
  · rw [decide_eq_false h, decide_eq_false (fun z => h (V.int.inj z))]
theorem rEqA.int {K : PySem.W.Frag} {i j : Int} {H : Hp} {Q : VK} (q : Q (.bl (decide (i = j))) H) : rEqA K (.int i) (.int j) H Q := by
  unfold rEqA
  exact .inl ⟨rfl, by rw [dec_int]; exact q⟩
theorem rNeA.int {K : PySem.W.Frag} {i j : Int} {H : Hp} {Q : VK} (q : Q (.bl (!decide (i = j))) H) : rNeA K (.int i) (.int j) H Q := by
  unfold rNeA
  exact .inl ⟨rfl, by rw [dec_int]; exact q⟩
/-- in : flat things of a list or tuple | a sign of a text -/
def rInS1 (neg : Bool) : R2 := fun x y H Q => ∃ (c : Nat) (z : Str), x = .str ⟨#[c]⟩ ∧ y = .str z ∧ Q (.bl (if neg then !decide (c ∈ z.cps.toList) else decide (c ∈ z.cps.toList))) H
@[irreducible] def rInA (K : PySem.W.Frag) (neg : Bool) : R2 := fun x y H Q => rIn K neg x y H Q ∨ rInS1 neg x y H Q
theorem op_inA (hK : X.K = K := by rfl) : OpR X (compareOp .In) (rInA K false) := by
  subst hK
  unfold rInA
  exact OpR.or op_in_seq op_in_sign
theorem op_notInA (hK : X.K = K := by rfl) : OpR X (compareOp .NotIn) (rInA K true) := by
  subst hK
  unfold rInA
  exact OpR.or op_notIn_seq op_notIn_sign
/-- items of lists, tuples, texts -/
theorem rIx.lst {K : PySem.W.Frag} {p : Addr} {xs : List V} {i : Int} {v : V} {H : Hp} {Q : VK} (h : H p = some (.lst xs)) (ha : atI xs i = some v) (q : Q v H) : rIx K (.ref p) (.int i) H Q := .inl ⟨_, _, _, _, rfl, rfl, SqL.of h, ha, q⟩
theorem rIx.tup {K : PySem.W.Frag} {p : Addr} {xs : List V} {i : Int} {v : V} {H : Hp} {Q : VK} (h : H p = some (.tup xs)) (ha : atI xs i = some v) (q : Q v H) : rIx K (.ref p) (.int i) H Q := .inr (.inl ⟨_, _, _, _, rfl, rfl, SqT.of h, ha, q⟩)
theorem rIx.str {K : PySem.W.Frag} {z : Str} {i : Int} {c : Nat} {H : Hp} {Q : VK} (h : z.length ≤ sizeLine) (ha : atI z.cps.toList i = some c) (q : Q (.str ⟨#[c]⟩) H) : rIx K (.str z) (.int i) H Q := .inr (.inr ⟨_, _, _, rfl, rfl, h, ha, q⟩)
/-- a store by place -/
theorem rSetL.at {p : Addr} {xs : List V} {k : Int} {j : Nat} {v : V} {H : Hp} {Q : Hp → Prop} (h : H p = some (.lst xs)) (hj : ixN xs.length k = some j) (q : Q (upd H p (.lst (xs.set j v)))) : rSetL (.ref p) (.int k) v H Q := ⟨_, _, _, _, rfl, rfl, h, hj, q⟩
/-- len : list, tuple, text | dict -/
@[irreducible] def rLenA (K : PySem.W.Frag) : List V → Hp → VK → Prop := fun xs H Q => (∃ x n, xs = [x] ∧ LenV K x H n ∧ Q (.int n) H) ∨ ∃ a kvs, xs = [V.ref a] ∧ H a = some (.dK kvs) ∧ Q (.int kvs.length) H
theorem call_lenA (hK : X.K = K := by rfl) : CallR X (.builtin "len") (rLenA K) := by
  subst hK
  unfold rLenA
  exact CallR.or call_len call_lenD
theorem rLenA.v {K : PySem.W.Frag} {x : V} {n : Nat} {H : Hp} {Q : VK} (h : LenV K x H n) (q : Q (.int n) H) : rLenA K [x] H Q := by
  unfold rLenA
  exact .inl ⟨_, _, rfl, h, q⟩
theorem rLenA.dic {K : PySem.W.Frag} {a : Addr} {kvs : List (Key × V)} {H : Hp} {Q : VK} (h : H a = some (.dK kvs)) (q : Q (.int kvs.length) H) : rLenA K [.ref a] H Q := by
  unfold rLenA
  exact .inr ⟨_, _, rfl, h, q⟩
theorem rLenA.str {K : PySem.W.Frag} {x : Str} {H : Hp} {Q : VK} (h : x.length ≤ 1000000) (q : Q (.int x.length) H) : rLenA K [.str x] H Q := rLenA.v ⟨Nat.le_trans h (by decide), rfl⟩ q
/-- list(..) : list, tuple | dict -/
@[irreducible] def rListA (K : PySem.W.Frag) : List V → Hp → VK → Prop := fun xs H Q => (∃ p ys, xs = [.ref p] ∧ (SqL K H p ys ∨ SqT K H p ys) ∧ ∀ l, H l = none → Q (.ref l) (upd H l (.lst ys))) ∨ rListD xs H Q
theorem xix {K : PySem.W.Frag} (hK : X.K = K := by rfl) : IxR X (rIx K) := by
  subst hK
  exact ix_seq
theorem xsl {K : PySem.W.Frag} (hK : X.K = K := by rfl) : SlR X (fun x lo hi H Q => rSlL K x lo hi H Q ∨ rSlS x lo hi H Q ∨ rSlA K x lo hi H Q) := by
  subst hK
  exact SlR.or sl_list (SlR.or sl_str sl_tupA)
theorem call_tupleA {K : PySem.W.Frag} (hK : X.K = K := by rfl) : CallR X (.type "tuple") (fun xs H Q => ∃ p ys, xs = [.ref p] ∧ ((SqL K H p ys ∧ ∀ l, H l = none → Q (.ref l) (upd H l (.tup ys))) ∨ (SqT K H p ys ∧ Q (.ref p) H))) := by
  subst hK
  exact call_tuple_of
theorem cr_allA {K : PySem.W.Frag} (hc : X.calm = true) (hK : X.K = K := by rfl) : CallR X (.builtin "all") (rAll K) := by
  subst hK
  exact cr_all hc
theorem cr_anyA {K : PySem.W.Frag} (hc : X.calm = true) (hK : X.K = K := by rfl) : CallR X (.builtin "any") (rAny K) := by
  subst hK
  exact cr_any hc
theorem cr_sortedA {K : PySem.W.Frag} (hK : X.K = K := by rfl) : CallR X (.builtin "sorted") (rSortedS K) := by
  subst hK
  exact cr_sortedS
theorem xtup {K : PySem.W.Frag} {es : List Expr} {k : Nat} {t : TGs} {n : Nat} (hc : X.calm = true) (h : PGs X es t) (hK : X.K = K := by rfl)
    (hn : (assignEach es X.env).length = n := by rfl) (hst : (assignEach es X.env).findIdx? (·.1) = none := by rfl) : PG X (.Tuple es k pos) (gTup K n t) := by
  subst hK
  exact pg_tup hc h hn hst
theorem xfld {K : PySem.W.Frag} {e : Expr} {ta : TE} {f : Str} {pos : Pos} (he : PE X e ta) (hb : attributeBase e f X.env (eval e X.env) = eval e X.env) (hK : X.K = K := by rfl) : PE X (.Attribute e f pos) (tFld K ta f) := by
  subst hK
  exact pe_fld he hb
theorem xbm {K : PySem.W.Frag} {T : String} {name : Str} {id : String} {r : V → List V → Hp → VK → Prop} {o e : Expr} {es : List Expr} {to : TE} {t : TA} {apos cpos : Pos} (pa : PlainAttrs T) (slot : Slot T name id) (hty : typeOf (.builtin id) = pure (.type "method_descriptor")) (hm : MtR X id r) (ho : PE X o to) (ha : PA X (e :: es) t)
    (hK : X.K = K := by rfl)
    (hbase : attributeBase o name X.env (eval o X.env) = eval o X.env := by rfl)
    (hfew : ((backTo cpos (starEach (e :: es) X.env)).all (fun x => !x.1) && (backToKw cpos (keywordEach [] X.env)).all (fun x => x.1.isSome)
      && decide ((e :: es).length + ([] : List Keyword).length + (if ([] : List Keyword).isEmpty then 0 else 1) < 30)) = true := by rfl)
    (hline : (apos.endLine == cpos.line) = true := by rfl) (hs : starEach (e :: es) X.env = (false, eval e X.env) :: starEach es X.env := by rfl) (hplain : (backTo cpos (starEach es X.env)).any (·.1) = false := by rfl) :
    PE X (.Call (.Attribute o name apos) (e :: es) [] cpos) (tBM K T r to t) := by
  subst hK
  exact pe_bm pa slot hty hm ho ha hbase hfew hline hs hplain
theorem xbm0 {K : PySem.W.Frag} {T : String} {name : Str} {id : String} {r : V → List V → Hp → VK → Prop} {o : Expr} {to : TE} {apos cpos : Pos} (pa : PlainAttrs T) (slot : Slot T name id) (hty : typeOf (.builtin id) = pure (.type "method_descriptor")) (hm : MtR X id r) (ho : PE X o to)
    (hK : X.K = K := by rfl)
    (hbase : attributeBase o name X.env (eval o X.env) = eval o X.env := by rfl) (hline : (apos.endLine == cpos.line) = true := by rfl) : PE X (.Call (.Attribute o name apos) [] [] cpos) (tBM0 K T r to) := by
  subst hK
  exact pe_bm0 pa slot hty hm ho hbase hline
end
theorem Same.tup {K : PySem.W.Frag} {H H' : Hp} {a : Addr} {xs : List V} (e : Same H H') (h : SqT K H a xs) : SqT K H' a xs := by
  rcases h with (h | ⟨o, h⟩) | h
  · exact .inl (.inl (e _ _ h))
  · exact .inl (.inr ⟨o, e _ _ h⟩)
  · exact .inr h
/-! ### the built-in names -/
structure Bl (mg : Str → Option Value) : Prop where
  len : mg "len" = none
  list : mg "list" = none
  tuple : mg "tuple" = none
  dict : mg "dict" = none
  int : mg "int" = none
  str : mg "str" = none
  bool : mg "bool" = none
  isinstance : mg "isinstance" = none
  range : mg "range" = none
  enumerate : mg "enumerate" = none
  zip : mg "zip" = none
  all : mg "all" = none
  any : mg "any" = none
  sorted : mg "sorted" = none
  min : mg "min" = none
  max : mg "max" = none
  sum : mg "sum" = none
end Lr

namespace Lr
open PySem PySem.Spec PyProof.Rows L2
section
variable {X : Cx}
theorem call_listA {K : PySem.W.Frag} (hc : X.calm = true) (hK : X.K = K := by rfl) : CallR X (.type "list") (rListA K) := by
  subst hK
  unfold rListA
  exact CallR.or call_list_of (call_list_dK hc)
@[irreducible] def rIsiA (K : PySem.W.Frag) : List V → Hp → VK → Prop := fun xs H Q => rIsi K xs H Q ∨ rIsiT K xs H Q
theorem call_isiA {K : PySem.W.Frag} (hK : X.K = K := by rfl) : CallR X (.builtin "isinstance") (rIsiA K) := by
  subst hK
  unfold rIsiA
  exact CallR.or call_isi call_isiT
/-- what is iterated: a list or a tuple -/
theorem PI.or {tg iter : Expr} {w1 w2 : TI} (h1 : PI X tg iter w1) (h2 : PI X tg iter w2) : PI X tg iter (fun σ H R => w1 σ H R ∨ w2 σ H R) := ⟨fun pins s σ H R I q => by
  rcases q with q | q
  · exact h1.run pins s σ H R I q
  · exact h2.run pins s σ H R I q⟩
def iSeq (K : PySem.W.Frag) (tl : TE) : TI := fun σ H R => iList K tl σ H R ∨ iTup K tl σ H R
theorem pi_seq {K : PySem.W.Frag} {tg l : Expr} {tl : TE} (hl : PE X l tl) (hK : X.K = K := by rfl) : PI X tg l (iSeq K tl) := by
  subst hK
  exact PI.or (pi_list hl) (pi_tup hl)
end
/-! ### what is seen: it stands for good, or it is one's own -/
def Sees (G : Hp) (C : List Cell) (a : Addr) (o : HO) : Prop := G a = some o ∨ (a, o) ∈ C
theorem Sees.at {G H : Hp} {C : List Cell} {a : Addr} {o : HO} (h : Sees G C a o) (w : WF G C H) : H a = some o := h.elim w.getG w.get
theorem Sees.sw {G H : Hp} {st cs : Addr} {n : Nat} {C : List Cell} {a : Addr} {o : HO} (h : Sees G C a o) (w : SW G st cs n C H) : H a = some o := h.at w.wf
theorem Sees.mono {G G' : Hp} {C : List Cell} {a : Addr} {o : HO} (h : Sees G C a o) (g : Same G G') : Sees G' C a o := h.imp (g _ _) id
theorem Sees.cons {G : Hp} {C : List Cell} {a : Addr} {o : HO} {c : Cell} (h : Sees G C a o) : Sees G (c :: C) a o := h.imp id (List.mem_cons_of_mem _)
/-- a list or a tuple of these items -/
def Seq (G : Hp) (C : List Cell) (a : Addr) (xs : List V) : Prop := Sees G C a (.lst xs) ∨ Sees G C a (.tup xs)
theorem Seq.mono {G G' : Hp} {C : List Cell} {a : Addr} {xs : List V} (h : Seq G C a xs) (g : Same G G') : Seq G' C a xs := h.imp (·.mono g) (·.mono g)
theorem Seq.cons {G : Hp} {C : List Cell} {a : Addr} {xs : List V} {c : Cell} (h : Seq G C a xs) : Seq G (c :: C) a xs := h.imp Sees.cons Sees.cons
theorem Seq.gl {G : Hp} {C : List Cell} {a : Addr} {xs : List V} (h : G a = some (.lst xs)) : Seq G C a xs := .inl (.inl h)
theorem Seq.gt {G : Hp} {C : List Cell} {a : Addr} {xs : List V} (h : G a = some (.tup xs)) : Seq G C a xs := .inr (.inl h)
theorem Seq.hd {G : Hp} {C : List Cell} {a : Addr} {xs : List V} : Seq G ((a, .lst xs) :: C) a xs := .inl (.inr List.mem_cons_self)
theorem Seq.sq {K : PySem.W.Frag} {G H : Hp} {C : List Cell} {a : Addr} {xs : List V} (h : Seq G C a xs) (w : WF G C H) : SqL K H a xs ∨ SqT K H a xs := h.imp (fun h => SqL.of (h.at w)) (fun h => SqT.of (h.at w))
theorem Seq.ix {K : PySem.W.Frag} {G H : Hp} {C : List Cell} {a : Addr} {xs : List V} {i : Int} {v : V} {Q : VK} (h : Seq G C a xs) (w : WF G C H) (hi : atI xs i = some v) (q : Q v H) : rIx K (.ref a) (.int i) H Q := by
  rcases h with h | h
  · exact rIx.lst (h.at w) hi q
  · exact rIx.tup (h.at w) hi q
theorem Seq.len {K : PySem.W.Frag} {G H : Hp} {C : List Cell} {a : Addr} {xs : List V} (h : Seq G C a xs) (w : WF G C H) : LenV K (.ref a) H xs.length := by
  rcases h with h | h
  · exact .inl ⟨_, SqL.of (h.at w), rfl⟩
  · exact .inr ⟨_, SqT.of (h.at w), rfl⟩
theorem rListA.seq {K : PySem.W.Frag} {G H : Hp} {C : List Cell} {a : Addr} {xs : List V} {Q : VK} (h : Seq G C a xs) (w : WF G C H) (q : ∀ l, H l = none → Q (.ref l) (upd H l (.lst xs))) : rListA K [.ref a] H Q := by
  unfold rListA
  exact .inl ⟨_, _, rfl, h.sq w, q⟩
theorem rListA.sq {K : PySem.W.Frag} {H : Hp} {a : Addr} {xs : List V} {Q : VK} (h : SqL K H a xs ∨ SqT K H a xs) (q : ∀ l, H l = none → Q (.ref l) (upd H l (.lst xs))) : rListA K [.ref a] H Q := by
  unfold rListA
  exact .inl ⟨_, _, rfl, h, q⟩
theorem lenA {K : PySem.W.Frag} {G H : Hp} {C : List Cell} {a : Addr} {xs : List V} {Q : VK} (h : Seq G C a xs) (w : WF G C H) (q : Q (.int xs.length) H) : rLenA K [.ref a] H Q := rLenA.v (h.len w) q
/-- a list (true) or a tuple (false) that can be read -/
def SqK (k : Bool) (K : PySem.W.Frag) (H : Hp) (a : Addr) (xs : List V) : Prop := if k = true then SqL K H a xs else SqT K H a xs
theorem Seq.kind {G : Hp} {C : List Cell} {a : Addr} {xs : List V} (h : Seq G C a xs) : ∃ k, ∀ K H, WF G C H → SqK k K H a xs := by
  rcases h with h | h
  · exact ⟨true, fun K H w => by unfold SqK; rw [if_pos rfl]; exact SqL.of (h.at w)⟩
  · exact ⟨false, fun K H w => by unfold SqK; rw [if_neg (by decide)]; exact SqT.of (h.at w)⟩
theorem SqK.lst {K : PySem.W.Frag} {H : Hp} {a : Addr} {xs : List V} (h : H a = some (.lst xs)) : SqK true K H a xs := by
  unfold SqK
  rw [if_pos rfl]
  exact SqL.of h
theorem SqK.tup {K : PySem.W.Frag} {H : Hp} {a : Addr} {xs : List V} (h : H a = some (.tup xs)) : SqK false K H a xs := by
  unfold SqK
  rw [if_neg (by decide)]
  exact SqT.of h
/-- a loop over a list or a tuple -/
theorem for_seq {K : PySem.W.Frag} {a : Addr} {xs : List V} {tl : TE} {g : TG} {tb : TS} {D : Ends} {σ : L2.St} {H H1 : Hp} {k : Bool} (htl : ∀ R : VK, R (.ref a) H1 → tl σ H R) (hk : SqK k K H1 a xs) (Pv : Nat → L2.St → Hp → Prop) (h0 : Pv 0 σ H1)
    (hl : ∀ i σ H', i ≤ xs.length → Pv i σ H' → SqK k K H' a xs)
    (hs : ∀ i x σ H, xs[i]? = some x → Pv i σ H → g x σ H fun σ2 H2 => tb { D with nx := Pv (i + 1), ct := Pv (i + 1), bk := D.nx } σ2 H2) (hd : ∀ σ H, Pv xs.length σ H → D.nx σ H) :
    tFor (iSeq K tl) g tb D σ H := by
  cases k with
  | true => exact .inl (htl _ ⟨a, rfl, ⟨_, hk⟩, for_list (K := K) (a := a) (xs := xs) Pv h0 (fun i σ H' hi p => hl i σ H' hi p) hs hd⟩)
  | false => exact .inr (htl _ ⟨a, rfl, ⟨_, hk⟩, for_tup (K := K) (a := a) (xs := xs) Pv h0 (fun i σ H' hi p => hl i σ H' hi p) hs hd⟩)
/-- a comprehension over a list or a tuple -/
theorem lc_seq {K : PySem.W.Frag} {a : Addr} {xs : List V} {tl : TE} {g : TG} {tt : TT} {te : TE} {vs : List Nat} {σ : L2.St} {H H1 : Hp} {Q : VK} {k : Bool} (htl : ∀ R : VK, R (.ref a) H1 → tl σ H R) (hk : SqK k K H1 a xs)
    (go : ∀ D, H1 D = none → ∃ Pv : Nat → Hp → Prop, Pv 0 (upd H1 D (.lst [])) ∧ (∀ i H', i ≤ xs.length → Pv i H' → SqK k K H' a xs) ∧
      (∀ i x H', xs[i]? = some x → Pv i H' → g x (wipe σ vs) H' fun σ2 H2 => wipe σ2 vs = wipe σ vs ∧ tt σ2 H2 fun b H3 =>
        if b = true then te σ2 H3 fun y H4 => ∃ acc, H4 D = some (.lst acc) ∧ acc.length < sizeLine ∧ Pv (i + 1) (upd H4 D (.lst (acc ++ [y]))) else Pv (i + 1) H3) ∧ ∀ H', Pv xs.length H' → Q (.ref D) H') :
    tLc (iSeq K tl) g tt te vs σ H Q := by
  cases k with
  | true => exact .inl (htl _ ⟨a, rfl, ⟨_, hk⟩, fun D nD => by
      obtain ⟨Pv, h0, hl, hs, hd⟩ := go D nD
      exact lc_list (K := K) (a := a) (xs := xs) Pv h0 hl hs hd⟩)
  | false => exact .inr (htl _ ⟨a, rfl, ⟨_, hk⟩, fun D nD => by
      obtain ⟨Pv, h0, hl, hs, hd⟩ := go D nD
      exact lc_tup (K := K) (a := a) (xs := xs) Pv h0 hl hs hd⟩)
theorem take_more {α : Type} : ∀ {l : List α} {i : Nat} {x : α}, l[i]? = some x → l.take (i + 1) = l.take i ++ [x]
  | [], i, x, h => by simp at h
  | a :: l, 0, x, h => by
    have e : a = x := Option.some.inj h
    subst e
    rfl
  | a :: l, i + 1, x, h => by
    have ih := take_more (l := l) (i := i) (x := x) h
    show a :: l.take (i + 1) = a :: l.take i ++ [x]
    rw [ih]
    rfl
theorem sz_lt {n : Nat} (h : n ≤ 10000000) : n < sizeLine := Nat.lt_of_le_of_lt h (by decide)
theorem perm_erase {α : Type} : ∀ (l : List α) (d : Nat) (h : d < l.length), (l[d] :: l.eraseIdx d).Perm l
  | [], d, h => absurd h (Nat.not_lt_zero _)
  | x :: r, 0, _ => List.Perm.refl _
  | x :: r, d + 1, h => by
    have ih := perm_erase r d (by simpa using h)
    simp only [List.getElem_cons_succ, List.eraseIdx_cons_succ]
    exact (List.Perm.swap _ _ _).trans (ih.cons x)
/-! ### draws: promises -/
def spChance : Sp := fun vs H Q _ => ∃ (G : Hp) (st cs : Addr) (n : Nat) (C : List Cell) (m : Int), vs = [.ref st, .int m] ∧ 0 < m ∧ m < 2 ^ 60 ∧ n < 2 ^ 40 ∧ SW G st cs n C H ∧
  ∀ (b : Bool) (H' : Hp), SW G st cs (n + 1) C H' → Q (.bl b) H'
def spPick : Sp := fun vs H Q _ => ∃ (G : Hp) (st cs : Addr) (n : Nat) (C : List Cell) (a : Addr) (xs : List V), vs = [.ref st, .ref a] ∧ 0 < xs.length ∧ xs.length < 2 ^ 59 ∧ n < 2 ^ 40 ∧ SW G st cs n C H ∧ Seq G C a xs ∧
  ∀ (i : Nat) (v : V) (H' : Hp), xs[i]? = some v → SW G st cs (n + 1) C H' → Q v H'
def spMixed : Sp := fun vs H Q _ => ∃ (G : Hp) (st cs : Addr) (n : Nat) (C : List Cell) (a : Addr) (xs : List V), vs = [.ref st, .ref a] ∧ xs.length ≤ 100000 ∧ n + xs.length < 2 ^ 40 ∧ SW G st cs n C H ∧ Seq G C a xs ∧
  ∀ (ys : List V) (p : Addr) (H' : Hp), ys.Perm xs → H p = none → SW G st cs (n + xs.length) ((p, .lst ys) :: C) H' → Q (.ref p) H'
def spLot : Sp := fun vs H Q _ => ∃ (G : Hp) (st cs : Addr) (n : Nat) (C : List Cell) (a : Addr) (xs : List V) (m : Int), vs = [.ref st, .ref a, .int m] ∧ 0 < m ∧ m < 2 ^ 60 ∧ xs.length ≤ 100000 ∧ n + xs.length < 2 ^ 40 ∧ SW G st cs n C H ∧ Seq G C a xs ∧
  ∀ (ys : List V) (p : Addr) (H' : Hp), ys.Sublist xs → H p = none → SW G st cs (n + xs.length) ((p, .lst ys) :: C) H' → Q (.ref p) H'
/-! ### a reading's next part -/
theorem tcb1 {r : List V → Hp → VK → Prop} {ta : TE} {σ : L2.St} {H : Hp} {Q : VK} (h : ta σ H fun x H1 => r [x] H1 Q) : tCB r (tCons ta tNil) σ H Q := h
theorem tcb2 {r : List V → Hp → VK → Prop} {ta tb : TE} {σ : L2.St} {H : Hp} {Q : VK} (h : ta σ H fun x H1 => tb σ H1 fun y H2 => r [x, y] H2 Q) : tCB r (tCons ta (tCons tb tNil)) σ H Q := h
theorem tcall1 {sp : Sp} {E : XK} {ta : TE} {σ : L2.St} {H : Hp} {Q : VK} (h : ta σ H fun x H1 => sp [x] H1 Q E) : tCall sp [] E (tCons ta tNil) σ H Q := h
theorem tcall2 {sp : Sp} {E : XK} {ta tb : TE} {σ : L2.St} {H : Hp} {Q : VK} (h : ta σ H fun x H1 => tb σ H1 fun y H2 => sp [x, y] H2 Q E) : tCall sp [] E (tCons ta (tCons tb tNil)) σ H Q := h
theorem tcall3 {sp : Sp} {E : XK} {ta tb tc : TE} {σ : L2.St} {H : Hp} {Q : VK} (h : ta σ H fun x H1 => tb σ H1 fun y H2 => tc σ H2 fun z H3 => sp [x, y, z] H3 Q E) : tCall sp [] E (tCons ta (tCons tb (tCons tc tNil))) σ H Q := h
theorem top_ {r : R2} {ta tb : TE} {σ : L2.St} {H : Hp} {Q : VK} (h : ta σ H fun x H1 => tb σ H1 fun y H2 => r x y H2 Q) : tOp r ta tb σ H Q := h
theorem tseq {t u : TS} {D : Ends} {σ : L2.St} {H : Hp} (h : t { D with nx := u D } σ H) : tSeq t u D σ H := h
theorem tasg {te : TE} {g : TG} {D : Ends} {σ : L2.St} {H : Hp} (h : te σ H fun x H1 => g x σ H1 D.nx) : tAsg te g D σ H := h
theorem tret {te : TE} {D : Ends} {σ : L2.St} {H : Hp} (h : te σ H D.rt) : tRet te D σ H := h
theorem tnext {n : L2.St → Hp → Prop} {r : VK} {b c : L2.St → Hp → Prop} {σ : L2.St} {H : Hp} (h : n σ H) : tNext ⟨n, r, b, c⟩ σ H := h
theorem tnx {n : L2.St → Hp → Prop} {r : VK} {b c : L2.St → Hp → Prop} {σ : L2.St} {H : Hp} (h : n σ H) : (Ends.mk n r b c).nx σ H := h
end Lr

/-! # Data in the heap, and trees of one's own -/
namespace Lr
open PySem PySem.Spec PyProof.Rows L2
def kD : Key → PyData
  | .inl i => .int i
  | .inr x => .str x
mutual
/-- d is read at v -/
inductive Rep (H : Hp) : PyData → V → Prop
  | non : Rep H .none .non
  | bl (b : Bool) : Rep H (.bool b) (.bl b)
  | int (i : Int) : Rep H (.int i) (.int i)
  | str (x : Str) : Rep H (.str x) (.str x)
  | lst {a : Addr} {vs : List V} {ds : List PyData} : H a = some (.lst vs) → Reps H ds vs → Rep H (.list ds) (.ref a)
  | tup {a : Addr} {vs : List V} {ds : List PyData} : H a = some (.tup vs) → Reps H ds vs → Rep H (.tuple ds) (.ref a)
  | dic {a : Addr} {kvs : List (Key × V)} {es : List (PyData × PyData)} : H a = some (.dK kvs) → RepK H es kvs → Rep H (.dict es) (.ref a)
inductive Reps (H : Hp) : List PyData → List V → Prop
  | nil : Reps H [] []
  | cons {d : PyData} {ds : List PyData} {v : V} {vs : List V} : Rep H d v → Reps H ds vs → Reps H (d :: ds) (v :: vs)
inductive RepK (H : Hp) : List (PyData × PyData) → List (Key × V) → Prop
  | nil : RepK H [] []
  | cons {k : Key} {d : PyData} {es : List (PyData × PyData)} {v : V} {kvs : List (Key × V)} : Rep H d v → RepK H es kvs → RepK H ((kD k, d) :: es) ((k, v) :: kvs)
end
mutual
theorem Rep.mono {H H' : Hp} (s : Same H H') : ∀ {d : PyData} {v : V}, Rep H d v → Rep H' d v
  | _, _, .non => .non
  | _, _, .bl b => .bl b
  | _, _, .int i => .int i
  | _, _, .str x => .str x
  | _, _, .lst h r => .lst (s _ _ h) (Reps.mono s r)
  | _, _, .tup h r => .tup (s _ _ h) (Reps.mono s r)
  | _, _, .dic h r => .dic (s _ _ h) (RepK.mono s r)
theorem Reps.mono {H H' : Hp} (s : Same H H') : ∀ {ds : List PyData} {vs : List V}, Reps H ds vs → Reps H' ds vs
  | _, _, .nil => .nil
  | _, _, .cons r t => .cons (Rep.mono s r) (Reps.mono s t)
theorem RepK.mono {H H' : Hp} (s : Same H H') : ∀ {es : List (PyData × PyData)} {kvs : List (Key × V)}, RepK H es kvs → RepK H' es kvs
  | _, _, .nil => .nil
  | _, _, .cons r t => .cons (Rep.mono s r) (RepK.mono s t)
end
theorem Reps.length {H : Hp} : ∀ {ds : List PyData} {vs : List V}, Reps H ds vs → ds.length = vs.length
  | _, _, .nil => rfl
  | _, _, .cons _ t => by
    rw [List.length_cons, List.length_cons, t.length]
theorem Reps.get {H : Hp} : ∀ {ds : List PyData} {vs : List V} {i : Nat} {v : V}, Reps H ds vs → vs[i]? = some v → ∃ d, ds[i]? = some d ∧ Rep H d v
  | _, _, _, _, .nil, e => by simp at e
  | _, _, 0, _, .cons r _, e => by
    simp at e
    subst e
    exact ⟨_, rfl, r⟩
  | _, _, i + 1, v, .cons _ t, e => by
    obtain ⟨d, h1, h2⟩ := t.get (i := i) (v := v) (by simpa using e)
    exact ⟨d, by simpa using h1, h2⟩
theorem Reps.app {H : Hp} : ∀ {ds es : List PyData} {vs us : List V}, Reps H ds vs → Reps H es us → Reps H (ds ++ es) (vs ++ us)
  | _, _, _, _, .nil, s => s
  | _, _, _, _, .cons r t, s => .cons r (t.app s)
theorem Reps.strs (H : Hp) : ∀ xs : List Str, Reps H (xs.map PyData.str) (xs.map V.str)
  | [] => .nil
  | x :: r => .cons (.str x) (Reps.strs H r)
theorem Reps.ints (H : Hp) : ∀ xs : List Int, Reps H (xs.map PyData.int) (xs.map V.int)
  | [] => .nil
  | x :: r => .cons (.int x) (Reps.ints H r)
/-- of what class a thing is -/
def tyD : PyData → String
  | .none => "NoneType"
  | .bool _ => "bool"
  | .int _ => "int"
  | .str _ => "str"
  | .list _ => "list"
  | .tuple _ => "tuple"
  | .dict _ => "dict"
theorem Rep.ty {K : PySem.W.Frag} {H : Hp} {d : PyData} {v : V} (r : Rep H d v) : TyX K H v (.type (tyD d)) := by
  cases r with
  | non => exact .base .non
  | bl b => exact .base (.bl b)
  | int i => exact .base (.int i)
  | str x => exact .base (.str x)
  | lst h _ => exact .base (.lst h)
  | tup h _ => exact .base (.tup h)
  | dic h _ => exact .base (.dK h)
/-- isinstance of a built-in class -/
abbrev TyD (H : Hp) (d : PyData) (v : V) : Prop := ∀ K : PySem.W.Frag, TyX K H v (.type (tyD d))
theorem Rep.tyd {H : Hp} {d : PyData} {v : V} (r : Rep H d v) : TyD H d v := fun K => r.ty
theorem isiT {K : PySem.W.Frag} {H : Hp} {d : PyData} {v : V} {T : String} {b : Bool} {Q : VK} (r : TyD H d v) (h : kitB (tyD d) T = some b) (q : Q (.bl b) H) : rIsiA K [v, .ty T] H Q := by
  unfold rIsiA
  exact .inl ⟨_, _, _, _, b, rfl, .ty T, r K, kit_ty h, q⟩
theorem Rep.ty_lst {H : Hp} {a : Addr} {vs : List V} (h : H a = some (.lst vs)) : TyD H (.list []) (.ref a) := fun K => .base (.lst h)
theorem Rep.ty_tup {H : Hp} {a : Addr} {vs : List V} (h : H a = some (.tup vs)) : TyD H (.tuple []) (.ref a) := fun K => .base (.tup h)
theorem Rep.ty_dic {H : Hp} {a : Addr} {kvs : List (Key × V)} (h : H a = some (.dK kvs)) : TyD H (.dict []) (.ref a) := fun K => .base (.dK h)
theorem isiD {K : PySem.W.Frag} {H : Hp} {d : PyData} {v : V} {T : String} {b : Bool} {Q : VK} (r : Rep H d v) (h : kitB (tyD d) T = some b) (q : Q (.bl b) H) : rIsiA K [v, .ty T] H Q := by
  unfold rIsiA
  exact .inl ⟨_, _, _, _, b, rfl, .ty T, r.ty, kit_ty h, q⟩
/-- .. of two -/
def kitB2 (a b c : String) : Option Bool := match kitB a b, kitB a c with
  | some true, _ => some true
  | some false, some r => some r
  | _, _ => none
theorem isiD2 {K : PySem.W.Frag} {H : Hp} {d : PyData} {v : V} {T U : String} {b : Bool} {p : Addr} {Q : VK} (hp : H p = some (.tup [.ty T, .ty U])) (r : Rep H d v) (h : kitB2 (tyD d) T U = some b) (q : Q (.bl b) H) : rIsiA K [v, .ref p] H Q := by
  unfold rIsiA
  refine .inr ⟨_, _, _, _, [.type T, .type U], b, rfl, hp, .cons (.ty T) (.cons (.ty U) .nil), r.ty, ?_, q⟩
  unfold kitB2 at h
  cases e1 : kitB (tyD d) T with
  | none => rw [e1] at h; cases h
  | some x =>
    rw [e1] at h
    cases x with
    | true =>
      have : b = true := by injection h with h; exact h.symm
      subst this
      exact kitAny_cons (kit_ty e1) (fun z => nomatch z) (fun _ => rfl)
    | false =>
      cases e2 : kitB (tyD d) U with
      | none => rw [e2] at h; cases h
      | some y =>
        rw [e2] at h
        have : b = y := by injection h with h; exact h.symm
        subst this
        refine kitAny_cons (kit_ty e1) (fun _ => kitAny_cons (kit_ty e2) (fun e => ?_) (fun e => e)) (fun z => nomatch z)
        subst e
        rfl
theorem isiT2 {K : PySem.W.Frag} {H : Hp} {d : PyData} {v : V} {T U : String} {b : Bool} {p : Addr} {Q : VK} (hp : H p = some (.tup [.ty T, .ty U])) (r : TyD H d v) (h : kitB2 (tyD d) T U = some b) (q : Q (.bl b) H) : rIsiA K [v, .ref p] H Q := by
  unfold rIsiA
  refine .inr ⟨_, _, _, _, [.type T, .type U], b, rfl, hp, .cons (.ty T) (.cons (.ty U) .nil), r K, ?_, q⟩
  unfold kitB2 at h
  cases e1 : kitB (tyD d) T with
  | none => rw [e1] at h; cases h
  | some x =>
    rw [e1] at h
    cases x with
    | true =>
      have : b = true := by injection h with h; exact h.symm
      subst this
      exact kitAny_cons (kit_ty e1) (fun z => nomatch z) (fun _ => rfl)
    | false =>
      cases e2 : kitB (tyD d) U with
      | none => rw [e2] at h; cases h
      | some y =>
        rw [e2] at h
        have : b = y := by injection h with h; exact h.symm
        subst this
        refine kitAny_cons (kit_ty e1) (fun _ => kitAny_cons (kit_ty e2) (fun e => ?_) (fun e => e)) (fun z => nomatch z)
        subst e
        rfl
theorem seqTys : ∀ d : PyData, kitB2 (tyD d) "list" "tuple" = some (match d with | .list _ => true | .tuple _ => true | _ => false)
  | .none => (by decide +kernel : kitB2 "NoneType" "list" "tuple" = some false)
  | .bool _ => (by decide +kernel : kitB2 "bool" "list" "tuple" = some false)
  | .int _ => (by decide +kernel : kitB2 "int" "list" "tuple" = some false)
  | .str _ => (by decide +kernel : kitB2 "str" "list" "tuple" = some false)
  | .list _ => (by decide +kernel : kitB2 "list" "list" "tuple" = some true)
  | .tuple _ => (by decide +kernel : kitB2 "tuple" "list" "tuple" = some true)
  | .dict _ => (by decide +kernel : kitB2 "dict" "list" "tuple" = some false)
theorem lstTy : ∀ d : PyData, kitB (tyD d) "list" = some (match d with | .list _ => true | _ => false)
  | .none => (by decide +kernel : kitB "NoneType" "list" = some false)
  | .bool _ => (by decide +kernel : kitB "bool" "list" = some false)
  | .int _ => (by decide +kernel : kitB "int" "list" = some false)
  | .str _ => (by decide +kernel : kitB "str" "list" = some false)
  | .list _ => (by decide +kernel : kitB "list" "list" = some true)
  | .tuple _ => (by decide +kernel : kitB "tuple" "list" = some false)
  | .dict _ => (by decide +kernel : kitB "dict" "list" = some false)
theorem tupTy : ∀ d : PyData, kitB (tyD d) "tuple" = some (match d with | .tuple _ => true | _ => false)
  | .none => (by decide +kernel : kitB "NoneType" "tuple" = some false)
  | .bool _ => (by decide +kernel : kitB "bool" "tuple" = some false)
  | .int _ => (by decide +kernel : kitB "int" "tuple" = some false)
  | .str _ => (by decide +kernel : kitB "str" "tuple" = some false)
  | .list _ => (by decide +kernel : kitB "list" "tuple" = some false)
  | .tuple _ => (by decide +kernel : kitB "tuple" "tuple" = some true)
  | .dict _ => (by decide +kernel : kitB "dict" "tuple" = some false)
theorem dicTy : ∀ d : PyData, kitB (tyD d) "dict" = some (match d with | .dict _ => true | _ => false)
  | .none => (by decide +kernel : kitB "NoneType" "dict" = some false)
  | .bool _ => (by decide +kernel : kitB "bool" "dict" = some false)
  | .int _ => (by decide +kernel : kitB "int" "dict" = some false)
  | .str _ => (by decide +kernel : kitB "str" "dict" = some false)
  | .list _ => (by decide +kernel : kitB "list" "dict" = some false)
  | .tuple _ => (by decide +kernel : kitB "tuple" "dict" = some false)
  | .dict _ => (by decide +kernel : kitB "dict" "dict" = some true)
theorem intTy : ∀ d : PyData, kitB (tyD d) "int" = some (match d with | .bool _ => true | .int _ => true | _ => false)
  | .none => (by decide +kernel : kitB "NoneType" "int" = some false)
  | .bool _ => (by decide +kernel : kitB "bool" "int" = some true)
  | .int _ => (by decide +kernel : kitB "int" "int" = some true)
  | .str _ => (by decide +kernel : kitB "str" "int" = some false)
  | .list _ => (by decide +kernel : kitB "list" "int" = some false)
  | .tuple _ => (by decide +kernel : kitB "tuple" "int" = some false)
  | .dict _ => (by decide +kernel : kitB "dict" "int" = some false)
theorem boolTy : ∀ d : PyData, kitB (tyD d) "bool" = some (match d with | .bool _ => true | _ => false)
  | .none => (by decide +kernel : kitB "NoneType" "bool" = some false)
  | .bool _ => (by decide +kernel : kitB "bool" "bool" = some true)
  | .int _ => (by decide +kernel : kitB "int" "bool" = some false)
  | .str _ => (by decide +kernel : kitB "str" "bool" = some false)
  | .list _ => (by decide +kernel : kitB "list" "bool" = some false)
  | .tuple _ => (by decide +kernel : kitB "tuple" "bool" = some false)
  | .dict _ => (by decide +kernel : kitB "dict" "bool" = some false)
theorem strTy : ∀ d : PyData, kitB (tyD d) "str" = some (match d with | .str _ => true | _ => false)
  | .none => (by decide +kernel : kitB "NoneType" "str" = some false)
  | .bool _ => (by decide +kernel : kitB "bool" "str" = some false)
  | .int _ => (by decide +kernel : kitB "int" "str" = some false)
  | .str _ => (by decide +kernel : kitB "str" "str" = some true)
  | .list _ => (by decide +kernel : kitB "list" "str" = some false)
  | .tuple _ => (by decide +kernel : kitB "tuple" "str" = some false)
  | .dict _ => (by decide +kernel : kitB "dict" "str" = some false)
end Lr

/-! # list.count of a text; zip walked in a comprehension -/
namespace Lr
open PySem PySem.Spec PyProof.Rows L2 RZ
/-- a thing that a text can be compared with -/
def CmpS (H : Hp) : V → Prop
  | .non => True
  | .bl _ => True
  | .int _ => True
  | .str _ => True
  | .ref a => (∃ xs, H a = some (.lst xs)) ∨ ∃ xs, H a = some (.tup xs)
  | _ => False
def eqS (k : Str) : Value → Bool
  | .str x _ => x == k
  | _ => false
def isS (k : Str) : V → Bool
  | .str x => x == k
  | _ => false
theorem eqS_at {X : Cx} {pins : List (Addr × Obj)} {σ : L2.St} {H : Hp} {s : Shared} {A : Around} (I : Inv X pins σ H s) (hu : A.units < cLine) (k : Str) (t : Tok) {v : V} {y : Value} (hv : CmpS H v) (r : RelV v y) : SeqAt.EqAt A s y (.str k t) (eqS k y) ∧ eqS k y = isS k v := by
  cases v with
  | non => cases (show y = Value.none from r); exact ⟨SeqAt.EqAt.none_str k t, rfl⟩
  | bl b => cases (show y = Value.bool b from r); exact ⟨SeqAt.EqAt.bool_str b k t, rfl⟩
  | int i =>
    obtain ⟨u, e⟩ := (show ∃ t, y = Value.int i t from r)
    subst e
    exact ⟨SeqAt.EqAt.int_str i u k t, rfl⟩
  | str x =>
    obtain ⟨u, e⟩ := (show ∃ t, y = Value.str x t from r)
    subst e
    exact ⟨SeqAt.EqAt.str_str x u k t, rfl⟩
  | ref a =>
    cases (show y = Value.ref a from r)
    rcases hv with ⟨xs, h⟩ | ⟨xs, h⟩
    · obtain ⟨its, _, ⟨o, n, h1, h2, h3, h4⟩, _⟩ := I.list (SqL.of (K := X.K) h)
      exact ⟨SeqAt.EqAt.list_str (items := its.toArray) k t ⟨o, h1, h2, n, h4⟩ hu, rfl⟩
    · obtain ⟨its, _, hl, _⟩ := I.tuple (SqT.of (K := X.K) h)
      exact ⟨SeqAt.EqAt.tuple_str k t hl hu, rfl⟩
  | byt _ => exact hv.elim
  | flt _ => exact hv.elim
  | ty _ => exact hv.elim
def rCntS (K : PySem.W.Frag) : V → List V → Hp → VK → Prop := fun x xs H Q => ∃ (p : Addr) (vs : List V) (k : Str), x = .ref p ∧ xs = [.str k] ∧ SqL K H p vs ∧ (∀ v ∈ vs, CmpS H v) ∧ Q (.int (vs.countP (isS k) : Nat)) H
theorem mt_countS {X : Cx} {K : PySem.W.Frag} (hu : X.A.units + 64 < cLine) (hK : X.K = K := by rfl) : MtR X "list.count" (rCntS K) := by
  subst hK
  intro pins s σ H x xs v us Q I rx rxs h
  obtain ⟨p, vs, k, rfl, rfl, hs, hc, q⟩ := h
  cases rx
  obtain ⟨u, rfl, ru⟩ := rxs.one
  obtain ⟨t, rfl⟩ := ru
  obtain ⟨its, rv, ⟨⟨cls, dd, data, sl⟩, n, ho, hc1, hdn, hd⟩, hlen⟩ := I.list hs
  simp only at hc1 hd
  subst hc1 hd
  have key : ∀ (vs : List V) (us : List Value), Vals vs us → (∀ v ∈ vs, CmpS H v) → (∀ y ∈ us, SeqAt.EqAt X.A.in1 s y (.str k t) (eqS k y)) ∧ us.countP (eqS k) = vs.countP (isS k) := by
    intro vs
    induction vs with
    | nil =>
      intro us r _
      cases r
      exact ⟨fun y hy => (by cases hy), rfl⟩
    | cons v vs ih =>
      intro us r hc
      cases r with
      | cons r rr =>
        rename_i y us
        obtain ⟨i1, i2⟩ := ih us rr fun v hv => hc v (List.mem_cons_of_mem _ hv)
        obtain ⟨j1, j2⟩ := eqS_at (A := X.A.in1) I (by show X.A.units + 1 < cLine; omega) k t (hc _ List.mem_cons_self) r
        refine ⟨fun z hz => ?_, ?_⟩
        · rcases List.mem_cons.mp hz with rfl | hz
          · exact j1
          · exact i1 z hz
        · rw [List.countP_cons, List.countP_cons, i2, j2]
  obtain ⟨k1, k2⟩ := key vs its rv hc
  refine call_meets PySem.F.slot_list_count ⟨_, ho, rfl⟩ PySem.F.entry_list_count (PySem.F.args_list_count_2 _ _)
    (SeqAt.list_countAt p its.toArray n dd sl (.str k t) (eqS k)) ⟨ho, fun y hy => k1 y (by simpa using hy), ?_⟩
  refine ⟨.int (vs.countP (isS k) : Nat), H, I.tok _, ⟨s.toks, ?_⟩, q⟩
  show Value.int ((its.toArray.toList.countP (eqS k) : Nat) : Int) s.toks = Value.int ((vs.countP (isS k) : Nat) : Int) s.toks
  rw [show its.toArray.toList.countP (eqS k) = vs.countP (isS k) from k2]
/-- a comprehension over zip of two lists or of two tuples, of one length -/
theorem lc_zip {K : PySem.W.Frag} {a b : Addr} {xs ys : List V} {ta : TA} {g : TG} {tt : TT} {te : TE} {vs : List Nat} {σ : L2.St} {H : Hp} {Q : VK} {k : Bool} (hta : ∀ R : List V → Hp → Prop, R [.ref a, .ref b] H → ta σ H R) (hl : xs.length = ys.length) (hx : SqK k K H a xs) (hy : SqK k K H b ys)
    (go : ∀ D, H D = none → ∃ Pv : Nat → Hp → Prop, Pv 0 (upd H D (.lst [])) ∧ (∀ i H', i ≤ xs.length → Pv i H' → SqK k K H' a xs ∧ SqK k K H' b ys) ∧
      (∀ i x y T H', xs[i]? = some x → ys[i]? = some y → Pv i H' → H' T = none → g (.ref T) (wipe σ vs) (upd H' T (.tup [x, y])) fun σ2 H2 => wipe σ2 vs = wipe σ vs ∧ tt σ2 H2 fun b H3 =>
        if b = true then te σ2 H3 fun y H4 => ∃ acc, H4 D = some (.lst acc) ∧ acc.length < sizeLine ∧ Pv (i + 1) (upd H4 D (.lst (acc ++ [y]))) else Pv (i + 1) H3) ∧ ∀ H', Pv xs.length H' → Q (.ref D) H') :
    tLc (iZipA K ta) g tt te vs σ H Q := by
  refine hta _ ⟨a, b, xs, ys, rfl, ?_⟩
  have main : ∀ (J : It), (∀ i H', SqK k K H' a xs → SqK k K H' b ys → i < xs.length → J.go i H') → (∀ i H', SqK k K H' a xs → SqK k K H' b ys → i = xs.length → J.stop i H') →
      (∀ i H' v H'', SqK k K H' a xs → SqK k K H' b ys → J.yld i H' v H'' → ∃ T x y, v = .ref T ∧ H' T = none ∧ H'' = upd H' T (.tup [x, y]) ∧ xs[i]? = some x ∧ ys[i]? = some y) →
      ∀ D, H D = none → ∃ W : Nat → Nat → Hp → Prop, (∃ m, W 0 m (upd H D (.lst []))) ∧ ∀ i m H, W i m H →
        (J.stop i H ∧ Q (.ref D) H) ∨ (J.go i H ∧ ∃ Nx : Hp → Prop, (∀ H', Nx H' → ∃ m', m' < m ∧ W (i + 1) m' H') ∧ ∀ x H', J.yld i H x H' → g x (wipe σ vs) H' fun σ2 H2 => wipe σ2 vs = wipe σ vs ∧ tt σ2 H2 fun b H3 =>
          if b = true then te σ2 H3 fun y H4 => ∃ acc, H4 D = some (.lst acc) ∧ acc.length < sizeLine ∧ Nx (upd H4 D (.lst (acc ++ [y]))) else Nx H3) := by
    intro J jg js jy D nD
    obtain ⟨Pv, h0, hk, hs, hd⟩ := go D nD
    refine ⟨fun i m H => m = xs.length - i ∧ i ≤ xs.length ∧ Pv i H, ⟨xs.length, by simp, Nat.zero_le _, h0⟩, ?_⟩
    rintro i m H ⟨rfl, hi, p⟩
    obtain ⟨q1, q2⟩ := hk i H hi p
    by_cases hlt : i < xs.length
    · refine .inr ⟨jg i H q1 q2 hlt, Pv (i + 1), fun H' p' => ⟨xs.length - (i + 1), by omega, rfl, hlt, p'⟩, fun v H' hv => ?_⟩
      obtain ⟨T, x, y, rfl, nT, rfl, ex, ey⟩ := jy i H v H' q1 q2 hv
      exact hs i x y T H ex ey p nT
    · have e : i = xs.length := by omega
      subst e
      exact .inl ⟨js _ H q1 q2 rfl, hd H p⟩
  cases k with
  | true =>
    refine .inl ⟨hx, hy, main _ (fun i H' q1 q2 hi => ⟨xs, ys, xs[i], ys[i]'(by omega), q1, q2, List.getElem?_eq_getElem hi, List.getElem?_eq_getElem _⟩) (fun i H' q1 q2 hi => ⟨xs, ys, q1, q2, .inl (by omega)⟩) ?_⟩
    rintro i H' v H'' q1 q2 ⟨T, x, y, rfl, nT, rfl, e1, e2⟩
    exact ⟨T, x, y, rfl, nT, rfl, e1 xs q1, e2 ys q2⟩
  | false =>
    refine .inr ⟨hx, hy, main _ (fun i H' q1 q2 hi => ⟨xs, ys, xs[i], ys[i]'(by omega), q1, q2, List.getElem?_eq_getElem hi, List.getElem?_eq_getElem _⟩) (fun i H' q1 q2 hi => ⟨xs, ys, q1, q2, .inl (by omega)⟩) ?_⟩
    rintro i H' v H'' q1 q2 ⟨T, x, y, rfl, nT, rfl, e1, e2⟩
    exact ⟨T, x, y, rfl, nT, rfl, e1 xs q1, e2 ys q2⟩
theorem xzip {X : Cx} {K : PySem.W.Frag} {e e2 : Expr} {ta : TA} {p pos tpos : Pos} {elts : List Expr} {kk : Nat} (hg : Gl X "zip") (hm : X.mg "zip" = none) (ha : PA X [e, e2] ta) (hK : X.K = K := by rfl)
    (hs : starEach [e, e2] X.env = (false, eval e X.env) :: starEach [e2] X.env := by rfl) (hpl : (backTo pos (starEach [e2] X.env)).any (·.1) = false := by rfl) :
    PI X (.Tuple elts kk tpos) (.Call (.Name "zip" p) [e, e2] [] pos) (iZipA K ta) := by
  subst hK
  exact pi_zipA hg hm ha hs hpl
theorem cr_all1 {K : PySem.W.Frag} {H : Hp} {a : Addr} {n : Nat} {Q : VK} (h : H a = some (.lst (List.replicate n (.bl true)))) (q : Q (.bl true) H) : rAll K [.ref a] H Q := by
  refine ⟨a, List.replicate n true, rfl, ?_, ?_⟩
  · rw [List.map_replicate]
    exact SqL.of h
  · have e : (List.replicate n true).all id = true := by
      rw [List.all_eq_true]
      intro b hb
      exact (List.mem_replicate.mp hb).2
    rw [e]
    exact q
end Lr

/-! # Trees of one's own cells -/
namespace Lr
open PySem PySem.Spec PyProof.Rows L2
/-- a thing with its places: a scalar, a list, a tuple, a dict -/
inductive T where
  | leaf (v : V)
  | lst (a : Addr) (ts : List T)
  | tup (a : Addr) (ts : List T)
  | dic (a : Addr) (ks : List (Key × T))
def T.val : T → V
  | .leaf v => v
  | .lst a _ => .ref a
  | .tup a _ => .ref a
  | .dic a _ => .ref a
abbrev vals (ts : List T) : List V := ts.map T.val
abbrev valsK (ks : List (Key × T)) : List (Key × V) := ks.map fun p => (p.1, p.2.val)
def scal1 : V → Prop
  | .non | .bl _ | .int _ | .str _ => True
  | _ => False
def scalD : V → PyData
  | .bl b => .bool b
  | .int i => .int i
  | .str x => .str x
  | _ => .none
abbrev LATE : Str := "LATE"
mutual
def T.cells : T → List Cell
  | .leaf _ => []
  | .lst a ts => (a, .lst (vals ts)) :: cellsL ts
  | .tup _ ts => cellsL ts
  | .dic a ks => (a, .dK (valsK ks)) :: cellsK ks
def cellsL : List T → List Cell
  | [] => []
  | t :: ts => t.cells ++ cellsL ts
def cellsK : List (Key × T) → List Cell
  | [] => []
  | p :: ks => p.2.cells ++ cellsK ks
end
mutual
def T.Ok (G : Hp) : T → Prop
  | .leaf v => scal1 v
  | .lst _ ts => OkL G ts
  | .tup a ts => G a = some (.tup (vals ts)) ∧ OkL G ts
  | .dic _ ks => (ks.map (·.1)).Nodup ∧ (∀ p ∈ ks, p.1 ≠ Sum.inr LATE) ∧ OkK G ks
def OkL (G : Hp) : List T → Prop
  | [] => True
  | t :: ts => t.Ok G ∧ OkL G ts
def OkK (G : Hp) : List (Key × T) → Prop
  | [] => True
  | p :: ks => p.2.Ok G ∧ OkK G ks
end
mutual
def T.data : T → PyData
  | .leaf v => scalD v
  | .lst _ ts => .list (dataL ts)
  | .tup _ ts => .tuple (dataL ts)
  | .dic _ ks => .dict (dataK ks)
def dataL : List T → List PyData
  | [] => []
  | t :: ts => t.data :: dataL ts
def dataK : List (Key × T) → List (PyData × PyData)
  | [] => []
  | p :: ks => (kD p.1, p.2.data) :: dataK ks
end
mutual
def T.dep : T → Nat
  | .leaf _ => 0
  | .lst _ ts => depL ts + 1
  | .tup _ ts => depL ts + 1
  | .dic _ ks => depK ks + 1
def depL : List T → Nat
  | [] => 0
  | t :: ts => max t.dep (depL ts)
def depK : List (Key × T) → Nat
  | [] => 0
  | p :: ks => max p.2.dep (depK ks)
end
mutual
/-- short lists all through -/
def T.Small : T → Prop
  | .leaf _ => True
  | .lst _ ts => ts.length ≤ 100000 ∧ SmallL ts
  | .tup _ ts => ts.length ≤ 100000 ∧ SmallL ts
  | .dic _ ks => ks.length ≤ 100000 ∧ SmallK ks
def SmallL : List T → Prop
  | [] => True
  | t :: ts => t.Small ∧ SmallL ts
def SmallK : List (Key × T) → Prop
  | [] => True
  | p :: ks => p.2.Small ∧ SmallK ks
end
/-- one more "LATE" in a dict that has none -/
def lateK (ks : List (Key × T)) : List (Key × T) := ks ++ [(Sum.inr LATE, .leaf (.int 1))]
mutual
def T.spoil : T → T
  | .leaf v => .leaf v
  | .lst a ts => .lst a (spoilL ts ++ [.leaf (.str LATE)])
  | .tup a ts => .tup a (spoilL ts)
  | .dic a ks => .dic a (lateK (spoilK ks))
def spoilL : List T → List T
  | [] => []
  | t :: ts => t.spoil :: spoilL ts
def spoilK : List (Key × T) → List (Key × T)
  | [] => []
  | p :: ks => (p.1, p.2.spoil) :: spoilK ks
end
theorem T.spoil_val (t : T) : t.spoil.val = t.val := by
  cases t <;> simp [T.spoil, T.val]
theorem spoilL_vals : ∀ ts : List T, vals (spoilL ts) = vals ts
  | [] => rfl
  | t :: ts => by
    show t.spoil.val :: vals (spoilL ts) = t.val :: vals ts
    rw [T.spoil_val, spoilL_vals ts]
theorem spoilL_length : ∀ ts : List T, (spoilL ts).length = ts.length
  | [] => rfl
  | t :: ts => by simp [spoilL, spoilL_length ts]
theorem spoilL_append : ∀ a b : List T, spoilL (a ++ b) = spoilL a ++ spoilL b
  | [], _ => rfl
  | t :: ts, b => by simp [spoilL, spoilL_append ts b]
theorem cellsL_append : ∀ a b : List T, cellsL (a ++ b) = cellsL a ++ cellsL b
  | [], _ => rfl
  | t :: ts, b => by simp [cellsL, cellsL_append ts b]
theorem spoilK_keys : ∀ ks : List (Key × T), (spoilK ks).map (·.1) = ks.map (·.1)
  | [] => rfl
  | p :: ks => by simp [spoilK, spoilK_keys ks]
theorem spoilK_vals : ∀ ks : List (Key × T), valsK (spoilK ks) = valsK ks
  | [] => rfl
  | p :: ks => by
    show (p.1, p.2.spoil.val) :: valsK (spoilK ks) = (p.1, p.2.val) :: valsK ks
    rw [T.spoil_val, spoilK_vals ks]
theorem spoilK_append : ∀ a b : List (Key × T), spoilK (a ++ b) = spoilK a ++ spoilK b
  | [], _ => rfl
  | t :: ts, b => by simp [spoilK, spoilK_append ts b]
theorem cellsK_append : ∀ a b : List (Key × T), cellsK (a ++ b) = cellsK a ++ cellsK b
  | [], _ => rfl
  | t :: ts, b => by simp [cellsK, cellsK_append ts b]
theorem OkK.get {G : Hp} : ∀ {ks : List (Key × T)} {i : Nat} {p : Key × T}, OkK G ks → ks[i]? = some p → p.2.Ok G
  | [], _, _, _, e => by simp at e
  | t :: ts, 0, u, h, e => by
    simp at e
    subst e
    exact h.1
  | t :: ts, i + 1, u, h, e => h.2.get (i := i) (by simpa using e)
theorem SmallK.get : ∀ {ks : List (Key × T)} {i : Nat} {p : Key × T}, SmallK ks → ks[i]? = some p → p.2.Small
  | [], _, _, _, e => by simp at e
  | t :: ts, 0, u, h, e => by
    simp at e
    subst e
    exact h.1
  | t :: ts, i + 1, u, h, e => h.2.get (i := i) (by simpa using e)
theorem depK_get : ∀ {ks : List (Key × T)} {i : Nat} {p : Key × T}, ks[i]? = some p → p.2.dep ≤ depK ks
  | [], _, _, e => by simp at e
  | t :: ts, 0, u, e => by
    simp at e
    subst e
    exact Nat.le_max_left _ _
  | t :: ts, i + 1, u, e => Nat.le_trans (depK_get (ks := ts) (i := i) (by simpa using e)) (Nat.le_max_right _ _)
theorem valK_get : ∀ {kvs : List (Key × V)} {i : Nat} {p : Key × V}, (kvs.map (·.1)).Nodup → kvs[i]? = some p → valV kvs p.1 = some p.2
  | [], _, _, _, e => by simp at e
  | q :: r, 0, p, _, e => by
    simp at e
    subst e
    exact valV_pos rfl
  | q :: r, i + 1, p, h, e => by
    have h' := List.nodup_cons.mp (show (q.1 :: r.map (·.1)).Nodup from h)
    have e' : r[i]? = some p := by simpa using e
    have ne : ¬ q.1 = p.1 := fun z => h'.1 (by rw [z]; exact List.mem_map.mpr ⟨p, List.mem_of_getElem? e', rfl⟩)
    rw [valV_neg ne]
    exact valK_get h'.2 e'
theorem valV_none {kvs : List (Key × V)} {k : Key} (h : ∀ p ∈ kvs, p.1 ≠ k) : valV kvs k = none := by
  induction kvs with
  | nil => rfl
  | cons q r ih =>
    rw [valV_neg (h q List.mem_cons_self)]
    exact ih fun p hp => h p (List.mem_cons_of_mem _ hp)
theorem putK_new {kvs : List (Key × V)} {k : Key} {v : V} (h : ∀ p ∈ kvs, p.1 ≠ k) : putK kvs k v = kvs ++ [(k, v)] := by
  unfold putK
  have e : (kvs.any fun kv => decide (kv.1 = k)) = false := by
    rw [List.any_eq_false]
    intro p hp
    simpa using h p hp
  rw [e]
  rfl
theorem OkL.get {G : Hp} : ∀ {ts : List T} {i : Nat} {t : T}, OkL G ts → ts[i]? = some t → t.Ok G
  | [], _, _, _, e => by simp at e
  | t :: ts, 0, u, h, e => by
    simp at e
    subst e
    exact h.1
  | t :: ts, i + 1, u, h, e => h.2.get (i := i) (by simpa using e)
theorem SmallL.get : ∀ {ts : List T} {i : Nat} {t : T}, SmallL ts → ts[i]? = some t → t.Small
  | [], _, _, _, e => by simp at e
  | t :: ts, 0, u, h, e => by
    simp at e
    subst e
    exact h.1
  | t :: ts, i + 1, u, h, e => h.2.get (i := i) (by simpa using e)
theorem depL_get : ∀ {ts : List T} {i : Nat} {t : T}, ts[i]? = some t → t.dep ≤ depL ts
  | [], _, _, e => by simp at e
  | t :: ts, 0, u, e => by
    simp at e
    subst e
    exact Nat.le_max_left _ _
  | t :: ts, i + 1, u, e => Nat.le_trans (depL_get (ts := ts) (i := i) (by simpa using e)) (Nat.le_max_right _ _)
mutual
theorem T.Ok.mono {G G' : Hp} (s : Same G G') : ∀ {t : T}, t.Ok G → t.Ok G'
  | .leaf _, h => h
  | .lst _ ts, h => OkL.mono s (ts := ts) h
  | .tup _ ts, h => ⟨s _ _ h.1, OkL.mono s (ts := ts) h.2⟩
  | .dic _ ks, h => ⟨h.1, h.2.1, OkK.mono s (ks := ks) h.2.2⟩
theorem OkL.mono {G G' : Hp} (s : Same G G') : ∀ {ts : List T}, OkL G ts → OkL G' ts
  | [], _ => trivial
  | t :: ts, h => ⟨T.Ok.mono s (t := t) h.1, OkL.mono s (ts := ts) h.2⟩
theorem OkK.mono {G G' : Hp} (s : Same G G') : ∀ {ks : List (Key × T)}, OkK G ks → OkK G' ks
  | [], _ => trivial
  | p :: ks, h => ⟨T.Ok.mono s (t := p.2) h.1, OkK.mono s (ks := ks) h.2⟩
end
theorem rep_leaf {H : Hp} {v : V} (h : scal1 v) : Rep H (scalD v) v := by
  cases v with
  | non => exact .non
  | bl b => exact .bl b
  | int i => exact .int i
  | str x => exact .str x
  | byt _ => exact h.elim
  | flt _ => exact h.elim
  | ref _ => exact h.elim
  | ty _ => exact h.elim
theorem OkL.app {G : Hp} : ∀ {a b : List T}, OkL G a → OkL G b → OkL G (a ++ b)
  | [], _, _, h => h
  | t :: ts, b, h, h' => ⟨h.1, OkL.app (a := ts) h.2 h'⟩
theorem OkK.app {G : Hp} : ∀ {a b : List (Key × T)}, OkK G a → OkK G b → OkK G (a ++ b)
  | [], _, _, h => h
  | t :: ts, b, h, h' => ⟨h.1, OkK.app (a := ts) h.2 h'⟩
mutual
/-- a tree is read where its cells lie -/
theorem T.rep {G H : Hp} (s : Same G H) : ∀ {t : T}, t.Ok G → (∀ c ∈ t.cells, H c.1 = some c.2) → Rep H t.data t.val
  | .leaf v, h, _ => rep_leaf h
  | .lst a ts, h, c => .lst (c (a, .lst (vals ts)) List.mem_cons_self) (repL s h fun x hx => c x (List.mem_cons_of_mem _ hx))
  | .tup a ts, h, c => .tup (s _ _ h.1) (repL s h.2 fun x hx => c x hx)
  | .dic a ks, h, c => .dic (c (a, .dK (valsK ks)) List.mem_cons_self) (repK s h.2.2 fun x hx => c x (List.mem_cons_of_mem _ hx))
theorem repL {G H : Hp} (s : Same G H) : ∀ {ts : List T}, OkL G ts → (∀ c ∈ cellsL ts, H c.1 = some c.2) → Reps H (dataL ts) (vals ts)
  | [], _, _ => .nil
  | t :: ts, h, c => .cons (T.rep s h.1 fun x hx => c x (List.mem_append_left _ hx)) (repL s h.2 fun x hx => c x (List.mem_append_right _ hx))
theorem repK {G H : Hp} (s : Same G H) : ∀ {ks : List (Key × T)}, OkK G ks → (∀ c ∈ cellsK ks, H c.1 = some c.2) → RepK H (dataK ks) (valsK ks)
  | [], _, _ => .nil
  | p :: ks, h, c => .cons (T.rep s h.1 fun x hx => c x (List.mem_append_left _ hx)) (repK s h.2 fun x hx => c x (List.mem_append_right _ hx))
end
theorem WF.rep {G H : Hp} {C : List Cell} {t : T} (w : WF G (t.cells ++ C) H) (h : t.Ok G) : Rep H t.data t.val := T.rep w.sub h fun c hc => (w.own c (List.mem_append_left _ hc)).1
theorem T.Ok.ty {G H : Hp} {t : T} (h : t.Ok G) (r : Rep H t.data t.val) : tyD t.data = (match t with | .leaf v => tyD (scalD v) | .lst _ _ => "list" | .tup _ _ => "tuple" | .dic _ _ => "dict") := by
  cases t <;> rfl
theorem app_len {A B : List Cell} : ∀ {c : Cell}, (A ++ c :: B).Perm (c :: (A ++ B)) := fun {c} => List.perm_middle
theorem permT {O A B C' D : List Cell} : (O ++ (A ++ (D ++ B) ++ C')).Perm (D ++ (O ++ (A ++ B ++ C'))) := by
  have h1 : (A ++ (D ++ B) ++ C').Perm (D ++ (A ++ B ++ C')) := by
    rw [List.append_assoc, List.append_assoc, List.append_assoc]
    exact List.perm_append_comm_assoc A D (B ++ C')
  refine (List.Perm.append_left O h1).trans ?_
  exact List.perm_append_comm_assoc O D (A ++ B ++ C')
/-- a promise that asks the impossible -/
theorem FD.none {P : Program} {w : World} {K : PySem.W.Frag} {mg : Str → Option Value} {base : Heap} {CX : CXT} {x : Str} {ps : List Str} {sp : Sp} {st : Stmt} (F : FD K mg x st ps) (h : ∀ vs H Q E, ¬ sp vs H Q E) : Okf P w K mg base CX 0 x ps sp := by
  obtain ⟨f, fd, a, b, c⟩ := F.ex
  exact ⟨f, fd, a, b.kp, c, ⟨fun vs H Q E q => (h _ _ _ _ q).elim, fun A outer s H args us vs Q E hr he hb hv hs => (h _ _ _ _ hs).elim⟩⟩
/-- _law_spoilt(thing): all lists and dicts of the tree get one "LATE" more -/
def spSpoilt (n : Nat) : Sp := fun vs H Q _ => ∃ (G : Hp) (C : List Cell) (t : T), vs = [t.val] ∧ t.Ok G ∧ t.Small ∧ t.dep < n ∧ WF G (t.cells ++ C) H ∧ ∀ H', WF G (t.spoil.cells ++ C) H' → Q .non H'
theorem loop_spoilt {K : PySem.W.Frag} {G : Hp} {C O : List Cell} {a : Addr} {ts : List T} {n : Nat} {kd : Bool} {y : Option V} {D : Ends} {z : Option V} {H : Hp}
    (hk : ∀ (M : List Cell) H', WF G (O ++ M) H' → SqK kd K H' a (vals ts)) (ok : OkL G ts) (sm : SmallL ts) (dp : depL ts < n) (W : WF G (O ++ (cellsL ts ++ C)) H)
    (k : ∀ x H', WF G (O ++ (cellsL (spoilL ts) ++ C)) H' → D.nx [some (.ref a), y, x] H') :
    tFor (iSeq K (tVar 0)) (gName 2) (tDrop (tCall (spSpoilt n) [] E0 (tCons (tVar 2) tNil))) D [some (.ref a), y, z] H := by
  refine for_seq (xs := vals ts) (k := kd) (H1 := H) (fun R r => ⟨_, rfl, r⟩) (hk _ H W) (fun i σ H' => ∃ x, σ = [some (.ref a), y, x] ∧ WF G (O ++ (cellsL (spoilL (ts.take i)) ++ cellsL (ts.drop i) ++ C)) H') ⟨z, rfl, by simpa [spoilL, cellsL] using W⟩ ?_ ?_ ?_
  · rintro i σ H' _ ⟨x, _, W'⟩
    exact hk _ H' W'
  · rintro i v σ H' hv ⟨x, rfl, W'⟩
    obtain ⟨t, ht, rfl⟩ : ∃ t, ts[i]? = some t ∧ t.val = v := by
      rw [List.getElem?_map] at hv
      cases e : ts[i]? with
      | none =>
        rw [e] at hv
        cases hv
      | some u =>
        rw [e] at hv
        exact ⟨u, rfl, Option.some.inj hv⟩
    have hi : i < ts.length := (List.getElem?_eq_some_iff.mp ht).1
    have e1 : ts.drop i = t :: ts.drop (i + 1) := by
      have := List.drop_eq_getElem_cons hi
      rw [this]
      have e := (List.getElem?_eq_some_iff.mp ht).2
      rw [e]
    rw [e1] at W'
    refine ⟨_, rfl, G, O ++ (cellsL (spoilL (ts.take i)) ++ cellsL (ts.drop (i + 1)) ++ C), t, rfl, ok.get ht, sm.get ht, Nat.lt_of_le_of_lt (depL_get ht) dp, W'.perm permT, fun H2 W2 => ⟨_, rfl, ?_⟩⟩
    have W3 := W2.perm permT.symm
    rw [take_more ht, spoilL_append, cellsL_append]
    have e2 : cellsL (spoilL [t]) = t.spoil.cells := by simp [spoilL, cellsL]
    rw [e2]
    simpa [List.append_assoc] using W3
  · rintro σ H' ⟨x, rfl, W'⟩
    refine k x H' ?_
    have e : (vals ts).length = ts.length := List.length_map _
    rw [e, List.take_length, List.drop_length] at W'
    simpa [cellsL] using W'
theorem loop_spoiltK {K : PySem.W.Frag} {G : Hp} {C : List Cell} {a : Addr} {ks : List (Key × T)} {n : Nat} {y : Option V} {D : Ends} {z : Option V} {H : Hp}
    (nd : (ks.map (·.1)).Nodup) (ok : OkK G ks) (sm : SmallK ks) (dp : depK ks < n) (W : WF G ((a, .dK (valsK ks)) :: (cellsK ks ++ C)) H)
    (k : ∀ x H', WF G ((a, .dK (valsK ks)) :: (cellsK (spoilK ks) ++ C)) H' → D.nx [some (.ref a), x, z] H') :
    tFor (iSeq K (tCB (rListA K) (tCons (tVar 0) tNil))) (gName 1) (tDrop (tCall (spSpoilt n) [] E0 (tCons (tDGet (tVar 0) (tVar 1)) tNil))) D [some (.ref a), y, z] H := by
  have start : ∀ (R : VK), (∀ q, H q = none → R (.ref q) (upd H q (.lst ((valsK ks).map fun kv => kV kv.1)))) → tCB (rListA K) (tCons (tVar 0) tNil) [some (.ref a), y, z] H R := fun R r => by
    refine ⟨_, rfl, ?_⟩
    unfold rListA
    exact .inr ⟨_, _, rfl, W.hd, r⟩
  have main : ∀ q, H q = none → ∃ W' : Nat → Nat → L2.St → Hp → Prop, (∃ m, W' 0 m [some (.ref a), y, z] (upd H q (.lst ((valsK ks).map fun kv => kV kv.1)))) ∧ ∀ i m σ H, W' i m σ H →
      ((Itl K q).stop i H ∧ D.nx σ H) ∨ ((Itl K q).go i H ∧ ∃ N : L2.St → Hp → Prop, (∀ σ' H', N σ' H' → ∃ m', m' < m ∧ W' (i + 1) m' σ' H') ∧ ∀ x H', (Itl K q).yld i H x H' → gName 1 x σ H' fun σ2 H2 => (tDrop (tCall (spSpoilt n) [] E0 (tCons (tDGet (tVar 0) (tVar 1)) tNil))) { D with nx := N, ct := N, bk := D.nx } σ2 H2) := by
    intro q nq
    have W0 := W.new (o := .lst ((valsK ks).map fun kv => kV kv.1)) nq
    refine for_list (K := K) (a := q) (xs := (valsK ks).map fun kv => kV kv.1) (fun i σ H' => ∃ x, σ = [some (.ref a), x, z] ∧ WF G ((q, .lst ((valsK ks).map fun kv => kV kv.1)) :: (a, .dK (valsK ks)) :: (cellsK (spoilK (ks.take i)) ++ cellsK (ks.drop i) ++ C)) H') ⟨y, rfl, by simpa [spoilK, cellsK] using W0⟩ ?_ ?_ ?_
    · rintro i σ H' _ ⟨x, _, W'⟩
      exact SqL.of W'.hd
    · rintro i v σ H' hv ⟨x, rfl, W'⟩
      obtain ⟨p, hp, rfl⟩ : ∃ p, ks[i]? = some p ∧ kV p.1 = v := by
        rw [List.getElem?_map, List.getElem?_map] at hv
        cases e : ks[i]? with
        | none =>
          rw [e] at hv
          cases hv
        | some u =>
          rw [e] at hv
          exact ⟨u, rfl, Option.some.inj hv⟩
      have hi : i < ks.length := (List.getElem?_eq_some_iff.mp hp).1
      have e1 : ks.drop i = p :: ks.drop (i + 1) := by
        have := List.drop_eq_getElem_cons hi
        rw [this]
        have e := (List.getElem?_eq_some_iff.mp hp).2
        rw [e]
      rw [e1] at W'
      have hg : valV (valsK ks) p.1 = some p.2.val := by
        have e : (valsK ks)[i]? = some (p.1, p.2.val) := by
          rw [List.getElem?_map, hp]
          rfl
        refine valK_get (p := (p.1, p.2.val)) ?_ e
        rw [List.map_map]
        exact nd
      refine ⟨_, rfl, _, rfl, a, p.2.val, rfl, ?_, ?_⟩
      · rw [← hg]
        exact DGet.k W'.swap.hd
      refine ⟨G, [(q, .lst ((valsK ks).map fun kv => kV kv.1)), (a, .dK (valsK ks))] ++ (cellsK (spoilK (ks.take i)) ++ cellsK (ks.drop (i + 1)) ++ C), p.2, rfl, ok.get hp, sm.get hp, Nat.lt_of_le_of_lt (depK_get hp) dp, W'.perm (permT (O := [(q, .lst ((valsK ks).map fun kv => kV kv.1)), (a, .dK (valsK ks))])), fun H2 W2 => ⟨_, rfl, ?_⟩⟩
      have W3 := W2.perm (permT (O := [(q, .lst ((valsK ks).map fun kv => kV kv.1)), (a, .dK (valsK ks))])).symm
      rw [take_more hp, spoilK_append, cellsK_append]
      have e2 : cellsK (spoilK [p]) = p.2.spoil.cells := by simp [spoilK, cellsK]
      rw [e2]
      simpa [List.append_assoc] using W3
    · rintro σ H' ⟨x, rfl, W'⟩
      refine k x H' ?_
      have e : ((valsK ks).map fun kv => kV kv.1).length = ks.length := by rw [List.length_map, List.length_map]
      rw [e, List.take_length, List.drop_length] at W'
      simpa [cellsK] using W'.drop
  exact .inl (start _ fun q nq => ⟨q, rfl, ⟨_, SqL.of upd_same⟩, main q nq⟩)
end Lr

/-! # Data without dicts; what is spoilt, and the same -/
namespace Lr
open PySem PySem.Spec PyProof.Rows L2 RZ
mutual
def spoilD : PyData → PyData
  | .list ds => .list (spoilDL ds ++ [.str LATE])
  | .tuple ds => .tuple (spoilDL ds)
  | d => d
def spoilDL : List PyData → List PyData
  | [] => []
  | d :: ds => spoilD d :: spoilDL ds
end
def notLate : PyData → Prop
  | .str x => x ≠ LATE
  | _ => True
mutual
/-- no dict, no "LATE", short lists -/
def CleanD : PyData → Prop
  | .list ds => CleanDL ds ∧ ds.length ≤ 100000
  | .tuple ds => CleanDL ds ∧ ds.length ≤ 100000
  | .dict _ => False
  | _ => True
def CleanDL : List PyData → Prop
  | [] => True
  | d :: ds => (notLate d ∧ CleanD d) ∧ CleanDL ds
end
mutual
def depD : PyData → Nat
  | .list ds => depDL ds + 1
  | .tuple ds => depDL ds + 1
  | .dict _ => 1
  | _ => 0
def depDL : List PyData → Nat
  | [] => 0
  | d :: ds => max (depD d) (depDL ds)
end
theorem spoilDL_length : ∀ ds : List PyData, (spoilDL ds).length = ds.length
  | [] => rfl
  | d :: ds => by simp [spoilDL, spoilDL_length ds]
theorem CleanDL.get : ∀ {ds : List PyData} {i : Nat} {d : PyData}, CleanDL ds → ds[i]? = some d → notLate d ∧ CleanD d
  | [], _, _, _, e => by simp at e
  | t :: ts, 0, u, h, e => by
    simp at e
    subst e
    exact h.1
  | t :: ts, i + 1, u, h, e => h.2.get (i := i) (by simpa using e)
theorem depDL_get : ∀ {ds : List PyData} {i : Nat} {d : PyData}, ds[i]? = some d → depD d ≤ depDL ds
  | [], _, _, e => by simp at e
  | t :: ts, 0, u, e => by
    simp at e
    subst e
    exact Nat.le_max_left _ _
  | t :: ts, i + 1, u, e => Nat.le_trans (depDL_get (ds := ts) (i := i) (by simpa using e)) (Nat.le_max_right _ _)
theorem spoilDL_get : ∀ {ds : List PyData} {i : Nat}, (spoilDL ds)[i]? = ds[i]?.map spoilD
  | [], _ => by simp [spoilDL]
  | t :: ts, 0 => by simp [spoilDL]
  | t :: ts, i + 1 => by simp [spoilDL, spoilDL_get (ds := ts) (i := i)]
/-- how often LATE stands among the values -/
theorem count_late {H : Hp} : ∀ {ds : List PyData} {vs : List V}, CleanDL ds → Reps H (spoilDL ds) vs → vs.countP (isS LATE) = 0 ∧ ∀ v ∈ vs, CmpS H v
  | [], _, _, r => by
    cases r
    exact ⟨rfl, fun v hv => by cases hv⟩
  | d :: ds, vs, c, r => by
    cases r with
    | cons r rr =>
      rename_i v vs
      obtain ⟨i1, i2⟩ := count_late c.2 rr
      have key : isS LATE v = false ∧ CmpS H v := by
        obtain ⟨⟨nl, cl⟩, _⟩ := c
        cases d with
        | none => cases r; exact ⟨rfl, trivial⟩
        | bool b => cases r; exact ⟨rfl, trivial⟩
        | int i => cases r; exact ⟨rfl, trivial⟩
        | str x =>
          cases r
          refine ⟨?_, trivial⟩
          show (x == LATE) = false
          have nl' : x ≠ LATE := nl
          simpa using nl'
        | list ds =>
          cases r with
          | lst h _ => exact ⟨rfl, .inl ⟨_, h⟩⟩
        | tuple ds =>
          cases r with
          | tup h _ => exact ⟨rfl, .inr ⟨_, h⟩⟩
        | dict _ => exact cl.elim
      refine ⟨?_, fun u hu => ?_⟩
      · rw [List.countP_cons, i1, key.1]
        rfl
      · rcases List.mem_cons.mp hu with rfl | hu
        · exact key.2
        · exact i2 u hu
theorem Reps.split {H : Hp} : ∀ {a b : List PyData} {vs : List V}, Reps H (a ++ b) vs → ∃ v1 v2, vs = v1 ++ v2 ∧ Reps H a v1 ∧ Reps H b v2
  | [], _, vs, r => ⟨[], vs, rfl, .nil, r⟩
  | d :: a, b, vs, r => by
    cases r with
    | cons r rr =>
      obtain ⟨v1, v2, e, r1, r2⟩ := rr.split
      exact ⟨_ :: v1, v2, by rw [e]; rfl, .cons r r1, r2⟩
theorem count_late1 {H : Hp} {ds : List PyData} {vs : List V} (c : CleanDL ds) (r : Reps H (spoilDL ds ++ [.str LATE]) vs) : vs.countP (isS LATE) = 1 ∧ ∀ v ∈ vs, CmpS H v := by
  obtain ⟨v1, v2, e, r1, r2⟩ := r.split
  obtain ⟨i1, i2⟩ := count_late c r1
  cases r2 with
  | cons r rr =>
    cases rr
    cases r
    subst e
    refine ⟨?_, fun v hv => ?_⟩
    · rw [List.countP_append, i1]
      simp [isS]
    · rcases List.mem_append.mp hv with hv | hv
      · exact i2 v hv
      · rw [List.mem_singleton.mp hv]
        trivial
/-- _law_is_once(thing) of a spoilt thing without dicts -/
def spOnce (n : Nat) : Sp := fun vs H Q _ => ∃ (d : PyData) (v : V), vs = [v] ∧ Rep H (spoilD d) v ∧ CleanD d ∧ depD d < n ∧ ∀ H', Same H H' → Q (.bl true) H'
mutual
theorem T.spoil_data : ∀ {t : T}, CleanD t.data → t.spoil.data = spoilD t.data
  | .leaf v, _ => by
    show scalD v = spoilD (scalD v)
    cases v <;> rfl
  | .lst a ts, h => by
    show PyData.list (dataL (spoilL ts ++ [T.leaf (.str LATE)])) = .list (spoilDL (dataL ts) ++ [.str LATE])
    have h' : CleanDL (dataL ts) := h.1
    rw [dataL_append, spoilL_data h']
    rfl
  | .tup a ts, h => by
    show PyData.tuple (dataL (spoilL ts)) = .tuple (spoilDL (dataL ts))
    have h' : CleanDL (dataL ts) := h.1
    rw [spoilL_data h']
  | .dic a ks, h => h.elim
theorem spoilL_data : ∀ {ts : List T}, CleanDL (dataL ts) → dataL (spoilL ts) = spoilDL (dataL ts)
  | [], _ => rfl
  | t :: ts, h => by
    show t.spoil.data :: dataL (spoilL ts) = spoilD t.data :: spoilDL (dataL ts)
    have h1 : CleanD t.data := h.1.2
    have h2 : CleanDL (dataL ts) := h.2
    rw [T.spoil_data h1, spoilL_data h2]
theorem dataL_append : ∀ (a b : List T), dataL (a ++ b) = dataL a ++ dataL b
  | [], _ => rfl
  | t :: ts, b => by
    show t.data :: dataL (ts ++ b) = t.data :: (dataL ts ++ dataL b)
    rw [dataL_append ts b]
end
theorem dataL_length : ∀ ts : List T, (dataL ts).length = ts.length
  | [] => rfl
  | t :: ts => by simp [dataL, dataL_length ts]
mutual
theorem T.dep_data : ∀ {t : T}, CleanD t.data → t.dep = depD t.data
  | .leaf v, _ => by
    show 0 = depD (scalD v)
    cases v <;> rfl
  | .lst a ts, h => by
    show depL ts + 1 = depDL (dataL ts) + 1
    rw [depL_data (ts := ts) h.1]
  | .tup a ts, h => by
    show depL ts + 1 = depDL (dataL ts) + 1
    rw [depL_data (ts := ts) h.1]
  | .dic a ks, h => h.elim
theorem depL_data : ∀ {ts : List T}, CleanDL (dataL ts) → depL ts = depDL (dataL ts)
  | [], _ => rfl
  | t :: ts, h => by
    show max t.dep (depL ts) = max (depD t.data) (depDL (dataL ts))
    rw [T.dep_data (t := t) h.1.2, depL_data (ts := ts) h.2]
end
mutual
theorem T.small_data : ∀ {t : T}, CleanD t.data → t.Small
  | .leaf v, _ => trivial
  | .lst a ts, h => ⟨by have := h.2; rw [dataL_length] at this; exact this, smallL_data (ts := ts) h.1⟩
  | .tup a ts, h => ⟨by have := h.2; rw [dataL_length] at this; exact this, smallL_data (ts := ts) h.1⟩
  | .dic a ks, h => h.elim
theorem smallL_data : ∀ {ts : List T}, CleanDL (dataL ts) → SmallL ts
  | [], _ => trivial
  | t :: ts, h => ⟨T.small_data (t := t) h.1.2, smallL_data (ts := ts) h.2⟩
end
theorem WF.dropL {G H : Hp} {A C : List Cell} (w : WF G (A ++ C) H) : WF G C H :=
  ⟨w.sub, fun c hc => w.own c (List.mem_append_right _ hc), (List.nodup_append.mp (by have := w.nd; rw [List.map_append] at this; exact this)).2.1⟩
/-- _law_apart(thing): a tree without dicts, its cells one's own: told once each -/
def spApart (n : Nat) : Sp := fun vs H Q _ => ∃ (G : Hp) (C : List Cell) (t : T), vs = [t.val] ∧ t.Ok G ∧ notLate t.data ∧ CleanD t.data ∧ depD t.data < n ∧ WF G (t.cells ++ C) H ∧ ∀ H', WF G C H' → Q (.bl true) H'
mutual
/-- no dict, short lists and texts -/
def Plain : PyData → Prop
  | .list ds => Plains ds ∧ ds.length ≤ 100000
  | .tuple ds => Plains ds ∧ ds.length ≤ 100000
  | .dict _ => False
  | _ => True
def Plains : List PyData → Prop
  | [] => True
  | d :: ds => Plain d ∧ Plains ds
end
theorem Plains.get : ∀ {ds : List PyData} {i : Nat} {d : PyData}, Plains ds → ds[i]? = some d → Plain d
  | [], _, _, _, e => by simp at e
  | t :: ts, 0, u, h, e => by
    simp at e
    subst e
    exact h.1
  | t :: ts, i + 1, u, h, e => h.2.get (i := i) (by simpa using e)
mutual
/-- what _law_same goes through -/
def Eqa : PyData → Prop
  | .list ds => Eqas ds ∧ ds.length ≤ 100000
  | .tuple ds => Eqas ds ∧ ds.length ≤ 100000
  | .dict es => EqaK es ∧ es.length ≤ 100000
  | _ => True
def Eqas : List PyData → Prop
  | [] => True
  | d :: ds => Eqa d ∧ Eqas ds
def EqaK : List (PyData × PyData) → Prop
  | [] => True
  | p :: es => (∃ k : Key, p.1 = kD k) ∧ Eqa p.2 ∧ EqaK es
end
mutual
def dpS : PyData → Nat
  | .list ds => dpSL ds + 1
  | .tuple ds => dpSL ds + 1
  | .dict es => dpSK es + 3
  | _ => 0
def dpSL : List PyData → Nat
  | [] => 0
  | d :: ds => max (dpS d) (dpSL ds)
def dpSK : List (PyData × PyData) → Nat
  | [] => 0
  | p :: es => max (dpS p.2) (dpSK es)
end
mutual
theorem Plain.eqa : ∀ {d : PyData}, Plain d → Eqa d
  | .list ds, h => ⟨Plains.eqa h.1, h.2⟩
  | .tuple ds, h => ⟨Plains.eqa h.1, h.2⟩
  | .dict _, h => h.elim
  | .none, _ => trivial
  | .bool _, _ => trivial
  | .int _, _ => trivial
  | .str _, _ => trivial
theorem Plains.eqa : ∀ {ds : List PyData}, Plains ds → Eqas ds
  | [], _ => trivial
  | d :: ds, h => ⟨Plain.eqa h.1, Plains.eqa (ds := ds) h.2⟩
end
mutual
theorem Plain.dpS : ∀ {d : PyData}, Plain d → dpS d = depD d
  | .list ds, h => by
    show dpSL ds + 1 = depDL ds + 1
    rw [Plains.dpS (ds := ds) h.1]
  | .tuple ds, h => by
    show dpSL ds + 1 = depDL ds + 1
    rw [Plains.dpS (ds := ds) h.1]
  | .dict _, h => h.elim
  | .none, _ => rfl
  | .bool _, _ => rfl
  | .int _, _ => rfl
  | .str _, _ => rfl
theorem Plains.dpS : ∀ {ds : List PyData}, Plains ds → dpSL ds = depDL ds
  | [], _ => rfl
  | d :: ds, h => by
    show max (Lr.dpS d) (dpSL ds) = max (depD d) (depDL ds)
    rw [Plain.dpS (d := d) h.1, Plains.dpS (ds := ds) h.2]
end
theorem Eqas.get : ∀ {ds : List PyData} {i : Nat} {d : PyData}, Eqas ds → ds[i]? = some d → Eqa d
  | [], _, _, _, e => by simp at e
  | t :: ts, 0, u, h, e => by
    simp at e
    subst e
    exact h.1
  | t :: ts, i + 1, u, h, e => h.2.get (i := i) (by simpa using e)
theorem dpSL_get : ∀ {ds : List PyData} {i : Nat} {d : PyData}, ds[i]? = some d → dpS d ≤ dpSL ds
  | [], _, _, e => by simp at e
  | t :: ts, 0, u, e => by
    simp at e
    subst e
    exact Nat.le_max_left _ _
  | t :: ts, i + 1, u, e => Nat.le_trans (dpSL_get (ds := ts) (i := i) (by simpa using e)) (Nat.le_max_right _ _)
/-- a dict's items -/
def dPairs (es : List (PyData × PyData)) : List PyData := es.map fun p => .tuple [p.1, p.2]
theorem dPairs_eqa : ∀ {es : List (PyData × PyData)}, EqaK es → Eqas (dPairs es)
  | [], _ => trivial
  | p :: es, h => by
    obtain ⟨⟨k, e⟩, h2, h3⟩ := h
    refine ⟨⟨⟨?_, h2, trivial⟩, by show 2 ≤ 100000; decide⟩, dPairs_eqa h3⟩
    rw [e]
    cases k <;> trivial
theorem dPairs_dp : ∀ {es : List (PyData × PyData)}, EqaK es → dpSL (dPairs es) ≤ dpSK es + 1
  | [], _ => Nat.zero_le _
  | p :: es, h => by
    obtain ⟨⟨k, e⟩, h2, h3⟩ := h
    have ih := dPairs_dp h3
    show max (max (dpS p.1) (max (dpS p.2) 0) + 1) (dpSL (dPairs es)) ≤ max (dpS p.2) (dpSK es) + 1
    have h0 : dpS p.1 = 0 := by
      rw [e]
      cases k <;> rfl
    rw [h0]
    omega
theorem items_rep {H H' : Hp} (s : Same H H') : ∀ {es : List (PyData × PyData)} {kvs : List (Key × V)} {ts : List Addr}, RepK H es kvs → Paired (fun (t : Addr) (q : Key × V) => H' t = some (.tup [kV q.1, q.2])) ts kvs → Reps H' (dPairs es) (ts.map V.ref)
  | _, _, _, .nil, .nil => .nil
  | _, _, _, .cons (k := k) r rr, .cons h t => by
    refine .cons (.tup h (.cons ?_ (.cons (r.mono s) .nil))) (items_rep s rr t)
    cases k
    · exact .int _
    · exact .str _
/-- _law_same(found, due) of equal things -/
def spSame (n : Nat) : Sp := fun vs H Q _ => ∃ (d : PyData) (v u : V), vs = [v, u] ∧ Rep H d v ∧ Rep H d u ∧ Eqa d ∧ dpS d < n ∧ ∀ H', Same H H' → Q (.bl true) H'
theorem CmpS.mono {H H' : Hp} {v : V} (s : Same H H') (h : CmpS H v) : CmpS H' v := by
  cases v <;> first | exact h | exact h.imp (fun ⟨x, e⟩ => ⟨x, s _ _ e⟩) (fun ⟨x, e⟩ => ⟨x, s _ _ e⟩)
/-- the rows of _law_is_once over a list or a tuple -/
theorem loop_once {K : PySem.W.Frag} {a : Addr} {ds : List PyData} {xs : List V} {n : Nat} {kd : Bool} {σ : L2.St} {H : Hp} {Q : VK} {vs : List Nat} {j i0 : Nat}
    (hσ : σ[i0]? = some (some (.ref a))) (hw : ∀ x, ((wipe σ vs).set j (some x))[j]? = some (some x)) (hw2 : ∀ x, wipe ((wipe σ vs).set j (some x)) vs = wipe σ vs)
    (hk : ∀ H', Same H H' → SqK kd K H' a xs) (hx : ∀ (i : Nat) (x : V) (H' : Hp), xs[i]? = some x → Same H H' → ∃ d, Rep H' (spoilD d) x ∧ CleanD d ∧ depD d < n) (hl : xs.length ≤ 200000)
    (k : ∀ H' D, Same H H' → H' D = some (.lst (List.replicate xs.length (.bl true))) → Q (.ref D) H') :
    tLc (iSeq K (tVar i0)) (gName j) tYes (tCall (spOnce n) [] E0 (tCons (tVar j) tNil)) vs σ H Q := by
  refine lc_seq (xs := xs) (k := kd) (fun R r => ⟨_, hσ, r⟩) (hk H (Same.refl H)) fun D nD => ⟨fun i H' => Same H H' ∧ H D = none ∧ H' D = some (.lst (List.replicate i (.bl true))), ⟨same_new nD, nD, upd_same⟩, fun i H' _ p => hk H' p.1, ?_, ?_⟩
  · rintro i x H' hx' ⟨s, _, hD⟩
    have hi := (List.getElem?_eq_some_iff.mp hx').1
    obtain ⟨d, r, cl, dp⟩ := hx i x H' hx' s
    refine ⟨hw2 x, ?_⟩
    refine ⟨x, hw x, d, x, rfl, r, cl, dp, fun H2 s2 => ⟨_, s2 _ _ hD, ?_, ?_⟩⟩
    · rw [List.length_replicate]
      exact sz_lt (by omega)
    · refine ⟨fun b o e => ?_, nD, ?_⟩
      · have nb : b ≠ D := ne_of_none e nD
        rw [upd_ne nb]
        exact s2 _ _ (s _ _ e)
      · rw [upd_same, ← List.replicate_succ']
  · rintro H' ⟨s, _, hD⟩
    exact k H' D s hD
mutual
theorem T.spoil_ok {G : Hp} : ∀ {t : T}, CleanD t.data → t.Ok G → t.spoil.Ok G
  | .leaf v, _, h => h
  | .lst a ts, c, h => by
    show OkL G (spoilL ts ++ [T.leaf (.str LATE)])
    exact OkL.app (spoilL_ok (ts := ts) c.1 h) ⟨trivial, trivial⟩
  | .tup a ts, c, h => by
    refine ⟨?_, spoilL_ok (ts := ts) c.1 h.2⟩
    rw [spoilL_vals]
    exact h.1
  | .dic a ks, c, h => c.elim
theorem spoilL_ok {G : Hp} : ∀ {ts : List T}, CleanDL (dataL ts) → OkL G ts → OkL G (spoilL ts)
  | [], _, _ => trivial
  | t :: ts, c, h => ⟨T.spoil_ok (t := t) c.1.2 h.1, spoilL_ok (ts := ts) c.2 h.2⟩
end
theorem Plain.one {d : PyData} : Plain d → (∀ es, d ≠ .dict es) := fun h es e => by
  subst e
  exact h
theorem loop_same {K : PySem.W.Frag} {a b : Addr} {ds : List PyData} {xs ys : List V} {n : Nat} {kd : Bool} {σ : L2.St} {H : Hp} {Q : VK} {vs : List Nat} {i0 i1 j j' : Nat}
    (h0 : σ[i0]? = some (some (.ref a))) (h1 : σ[i1]? = some (some (.ref b)))
    (hw : ∀ x y, (((wipe σ vs).set j (some x)).set j' (some y))[j]? = some (some x)) (hw1 : ∀ x y, (((wipe σ vs).set j (some x)).set j' (some y))[j']? = some (some y)) (hw2 : ∀ x y, wipe (((wipe σ vs).set j (some x)).set j' (some y)) vs = wipe σ vs)
    (hk : ∀ H', Same H H' → SqK kd K H' a xs ∧ SqK kd K H' b ys) (rx : Reps H ds xs) (ry : Reps H ds ys) (pl : Eqas ds) (dp : dpSL ds < n) (hl : ds.length ≤ 200000)
    (k : ∀ H' D, Same H H' → H' D = some (.lst (List.replicate ds.length (.bl true))) → Q (.ref D) H') :
    tLc (iZipA K (tCons (tVar i0) (tCons (tVar i1) tNil))) (gTup K 2 (gCons (gName j) (gCons (gName j') gNil))) tYes (tCall (spSame n) [] E0 (tCons (tVar j) (tCons (tVar j') tNil))) vs σ H Q := by
  have lx := rx.length
  have ly := ry.length
  refine lc_zip (xs := xs) (ys := ys) (k := kd) (fun R r => ⟨_, h0, _, h1, r⟩) (by omega) (hk H (Same.refl H)).1 (hk H (Same.refl H)).2 fun D nD => ⟨fun i H' => Same H H' ∧ H D = none ∧ H' D = some (.lst (List.replicate i (.bl true))), ⟨same_new nD, nD, upd_same⟩, fun i H' _ p => hk H' p.1, ?_, ?_⟩
  · rintro i x y T H' hx' hy' ⟨s, _, hD⟩ nT
    have hi := (List.getElem?_eq_some_iff.mp hx').1
    obtain ⟨d, hd, r⟩ := rx.get hx'
    obtain ⟨d', hd', r'⟩ := ry.get hy'
    rw [hd] at hd'
    cases hd'
    have sT := same_new (o := .tup [x, y]) nT
    refine ⟨T, [x, y], rfl, SqT.of upd_same, rfl, x, [y], rfl, y, [], rfl, rfl, hw2 x y, ?_⟩
    refine ⟨x, hw x y, y, hw1 x y, d, x, y, rfl, r.mono (s.trans sT), r'.mono (s.trans sT), pl.get hd, Nat.lt_of_le_of_lt (dpSL_get hd) dp, fun H2 s2 => ⟨_, s2 _ _ (sT _ _ hD), ?_, ?_⟩⟩
    · rw [List.length_replicate]
      exact sz_lt (by omega)
    · refine ⟨fun b o e => ?_, nD, ?_⟩
      · have nb : b ≠ D := ne_of_none e nD
        rw [upd_ne nb]
        exact s2 _ _ (sT _ _ (s _ _ e))
      · rw [upd_same, ← List.replicate_succ']
  · rintro H' ⟨s, _, hD⟩
    rw [← lx] at hD
    exact k H' D s hD
end Lr

/-! # Things told in other kinds of lists -/
namespace Lr
open PySem PySem.Spec PyProof.Rows L2
mutual
/-- tuples as lists, all through -/
def norm : PyData → PyData
  | .list ds => .list (normL ds)
  | .tuple ds => .list (normL ds)
  | d => d
def normL : List PyData → List PyData
  | [] => []
  | d :: ds => norm d :: normL ds
end
mutual
/-- how many lists and tuples -/
def szD : PyData → Nat
  | .list ds => szDL ds + 1
  | .tuple ds => szDL ds + 1
  | _ => 0
def szDL : List PyData → Nat
  | [] => 0
  | d :: ds => szD d + szDL ds
end
theorem normL_append : ∀ a b : List PyData, normL (a ++ b) = normL a ++ normL b
  | [], _ => rfl
  | d :: ds, b => by simp [normL, normL_append ds b]
theorem szDL_append : ∀ a b : List PyData, szDL (a ++ b) = szDL a + szDL b
  | [], _ => by simp [szDL]
  | d :: ds, b => by simp [szDL, szDL_append ds b, Nat.add_assoc]
theorem normL_length : ∀ ds : List PyData, (normL ds).length = ds.length
  | [] => rfl
  | d :: ds => by simp [normL, normL_length ds]
theorem szDL_take_le (ds : List PyData) (i : Nat) : szDL (ds.take i) ≤ szDL ds := by
  have e := szDL_append (ds.take i) (ds.drop i)
  rw [List.take_append_drop] at e
  omega
theorem WF.weak {G G' H : Hp} {C : List Cell} (w : WF G' C H) (s : Same G G') : WF G C H :=
  ⟨s.trans w.sub, fun c hc => ⟨(w.own c hc).1, s.free (w.own c hc).2⟩, w.nd⟩
/-- d is read at v, out of G and C alone -/
def RepC (G : Hp) (C : List Cell) (d : PyData) (v : V) : Prop := ∃ L : Hp, (∀ a o, L a = some o → Sees G C a o) ∧ Rep L d v
theorem sees_same {G H L : Hp} {C : List Cell} (h : ∀ a o, L a = some o → Sees G C a o) (w : WF G C H) : Same L H := fun a o e => (h a o e).at w
theorem RepC.at {G H : Hp} {C : List Cell} {d : PyData} {v : V} (h : RepC G C d v) (w : WF G C H) : Rep H d v := by
  obtain ⟨L, hl, r⟩ := h
  exact r.mono (sees_same hl w)
theorem RepC.mono {G G' : Hp} {C : List Cell} {d : PyData} {v : V} (h : RepC G C d v) (s : Same G G') : RepC G' C d v := by
  obtain ⟨L, hl, r⟩ := h
  exact ⟨L, fun a o e => (hl a o e).mono s, r⟩
theorem RepC.app {G : Hp} {A C : List Cell} {d : PyData} {v : V} (h : RepC G C d v) : RepC G (A ++ C) d v := by
  obtain ⟨L, hl, r⟩ := h
  exact ⟨L, fun a o e => (hl a o e).imp id (List.mem_append_right _), r⟩
theorem RepC.cons {G : Hp} {c : Cell} {C : List Cell} {d : PyData} {v : V} (h : RepC G C d v) : RepC G (c :: C) d v := by
  obtain ⟨L, hl, r⟩ := h
  exact ⟨L, fun a o e => (hl a o e).cons, r⟩
theorem RepC.of {G : Hp} {C : List Cell} {d : PyData} {v : V} (h : Rep G d v) : RepC G C d v := ⟨G, fun a o e => .inl e, h⟩
theorem RepC.tree {G : Hp} {C : List Cell} {t : T} {H : Hp} (h : t.Ok G) (w : WF G (t.cells ++ C) H) : RepC G (t.cells ++ C) t.data t.val := by
  refine ⟨fun a => if (G a).isSome ∨ a ∈ t.cells.map Prod.fst then H a else none, fun a o e => ?_, T.rep ?_ h ?_⟩
  · dsimp only at e
    split at e
    · rename_i hc
      rcases hc with hc | hc
      · cases q : G a with
        | none =>
          rw [q] at hc
          cases hc
        | some u =>
          have := w.getG q
          rw [e] at this
          cases this
          exact .inl q
      · obtain ⟨c, hm, rfl⟩ := List.mem_map.mp hc
        have := (w.own c (List.mem_append_left _ hm)).1
        rw [e] at this
        cases this
        exact .inr (List.mem_append_left _ hm)
    · cases e
  · intro a o e
    have : (G a).isSome := by rw [e]; rfl
    simp only [this, true_or, if_true]
    exact w.getG e
  · intro c hc
    have : c.1 ∈ t.cells.map Prod.fst := List.mem_map.mpr ⟨c, hc, rfl⟩
    simp only [this, or_true, if_true]
    exact (w.own c (List.mem_append_left _ hc)).1
theorem SW.dropL {G H : Hp} {st cs : Addr} {n : Nat} {A C : List Cell} (w : SW G st cs n (A ++ C) H) : SW G st cs n C H := by
  obtain ⟨l, a, b, c, w, k⟩ := w
  refine ⟨l, a, b, c, ?_, k⟩
  have p : ((st, HO.lst [.ref cs, .int a, .int b, .int c]) :: (cs, HO.lst (l.map V.int)) :: (A ++ C)).Perm (A ++ ((st, HO.lst [.ref cs, .int a, .int b, .int c]) :: (cs, HO.lst (l.map V.int)) :: C)) :=
    (List.perm_append_comm_assoc [(st, HO.lst [.ref cs, .int a, .int b, .int c]), (cs, HO.lst (l.map V.int))] A C)
  exact (w.perm p).dropL
/-- _law_loose(stream, thing) without dicts: lists for tuples, tuples for lists, made anew -/
def spLoose (n : Nat) : Sp := fun vs H Q _ => ∃ (G : Hp) (st cs : Addr) (m : Nat) (C : List Cell) (d : PyData) (v : V), vs = [.ref st, v] ∧ SW G st cs m C H ∧ RepC G C d v ∧ Plain d ∧ depD d < n ∧ m + szD d < 2 ^ 40 ∧
  ∀ (t : T) (G' H' : Hp), Same G G' → t.Ok G' → norm t.data = norm d → Plain t.data → SW G' st cs (m + szD d) (t.cells ++ C) H' → Q t.val H'
theorem Plains.app : ∀ {a b : List PyData}, Plains a → Plains b → Plains (a ++ b)
  | [], _, _, h => h
  | d :: ds, b, h, h' => ⟨h.1, Plains.app (a := ds) h.2 h'⟩
theorem leaf_of {d : PyData} {H : Hp} {v : V} (r : Rep H d v) (h : kitB2 (tyD d) "list" "tuple" = some false) (h2 : Plain d) : scal1 v ∧ scalD v = d := by
  cases r with
  | non => exact ⟨trivial, rfl⟩
  | bl b => exact ⟨trivial, rfl⟩
  | int i => exact ⟨trivial, rfl⟩
  | str x => exact ⟨trivial, rfl⟩
  | lst _ _ => rw [seqTys] at h; cases h
  | tup _ _ => rw [seqTys] at h; cases h
  | dic _ _ => exact h2.elim
theorem Same.upd_same_new {G : Hp} {p : Addr} {o : HO} (h : G p = none) : Same G (upd G p o) := same_new h
theorem OkL.app' {G : Hp} {a b : List T} (h : OkL G a) (h' : OkL G b) : OkL G (a ++ b) := OkL.app h h'
theorem permD {c : Cell} {A B D : List Cell} : (D ++ (c :: (A ++ B))).Perm (c :: (A ++ D ++ B)) := by
  refine List.perm_middle.trans (List.Perm.cons c ?_)
  rw [List.append_assoc]
  exact List.perm_append_comm_assoc D A B
theorem loop_loose {K : PySem.W.Frag} {G : Hp} {C : List Cell} {st cs a : Addr} {m n : Nat} {ds : List PyData} {xs : List V} {kd : Bool} {σ : L2.St} {H : Hp} {Q : VK} {vs : List Nat} {i0 i1 j : Nat}
    (h0 : (wipe σ vs)[i0]? = some (some (.ref st))) (h1 : σ[i1]? = some (some (.ref a))) (hj : ∀ x, ((wipe σ vs).set j (some x))[i0]? = some (some (.ref st)))
    (hw : ∀ x, ((wipe σ vs).set j (some x))[j]? = some (some x)) (hw2 : ∀ x, wipe ((wipe σ vs).set j (some x)) vs = wipe σ vs)
    (W : SW G st cs m C H) (hk : ∀ H', WF G C H' → SqK kd K H' a xs ∧ Reps H' ds xs) (hc : ∃ L : Hp, (∀ a o, L a = some o → Sees G C a o) ∧ Reps L ds xs) (pl : Plains ds) (dp : depDL ds < n) (m40 : m + szDL ds < 2 ^ 40) (hl : ds.length ≤ 200000)
    (k : ∀ ts G' H' D, Same G G' → OkL G' ts → normL (dataL ts) = normL ds → Plains (dataL ts) → SW G' st cs (m + szDL ds) ((D, .lst (vals ts)) :: (cellsL ts ++ C)) H' → Q (.ref D) H') :
    tLc (iSeq K (tVar i1)) (gName j) tYes (tCall (spLoose n) [] E0 (tCons (tVar i0) (tCons (tVar j) tNil))) vs σ H Q := by
  have lx := (hk H W.wf).2.length
  refine lc_seq (xs := xs) (k := kd) (fun R r => ⟨_, h1, r⟩) (hk H W.wf).1 fun D nD => ⟨fun i H' => ∃ ts G', Same G G' ∧ OkL G' ts ∧ normL (dataL ts) = normL (ds.take i) ∧ Plains (dataL ts) ∧ ts.length = i ∧ SW G' st cs (m + szDL (ds.take i)) ((D, .lst (vals ts)) :: (cellsL ts ++ C)) H',
    ⟨[], G, Same.refl G, trivial, by simp [dataL, normL], trivial, rfl, by simpa [szDL, cellsL] using W.new nD⟩, ?_, ?_, ?_⟩
  · rintro i H' _ ⟨ts, G', s, _, _, _, _, w⟩
    exact (hk H' ((w.drop.dropL).wf.weak s)).1
  · rintro i x H' hx ⟨ts, G', s, ok, en, pn, el, w⟩
    have hi := (List.getElem?_eq_some_iff.mp hx).1
    obtain ⟨d, hd, _⟩ := (hk H' ((w.drop.dropL).wf.weak s)).2.get hx
    have e2 : szDL (ds.take (i + 1)) = szDL (ds.take i) + szD d := by
      rw [take_more hd, szDL_append]
      simp [szDL]
    have le := szDL_take_le ds (i + 1)
    refine ⟨hw2 x, ?_⟩
    refine ⟨_, hj x, x, hw x, G', st, cs, m + szDL (ds.take i), _, d, x, rfl, w, ?_, pl.get hd, Nat.lt_of_le_of_lt (depDL_get hd) dp, by omega, fun t G2 H2 s2 ok2 en2 pn2 w2 => ?_⟩
    · obtain ⟨L, hL, rL⟩ := hc
      obtain ⟨d', hd', r'⟩ := rL.get hx
      rw [hd] at hd'
      cases hd'
      exact ((RepC.app (A := cellsL ts) ⟨L, hL, r'⟩).cons).mono s
    · have w3 := w2.perm permD
      refine ⟨vals ts, w3.hd, ?_, ts ++ [t], G2, s.trans s2, OkL.app (OkL.mono s2 ok) ⟨ok2, trivial⟩, ?_, ?_, by simp [el], ?_⟩
      · rw [List.length_map]
        exact sz_lt (by omega)
      · rw [dataL_append, normL_append, en, take_more hd, normL_append]
        simp [dataL, normL, en2]
      · rw [dataL_append]
        exact Plains.app pn ⟨pn2, trivial⟩
      · have w4 := w3.set (u := .lst (vals ts ++ [t.val]))
        have ev : vals (ts ++ [t]) = vals ts ++ [t.val] := by simp [vals]
        rw [e2, ev, cellsL_append]
        have ec : cellsL [t] = t.cells := by simp [cellsL]
        rw [ec, ← Nat.add_assoc]
        exact w4
  · rintro H' ⟨ts, G', s, ok, en, pn, el, w⟩
    rw [← lx, List.take_length] at w en
    exact k ts G' H' D s ok en pn w
end Lr

/-! # Names and lots of names -/
namespace Lr
open PySem PySem.Spec PyProof.Rows L2
def leS (a b : Str) : Prop := a.cps.toList ≤ b.cps.toList
instance (a b : Str) : Decidable (leS a b) := inferInstanceAs (Decidable (a.cps.toList ≤ b.cps.toList))
theorem leS_trans {a b c : Str} (h1 : leS a b) (h2 : leS b c) : leS a c := List.le_trans h1 h2
theorem leS_total (a b : Str) : leS a b ∨ leS b a := List.le_total _ _
theorem str_ext {a b : Str} (h : a.cps.toList = b.cps.toList) : a = b := by
  cases a
  cases b
  simp only at h
  rw [Array.toList_inj.mp h]
theorem leS_anti {a b : Str} (h1 : leS a b) (h2 : leS b a) : a = b := str_ext (List.le_antisymm h1 h2)
theorem sorted_pw : ∀ {ys : List Str}, sortedS ys = true → ys.Pairwise leS
  | [], _ => .nil
  | y :: r, h => by
    have key : ∀ (r : List Str) (p : Str), risingS p r = true → (p :: r).Pairwise leS := by
      intro r
      induction r with
      | nil => intro p _; exact List.pairwise_singleton _ _
      | cons x r ih =>
        intro p h
        simp only [risingS, Bool.and_eq_true, Bool.not_eq_true'] at h
        have h2 := ih x h.2
        have h1 : leS p x := by
          rw [ltCps_eq] at h
          have := of_decide_eq_false h.1
          exact List.not_lt.mp this
        refine List.pairwise_cons.mpr ⟨fun y hy => ?_, h2⟩
        rcases List.mem_cons.mp hy with rfl | hy
        · exact h1
        · exact leS_trans h1 ((List.pairwise_cons.mp h2).1 y hy)
    exact key r y h
def sortS (xs : List Str) : List Str := xs.mergeSort (fun a b => decide (leS a b))
theorem sortS_perm (xs : List Str) : (sortS xs).Perm xs := List.mergeSort_perm _ _
theorem sortS_pw (xs : List Str) : (sortS xs).Pairwise leS := by
  have h := List.pairwise_mergeSort (le := fun a b => decide (leS a b)) (fun a b c h1 h2 => by
    simp only [decide_eq_true_eq] at h1 h2 ⊢
    exact leS_trans h1 h2) (fun a b => by
    simp only [Bool.or_eq_true, decide_eq_true_eq]
    exact leS_total a b) xs
  exact h.imp fun h => by simpa using h
theorem pw_one {a b : List Str} (h : a.Perm b) (ha : a.Pairwise leS) (hb : b.Pairwise leS) : a = b :=
  List.Perm.eq_of_pairwise (le := leS) (fun _ _ _ _ h1 h2 => leS_anti h1 h2) ha hb h
theorem sortS_of {xs ys : List Str} (h : ys.Perm xs) (hs : ys.Pairwise leS) : ys = sortS xs := pw_one (h.trans (sortS_perm xs).symm) hs (sortS_pw xs)
theorem sortS_eq {xs ys : List Str} (h : ys.Perm xs) : sortS ys = sortS xs := pw_one ((sortS_perm ys).trans (h.trans (sortS_perm xs).symm)) (sortS_pw ys) (sortS_pw xs)
theorem sortS_self {xs : List Str} (h : xs.Pairwise leS) : sortS xs = xs := (sortS_of (List.Perm.refl _) h).symm
theorem sortS_length (xs : List Str) : (sortS xs).length = xs.length := (sortS_perm xs).length_eq
/-! ### sgns -/
def low (c : Nat) : Bool := decide (97 ≤ c ∧ c ≤ 122)
def fig (c : Nat) : Bool := decide (48 ≤ c ∧ c ≤ 57)
def sgns : List Nat → Bool := fun l => l.all fun c => low c || fig c
/-- a name -/
def nameB (s : Str) : Bool := decide (1 ≤ s.length ∧ s.length ≤ 8) && sgns s.cps.toList && (match s.cps.toList with | c :: _ => low c | [] => false)
def isNameD : PyData → Bool
  | .str s => nameB s
  | _ => false
/-- the names of a lot so far, in the order met -/
def namesL : List PyData → List Str → Option (List Str)
  | [], acc => some acc
  | .str s :: r, acc => if nameB s = true ∧ s ∉ acc then namesL r (acc ++ [s]) else none
  | _ :: _, _ => none
def itemsD : PyData → Option (List PyData)
  | .list ds => some ds
  | .tuple ds => some ds
  | _ => none
def namesD (d : PyData) : Option (List Str) := (itemsD d).bind fun ds => (namesL ds []).map sortS
def lotD (d : PyData) (ns : List Str) : Option (List Str) := (namesD d).bind fun xs => if ∀ x ∈ xs, x ∈ ns then some xs else none
abbrev Row := List Str × List Str
def rowD (d : PyData) (ns : List Str) : Option Row :=
  match itemsD d with
  | some [a, b] => match lotD a ns, lotD b ns with
    | some r, some w => if w = [] then none else some (r, w)
    | _, _ => none
  | _ => none
/-- the rows, or the index of the first thing that is none (60 of the sixty-first) -/
def rowsL (ns : List Str) : List PyData → Nat → List Row → Except Nat (List Row)
  | [], _, acc => .ok acc
  | d :: r, i, acc => match rowD d ns with
    | none => .error i
    | some x => if i = 60 then .error i else rowsL ns r (i + 1) (acc ++ [x])
def recD (r : Row) : PyData := .tuple [.tuple (r.1.map .str), .tuple (r.2.map .str)]
/-- few items, short texts -/
def ShortD (d : PyData) : Prop := ∀ ds, itemsD d = some ds → ds.length ≤ 63 ∧ ∀ e ∈ ds, ∀ s, e = .str s → s.length ≤ 1000000
def Short2 (d : PyData) : Prop := ∀ ds, itemsD d = some ds → ds.length ≤ 100000 ∧ ∀ e ∈ ds, ShortD e
theorem namesL_strs : ∀ (xs acc : List Str), (∀ x ∈ xs, nameB x = true) → (acc ++ xs).Nodup → namesL (xs.map .str) acc = some (acc ++ xs)
  | [], acc, _, _ => by simp [namesL]
  | x :: r, acc, h, nd => by
    have hx : x ∉ acc := fun hm => by
      have := (List.nodup_append.mp nd).2.2 x hm x List.mem_cons_self
      exact this rfl
    show (if nameB x = true ∧ x ∉ acc then namesL (r.map .str) (acc ++ [x]) else none) = _
    rw [if_pos ⟨h x List.mem_cons_self, hx⟩, namesL_strs r (acc ++ [x]) (fun y hy => h y (List.mem_cons_of_mem _ hy)) (by simpa using nd)]
    simp
theorem nameB_ne_late {s : Str} (h : nameB s = true) : s ≠ LATE := fun e => by
  subst e
  revert h
  decide +kernel
theorem nameB_len {s : Str} (h : nameB s = true) : s.length ≤ 8 := by
  unfold nameB at h
  simp only [Bool.and_eq_true, decide_eq_true_eq] at h
  exact h.1.1.2
/-- a list or a tuple that is read: its kind, its place, its items -/
theorem Rep.items {K : PySem.W.Frag} {H : Hp} {d : PyData} {ds : List PyData} {v : V} (r : Rep H d v) (h : itemsD d = some ds) : ∃ (kd : Bool) (a : Addr) (vs : List V), v = .ref a ∧ Reps H ds vs ∧ ∀ H', Same H H' → SqK kd K H' a vs := by
  cases r with
  | lst e r =>
    cases h
    exact ⟨true, _, _, rfl, r, fun H' s => SqK.lst (s _ _ e)⟩
  | tup e r =>
    cases h
    exact ⟨false, _, _, rfl, r, fun H' s => SqK.tup (s _ _ e)⟩
  | non => cases h
  | bl _ => cases h
  | int _ => cases h
  | str _ => cases h
  | dic _ _ => cases h
theorem items_ty {d : PyData} : kitB2 (tyD d) "list" "tuple" = some (itemsD d).isSome := by
  rw [seqTys]
  cases d <;> rfl
theorem SqK.or {k : Bool} {K : PySem.W.Frag} {H : Hp} {a : Addr} {xs : List V} (h : SqK k K H a xs) : SqL K H a xs ∨ SqT K H a xs := by
  cases k with
  | true => exact .inl h
  | false => exact .inr h
theorem namesL_none {d : PyData} {r : List PyData} {acc : List Str} (h : isNameD d = false) : namesL (d :: r) acc = none := by
  cases d with
  | str s =>
    show (if nameB s = true ∧ s ∉ acc then namesL r (acc ++ [s]) else none) = none
    have h' : nameB s = false := h
    rw [if_neg (by rw [h']; simp)]
  | _ => rfl
theorem rInA.sign {K : PySem.W.Frag} {neg : Bool} {c : Nat} {z : Str} {H : Hp} {Q : VK} (q : Q (.bl (if neg then !decide (c ∈ z.cps.toList) else decide (c ∈ z.cps.toList))) H) : rInA K neg (.str ⟨#[c]⟩) (.str z) H Q := by
  unfold rInA
  exact .inr ⟨_, _, rfl, rfl, q⟩
theorem inV_strs {x : Str} {xs : List Str} : inV (.str x) (xs.map V.str) = decide (x ∈ xs) := by
  unfold inV
  rw [List.any_map]
  by_cases h : x ∈ xs
  · rw [decide_eq_true h]
    exact List.any_eq_true.mpr ⟨x, h, by simp [eqV]⟩
  · rw [decide_eq_false h]
    refine List.any_eq_false.mpr fun y hy => ?_
    have : y ≠ x := fun e => h (e ▸ hy)
    simpa [eqV] using this
theorem rInA.strs {K : PySem.W.Frag} {neg : Bool} {x : Str} {p : Addr} {xs : List Str} {H : Hp} {Q : VK} (h : SqL K H p (xs.map V.str) ∨ SqT K H p (xs.map V.str)) (q : Q (.bl (if neg then !decide (x ∈ xs) else decide (x ∈ xs))) H) : rInA K neg (.str x) (.ref p) H Q := by
  unfold rInA
  refine .inl ⟨p, _, rfl, h, rfl, ?_, ?_⟩
  · rw [List.all_map]
    exact List.all_eq_true.mpr fun _ _ => rfl
  · rw [inV_strs]
    exact q
/-- a loop over the sgns of a text -/
theorem for_str {x : Str} {te : TE} {g : TG} {tb : TS} {D : Ends} {σ : L2.St} {H : Hp} (hte : ∀ R : VK, R (.str x) H → te σ H R) (Pv : Nat → L2.St → Hp → Prop) (h0 : Pv 0 σ H)
    (hs : ∀ i c σ H, x.cps.toList[i]? = some c → Pv i σ H → g (.str ⟨#[c]⟩) σ H fun σ2 H2 => tb { D with nx := Pv (i + 1), ct := Pv (i + 1), bk := D.nx } σ2 H2) (hd : ∀ σ H, Pv x.cps.toList.length σ H → D.nx σ H) :
    tFor (iStr te) g tb D σ H := by
  refine hte _ ⟨x, rfl, ?_⟩
  have e0 : x.cps.size = x.cps.toList.length := by simp
  refine ⟨fun i m σ H => m = x.cps.toList.length - i ∧ i ≤ x.cps.toList.length ∧ Pv i σ H, ⟨_, rfl, Nat.zero_le _, h0⟩, ?_⟩
  rintro i m σ H ⟨rfl, hi, p⟩
  by_cases hlt : i < x.cps.toList.length
  · refine .inr ⟨by rw [← e0] at hlt; exact hlt, Pv (i + 1), fun σ' H' p' => ⟨x.cps.toList.length - (i + 1), by omega, rfl, hlt, p'⟩, ?_⟩
    rintro v H' ⟨rfl, c, hc, rfl⟩
    exact hs i c σ _ (by rw [← hc]; simp) p
  · have e : i = x.cps.toList.length := by omega
    refine .inl ⟨by show x.cps.size ≤ i; omega, hd σ H ?_⟩
    rw [← e]
    exact p
/-- is_name(thing) -/
def spIsName : Sp := fun vs H Q _ => ∃ (d : PyData) (v : V), vs = [v] ∧ TyD H d v ∧ (∀ s, d = .str s → v = .str s ∧ s.length ≤ 1000000) ∧ Q (.bl (isNameD d)) H
/-- names_of(thing) -/
def spNamesOf : Sp := fun vs H Q _ => ∃ (d : PyData) (v : V), vs = [v] ∧ Rep H d v ∧ ShortD d ∧
  (namesD d = none → ∀ H', Same H H' → Q .non H') ∧ ∀ ys, namesD d = some ys → ∀ H' p, Same H H' → H p = none → H' p = some (.lst (ys.map V.str)) → Q (.ref p) H'
/-- lot_among(thing, names) -/
def spLotAmong (K : PySem.W.Frag) : Sp := fun vs H Q _ => ∃ (d : PyData) (v : V) (a : Addr) (ns : List Str), vs = [v, .ref a] ∧ Rep H d v ∧ ShortD d ∧ (SqL K H a (ns.map V.str) ∨ SqT K H a (ns.map V.str)) ∧
  (lotD d ns = none → ∀ H', Same H H' → Q .non H') ∧ ∀ ys, lotD d ns = some ys → ∀ H' p, Same H H' → H p = none → H' p = some (.lst (ys.map V.str)) → Q (.ref p) H'
/-- record_of(thing, names) -/
def spRecordOf (K : PySem.W.Frag) : Sp := fun vs H Q _ => ∃ (d : PyData) (v : V) (a : Addr) (ns : List Str), vs = [v, .ref a] ∧ Rep H d v ∧ Short2 d ∧ (SqL K H a (ns.map V.str) ∨ SqT K H a (ns.map V.str)) ∧
  (rowD d ns = none → ∀ H', Same H H' → Q .non H') ∧ ∀ r w, rowD d ns = some (r, w) → ∀ H' p q s, Same H H' → H p = none → H q = none → H s = none → p ≠ q → p ≠ s → q ≠ s → H' p = some (.tup [.ref q, .ref s]) → H' q = some (.tup (r.map V.str)) → H' s = some (.tup (w.map V.str)) → Q (.ref p) H'
end Lr

namespace PySem
namespace Exthing
open PySem.W PySem.Calls PyProof.Rows PySem.HandSPX
/-! ### the text of __init__ -/
def iA (p1 p2 : Pos) : Arguments := { posonlyargs := [], args := [{ arg := "self", annotation := none, pos := p1 }, { arg := "thing", annotation := none, pos := p2 }], vararg := none, kwonlyargs := [], kw_defaults := [], kwarg := none, defaults := [] }
def iB (q1 q2 q3 q4 : Pos) : List Stmt := [.Assign [.Attribute (.Name "self" q1) "thing" q2] (.Name "thing" q3) q4]
def iS : Scope := { kind := .function, names := [(PySem.Str.ofString "self", .local), (PySem.Str.ofString "thing", .local)], isGenerator := false, isCoroutine := false, more := [] }
/-- what the written part says of Low, at C, and of its __init__, at fI -/
structure Txtthing (cn qn : Str) (K : Frag) (mg : Str → Option Value) (C fI : Addr) : Prop where
  gC : mg cn = some (.ref C)
  cls : ∃ nm q N bs bm sn sub ab col dd k0 k1 k2 k3 k5, K.lookup C = some (excClassObj nm q C N bs bm true sn sub ab col dd k0 k1 k2 k3 k5 "ValueError.__new__") ∧ refsVE bm = true
  sa : findIn K (.ref C) "__setattr__" = some (some (.builtin "object.__setattr__"))
  ga : findIn K (.ref C) "__getattribute__" = some (some (.builtin "BaseException.__getattribute__"))
  gg : findIn K (.ref C) "__getattr__" = some none
  noN : findIn K (.ref C) "thing" = some none
  iC : findIn K (.ref C) "__init__" = some (some (.ref fI))
  tC : typeIn K (.ref fI) = some (.type "function")
  kC : keepIn K (.ref C) = true
  exC : subIn K (.ref C) (.type "BaseException") = some true
  tyC : typeIn K (.ref C) = some (.type "type")
  hdC : hasDictIn K C = true
  te : exmOne K (.ref C) (.ref C) = some true
  fn : ∃ (oc : Value) (od : Option Addr) (doc pm : Value) (an : Option Addr) (cdv ct : Value) (osl : Array (Option Value)) (p1 p2 q1 q2 q3 q4 : Pos),
    K.lookup fI = some ⟨oc, od, .func (fnOf "__init__" qn (iA p1 p2) (iB q1 q2 q3 q4) iS .none .none doc pm an cdv ct), osl⟩ ∧ codeIn K cdv qn = true
theorem one_size_thing (v : Value) : [v].length ≤ sizeLine := by
  rw [sizeLine_eq]
  exact (by decide : 1 ≤ 16777216)
theorem kept_but_thing {K : Frag} {h h' : Heap} {x : Addr} (X : K.In h) (hx : K.lookup x = none) (k : ∀ b o, b ≠ x → h.get? b = some o → h'.get? b = some o) : K.In h' := fun a o e =>
  k a o (fun z => by rw [z, hx] at e; cases e) (X a o e)
theorem ldC_thing {M : Model} {s : Shared} {name : Str} {scope : Scope} {L a : Addr} {cd : Value} {m : Str → Option Value} {x : Str} {pos : Pos} {v : Value} {Q : Value → Shared → Prop} {A : Around} {E : Value → Shared → Prop} (hn : s.heap.Ns L m) (hv : m x = some v) (h : Q v s)
    (hk : scope.kind = .function := by rfl) (hl : (envOfC name scope L a cd).kindOf x = some .local := by rfl) (hd : (x == ("__debug__" : Str)) = false := by decide) :
    wpAny M A (eval (.Name x pos) (envOfC name scope L a cd)) Q E s := wpAny_Name (wpAny_loadName_local hk hl hn hv h) hd
/-- what __init__ leaves of a fresh exception at x -/
structure InitEnd_thing (h h' : Heap) (x C dx t1 : Addr) (v : Value) : Prop where
  keep : ∀ b o, b ≠ x → h.get? b = some o → h'.get? b = some o
  obj : h'.get? x = some { cls := .ref C, dict := some dx, data := .fields #[.ref t1, .none, .none, .none, .bool false, .none] }
  dbig : h.objs.size ≤ dx
  dne : dx ≠ x
  ns : h'.Ns1 dx (fun y => if y = "thing" then some v else none)
/-- a made Low -/
structure OwnMade_thing (h h' : Heap) (e C d : Addr) (v : Value) : Prop where
  keep : ∀ b o, h.get? b = some o → h'.get? b = some o
  new : h.objs.size ≤ e
  obj : ∃ oe vs, h'.get? e = some oe ∧ oe.cls = .ref C ∧ oe.dict = some d ∧ oe.data = .fields vs ∧ vs[1]? = some .none
  dbig : h.objs.size ≤ d
  dne : d ≠ e
  ns : h'.Ns1 d (fun y => if y = "thing" then some v else none)
section
variable {prog : Program} {w : World} {A : Around} {E : Value → Shared → Prop} {R : Result → Shared → Prop} {s : Shared} {K : Frag} {mg : Str → Option Value} {C fI : Addr} {cn qn : Str}
theorem low_init_thing (T : Txtthing cn qn K mg C fI) {x t0 : Addr} {v : Value} (X : K.In s.heap) (hlim : s.heap.NoLimit) (hx : s.heap.get? x = some (excO C t0)) (hnx : K.lookup x = none) (hroom : A.depth < recursionLimit)
    (hq : ∀ h' tk dx, InitEnd_thing s.heap h' x C dx t0 v → R (.ok (.ret .none)) { s with heap := h', toks := tk }) :
    codeAny (model prog w) A (.call (.ref fI) ⟨[.ref x, v], []⟩) R s := by
  obtain ⟨oc, od, doc, pm, an, cdv, ct, osl, p1, p2, q1, q2, q3, q4, ho, hcd⟩ := T.fn
  obtain ⟨nm, q, N, bs, bm, sn, sub, ab, col, dd, k0, k1, k2, k3, k5, hC, hbm⟩ := T.cls
  have hcl : clsIn K C = some { name := nm, bases := bs, mro := .ref C :: bm, ns := N, qualname := q, hasDict := true, slotNames := sn, subclasses := sub, abstract := ab, collection := col, hasDel := false } := by unfold clsIn; rw [hC] <;> rfl
  refine Att.call_fn (binds := [("self", .ref x), ("thing", v)]) X hlim ho hcd hroom (BindsTo.of_eq (by first | rfl | with_unfolding_all rfl)) (by first | rfl | decide | with_unfolding_all rfl) (fun s₁ IC => ?_) rfl rfl rfl
  obtain ⟨h₁, tk₁, rfl⟩ := IC.toInCall.same
  have k : ∀ b o, s.heap.get? b = some o → h₁.get? b = some o := IC.toInCall.keep
  have hn := IC.toInCall.ns
  have hxL : s.heap.objs.size ≠ x := Nat.ne_of_gt (Heap.lt_size hx)
  have X₁ : K.In h₁ := X.keeps k
  have hx₁ := k _ _ hx
  -- self.by = by
  show wpAny _ _ (execs _ _) _ _ _
  refine wpAny_execs_cons (plainObj_wpAny_Assign_Attribute ?_)
  refine ldC_thing (v := v) hn (by first | rfl | with_unfolding_all rfl | kernel_rfl) (ldC_thing (v := .ref x) hn (by first | rfl | with_unfolding_all rfl | kernel_rfl) ?_)
  refine set_plain X₁ (ox := excO C t0) (od := none) ⟨hx₁, rfl, rfl, trivial⟩ T.sa ?_
  refine exc_osa X₁ hx₁ hcl (show refsVE (.ref C :: bm) = true from hbm) rfl T.noN (fun h₃ tk₃ dx k₃ dn dne hx₃ hn₃ => ?_)
  show wpAny _ _ (execs _ _) _ _ _
  have z : s.heap.objs.size < h₁.objs.size := hn.lt
  exact wpAny_execs_nil (hq h₃ tk₃ dx ⟨fun b o hb e => k₃ b o hb (k b o e), hx₃, Nat.le_of_lt (Nat.lt_of_lt_of_le z dn), dne, hn₃⟩)
theorem low_made_thing (T : Txtthing cn qn K mg C fI) {v : Value} (X : K.In s.heap) (hlim : s.heap.NoLimit) (hroom : A.depth + 1 < recursionLimit)
    (hq : ∀ h' tk e d, OwnMade_thing s.heap h' e C d v → R (.ok (.ret (.ref e))) { s with heap := h', toks := tk }) :
    codeAny (model prog w) A (.call (.ref C) ⟨[v], []⟩) R s := by
  obtain ⟨nm, q, N, bs, bm, sn, sub, ab, col, dd, k0, k1, k2, k3, k5, hC, hbm⟩ := T.cls
  obtain ⟨hp, g, dr, tk, os⟩ := s
  have k : ∀ b o, hp.get? b = some o → ((hp.push (kdv_tup [v])).push (excO C hp.objs.size)).get? b = some o := fun b o e => Heap.get?_push_of_some _ (Heap.get?_push_of_some _ e)
  have hget : ((hp.push (kdv_tup [v])).push (excO C hp.objs.size)).get? (hp.objs.size + 1) = some (excO C hp.objs.size) := by heap_get
  have hnx : K.lookup (hp.objs.size + 1) = none := by
    cases e : K.lookup (hp.objs.size + 1) with
    | none => rfl
    | some o =>
      have z : hp.get? (hp.objs.size + 1) = some o := X _ _ e
      exact absurd (Nat.lt_of_succ_lt (Heap.lt_size z)) (Nat.lt_irrefl _)
  refine call_own F.excBase_ValueError (fun X => refsVE_contains X bm hbm) (X _ _ hC) (looks_findIn X T.iC) (fun self => bind_fn X self T.tC) (one_size_thing v) ?_
  refine low_init_thing (s := ⟨(hp.push (kdv_tup [v])).push (excO C hp.objs.size), g, dr, tk, os⟩) T (X.keeps k) (hlim.keeps k) hget hnx ?_ fun h' tk' dx ⟨k', hx, dn, dne, hns⟩ => ?_
  · show A.depth + 1 < recursionLimit
    exact hroom
  · have old : ∀ b o, hp.get? b = some o → h'.get? b = some o := fun b o e => k' b o (Nat.ne_of_lt (Nat.lt_succ_of_lt (Heap.lt_size e))) (k b o e)
    have z : hp.objs.size + 1 + 1 ≤ dx := by
      first
        | (simpa only [Heap.size_push] using dn)
        | exact dn
        | (have q := dn; rw [Heap.size_push, Heap.size_push] at q; exact q)
    exact ⟨rfl, hq h' tk' (hp.objs.size + 1) dx ⟨old, Nat.le_succ _, ⟨_, _, hx, rfl, rfl, rfl, rfl⟩, Nat.le_trans (Nat.le_trans (Nat.le_succ _) (Nat.le_succ _)) z, dne, hns⟩⟩
end
end Exthing
end PySem
namespace L2
open PySem PySem.Spec PyProof.Rows
theorem relO_low_thing {v : V} {v' : Value} (r : RelV v v') (f : Str) : RelO (List.lookup f [(("thing" : Str), v)]) (if f = "thing" then some v' else none) := by
  by_cases hw : f = "thing"
  · subst hw
    rw [if_pos rfl]
    have q : List.lookup ("thing" : Str) [(("thing" : Str), v)] = some v := by simp [List.lookup]
    rw [q]
    exact r
  · rw [if_neg hw]
    have qw : (f == ("thing" : Str)) = false := by simpa using hw
    have q2 : List.lookup f [(("thing" : Str), v)] = none := by simp [List.lookup, qw]
    rw [q2]
    trivial
section
variable {X : Cx} {C fI : Addr} {cn qn : Str}
/-- Low(e) -/
def tMkLow_thing (C : Addr) (ta : TA) : St → Hp → XK → Prop := fun σ H Q => ta σ H fun vs H1 => ∃ v, vs = [v] ∧ ∀ d, H1 d = none → Q (.ref C) (some d) (upd H1 d (.xd [(("thing" : Str), v)]))
theorem pmk_low_thing {a : Expr} {ta : TA} {p pos : Pos} {k : Nat} (T : PySem.Exthing.Txtthing cn qn X.K X.mg C fI) (hr : Room k X.A) (ha : PA X [a] ta) (hg : Gl X cn := by rfl) (hdb : (cn == ("__debug__" : Str)) = false := by decide)
    (he : starEach (a :: []) X.env = (false, eval a X.env) :: starEach [] X.env := by rfl) (hpl : (backTo pos (starEach [] X.env)).any (·.1) = false := by rfl) :
    PMk X (.Call (.Name cn p) [a] [] pos) (tMkLow_thing C ta) := by
  intro pins s σ H Q I h
  refine wpAny_Call_Name_kw (ld_glob I hg T.gC ?_ hdb)
  refine PySem.W.callWith_K (h₀ := X.base) I.ok.mod.kin T.kC (thn (ha.run pos pins s σ H _ I h) fun us s1 hh => ?_) he hpl
  obtain ⟨vs, H1, I1, r1, v, ev, q1⟩ := hh
  subst ev
  refine ⟨I1.kIn, ?_⟩
  cases r1 with
  | cons rv rn =>
    rename_i v' us'
    cases rn
    show wpAny _ _ (call (.ref C) [v']) _ _ _
    have hlim := I1.nolimit
    obtain ⟨hp, g, dr, tk, os⟩ := s1
    refine wpAny_call (PySem.Exthing.low_made_thing T I1.kIn hlim (by have := hr.dp; omega) fun h' tk' e d M => ?_)
    show MkP X pins σ Q (.ref e) ⟨h', g, dr, tk', os⟩
    obtain ⟨oe, fv, hoe, hc, hd, hdat, h1⟩ := M.obj
    have hns := M.ns
    obtain ⟨G', g1, g2⟩ := restrict h' fun b => decide (b ≠ e)
    have gk : ∀ b, b ≠ e → G'.get? b = h'.get? b := fun b hb => g1 b (decide_eq_true hb)
    have ge : G'.get? e = none := g2 e (by simp)
    have old : ∀ b o, hp.get? b = some o → G'.get? b = some o := fun b o q => (gk b (Nat.ne_of_lt (Nat.lt_of_lt_of_le (Heap.lt_size q) M.new))).trans (M.keep b o q)
    have ob : ObjOk X.prog X.w (upd H1 d (.xd [(("thing" : Str), v)])) G' d (.xd [(("thing" : Str), v)]) :=
      ⟨_, hns.at (fun o q => (gk d M.dne).trans q), fun f => relO_low_thing rv f⟩
    have J : Inv X pins σ (upd H1 d (.xd [(("thing" : Str), v)])) ⟨G', g, dr, tk', os⟩ := I1.laid (t' := tk') old M.dbig ob
    refine ⟨e, oe, fv, ⟨G', g, dr, tk', os⟩, _, .ref C, some d, rfl, J, fun b o q => ?_, ge, hoe, ⟨hc, hd⟩, hdat, h1, ?_, rfl, I1.bare, raises_own T.exC T.tyC, q1 d (I1.hok.fresh M.dbig)⟩
    · by_cases hb : b = e
      · have q' : G'.get? b = some o := q
        rw [hb, ge] at q'; cases q'
      · exact (gk b hb).symm.trans q
    · rw [upd_ne (Ne.symm M.dne)]
      exact I1.hok.fresh M.new
/-- raise Low(e) -/
def tRaiseLow_thing (C : Addr) (W : WX) (ta : TA) : TS := fun _ σ H => tMkLow_thing C ta σ H fun cls d H' => W cls d σ H'
theorem ps_raiseLow_thing {a : Expr} {ta : TA} {W : WX} {p pos pos2 : Pos} {k : Nat} (hc : X.calm = true) (T : PySem.Exthing.Txtthing cn qn X.K X.mg C fI) (hr : Room k X.A) (tk : Takes X W) (ha : PA X [a] ta) (hg : Gl X cn := by rfl) (hdb : (cn == ("__debug__" : Str)) = false := by decide)
    (he : starEach (a :: []) X.env = (false, eval a X.env) :: starEach [] X.env := by rfl) (hpl : (backTo pos (starEach [] X.env)).any (·.1) = false := by rfl) :
    PS X (.Raise (some (.Call (.Name cn p) [a] [] pos)) none pos2) (tRaiseLow_thing C W ta) := ps_raise hc tk (pmk_low_thing T hr ha hg hdb he hpl)
/-- low.by, low the exception that the suite holds (at a; its class cls, its dict d) -/
def tByLow_thing (C : Addr) (a : Addr) (cls : Value) (d : Option Addr) (te : TE) : TE := fun σ H Q => te σ H fun x H1 => x = .ref a ∧ cls = .ref C ∧ ∃ (dd : Addr) (v : V), d = some dd ∧ H1 dd = some (.xd [(("thing" : Str), v)]) ∧ Q v H1
theorem pe_byLow_thing {a : Addr} {oe : Obj} {cls : Value} {d : Option Addr} {pn : List (Addr × Obj)} {e : Expr} {te : TE} {pos : Pos} (T : PySem.Exthing.Txtthing cn qn X.K X.mg C fI) (hz : Zc cls d oe) (hf : ∃ vs, oe.data = .fields vs) (he : PE (X.suite a ((a, oe) :: pn)) e te)
    (hb : attributeBase e "thing" X.env (eval e X.env) = eval e X.env := by rfl) :
    PE (X.suite a ((a, oe) :: pn)) (.Attribute e "thing" pos) (tByLow_thing C a cls d te) := by
  refine ⟨fun pins s σ H Q I h => ?_⟩
  refine attr_of hb (thn (he.run pins s σ H _ I h) fun u s1 hh => ?_)
  obtain ⟨x, H1, I1, rx, ex, ec, dd, v, ed, ea, q⟩ := hh
  subst ex
  obtain rfl : u = Value.ref a := rx
  subst ec
  subst ed
  obtain ⟨ha, _⟩ := I1.pin (a, oe) (List.mem_append_left _ List.mem_cons_self)
  obtain ⟨vs, hd⟩ := hf
  have hx : ObjOk X.prog X.w H1 s1.heap dd (.xd [(("thing" : Str), v)]) := I1.hok dd _ ea
  obtain ⟨mA, hns, hr⟩ := hx
  obtain ⟨od, ho, hl⟩ := lookIn_ns hns
  have l : List.lookup ("thing" : Str) [(("thing" : Str), v)] = some v := by simp [List.lookup]
  obtain ⟨u, hu, ru⟩ := RelO.some_of (v := v) (o := mA "thing") (by rw [← l]; exact hr "thing")
  have J : PySem.W.InstAt s1.heap a oe C (some od) := ⟨ha, hz.1, by unfold PySem.W.notCls; rw [hd] <;> rfl, by rw [hz.2]; exact ho⟩
  exact HandSPX.exc_get I1.kIn J T.ga T.gg T.exC (PySem.W.findObj_own T.hdC T.noN rfl (by rw [hl, hu])) (handed_of ru) ⟨v, H1, I1.tok _, ru, q⟩
end
end L2

namespace PySem
namespace Exindex
open PySem.W PySem.Calls PyProof.Rows PySem.HandSPX
/-! ### the text of __init__ -/
def iA (p1 p2 : Pos) : Arguments := { posonlyargs := [], args := [{ arg := "self", annotation := none, pos := p1 }, { arg := "index", annotation := none, pos := p2 }], vararg := none, kwonlyargs := [], kw_defaults := [], kwarg := none, defaults := [] }
def iB (q1 q2 q3 q4 : Pos) : List Stmt := [.Assign [.Attribute (.Name "self" q1) "index" q2] (.Name "index" q3) q4]
def iS : Scope := { kind := .function, names := [(PySem.Str.ofString "self", .local), (PySem.Str.ofString "index", .local)], isGenerator := false, isCoroutine := false, more := [] }
/-- what the written part says of Low, at C, and of its __init__, at fI -/
structure Txtindex (cn qn : Str) (K : Frag) (mg : Str → Option Value) (C fI : Addr) : Prop where
  gC : mg cn = some (.ref C)
  cls : ∃ nm q N bs bm sn sub ab col dd k0 k1 k2 k3 k5, K.lookup C = some (excClassObj nm q C N bs bm true sn sub ab col dd k0 k1 k2 k3 k5 "ValueError.__new__") ∧ refsVE bm = true
  sa : findIn K (.ref C) "__setattr__" = some (some (.builtin "object.__setattr__"))
  ga : findIn K (.ref C) "__getattribute__" = some (some (.builtin "BaseException.__getattribute__"))
  gg : findIn K (.ref C) "__getattr__" = some none
  noN : findIn K (.ref C) "index" = some none
  iC : findIn K (.ref C) "__init__" = some (some (.ref fI))
  tC : typeIn K (.ref fI) = some (.type "function")
  kC : keepIn K (.ref C) = true
  exC : subIn K (.ref C) (.type "BaseException") = some true
  tyC : typeIn K (.ref C) = some (.type "type")
  hdC : hasDictIn K C = true
  te : exmOne K (.ref C) (.ref C) = some true
  fn : ∃ (oc : Value) (od : Option Addr) (doc pm : Value) (an : Option Addr) (cdv ct : Value) (osl : Array (Option Value)) (p1 p2 q1 q2 q3 q4 : Pos),
    K.lookup fI = some ⟨oc, od, .func (fnOf "__init__" qn (iA p1 p2) (iB q1 q2 q3 q4) iS .none .none doc pm an cdv ct), osl⟩ ∧ codeIn K cdv qn = true
theorem one_size_index (v : Value) : [v].length ≤ sizeLine := by
  rw [sizeLine_eq]
  exact (by decide : 1 ≤ 16777216)
theorem kept_but_index {K : Frag} {h h' : Heap} {x : Addr} (X : K.In h) (hx : K.lookup x = none) (k : ∀ b o, b ≠ x → h.get? b = some o → h'.get? b = some o) : K.In h' := fun a o e =>
  k a o (fun z => by rw [z, hx] at e; cases e) (X a o e)
theorem ldC_index {M : Model} {s : Shared} {name : Str} {scope : Scope} {L a : Addr} {cd : Value} {m : Str → Option Value} {x : Str} {pos : Pos} {v : Value} {Q : Value → Shared → Prop} {A : Around} {E : Value → Shared → Prop} (hn : s.heap.Ns L m) (hv : m x = some v) (h : Q v s)
    (hk : scope.kind = .function := by rfl) (hl : (envOfC name scope L a cd).kindOf x = some .local := by rfl) (hd : (x == ("__debug__" : Str)) = false := by decide) :
    wpAny M A (eval (.Name x pos) (envOfC name scope L a cd)) Q E s := wpAny_Name (wpAny_loadName_local hk hl hn hv h) hd
/-- what __init__ leaves of a fresh exception at x -/
structure InitEnd_index (h h' : Heap) (x C dx t1 : Addr) (v : Value) : Prop where
  keep : ∀ b o, b ≠ x → h.get? b = some o → h'.get? b = some o
  obj : h'.get? x = some { cls := .ref C, dict := some dx, data := .fields #[.ref t1, .none, .none, .none, .bool false, .none] }
  dbig : h.objs.size ≤ dx
  dne : dx ≠ x
  ns : h'.Ns1 dx (fun y => if y = "index" then some v else none)
/-- a made Low -/
structure OwnMade_index (h h' : Heap) (e C d : Addr) (v : Value) : Prop where
  keep : ∀ b o, h.get? b = some o → h'.get? b = some o
  new : h.objs.size ≤ e
  obj : ∃ oe vs, h'.get? e = some oe ∧ oe.cls = .ref C ∧ oe.dict = some d ∧ oe.data = .fields vs ∧ vs[1]? = some .none
  dbig : h.objs.size ≤ d
  dne : d ≠ e
  ns : h'.Ns1 d (fun y => if y = "index" then some v else none)
section
variable {prog : Program} {w : World} {A : Around} {E : Value → Shared → Prop} {R : Result → Shared → Prop} {s : Shared} {K : Frag} {mg : Str → Option Value} {C fI : Addr} {cn qn : Str}
theorem low_init_index (T : Txtindex cn qn K mg C fI) {x t0 : Addr} {v : Value} (X : K.In s.heap) (hlim : s.heap.NoLimit) (hx : s.heap.get? x = some (excO C t0)) (hnx : K.lookup x = none) (hroom : A.depth < recursionLimit)
    (hq : ∀ h' tk dx, InitEnd_index s.heap h' x C dx t0 v → R (.ok (.ret .none)) { s with heap := h', toks := tk }) :
    codeAny (model prog w) A (.call (.ref fI) ⟨[.ref x, v], []⟩) R s := by
  obtain ⟨oc, od, doc, pm, an, cdv, ct, osl, p1, p2, q1, q2, q3, q4, ho, hcd⟩ := T.fn
  obtain ⟨nm, q, N, bs, bm, sn, sub, ab, col, dd, k0, k1, k2, k3, k5, hC, hbm⟩ := T.cls
  have hcl : clsIn K C = some { name := nm, bases := bs, mro := .ref C :: bm, ns := N, qualname := q, hasDict := true, slotNames := sn, subclasses := sub, abstract := ab, collection := col, hasDel := false } := by unfold clsIn; rw [hC] <;> rfl
  refine Att.call_fn (binds := [("self", .ref x), ("index", v)]) X hlim ho hcd hroom (BindsTo.of_eq (by first | rfl | with_unfolding_all rfl)) (by first | rfl | decide | with_unfolding_all rfl) (fun s₁ IC => ?_) rfl rfl rfl
  obtain ⟨h₁, tk₁, rfl⟩ := IC.toInCall.same
  have k : ∀ b o, s.heap.get? b = some o → h₁.get? b = some o := IC.toInCall.keep
  have hn := IC.toInCall.ns
  have hxL : s.heap.objs.size ≠ x := Nat.ne_of_gt (Heap.lt_size hx)
  have X₁ : K.In h₁ := X.keeps k
  have hx₁ := k _ _ hx
  -- self.by = by
  show wpAny _ _ (execs _ _) _ _ _
  refine wpAny_execs_cons (plainObj_wpAny_Assign_Attribute ?_)
  refine ldC_index (v := v) hn (by first | rfl | with_unfolding_all rfl | kernel_rfl) (ldC_index (v := .ref x) hn (by first | rfl | with_unfolding_all rfl | kernel_rfl) ?_)
  refine set_plain X₁ (ox := excO C t0) (od := none) ⟨hx₁, rfl, rfl, trivial⟩ T.sa ?_
  refine exc_osa X₁ hx₁ hcl (show refsVE (.ref C :: bm) = true from hbm) rfl T.noN (fun h₃ tk₃ dx k₃ dn dne hx₃ hn₃ => ?_)
  show wpAny _ _ (execs _ _) _ _ _
  have z : s.heap.objs.size < h₁.objs.size := hn.lt
  exact wpAny_execs_nil (hq h₃ tk₃ dx ⟨fun b o hb e => k₃ b o hb (k b o e), hx₃, Nat.le_of_lt (Nat.lt_of_lt_of_le z dn), dne, hn₃⟩)
theorem low_made_index (T : Txtindex cn qn K mg C fI) {v : Value} (X : K.In s.heap) (hlim : s.heap.NoLimit) (hroom : A.depth + 1 < recursionLimit)
    (hq : ∀ h' tk e d, OwnMade_index s.heap h' e C d v → R (.ok (.ret (.ref e))) { s with heap := h', toks := tk }) :
    codeAny (model prog w) A (.call (.ref C) ⟨[v], []⟩) R s := by
  obtain ⟨nm, q, N, bs, bm, sn, sub, ab, col, dd, k0, k1, k2, k3, k5, hC, hbm⟩ := T.cls
  obtain ⟨hp, g, dr, tk, os⟩ := s
  have k : ∀ b o, hp.get? b = some o → ((hp.push (kdv_tup [v])).push (excO C hp.objs.size)).get? b = some o := fun b o e => Heap.get?_push_of_some _ (Heap.get?_push_of_some _ e)
  have hget : ((hp.push (kdv_tup [v])).push (excO C hp.objs.size)).get? (hp.objs.size + 1) = some (excO C hp.objs.size) := by heap_get
  have hnx : K.lookup (hp.objs.size + 1) = none := by
    cases e : K.lookup (hp.objs.size + 1) with
    | none => rfl
    | some o =>
      have z : hp.get? (hp.objs.size + 1) = some o := X _ _ e
      exact absurd (Nat.lt_of_succ_lt (Heap.lt_size z)) (Nat.lt_irrefl _)
  refine call_own F.excBase_ValueError (fun X => refsVE_contains X bm hbm) (X _ _ hC) (looks_findIn X T.iC) (fun self => bind_fn X self T.tC) (one_size_index v) ?_
  refine low_init_index (s := ⟨(hp.push (kdv_tup [v])).push (excO C hp.objs.size), g, dr, tk, os⟩) T (X.keeps k) (hlim.keeps k) hget hnx ?_ fun h' tk' dx ⟨k', hx, dn, dne, hns⟩ => ?_
  · show A.depth + 1 < recursionLimit
    exact hroom
  · have old : ∀ b o, hp.get? b = some o → h'.get? b = some o := fun b o e => k' b o (Nat.ne_of_lt (Nat.lt_succ_of_lt (Heap.lt_size e))) (k b o e)
    have z : hp.objs.size + 1 + 1 ≤ dx := by
      first
        | (simpa only [Heap.size_push] using dn)
        | exact dn
        | (have q := dn; rw [Heap.size_push, Heap.size_push] at q; exact q)
    exact ⟨rfl, hq h' tk' (hp.objs.size + 1) dx ⟨old, Nat.le_succ _, ⟨_, _, hx, rfl, rfl, rfl, rfl⟩, Nat.le_trans (Nat.le_trans (Nat.le_succ _) (Nat.le_succ _)) z, dne, hns⟩⟩
end
end Exindex
end PySem
namespace L2
open PySem PySem.Spec PyProof.Rows
theorem relO_low_index {v : V} {v' : Value} (r : RelV v v') (f : Str) : RelO (List.lookup f [(("index" : Str), v)]) (if f = "index" then some v' else none) := by
  by_cases hw : f = "index"
  · subst hw
    rw [if_pos rfl]
    have q : List.lookup ("index" : Str) [(("index" : Str), v)] = some v := by simp [List.lookup]
    rw [q]
    exact r
  · rw [if_neg hw]
    have qw : (f == ("index" : Str)) = false := by simpa using hw
    have q2 : List.lookup f [(("index" : Str), v)] = none := by simp [List.lookup, qw]
    rw [q2]
    trivial
section
variable {X : Cx} {C fI : Addr} {cn qn : Str}
/-- Low(e) -/
def tMkLow_index (C : Addr) (ta : TA) : St → Hp → XK → Prop := fun σ H Q => ta σ H fun vs H1 => ∃ v, vs = [v] ∧ ∀ d, H1 d = none → Q (.ref C) (some d) (upd H1 d (.xd [(("index" : Str), v)]))
theorem pmk_low_index {a : Expr} {ta : TA} {p pos : Pos} {k : Nat} (T : PySem.Exindex.Txtindex cn qn X.K X.mg C fI) (hr : Room k X.A) (ha : PA X [a] ta) (hg : Gl X cn := by rfl) (hdb : (cn == ("__debug__" : Str)) = false := by decide)
    (he : starEach (a :: []) X.env = (false, eval a X.env) :: starEach [] X.env := by rfl) (hpl : (backTo pos (starEach [] X.env)).any (·.1) = false := by rfl) :
    PMk X (.Call (.Name cn p) [a] [] pos) (tMkLow_index C ta) := by
  intro pins s σ H Q I h
  refine wpAny_Call_Name_kw (ld_glob I hg T.gC ?_ hdb)
  refine PySem.W.callWith_K (h₀ := X.base) I.ok.mod.kin T.kC (thn (ha.run pos pins s σ H _ I h) fun us s1 hh => ?_) he hpl
  obtain ⟨vs, H1, I1, r1, v, ev, q1⟩ := hh
  subst ev
  refine ⟨I1.kIn, ?_⟩
  cases r1 with
  | cons rv rn =>
    rename_i v' us'
    cases rn
    show wpAny _ _ (call (.ref C) [v']) _ _ _
    have hlim := I1.nolimit
    obtain ⟨hp, g, dr, tk, os⟩ := s1
    refine wpAny_call (PySem.Exindex.low_made_index T I1.kIn hlim (by have := hr.dp; omega) fun h' tk' e d M => ?_)
    show MkP X pins σ Q (.ref e) ⟨h', g, dr, tk', os⟩
    obtain ⟨oe, fv, hoe, hc, hd, hdat, h1⟩ := M.obj
    have hns := M.ns
    obtain ⟨G', g1, g2⟩ := restrict h' fun b => decide (b ≠ e)
    have gk : ∀ b, b ≠ e → G'.get? b = h'.get? b := fun b hb => g1 b (decide_eq_true hb)
    have ge : G'.get? e = none := g2 e (by simp)
    have old : ∀ b o, hp.get? b = some o → G'.get? b = some o := fun b o q => (gk b (Nat.ne_of_lt (Nat.lt_of_lt_of_le (Heap.lt_size q) M.new))).trans (M.keep b o q)
    have ob : ObjOk X.prog X.w (upd H1 d (.xd [(("index" : Str), v)])) G' d (.xd [(("index" : Str), v)]) :=
      ⟨_, hns.at (fun o q => (gk d M.dne).trans q), fun f => relO_low_index rv f⟩
    have J : Inv X pins σ (upd H1 d (.xd [(("index" : Str), v)])) ⟨G', g, dr, tk', os⟩ := I1.laid (t' := tk') old M.dbig ob
    refine ⟨e, oe, fv, ⟨G', g, dr, tk', os⟩, _, .ref C, some d, rfl, J, fun b o q => ?_, ge, hoe, ⟨hc, hd⟩, hdat, h1, ?_, rfl, I1.bare, raises_own T.exC T.tyC, q1 d (I1.hok.fresh M.dbig)⟩
    · by_cases hb : b = e
      · have q' : G'.get? b = some o := q
        rw [hb, ge] at q'; cases q'
      · exact (gk b hb).symm.trans q
    · rw [upd_ne (Ne.symm M.dne)]
      exact I1.hok.fresh M.new
/-- raise Low(e) -/
def tRaiseLow_index (C : Addr) (W : WX) (ta : TA) : TS := fun _ σ H => tMkLow_index C ta σ H fun cls d H' => W cls d σ H'
theorem ps_raiseLow_index {a : Expr} {ta : TA} {W : WX} {p pos pos2 : Pos} {k : Nat} (hc : X.calm = true) (T : PySem.Exindex.Txtindex cn qn X.K X.mg C fI) (hr : Room k X.A) (tk : Takes X W) (ha : PA X [a] ta) (hg : Gl X cn := by rfl) (hdb : (cn == ("__debug__" : Str)) = false := by decide)
    (he : starEach (a :: []) X.env = (false, eval a X.env) :: starEach [] X.env := by rfl) (hpl : (backTo pos (starEach [] X.env)).any (·.1) = false := by rfl) :
    PS X (.Raise (some (.Call (.Name cn p) [a] [] pos)) none pos2) (tRaiseLow_index C W ta) := ps_raise hc tk (pmk_low_index T hr ha hg hdb he hpl)
/-- low.by, low the exception that the suite holds (at a; its class cls, its dict d) -/
def tByLow_index (C : Addr) (a : Addr) (cls : Value) (d : Option Addr) (te : TE) : TE := fun σ H Q => te σ H fun x H1 => x = .ref a ∧ cls = .ref C ∧ ∃ (dd : Addr) (v : V), d = some dd ∧ H1 dd = some (.xd [(("index" : Str), v)]) ∧ Q v H1
theorem pe_byLow_index {a : Addr} {oe : Obj} {cls : Value} {d : Option Addr} {pn : List (Addr × Obj)} {e : Expr} {te : TE} {pos : Pos} (T : PySem.Exindex.Txtindex cn qn X.K X.mg C fI) (hz : Zc cls d oe) (hf : ∃ vs, oe.data = .fields vs) (he : PE (X.suite a ((a, oe) :: pn)) e te)
    (hb : attributeBase e "index" X.env (eval e X.env) = eval e X.env := by rfl) :
    PE (X.suite a ((a, oe) :: pn)) (.Attribute e "index" pos) (tByLow_index C a cls d te) := by
  refine ⟨fun pins s σ H Q I h => ?_⟩
  refine attr_of hb (thn (he.run pins s σ H _ I h) fun u s1 hh => ?_)
  obtain ⟨x, H1, I1, rx, ex, ec, dd, v, ed, ea, q⟩ := hh
  subst ex
  obtain rfl : u = Value.ref a := rx
  subst ec
  subst ed
  obtain ⟨ha, _⟩ := I1.pin (a, oe) (List.mem_append_left _ List.mem_cons_self)
  obtain ⟨vs, hd⟩ := hf
  have hx : ObjOk X.prog X.w H1 s1.heap dd (.xd [(("index" : Str), v)]) := I1.hok dd _ ea
  obtain ⟨mA, hns, hr⟩ := hx
  obtain ⟨od, ho, hl⟩ := lookIn_ns hns
  have l : List.lookup ("index" : Str) [(("index" : Str), v)] = some v := by simp [List.lookup]
  obtain ⟨u, hu, ru⟩ := RelO.some_of (v := v) (o := mA "index") (by rw [← l]; exact hr "index")
  have J : PySem.W.InstAt s1.heap a oe C (some od) := ⟨ha, hz.1, by unfold PySem.W.notCls; rw [hd] <;> rfl, by rw [hz.2]; exact ho⟩
  exact HandSPX.exc_get I1.kIn J T.ga T.gg T.exC (PySem.W.findObj_own T.hdC T.noN rfl (by rw [hl, hu])) (handed_of ru) ⟨v, H1, I1.tok _, ru, q⟩
end
end L2


/-! # An object made where its making may raise; several clauses that name the error -/
namespace Lr
open PySem PySem.Spec PyProof.Rows L2
section
variable {X : Cx} {CX : CXT} {k : Nat} {f C : Addr} {fd : FuncData} {ps : List Str} {sp : Sp} {E : L2.St → XK} {x : Str} {p pos : Pos} {e : Expr} {es : List Expr} {t : TA}
/-- C(..) with what is wished of an exception at the maker's slots -/
def tMakeS (C : Addr) (sp : Sp) (E : L2.St → XK) (t : TA) : TE := fun σ H Q => t σ H fun vs H1 => ∀ x dx, H1 x = none → H1 dx = none → dx ≠ x →
  sp (.ref x :: vs) (upd (upd H1 dx (.own x)) x (.ins C dx [])) (fun v H2 => v = .non ∧ Q (.ref x) H2) (E σ)
/-- the maker of a class: its __init__ -/
structure MkC (P : Program) (w : World) (K : PySem.W.Frag) (mg : Str → Option Value) (base : Heap) (CX : CXT) (k : Nat) (x : Str) (C : Addr) (ps : List Str) (sp : Sp) : Prop where
  ex : ∃ (f : Addr) (fd : FuncData), Mk K C f ∧ FnOk P w K mg base CX k f fd ps sp ∧ Binds K fd ps []
  mg : mg x = some (.ref C)
theorem pmkS (M : MkC X.prog X.w X.K X.mg X.base CX k x C ps sp) (hr : Room (k + 1) X.A) (hx : ∀ σ, PassesAt CX X σ (E σ))
    (ha : PA X (e :: es) t) (hg : Gl X x := by rfl) (hdb : (x == ("__debug__" : Str)) = false := by decide) (he : starEach (e :: es) X.env = (false, eval e X.env) :: starEach es X.env := by rfl) (hpl : (backTo pos (starEach es X.env)).any (·.1) = false := by rfl) :
    PE X (.Call (.Name x p) (e :: es) [] pos) (tMakeS C sp E t) := by
  obtain ⟨f, fd, m, F, hb⟩ := M.ex
  refine ⟨fun pins s σ H Q I h => ?_⟩
  refine wpAny_Call_Name_kw (ld_glob I hg M.mg ?_ hdb)
  refine PySem.W.callWith_K (h₀ := X.base) I.ok.mod.kin m.kp (thn (ha.run pos pins s σ H _ I h) fun us s1 hh => ?_) he hpl
  obtain ⟨vs, H1, I1, r, q⟩ := hh
  refine ⟨I1.kIn, ?_⟩
  have new1 : H1 (s1.heap.objs.size + 1) = none := I1.hok.fresh (Nat.le_succ _)
  have new0 : H1 s1.heap.objs.size = none := I1.hok.fresh (Nat.le_refl _)
  have hq := q (s1.heap.objs.size + 1) s1.heap.objs.size new1 new0 (Nat.ne_of_lt (Nat.lt_succ_self _))
  have I2 := Inv.made (C := C) I1
  have r2 : Vals (V.ref (s1.heap.objs.size + 1) :: vs) (Value.ref (s1.heap.objs.size + 1) :: us) := .cons rfl r
  have hl : (Value.ref (s1.heap.objs.size + 1) :: us).length = ps.length := by
    have el := r2.length
    rw [F.len _ _ _ _ hq] at el
    exact el.symm
  have hbd := hb _ (Value.ref (s1.heap.objs.size + 1) :: us) I2.kIn (by rw [List.append_nil]; exact hl)
  rw [List.append_nil] at hbd
  refine wpAny_call (make_map (f := f) I1.kIn m.makes m.init (beq_iff_eq.mp m.fn) (codeAny_mono (F.run _ X.stack _ _ ⟨Value.ref (s1.heap.objs.size + 1) :: us, []⟩ (Value.ref (s1.heap.objs.size + 1) :: us) _ _ (E σ) (hr.make C us [])
    (I2.env0.make C us []) hbd r2 hq) fun r s' hq' => ?_))
  cases r with
  | error er => exact hx σ pins _ _ er s' I2 hq'
  | ok fl =>
    cases fl with
    | ret u =>
      obtain ⟨v, H', I3, rv, ev, q3⟩ := I2.after hq'
      subst ev
      exact ⟨rv, ⟨V.ref (s1.heap.objs.size + 1), H', I3, rfl, q3⟩⟩
    | next => exact False.elim hq'
    | brk => exact False.elim hq'
    | cont => exact False.elim hq'
theorem passesAt0 {X : Cx} : ∀ σ : L2.St, PassesAt (L2.CX X.prog X.w) X σ E0 := fun σ pins H s e s' I h => passL pins σ H s e s' I h
/-- .. where nothing is raised -/
theorem pmk (M : MkC X.prog X.w X.K X.mg X.base (L2.CX X.prog X.w) k x C ps sp) {k' : Nat} (hr : Room k' X.A) (ha : PA X (e :: es) t) (hk : k + 1 ≤ k' := by omega) (hg : Gl X x := by rfl)
    (hdb : (x == ("__debug__" : Str)) = false := by decide) (he : starEach (e :: es) X.env = (false, eval e X.env) :: starEach es X.env := by rfl) (hpl : (backTo pos (starEach es X.env)).any (·.1) = false := by rfl) :
    PE X (.Call (.Name x p) (e :: es) [] pos) (tMakeS C sp (fun _ => E0) t) := pmkS M (hr.mono hk) passesAt0 ha hg hdb he hpl
end
/-- what the clauses «except c as n» wish, one after the other; all names stand in slot i -/
def wAsMany (K : PySem.W.Frag) (i : Nat) (Wout : WX) (D : Ends) : List (Value × (Addr → Value → Option Addr → TS)) → WX
  | [] => Wout
  | (c, ts) :: r => fun cls d σ H => ∃ b, PySem.W.exmOne K cls c = some b ∧
    (b = true → ∀ a, H a = none → ts a cls d { nx := fun σ' H' => D.nx (σ'.set i none) H', rt := D.rt, bk := fun σ' H' => D.bk (σ'.set i none) H', ct := fun σ' H' => D.ct (σ'.set i none) H' } (σ.set i (some (.ref a))) H) ∧
    (b = false → wAsMany K i Wout D r cls d σ H)
inductive HdsAs (X : Cx) (n : Str) : List ExceptHandler → List (Value × (Addr → Value → Option Addr → TS)) → Prop
  | nil : HdsAs X n [] []
  | cons {x : Str} {c : Value} {ts : Addr → Value → Option Addr → TS} {b0 : Stmt} {suite : List Stmt} {np pos' : Pos} {hds : List ExceptHandler} {l : List (Value × (Addr → Value → Option Addr → TS))} (hc : Names X x c)
      (hsu : ∀ (a : Addr) (oe : Obj) (cls : Value) (d : Option Addr) (pn : List (Addr × Obj)), Zc cls d oe → (∃ vs, oe.data = .fields vs) → PSs (X.suite a ((a, oe) :: pn)) (b0 :: suite) (ts a cls d)) (r : HdsAs X n hds l) :
      HdsAs X n (.ExceptHandler (some (.Name x np)) (some n) (b0 :: suite) pos' :: hds) ((c, ts) :: l)
section
variable {X : Cx} {body : List Stmt} {h0 : ExceptHandler} {hds : List ExceptHandler} {l : List (Value × (Addr → Value → Option Addr → TS))} {pos : Pos} {tb : WX → TS} {Wout : WX} {n : Str} {i : Nat}
theorem ps_try_asMany (hs : X.stack = X.env :: X.outer) (hf : X.env.frame = some X.env.locals) (hN : X.N.Nodup) (hi : X.N[i]? = some n) (hln : X.env.kindOf n = some .local) (tk : Takes X Wout)
    (hb : ∀ (W : WX) (pn : List (Addr × Obj)) (xe : Value → Shared → Prop), Takes (X.tr pn xe) W → PassesOwn (model X.prog X.w) X.A X.env xe → PSs (X.tr pn xe) body (tb W))
    (hh : HdsAs X n (h0 :: hds) l) : PS X (.Try body (h0 :: hds) [] [] pos) (fun D σ H => tb (wAsMany X.K i Wout D l) D σ H) := by
  refine ⟨fun pins s σ H D I h => ?_⟩
  have ok := I.ok
  have hfr : X.A.frames = some (X.env :: X.outer) := ok.frames.trans (congrArg some hs)
  have hloc : Loc X.env.scope n := .inl hln
  refine wpAny_Try_except ?_
  refine wpAny_mono ((hb (wAsMany X.K i Wout D l) (X.pn ++ pins) (fun e s1 => wpAny (model X.prog X.w) X.A (noteFrame e X.env) (fun _ s2 => wpAny (model X.prog X.w) X.A (setFlight e none) (fun _ s3 =>
    wpAny (model X.prog X.w) X.A (handleBy e X.env (h0 :: hds)) (SP X pins D) X.xe s3) X.xe s2) X.xe s1) (fun u s' xx => ?_) PassesOwn.looking).run [] s σ H D (I.toTry _) h) (fun fl s1 hsp => ?_) (fun e s1 he => he)
  · obtain ⟨a, B, sI, pins', σ', H', cls, d, rfl, J', nb, up, sky, na, os, ag, w⟩ := xx
    have J : Inv X pins σ' H' sI := J'.ofTry ok
    have sky' : Sky B (X.env :: X.outer) a (Zc cls d) X.env.locals s'.heap := by
      rw [← hs]
      exact sky
    show wpAny (model X.prog X.w) X.A (noteFrame (.ref a) X.env) _ _ _
    refine Sky.land Zc.steady hfr hf sky' fun h3 fl3 up3 => ?_
    have J3 : Inv X pins σ' H' { s' with heap := h3 } := J.landed nb fl3.1 (up.trans up3) os ag
    obtain ⟨oe3, vs3, he3, hz3, hd3⟩ := fl3.there
    have nfr : a ∉ frs (X.env :: X.outer) := fun hm => by
      obtain ⟨_, o', e', hnf⟩ := fl3.2.2.1.mem hm
      rw [he3] at e'
      cases e'
      exact hnf _ hd3
    have nL : a ≠ X.env.locals := fun z => nfr (List.mem_filterMap.mpr ⟨X.env, List.mem_cons_self, hf.trans (congrArg some z.symm)⟩)
    have nF : a ∉ X.fs := fun hm => by
      obtain ⟨e, he, q⟩ := List.mem_filterMap.mp hm
      exact nfr (List.mem_filterMap.mpr ⟨e, List.mem_cons_of_mem _ he, q⟩)
    have S3 := J3.suite he3 hd3 na nL nF
    have go : ∀ {hds' : List ExceptHandler} {l' : List (Value × (Addr → Value → Option Addr → TS))}, HdsAs X n hds' l' → wAsMany X.K i Wout D l' cls d σ' H' →
        wpAny (model X.prog X.w) X.A (handleBy (.ref a) X.env hds') (SP X pins D) X.xe { s' with heap := h3 } := by
      intro hds' l' hk
      induction hk with
      | nil =>
        intro w
        refine wpAny_handleBy_nil ?_
        obtain ⟨k1, k2, k3, oe, vs, T, oT, ts', he, hz, hd, h1, hr⟩ := id fl3
        unfold PySem.passOn
        refine wpAny_bind (wpAny_field he hd h1 ?_)
        rw [if_neg (show ¬ ((Value.ref T == Value.none) = true) from by simp)]
        have fin : wpAny (model X.prog X.w) X.A (setFlight (.ref a) X.env.frame) (fun _ s4 => wpAny (model X.prog X.w) X.A (throw (.ref a) : Sem Flow) (SP X pins D) X.xe s4) X.xe { s' with heap := h3 } := by
          rw [hf]
          refine HandSPX.setFlight_upZ fl3 fun h4 hh4 up4 => wpAny_throw (tk _ _ ?_)
          exact ⟨a, B, sI, pins, σ', H', cls, d, rfl, J, nb, (up.trans up3).trans up4, .inr (.inr (by rw [hs]; exact hh4)), na, os, ag, w⟩
        first
          | exact wpAny_bind (wpAny_pure (wpAny_bind fin))
          | exact wpAny_bind fin
      | @cons x c ts b0 suite np pos' hds2 l2 hc hsu r ih =>
        intro w
        obtain ⟨b, hb1, hyes, hno⟩ := w
        refine wpAny_handleBy_cons (codeAny_handlers_test ?_) (by intro q; cases q)
        have LT : PySem.W.Looks (model X.prog X.w) h3 (typeOf (.ref a)) cls := fun A Q E s k q => wpAny_typeOf_ref (k _ _ he3) (by rw [hz3.1]; exact q)
        have LM := PySem.W.exm_one (M := model X.prog X.w) (J3.kIn) LT hb1
        have test : ∀ {Q : Value → Shared → Prop} {E : Value → Shared → Prop}, Q c { s' with heap := h3 } → wpAny (model X.prog X.w) (X.A.mark (some (.ref a))) (eval (.Name x np) X.env) Q E { s' with heap := h3 } := fun {Q E} q => by
          obtain ⟨hg, hdbg, hm | ⟨hm, hv, hnn⟩⟩ := hc
          · exact ld_glob (X := X.suite a ((a, oe3) :: (X.pn ++ pins))) S3 hg hm q hdbg
          · exact ld_blt (X := X.suite a ((a, oe3) :: (X.pn ++ pins))) S3 hg hm hv q hnn hdbg
        refine test (LM.here ?_)
        cases b with
        | true =>
          refine codeAny_handlers_suite_as ?_
          refine HandSPX.lands_againZ fl3 fun h4 fl4 up4 => ?_
          have J4 : Inv X pins σ' H' { s' with heap := h4 } := J.landed nb fl4.1 ((up.trans up3).trans up4) os ag
          obtain ⟨oe4, vs4, he4, hz4, hd4⟩ := fl4.there
          have S4 := J4.suite he4 hd4 na nL nF
          refine store_ok (X := X.suite a ((a, oe4) :: (X.pn ++ pins))) (v := .ref a) S4 hN hi hloc rfl (fun s5 S5 => ?_) (.inr hln)
          refine wpAny_mono ((hsu a oe4 cls d (X.pn ++ pins) hz4 ⟨_, hd4⟩).run [] s5 _ H' _ S5 (hyes rfl a na)) (fun f s6 hsp => ?_) (fun _ _ z => False.elim z)
          have end_ : ∀ {σ6 : L2.St} {H6 : Hp} {Q : Shared → Prop}, Inv (X.suite a ((a, oe4) :: (X.pn ++ pins))) [] σ6 H6 s6 → (∀ s7, Inv X pins (σ6.set i none) H6 s7 → Q s7) →
              wpAny (model X.prog X.w) X.A (do bindName X.env n .none; unbindBehindTheSuite X.env n pos') (fun _ s7 => Q s7) X.xe s6 := fun {σ6 H6 Q} S6 hq => gone_ok (S6.unsuite ok) hN hi hln hq
          cases f with
          | next =>
            obtain ⟨σ6, H6, S6, q6⟩ := hsp
            exact end_ S6 fun s7 J7 => ⟨_, _, J7, q6⟩
          | brk =>
            obtain ⟨σ6, H6, S6, q6⟩ := hsp
            exact end_ S6 fun s7 J7 => ⟨_, _, J7, q6⟩
          | cont =>
            obtain ⟨σ6, H6, S6, q6⟩ := hsp
            exact end_ S6 fun s7 J7 => ⟨_, _, J7, q6⟩
          | ret u =>
            obtain ⟨v6, σ6, H6, S6, r6, q6⟩ := hsp
            exact end_ S6 fun s7 J7 => ⟨_, _, _, J7, r6, q6⟩
        | false =>
          show wpAny _ X.A (handleBy (.ref a) X.env hds2) _ _ _
          exact ih (hno rfl)
    exact go hh w
  · cases fl with
    | next =>
      obtain ⟨σ', H', J', q⟩ := hsp
      exact wpAny_execs_nil ⟨σ', H', J'.ofTry ok, q⟩
    | brk =>
      obtain ⟨σ', H', J', q⟩ := hsp
      exact ⟨σ', H', J'.ofTry ok, q⟩
    | cont =>
      obtain ⟨σ', H', J', q⟩ := hsp
      exact ⟨σ', H', J'.ofTry ok, q⟩
    | ret u =>
      obtain ⟨v, σ', H', J', r, q⟩ := hsp
      exact ⟨v, σ', H', J'.ofTry ok, r, q⟩
end
end Lr

/-! # enumerate over a list or a tuple, from any count -/
namespace Lr
open PySem PySem.Spec PyProof.Rows L2
set_option maxHeartbeats 1000000 in
theorem meets_enum0 {v : Value} {o : Obj} {H : Heap → Prop} (B : Begins v o H) :
    Meets (Builtin.«enumerate.__new__» ⟨[.type "enumerate", v], []⟩) (fun _ R s => H s.heap ∧
      R (.ok (.ret (.ref (s.heap.push o).objs.size))) { s with heap := (s.heap.push o).push { cls := .type "enumerate", data := .fields #[.none, .bool false, .ref s.heap.objs.size, rawInt 0, .none, .none] } }) :=
  .of_wp fun prog w A R s h => by
    obtain ⟨hp, g, d, tk, os⟩ := s
    obtain ⟨h1, h⟩ := h
    have hsub := sub_enumerate
    have q1 : ∀ {A' : Around} {E : Value → Shared → Prop} {Q : Value → Shared → Prop}, Q (.ref hp.objs.size) ⟨hp.push o, g, d, tk, os⟩ → wpAny (model prog w) A' (pyIter v) Q E ⟨hp, g, d, tk, os⟩ :=
      fun q => B.iter prog w _ _ ⟨hp, g, d, tk, os⟩ _ h1 q
    wp_walk using q1
    refine wpAny_stack_any fun st => wpAny_pure ?_
    split
    · rename_i c _ _ _ _ _
      cases (c == Value.type "enumerate")
      · wp_walk using q1
        exact ⟨_, rfl, h⟩
      · wp_walk using q1
        exact ⟨_, rfl, h⟩
    · wp_walk using q1
      exact ⟨_, rfl, h⟩
section
variable {prog : Program} {w : World} {A : Around} {E : Value → Shared → Prop} {s : Shared}
/-- enumerate(v): its two new cells -/
theorem enum_begins0 {v : Value} {o : Obj} {H : Heap → Prop} {Q : Value → Shared → Prop} (B : Begins v o H) (h1 : H s.heap)
    (h : ∀ h', IsEnum h' (s.heap.objs.size + 1) s.heap.objs.size 0 .none → h'.get? s.heap.objs.size = some o → h'.objs.size = s.heap.objs.size + 2 →
      (∀ b o, s.heap.get? b = some o → h'.get? b = some o) → Q (.ref (s.heap.objs.size + 1)) { s with heap := h' }) :
    wpAny (model prog w) A (call (.type "enumerate") [v]) Q E s := by
  refine callType_new F.called_enumerate (by decide) (F.typeCall_enumerate_1 _) (F.newCall_enumerate_1 _) (fun obj => F.args_object_init_2 obj _) F.entry_enumerate_new
    (meets_enum0 B) ⟨h1, ?_⟩
  have hz : (s.heap.push o).objs.size = s.heap.objs.size + 1 := Heap.size_push ..
  show _ ∧ _
  rw [hz]
  have he : IsEnum ((s.heap.push o).push { cls := .type "enumerate", data := .fields #[.none, .bool false, .ref s.heap.objs.size, rawInt 0, .none, .none] }) (s.heap.objs.size + 1) s.heap.objs.size 0 .none := by
    have q := Heap.get?_push_size (s.heap.push o) (o := { cls := .type "enumerate", data := .fields #[.none, .bool false, .ref s.heap.objs.size, rawInt 0, .none, .none] }) rfl
    rw [hz] at q
    exact q
  exact ⟨⟨_, he, rfl⟩, h _ he (Heap.get?_push_of_some _ (Heap.get?_push_size _ B.free)) (by rw [Heap.size_push, hz]) fun b o x => Heap.get?_push_of_some _ (Heap.get?_push_of_some _ x)⟩
end
/-- a built-in class called with keywords -/
theorem callWith_typeKw {M : Model} {A : Around} {E : Value → Shared → Prop} {s : Shared} {env : Env} {pos : Pos} {T : String} {e : Expr} {rest : List Expr} {kws : List Keyword} {Q : Value → Shared → Prop}
    (h : wpAny M A (spliced (backTo pos (starEach (e :: rest) env))) (fun vs s1 => wpAny M A (evalAll ((backToKw pos (keywordEach kws env)).map (·.2)))
      (fun kvs s2 => wpAny M A (call (.type T) vs (((backToKw pos (keywordEach kws env)).filterMap (·.1)).zip kvs)) Q E s2) E s1) E s)
    (he : backTo pos (starEach (e :: rest) env) = (false, eval e env) :: backTo pos (starEach rest env))
    (hplain : (backTo pos (starEach (e :: rest) env)).any (·.1) = false)
    (hall : (backToKw pos (keywordEach kws env)).all (·.1.isSome) = true)
    (hkw : (backToKw pos (keywordEach kws env)).any (·.1.isNone) = false) :
    wpAny M A (callWith pos (.type T) [] (backTo pos (starEach (e :: rest) env)) (backToKw pos (keywordEach kws env))) Q E s := by
  unfold callWith
  have hE : wpAny M A (evalArgs (.type T) true (backTo pos (starEach (e :: rest) env)) (backToKw pos (keywordEach kws env))) (fun a s1 => wpAny M A (call (.type T) ([] ++ a.pos) a.kw) Q E s1) E s := by
    rw [he] at h ⊢
    exact evalArgs_kwB hall h
  refine wpAny_bind (wpAny_holding (wpAny_mono hE (fun a s1 h1 => wpAny_bind (wpAny_standAt ?_)) fun _ _ x => x))
  simp only [hplain, hkw, Bool.or_false]
  refine wpAny_bind (wpAny_pure ?_)
  exact wpAny_bind (wpAny_mono h1 (fun r s2 hr => wpAny_bind (wpAny_holding (wpAny_point (wpAny_pure hr)))) fun _ _ x => x)
/-- the list (tuple) at a as it stands at each turn, each item in a new pair behind its count from c on -/
def ItE (K : PySem.W.Frag) (k : Bool) (a : Addr) (c : Int) : It :=
  ⟨fun i H => ∃ (xs : List V) (x : V), SqK k K H a xs ∧ xs[i]? = some x, fun i H v H' => ∃ T x, v = .ref T ∧ H T = none ∧ H' = upd H T (.tup [.int (c + (i : Nat)), x]) ∧ ∀ xs, SqK k K H a xs → xs[i]? = some x, fun i H => ∃ xs : List V, SqK k K H a xs ∧ xs.length = i⟩
def IterOf (k : Bool) (h : Heap) (it a : Addr) (i : Nat) : Prop := if k = true then h.IsListIter it a i else h.IsTupleIter it a i
def SeqOf (k : Bool) (h : Heap) (a : Addr) (its : Array Value) : Prop := if k = true then h.IsList a its else h.IsTuple a its
theorem IterOf.obj {k : Bool} {h : Heap} {it a : Addr} {i : Nat} (x : IterOf k h it a i) : ∃ o, h.get? it = some o ∧ ∀ v, o.data ≠ .cell v := by
  cases k with
  | true =>
    obtain ⟨o, ho, _, hd⟩ := (show h.IsListIter it a i from x)
    exact ⟨o, ho, fun v q => by rw [hd] at q; cases q⟩
  | false =>
    obtain ⟨o, ho, _, hd⟩ := (show h.IsTupleIter it a i from x)
    exact ⟨o, ho, fun v q => by rw [hd] at q; cases q⟩
theorem IterOf.at {k : Bool} {h h' : Heap} {it a : Addr} {i : Nat} (x : IterOf k h it a i) (e : ∀ o, h.get? it = some o → h'.get? it = some o) : IterOf k h' it a i := by
  cases k with
  | true => exact (show h.IsListIter it a i from x).at e
  | false => exact (show h.IsTupleIter it a i from x).at e
theorem draws_of {prog : Program} {w : World} {A : Around} (k : Bool) (hh : A.handled = none) (it l : Addr) (hne : l ≠ it) (items : Array Value) :
    Draws prog w A it [it, l] items.size (fun i v => items[i]? = some v) (fun i h => IterOf k h it l i ∧ SeqOf k h l items) := by
  cases k with
  | true => exact Draws.list hh it l hne items
  | false => exact Draws.tuple hh it l hne items
theorem SqK.seqOf {k : Bool} {X : Cx} {pins : List (Addr × Obj)} {σ : L2.St} {H : Hp} {s : Shared} {a : Addr} {xs : List V} (I : Inv X pins σ H s) (h : SqK k X.K H a xs) : ∃ its : List Value, Vals xs its ∧ SeqOf k s.heap a its.toArray := by
  cases k with
  | true =>
    obtain ⟨its, rv, ⟨o, n, h1, h2, h3, h4⟩, _⟩ := I.list (show SqL X.K H a xs from h)
    exact ⟨its, rv, ⟨o, h1, h2, n, h4⟩⟩
  | false =>
    obtain ⟨its, rv, h1, _⟩ := I.tuple (show SqT X.K H a xs from h)
    exact ⟨its, rv, h1⟩
theorem SqK.inj {k : Bool} {X : Cx} {pins : List (Addr × Obj)} {σ : L2.St} {H : Hp} {s : Shared} {a : Addr} {xs ys : List V} (I : Inv X pins σ H s) (h : SqK k X.K H a xs) (h' : SqK k X.K H a ys) : xs = ys := by
  cases k with
  | true => exact I.list_inj (show SqL X.K H a xs from h) h'
  | false => exact I.tuple_inj (show SqT X.K H a xs from h) h'
theorem SeqOf.live {k : Bool} {h : Heap} {a : Addr} {its : Array Value} (x : SeqOf k h a its) : ∃ o, h.get? a = some o ∧ ∃ n, o.data = .seq its n := by
  cases k with
  | true =>
    obtain ⟨o, h1, _, h2⟩ := (show h.IsList a its from x)
    exact ⟨o, h1, h2⟩
  | false =>
    obtain ⟨o, h1, _, h2⟩ := (show h.IsTuple a its from x)
    exact ⟨o, h1, h2⟩
theorem IterOf.ne {k : Bool} {h : Heap} {it a b : Addr} {i : Nat} {its : Array Value} (x : IterOf k h it b i) (y : SeqOf k h a its) : a ≠ it := fun z => by
  obtain ⟨o, ho, n, hd⟩ := y.live
  cases k with
  | true =>
    obtain ⟨o', ho', _, hd'⟩ := (show h.IsListIter it b i from x)
    rw [← z, ho] at ho'
    cases ho'
    rw [hd] at hd'
    cases hd'
  | false =>
    obtain ⟨o', ho', _, hd'⟩ := (show h.IsTupleIter it b i from x)
    rw [← z, ho] at ho'
    cases ho'
    rw [hd] at hd'
    cases hd'
theorem turn_enumE {P : Program} {w : World} {K : PySem.W.Frag} {elts : List Expr} {kk : Nat} {tpos : Pos} (k : Bool) (c : Int) (a e it : Addr) :
    Turn P w K (.Tuple elts kk tpos) (ItE K k a c) [e, it] e (fun i h => (∃ old, IsEnum h e it (c + (i : Nat)) old) ∧ IterOf k h it a i ∧ e ≠ it) where
  mem := by simp
  obj := fun i h st b hb => by
    obtain ⟨⟨old, he⟩, hi, _⟩ := st
    have e' : b = e ∨ b = it := by simpa using hb
    rcases e' with z | z
    · rw [z]
      exact ⟨_, he, fun v q => nomatch q⟩
    · rw [z]
      exact hi.obj
  keep := fun i h h' st kp => let ⟨⟨old, he⟩, hi, hne⟩ := st; ⟨⟨old, kp e (by simp) _ he⟩, hi.at fun o q => kp it (by simp) o q, hne⟩
  item := by
    intro X hP hw hK hc i pins s σ H E I hf st hg
    subst hP hw hK
    obtain ⟨⟨old, he⟩, hit, hne⟩ := st
    obtain ⟨xs, x, hq, hx⟩ := hg
    obtain ⟨its, rv, p⟩ := hq.seqOf I
    obtain ⟨u, hu, ru⟩ := rv.get hx
    have hel : e < s.heap.objs.size := Heap.lt_size he
    have hil : it < s.heap.objs.size := by
      obtain ⟨_, q, _⟩ := hit.obj
      exact Heap.lt_size q
    have nai : a ≠ it := hit.ne p
    have nae : e ∉ [it, a] := fun hm => by
      have e' : e = it ∨ e = a := by simpa using hm
      rcases e' with z | z
      · exact hne z
      · obtain ⟨o, ho, n, hd⟩ := p.live
        rw [← z, he] at ho
        cases ho
        cases hd
    have hlt : i < its.toArray.size := by
      have := (List.getElem?_eq_some_iff.mp hu).1
      simpa using this
    refine wpAny_pyNext_enum_itemC (draws_of (A := X.A.in1) k (I.ok.hd hc) it a nai its.toArray) he ⟨hit, p⟩ hlt hne nae fun y h' tk hy ho st' hT hsz hk => ?_
    have eu : u = y := by
      rw [show its.toArray[i]? = its[i]? by simp, hu] at hy
      exact Option.some.inj hy
    subst eu
    refine ⟨_, rfl, wpAny_letOwnedTupleGo_enum (s := { s with heap := h', toks := tk + 1 }) ho fun h'' he' sb => ?_⟩
    have hT2 : h''.get? s.heap.objs.size = some { cls := .type "tuple", data := .seq #[.int (c + (i : Nat)) tk, u] } := (sb.2 _ (Nat.ne_of_gt hel)).trans hT
    have new : ObjOk X.prog X.w (upd H s.heap.objs.size (.tup [.int (c + (i : Nat)), x])) h'' s.heap.objs.size (.tup [.int (c + (i : Nat)), x]) :=
      ⟨by show 2 ≤ sizeLine; decide, [.int (c + (i : Nat)) tk, u], .cons ⟨_, rfl⟩ (.cons ru .nil), ⟨_, hT2, rfl, _, rfl⟩⟩
    have I1 : Inv X pins σ (upd H s.heap.objs.size (.tup [.int (c + (i : Nat)), x])) { s with heap := h'', toks := tk + 1 } :=
      I.turnedNew (ch := [e, it]) (fun b ob hb q => (sb.2 b (fun z => hb (by simp [z]))).trans (hk b ob (fun z => hb (by simp [z])) (fun z => hb (by simp [z])) q)) hf (Nat.le_refl _) new
    refine ⟨.ref s.heap.objs.size, _, I1, rfl, ⟨_, x, rfl, I.hok.fresh (Nat.le_refl _), rfl, fun ys hy => by rw [hy.inj I hq]; exact hx⟩, ⟨⟨u, ?_⟩, st'.1.at fun o q => (sb.2 it (Ne.symm hne)).trans q, hne⟩, fun b hb => ?_⟩
    · have e1 : c + ((i + 1 : Nat) : Int) = c + (i : Nat) + 1 := by omega
      rw [e1]
      exact he'
    · have hb' : b < s.heap.objs.size := by
        have e' : b = e ∨ b = it := by simpa using hb
        rcases e' with z | z
        · rw [z]
          exact hel
        · rw [z]
          exact hil
      rw [upd_ne (Nat.ne_of_lt hb')]
      exact (hf b hb).1
  done := by
    intro X hP hw hK hc i pins s σ H E I hf st hg
    subst hP hw hK
    obtain ⟨⟨old, he⟩, hit, hne⟩ := st
    obtain ⟨xs, hq, hx⟩ := hg
    obtain ⟨its, rv, p⟩ := hq.seqOf I
    have nai : a ≠ it := hit.ne p
    have hl := rv.length
    have en : its.toArray.size = i := by simp; omega
    obtain ⟨f0, f1, f2, f3, f4, f5⟩ := hf it (by simp)
    refine wpAny_pyNext_enum_endD (draws_of (A := X.A.in1) k (I.ok.hd hc) it a nai its.toArray) he ?_ fun h' eb => ⟨rfl, I.turned (t' := s.toks) (fun b o hb q => eb b o hb q) f0 f1 f3 f4 f5⟩
    rw [en]
    exact ⟨hit, p⟩
  self := fun A i s Q E st h => let ⟨⟨_, he⟩, _⟩ := st; wpAny_pyIter_enum he h
def iEnumA (K : PySem.W.Frag) (ta : TA) : TI := fun σ H R => ta σ H fun vs H1 => ∃ k a xs, vs = [.ref a] ∧ SqK k K H1 a xs ∧ R (ItE K k a 0) H1
def iEnumS (K : PySem.W.Frag) (ta tk : TA) : TI := fun σ H R => ta σ H fun vs H1 => tk σ H1 fun zs H2 => ∃ k a xs c, vs = [.ref a] ∧ zs = [.int c] ∧ -(2 ^ 62) ≤ c ∧ c < 2 ^ 62 ∧ SqK k K H2 a xs ∧ R (ItE K k a c) H2
section
variable {X : Cx} {K : PySem.W.Frag} {e : Expr} {ta tk : TA} {p pos tpos kpos : Pos} {elts : List Expr} {kk : Nat} {ke : Expr}
theorem enum_made {pins : List (Addr × Obj)} {σ : L2.St} {H : Hp} {s : Shared} {R : It → Hp → Prop} {k : Bool} {a : Addr} {xs : List V} {c : Int} {h' : Heap} {o : Obj} (I : Inv X pins σ H s) (hq : SqK k X.K H a xs)
    (ho : o = if k = true then { cls := .type "list_iterator", data := .fields #[.ref a, .int 0 0] } else { cls := .type "tuple_iterator", data := .fields #[.ref a, .int 0 0] })
    (he : IsEnum h' (s.heap.objs.size + 1) s.heap.objs.size c .none) (hi : h'.get? s.heap.objs.size = some o) (hk : ∀ b o, s.heap.get? b = some o → h'.get? b = some o) (r : R (ItE X.K k a c) H) :
    PIE X pins σ (.Tuple elts kk tpos) R (.ref (s.heap.objs.size + 1)) { s with heap := h' } := by
  have I2 : Inv X pins σ H { s with heap := h' } := I.kept hk
  have hit : IterOf k h' s.heap.objs.size a 0 := by
    subst ho
    cases k with
    | true => exact ⟨_, hi, rfl, rfl⟩
    | false => exact ⟨_, hi, rfl, rfl⟩
  refine ⟨s.heap.objs.size + 1, [s.heap.objs.size + 1, s.heap.objs.size], _, _, H, rfl, I2, turn_enumE k c a (s.heap.objs.size + 1) s.heap.objs.size, ⟨⟨.none, by simpa using he⟩, hit, Nat.succ_ne_self _⟩, fun b hb => ?_, r⟩
  have e' : b = s.heap.objs.size + 1 ∨ b = s.heap.objs.size := by simpa using hb
  have hle : s.heap.objs.size ≤ b := by
    rcases e' with z | z
    · rw [z]
      exact Nat.le_add_right _ _
    · rw [z]
      exact Nat.le_refl _
  exact I.fpOk hle (I.hok.fresh hle)
theorem begins_of {k : Bool} {a : Addr} {items : Array Value} {o : Obj} (ho : o = if k = true then { cls := .type "list_iterator", data := .fields #[.ref a, .int 0 0] } else { cls := .type "tuple_iterator", data := .fields #[.ref a, .int 0 0] }) : Begins (.ref a) o (fun h => SeqOf k h a items) := by
  subst ho
  cases k with
  | true => exact begins_list a items
  | false => exact begins_tuple a items
theorem pi_enumA (hg : Gl X "enumerate") (hm : X.mg "enumerate" = none) (ha : PA X [e] ta) (hK : X.K = K := by rfl) (hs : starEach [e] X.env = [(false, eval e X.env)] := by rfl) :
    PI X (.Tuple elts kk tpos) (.Call (.Name "enumerate" p) [e] [] pos) (iEnumA K ta) := by
  subst hK
  refine ⟨fun pins s σ H R I h => ?_⟩
  refine Call_ (ld_blt I hg hm boot_enumerate (PyProof.Rows.callWith_type1 (thn (ha.run pos pins s σ H _ I h) fun us s1 hh => ?_) hs rfl))
  obtain ⟨vs, H1, I1, r1, k, a, xs, ex, hq, q⟩ := hh
  subst ex
  cases r1 with
  | cons r rr =>
    cases rr
    cases r
    obtain ⟨its, rv, p'⟩ := hq.seqOf I1
    exact enum_begins0 (begins_of (k := k) rfl) p' fun h' he hi hz hk => wpAny_pyIter_enum he (enum_made I1 hq rfl he hi hk q)
theorem pi_enumS (hg : Gl X "enumerate") (hm : X.mg "enumerate" = none) (ha : PA X [e] ta) (hk : PK X [⟨some "start", ke, kpos⟩] tk) (hK : X.K = K := by rfl)
    (he : backTo pos (starEach [e] X.env) = (false, eval e X.env) :: backTo pos (starEach [] X.env) := by rfl) (hpl : (backTo pos (starEach [e] X.env)).any (·.1) = false := by rfl)
    (hall : (backToKw pos (keywordEach [⟨some "start", ke, kpos⟩] X.env)).all (·.1.isSome) = true := by rfl) (hnone : (backToKw pos (keywordEach [⟨some "start", ke, kpos⟩] X.env)).any (·.1.isNone) = false := by rfl)
    (hks : (backToKw pos (keywordEach [⟨some "start", ke, kpos⟩] X.env)).filterMap (·.1) = [Str.ofString "start"] := by rfl) :
    PI X (.Tuple elts kk tpos) (.Call (.Name "enumerate" p) [e] [⟨some "start", ke, kpos⟩] pos) (iEnumS K ta tk) := by
  subst hK
  refine ⟨fun pins s σ H R I h => ?_⟩
  refine wpAny_Call_Name_kw (ld_blt I hg hm boot_enumerate ?_)
  refine callWith_typeKw (thn (ha.run pos pins s σ H _ I h) fun us s1 hh => ?_) he hpl hall hnone
  obtain ⟨vs, H1, I1, r1, q1⟩ := hh
  refine thn (hk.run pos pins s1 σ H1 _ I1 q1) fun ws s2 hh2 => ?_
  obtain ⟨zs, H2, I2, r2, k, a, xs, c, ex, ez, c0, c1, hq, q⟩ := hh2
  subst ex ez
  rw [hks]
  cases r1 with
  | cons r rr =>
    cases rr
    cases r
    cases r2 with
    | cons rc rcc =>
      cases rcc
      obtain ⟨tc, rfl⟩ := rc
      obtain ⟨its, rv, p'⟩ := hq.seqOf I2
      exact enum_begins_start (begins_of (k := k) rfl) p' (by omega) (by omega) fun h' he hi hz hk => wpAny_pyIter_enum he (enum_made I2 hq rfl he hi hk q)
/-- a loop over enumerate(..) -/
theorem for_enumE {k : Bool} {a : Addr} {xs : List V} {c : Int} {g : TG} {tb : TS} {D : Ends} {σ : L2.St} {H : Hp} (Pv : Nat → L2.St → Hp → Prop) (h0 : Pv 0 σ H) (hl : ∀ i σ H', i ≤ xs.length → Pv i σ H' → SqK k K H' a xs)
    (hs : ∀ i x T σ H, xs[i]? = some x → Pv i σ H → H T = none → g (.ref T) σ (upd H T (.tup [.int (c + (i : Nat)), x])) fun σ2 H2 => tb { D with nx := Pv (i + 1), ct := Pv (i + 1), bk := D.nx } σ2 H2) (hd : ∀ σ H, Pv xs.length σ H → D.nx σ H) :
    ∃ W : Nat → Nat → L2.St → Hp → Prop, (∃ m, W 0 m σ H) ∧ ∀ i m σ H, W i m σ H →
      ((ItE K k a c).stop i H ∧ D.nx σ H) ∨ ((ItE K k a c).go i H ∧ ∃ N : L2.St → Hp → Prop, (∀ σ' H', N σ' H' → ∃ m', m' < m ∧ W (i + 1) m' σ' H') ∧ ∀ v H', (ItE K k a c).yld i H v H' → g v σ H' fun σ2 H2 => tb { D with nx := N, ct := N, bk := D.nx } σ2 H2) := by
  refine ⟨fun i m σ H => m = xs.length - i ∧ i ≤ xs.length ∧ Pv i σ H, ⟨xs.length, rfl, Nat.zero_le _, h0⟩, ?_⟩
  rintro i m σ H ⟨rfl, hi, p⟩
  have q := hl i σ H hi p
  by_cases hlt : i < xs.length
  · refine .inr ⟨⟨xs, xs[i], q, by simp [hlt]⟩, Pv (i + 1), fun σ' H' p' => ⟨xs.length - (i + 1), by omega, rfl, hlt, p'⟩, ?_⟩
    rintro v H' ⟨T, x, rfl, nT, rfl, hx⟩
    exact hs i x T σ H (hx xs q) p nT
  · have e : i = xs.length := by omega
    subst e
    exact .inl ⟨⟨xs, q, rfl⟩, hd σ H p⟩
end
end Lr

/-! # Logs -/
namespace Lr
open PySem PySem.Spec PyProof.Rows L2
theorem WF.setApp {G H : Hp} {A B : List Cell} {p : Addr} {o u : HO} (w : WF G (A ++ (p, o) :: B) H) : WF G (A ++ (p, u) :: B) (upd H p u) :=
  ((w.perm List.perm_middle).set (u := u)).perm List.perm_middle.symm
theorem WF.frzApp {G H : Hp} {A B : List Cell} {p : Addr} {o : HO} (w : WF G (A ++ (p, o) :: B) H) : WF (upd G p o) (A ++ B) H := (w.perm List.perm_middle).frz
theorem WF.newApp {G H : Hp} {A B : List Cell} {p : Addr} {o : HO} (w : WF G (A ++ B) H) (h : H p = none) : WF G (A ++ (p, o) :: B) (upd H p o) := (w.new h).perm List.perm_middle.symm
theorem WF.getApp {G H : Hp} {A B : List Cell} {p : Addr} {o : HO} (w : WF G (A ++ (p, o) :: B) H) : H p = some o := w.get (List.mem_append_right _ List.mem_cons_self)
/-- all cells of A stand for good -/
theorem WF.frzAll {G H : Hp} {A B : List Cell} (w : WF G (A ++ B) H) : ∃ G', WF G' B H ∧ Same G G' ∧ ∀ c ∈ A, G' c.1 = some c.2 := by
  induction A generalizing G with
  | nil => exact ⟨G, w, Same.refl G, fun c hc => by cases hc⟩
  | cons c A ih =>
    obtain ⟨p, o⟩ := c
    have w' : WF G ((p, o) :: (A ++ B)) H := w
    obtain ⟨G', h1, h2, h3⟩ := ih w'.frz
    refine ⟨G', h1, (w'.leF).trans h2, fun c hc => ?_⟩
    rcases List.mem_cons.mp hc with rfl | hc
    · exact h2 _ _ upd_same
    · exact h3 c hc
/-- the truth of any value -/
def tTru (K : PySem.W.Frag) (ta : TE) : TT := fun σ H Q => ta σ H fun x H1 => ∃ k, TruV K x H1 k ∧ Q k H1
theorem xtruth {X : Cx} {K : PySem.W.Frag} {a : Expr} {ta : TE} (ha : PE X a ta) (he : ∀ whole, isTrue a X.env whole = (do let v ← whole; standAt a.pos; holding [v] (truthy v))) (hK : X.K = K := by rfl) : PT X a (tTru K ta) := by
  subst hK
  exact pt_truth ha he
/-! ### the records that write a page -/
def wr (rows : List Row) (nm : Str) : List Int := ((List.range rows.length).filter fun j => decide (nm ∈ ((rows[j]?).getD ([], [])).2)).map fun j => ((j : Nat) : Int) + 1
theorem wr_nil (nm : Str) : wr [] nm = [] := rfl
theorem wr_snoc (rows : List Row) (r : Row) (nm : Str) : wr (rows ++ [r]) nm = wr rows nm ++ (if nm ∈ r.2 then [((rows.length : Nat) : Int) + 1] else []) := by
  unfold wr
  rw [List.length_append, List.length_singleton, List.range_succ, List.filter_append, List.map_append]
  congr 1
  · congr 1
    refine List.filter_congr fun j hj => ?_
    have hj' := List.mem_range.mp hj
    rw [List.getElem?_append_left hj']
  · simp only [List.filter_cons, List.filter_nil, List.getElem?_append_right (Nat.le_refl _), Nat.sub_self, List.getElem?_cons_zero, Option.getD_some]
    by_cases h : nm ∈ r.2
    · simp [h]
    · simp [h]
/-- the greatest of them, 0 for none -/
def ver (rows : List Row) (nm : Str) : Int := ((wr rows nm).getLast?).getD 0
def needD (rows : List Row) (nms : List Str) : PyData := .tuple (nms.map fun n => .tuple [.str n, .int (ver rows n)])
structure LogM where
  names : List Str
  rows : List Row
def LogM.needs (L : LogM) : List PyData := ((List.range L.rows.length).map fun i => needD (L.rows.take i) ((L.rows[i]?).getD ([], [])).1) ++ [needD L.rows L.names]
/-- what a log's making tells of what is passed: the thing that is no pages | the index of what is no record | the log -/
inductive LogR where
  | pages | records (i : Nat) | log (L : LogM)
def logD (dp dr : PyData) : LogR :=
  match namesD dp with
  | none => .pages
  | some ns => if 1 ≤ ns.length ∧ ns.length ≤ 12 then (match itemsD dr with
    | none => .records 0
    | some ds => match rowsL ns ds 0 [] with
      | .error i => .records i
      | .ok rows => .log ⟨ns, rows⟩) else .pages
abbrev logF (an ar aw ad : Addr) : List (Str × V) := [("names", .ref an), ("rows", .ref ar), ("writers", .ref aw), ("needs", .ref ad)]
/-- a Log at x, all of it standing for good -/
structure LogAt (C : Addr) (G : Hp) (x : Addr) (L : LogM) : Prop where
  ex : ∃ (dx an ar aw ad : Addr) (rvs nvs : List V) (f : Str → Addr), G x = some (.ins C dx (logF an ar aw ad)) ∧ G an = some (.tup (L.names.map V.str)) ∧
    G ar = some (.lst rvs) ∧ Reps G (L.rows.map recD) rvs ∧ G aw = some (.dK (L.names.map fun n => (Sum.inr n, V.ref (f n)))) ∧ (∀ n ∈ L.names, G (f n) = some (.lst ((wr L.rows n).map V.int))) ∧
    G ad = some (.lst nvs) ∧ Reps G L.needs nvs
  nn : 1 ≤ L.names.length ∧ L.names.length ≤ 12
  nd : L.names.Nodup
  sorted : L.names.Pairwise leS
  nb : ∀ n ∈ L.names, nameB n = true
  rl : L.rows.length ≤ 60
  rok : ∀ r ∈ L.rows, r.2 ≠ [] ∧ (∀ n ∈ r.1, n ∈ L.names) ∧ (∀ n ∈ r.2, n ∈ L.names) ∧ r.1.Nodup ∧ r.2.Nodup ∧ r.1.Pairwise leS ∧ r.2.Pairwise leS
theorem LogAt.mono {C : Addr} {G G' : Hp} {x : Addr} {L : LogM} (h : LogAt C G x L) (s : Same G G') : LogAt C G' x L := by
  obtain ⟨dx, an, ar, aw, ad, rvs, nvs, f, h1, h2, h3, h4, h5, h6, h7, h8⟩ := h.ex
  exact ⟨⟨dx, an, ar, aw, ad, rvs, nvs, f, s _ _ h1, s _ _ h2, s _ _ h3, h4.mono s, s _ _ h5, fun n hn => s _ _ (h6 n hn), s _ _ h7, h8.mono s⟩, h.nn, h.nd, h.sorted, h.nb, h.rl, h.rok⟩
/-- a comprehension of a dict over a list or a tuple -/
theorem dc_seq {K : PySem.W.Frag} {a : Addr} {xs : List V} {tl : TE} {g : TG} {tt : TT} {tk tv : TE} {vs : List Nat} {σ : L2.St} {H H1 : Hp} {Q : VK} {k : Bool} (htl : ∀ R : VK, R (.ref a) H1 → tl σ H R) (hk : SqK k K H1 a xs)
    (go : ∀ D, H1 D = none → ∃ Pv : Nat → Hp → Prop, Pv 0 (upd H1 D (.dK [])) ∧ (∀ i H', i ≤ xs.length → Pv i H' → SqK k K H' a xs) ∧
      (∀ i x H', xs[i]? = some x → Pv i H' → g x (wipe σ vs) H' fun σ2 H2 => wipe σ2 vs = wipe σ vs ∧ tt σ2 H2 fun b H3 =>
        if b = true then tk σ2 H3 fun y H4 => tv σ2 H4 fun z H5 => ∃ kvs k, y = kV k ∧ H5 D = some (.dK kvs) ∧ kvs.length < sizeLine ∧ Pv (i + 1) (upd H5 D (.dK (putK kvs k z))) else Pv (i + 1) H3) ∧ ∀ H', Pv xs.length H' → Q (.ref D) H') :
    tDc (iSeq K tl) g tt tk tv vs σ H Q := by
  have main : ∀ (J : It), (∀ i H', SqK k K H' a xs → i < xs.length → J.go i H') → (∀ i H', SqK k K H' a xs → i = xs.length → J.stop i H') → (∀ i H' v H'', SqK k K H' a xs → J.yld i H' v H'' → H'' = H' ∧ xs[i]? = some v) →
      ∀ D, H1 D = none → ∃ W : Nat → Nat → Hp → Prop, (∃ m, W 0 m (upd H1 D (.dK []))) ∧ ∀ i m H, W i m H →
        (J.stop i H ∧ Q (.ref D) H) ∨ (J.go i H ∧ ∃ Nx : Hp → Prop, (∀ H', Nx H' → ∃ m', m' < m ∧ W (i + 1) m' H') ∧ ∀ x H', J.yld i H x H' → g x (wipe σ vs) H' fun σ2 H2 => wipe σ2 vs = wipe σ vs ∧ tt σ2 H2 fun b H3 =>
          if b = true then tk σ2 H3 fun y H4 => tv σ2 H4 fun z H5 => ∃ kvs k, y = kV k ∧ H5 D = some (.dK kvs) ∧ kvs.length < sizeLine ∧ Nx (upd H5 D (.dK (putK kvs k z))) else Nx H3) := by
    intro J jg js jy D nD
    obtain ⟨Pv, h0, hkp, hs, hd⟩ := go D nD
    refine ⟨fun i m H => m = xs.length - i ∧ i ≤ xs.length ∧ Pv i H, ⟨xs.length, rfl, Nat.zero_le _, h0⟩, ?_⟩
    rintro i m H ⟨rfl, hi, p⟩
    have q := hkp i H hi p
    by_cases hlt : i < xs.length
    · refine .inr ⟨jg i H q hlt, Pv (i + 1), fun H' p' => ⟨xs.length - (i + 1), by omega, rfl, hlt, p'⟩, fun v H' hv => ?_⟩
      obtain ⟨rfl, hx⟩ := jy i H v H' q hv
      exact hs i v _ hx p
    · have e : i = xs.length := by omega
      subst e
      exact .inl ⟨js _ H q rfl, hd H p⟩
  cases k with
  | true => exact .inl (htl _ ⟨a, rfl, ⟨_, hk⟩, main _ (fun i H' q hi => ⟨xs, xs[i], q, by simp [hi]⟩) (fun i H' q hi => ⟨xs, q, by omega⟩) (fun i H' v H'' q y => ⟨y.1, y.2 xs q⟩)⟩)
  | false => exact .inr (htl _ ⟨a, rfl, ⟨_, hk⟩, main _ (fun i H' q hi => ⟨xs, xs[i], q, by simp [hi]⟩) (fun i H' q hi => ⟨xs, q, by omega⟩) (fun i H' v H'' q y => ⟨y.1, y.2 xs q⟩)⟩)
/-- self.standing(names) -/
def spStanding (Cl : Addr) : Sp := fun vs H Q _ => ∃ (G : Hp) (C : List Cell) (x dx aw a : Addr) (fs : List (Str × V)) (kvs : List (Key × V)) (rows : List Row) (nms : List Str) (f : Str → Addr), vs = [.ref x, .ref a] ∧ WF G C H ∧ Sees G C x (.ins Cl dx fs) ∧ fs.lookup ("writers" : Str) = some (.ref aw) ∧ Sees G C aw (.dK kvs) ∧
  Seq G C a (nms.map V.str) ∧ nms.length ≤ 1000 ∧ (∀ n ∈ nms, valV kvs (Sum.inr n : Key) = some (.ref (f n)) ∧ Sees G C (f n) (.lst ((wr rows n).map V.int))) ∧
  ∀ (G' H' : Hp) (v : V), Same G G' → WF G' C H' → Rep G' (needD rows nms) v → Q v H'
theorem Seq.same {K : PySem.W.Frag} {G G' H : Hp} {C : List Cell} {a : Addr} {xs : List V} {k : Bool} (hk : ∀ K H, WF G C H → SqK k K H a xs) (s : Same G G') (w : WF G' C H) : SqK k K H a xs := hk K H (w.weak s)
theorem last_atI {xs : List V} {v : V} (h : xs.getLast? = some v) : atI xs (-1) = some v := by
  have hl : xs ≠ [] := fun e => by rw [e] at h; cases h
  have h0 : 0 < xs.length := List.length_pos_iff.mpr hl
  unfold atI ixN
  rw [if_neg (by decide), if_pos (by omega)]
  show xs[((-1 : Int) + xs.length).toNat]? = some v
  rw [List.getLast?_eq_getElem?] at h
  have e : ((-1 : Int) + xs.length).toNat = xs.length - 1 := by omega
  rw [e]
  exact h
theorem namesL_ok : ∀ {ds : List PyData} {acc xs : List Str}, namesL ds acc = some xs → acc.Nodup → (∀ n ∈ acc, nameB n = true) → xs.Nodup ∧ ∀ n ∈ xs, nameB n = true
  | [], acc, xs, h, nd, nb => by
    cases h
    exact ⟨nd, nb⟩
  | d :: r, acc, xs, h, nd, nb => by
    cases d with
    | str s =>
      have h' : (if nameB s = true ∧ s ∉ acc then namesL r (acc ++ [s]) else none) = some xs := h
      by_cases c : nameB s = true ∧ s ∉ acc
      · rw [if_pos c] at h'
        refine namesL_ok h' ?_ fun n hn => ?_
        · refine List.nodup_append.mpr ⟨nd, by simp, fun a ha b hb e => ?_⟩
          rw [List.mem_singleton.mp hb] at e
          exact c.2 (e ▸ ha)
        · rcases List.mem_append.mp hn with hn | hn
          · exact nb n hn
          · rw [List.mem_singleton.mp hn]
            exact c.1
      · rw [if_neg c] at h'
        cases h'
    | _ => cases h
theorem namesD_ok {d : PyData} {ns : List Str} (h : namesD d = some ns) : ns.Nodup ∧ ns.Pairwise leS ∧ ∀ n ∈ ns, nameB n = true := by
  unfold namesD at h
  cases e : itemsD d with
  | none =>
    rw [e] at h
    cases h
  | some ds =>
    rw [e] at h
    have h' : (namesL ds []).map sortS = some ns := h
    cases e2 : namesL ds [] with
    | none =>
      rw [e2] at h'
      cases h'
    | some xs =>
      rw [e2] at h'
      cases h'
      obtain ⟨a, b⟩ := namesL_ok e2 List.nodup_nil (fun n hn => by cases hn)
      exact ⟨(sortS_perm xs).nodup_iff.mpr a, sortS_pw xs, fun n hn => b n ((sortS_perm xs).mem_iff.mp hn)⟩
theorem lotD_ok {d : PyData} {ns xs : List Str} (h : lotD d ns = some xs) : xs.Nodup ∧ xs.Pairwise leS ∧ ∀ n ∈ xs, n ∈ ns := by
  unfold lotD at h
  cases e : namesD d with
  | none =>
    rw [e] at h
    cases h
  | some ys =>
    rw [e] at h
    have h' : (if ∀ x ∈ ys, x ∈ ns then some ys else none) = some xs := h
    by_cases c : ∀ x ∈ ys, x ∈ ns
    · rw [if_pos c] at h'
      cases h'
      obtain ⟨a, b, _⟩ := namesD_ok e
      exact ⟨a, b, c⟩
    · rw [if_neg c] at h'
      cases h'
def RowOk (ns : List Str) (r : Row) : Prop := r.2 ≠ [] ∧ (∀ n ∈ r.1, n ∈ ns) ∧ (∀ n ∈ r.2, n ∈ ns) ∧ r.1.Nodup ∧ r.2.Nodup ∧ r.1.Pairwise leS ∧ r.2.Pairwise leS
theorem rowD_ok {d : PyData} {ns : List Str} {x : Row} (h : rowD d ns = some x) : RowOk ns x := by
  unfold rowD at h
  split at h
  · rename_i a b e
    split at h
    · rename_i r w e1 e2
      by_cases c : w = []
      · rw [if_pos c] at h
        cases h
      · rw [if_neg c] at h
        cases h
        obtain ⟨a1, a2, a3⟩ := lotD_ok e1
        obtain ⟨b1, b2, b3⟩ := lotD_ok e2
        exact ⟨c, a3, b3, a1, b1, a2, b2⟩
    · cases h
  · cases h
theorem rowsL_ok {ns : List Str} : ∀ {ds : List PyData} {i : Nat} {acc rows : List Row}, rowsL ns ds i acc = .ok rows → (∀ r ∈ acc, RowOk ns r) → acc.length = i → i ≤ 60 → (∀ r ∈ rows, RowOk ns r) ∧ rows.length ≤ 60
  | [], i, acc, rows, h, ha, hl, h6 => by
    cases h
    exact ⟨ha, by omega⟩
  | d :: r, i, acc, rows, h, ha, hl, h6 => by
    unfold rowsL at h
    cases e : rowD d ns with
    | none =>
      rw [e] at h
      cases h
    | some x =>
      rw [e] at h
      by_cases c : i = 60
      · simp only [c, if_true] at h
        cases h
      · simp only [c, if_false] at h
        refine rowsL_ok h (fun y hy => ?_) (by simp [hl]) (by omega)
        rcases List.mem_append.mp hy with hy | hy
        · exact ha y hy
        · rw [List.mem_singleton.mp hy]
          exact rowD_ok e
theorem WF.grow {G G' H H' : Hp} {C : List Cell} (w : WF G C H) (s : Same H H') (h1 : Same G' H') (h2 : ∀ a, G' a ≠ none → G a ≠ none ∨ H a = none) : WF G' C H' := by
  refine ⟨h1, fun c hc => ⟨s _ _ (w.own c hc).1, ?_⟩, w.nd⟩
  cases e : G' c.1 with
  | none => rfl
  | some o =>
    rcases h2 c.1 (by rw [e]; exact fun z => nomatch z) with z | z
    · exact (z (w.own c hc).2).elim
    · rw [(w.own c hc).1] at z
      cases z
/-- one thing found new stands for good -/
theorem WF.add {G H H' : Hp} {C : List Cell} {p : Addr} {o : HO} (w : WF G C H) (s : Same H H') (hp : H p = none) (h : H' p = some o) : WF (upd G p o) C H' := by
  refine w.grow s (fun a u e => ?_) fun a ha => ?_
  · by_cases z : a = p
    · subst z
      rw [upd_same] at e
      rw [h]
      exact e
    · rw [upd_ne z] at e
      exact s _ _ (w.sub _ _ e)
  · by_cases z : a = p
    · exact .inr (by rw [z]; exact hp)
    · rw [upd_ne z] at ha
      exact .inl ha
theorem WF.add3 {G H H' : Hp} {C : List Cell} {p q t : Addr} {o u v : HO} (w : WF G C H) (s : Same H H') (hp : H p = none) (hq : H q = none) (ht : H t = none) (npq : p ≠ q) (npt : p ≠ t) (nqt : q ≠ t) (h1 : H' p = some o) (h2 : H' q = some u) (h3 : H' t = some v) :
    ∃ G', WF G' C H' ∧ Same G G' ∧ G' p = some o ∧ G' q = some u ∧ G' t = some v := by
  have gp := w.gnone hp
  have gq := w.gnone hq
  have gt := w.gnone ht
  have s1 : Same G (upd G p o) := same_new gp
  have s2 : Same (upd G p o) (upd (upd G p o) q u) := same_new (by rw [upd_ne npq.symm]; exact gq)
  have s3 : Same (upd (upd G p o) q u) (upd (upd (upd G p o) q u) t v) := same_new (by rw [upd_ne nqt.symm, upd_ne npt.symm]; exact gt)
  refine ⟨upd (upd (upd G p o) q u) t v, w.grow s (fun a x e => ?_) (fun a ha => ?_), s1.trans (s2.trans s3), ?_, ?_, upd_same⟩
  · unfold upd at e
    split at e
    · rename_i z
      rw [z, h3]
      exact e
    · split at e
      · rename_i z
        rw [z, h2]
        exact e
      · split at e
        · rename_i z
          rw [z, h1]
          exact e
        · exact s _ _ (w.sub _ _ e)
  · unfold upd at ha
    split at ha
    · rename_i z
      exact .inr (z ▸ ht)
    · split at ha
      · rename_i z
        exact .inr (z ▸ hq)
      · split at ha
        · rename_i z
          exact .inr (z ▸ hp)
        · exact .inl ha
  · rw [upd_ne npt, upd_ne npq, upd_same]
  · rw [upd_ne nqt, upd_same]
def LongD (d : PyData) : Prop := ∀ ds, itemsD d = some ds → ds.length ≤ 100000 ∧ ∀ e ∈ ds, Short2 e
/-- Log.__init__(self, pages, records) -/
def spLogInit (Cl CB CR : Addr) : Sp := fun vs H Q E => ∃ (G : Hp) (C : List Cell) (x dx : Addr) (dp dr : PyData) (vp vr : V), vs = [.ref x, vp, vr] ∧ WF G ((x, .ins Cl dx []) :: C) H ∧ RepC G C dp vp ∧ RepC G C dr vr ∧ ShortD dp ∧ LongD dr ∧
  (logD dp dr = .pages → ∀ G' H' d, Same G G' → WF G' C H' → G' d = some (.xd [("thing", vp)]) → E (.ref CB) (some d) H') ∧
  (∀ i : Nat, logD dp dr = .records i → ∀ G' H' d, Same G G' → WF G' C H' → G' d = some (.xd [("index", .int i)]) → E (.ref CR) (some d) H') ∧
  ∀ L, logD dp dr = .log L → ∀ G' H', Same G G' → WF G' C H' → LogAt Cl G' x L → Q .non H'
/-- a method by its name -/
def Okm (P : Program) (w : World) (K : PySem.W.Frag) (mg : Str → Option Value) (base : Heap) (CX : CXT) (k : Nat) (C : Addr) (m : Str) (ps : List Str) (sp : Sp) : Prop :=
  ∃ (f : Addr) (fd : FuncData), Meth K C m f ∧ Binds K fd ps [] ∧ FnOk P w K mg base CX k f fd ps sp
section
variable {X : Cx} {k k' : Nat} {m : Str} {ps : List Str} {sp : Sp} {apos pos : Pos} {o e : Expr} {es : List Expr} {ta : TE} {t : TA} {C : Addr}
theorem pm {pl : Sem Bool} (he : PE X o ta) (c : Cls X.K C) (F : Okm X.prog X.w X.K X.mg X.base CX0 k C m ps sp) (hr : Room k' X.A) (ha : PA X (e :: es) t) (hk : k ≤ k' := by omega)
    (hst : starEach (e :: es) X.env = (false, eval e X.env) :: starEach es X.env := by rfl) (hpl : (backTo pos (starEach es X.env)).any (·.1) = false := by rfl)
    (ht : eval (.Call (.Attribute o m apos) (e :: es) [] pos) X.env = (do
      let ov ← eval o X.env
      standAt apos.atName
      let (f, first) ← holding [ov] (getMethod ov m pl)
      callWith pos f first (backTo pos (starEach (e :: es) X.env)) (backToKw pos (keywordEach [] X.env))) := by rfl) :
    PE X (.Call (.Attribute o m apos) (e :: es) [] pos) (tMeth C m sp [] E0 ta t) := by
  obtain ⟨f, fd, hm, hb, F⟩ := F
  exact pe_meth he c hm F (hr.mono hk) hb .nil pass0 ha hst hpl ht
theorem pm0 {pl : Sem Bool} (he : PE X o ta) (c : Cls X.K C) (F : Okm X.prog X.w X.K X.mg X.base CX0 k C m ps sp) (hr : Room k' X.A) (hk : k ≤ k' := by omega)
    (ht : eval (.Call (.Attribute o m apos) [] [] pos) X.env = (do
      let ov ← eval o X.env
      standAt apos.atName
      let (f, first) ← holding [ov] (getMethod ov m pl)
      callWith pos f first (backTo pos (starEach [] X.env)) (backToKw pos (keywordEach [] X.env))) := by rfl) :
    PE X (.Call (.Attribute o m apos) [] [] pos) (tMeth C m sp [] E0 ta tNil) := by
  obtain ⟨f, fd, hm, hb, F⟩ := F
  exact pe_meth0 he c hm F (hr.mono hk) hb .nil pass0 ht
end
theorem n_nr : ¬ (("names" : Str) = "rows") := by decide +kernel
theorem n_nw : ¬ (("names" : Str) = "writers") := by decide +kernel
theorem n_nd : ¬ (("names" : Str) = "needs") := by decide +kernel
theorem n_rw : ¬ (("rows" : Str) = "writers") := by decide +kernel
theorem n_rd : ¬ (("rows" : Str) = "needs") := by decide +kernel
theorem n_wd : ¬ (("writers" : Str) = "needs") := by decide +kernel
theorem putF1 (v : V) : putF "names" v [] = ([("names", v)] : List (Str × V)) := rfl
theorem putF_ne {f g : Str} {u v : V} {r : List (Str × V)} (h : ¬ g = f) : putF f v ((g, u) :: r) = (g, u) :: putF f v r := by
  rw [putF, if_neg h]
theorem putF2 (u v : V) : putF "rows" v ([("names", u)] : List (Str × V)) = ([("names", u), ("rows", v)] : List (Str × V)) := by
  rw [putF_ne n_nr]
  rfl
theorem putF3 (u t v : V) : putF "writers" v ([("names", u), ("rows", t)] : List (Str × V)) = ([("names", u), ("rows", t), ("writers", v)] : List (Str × V)) := by
  rw [putF_ne n_nw, putF_ne n_rw]
  rfl
theorem putF4 (u t r v : V) : putF "needs" v ([("names", u), ("rows", t), ("writers", r)] : List (Str × V)) = ([("names", u), ("rows", t), ("writers", r), ("needs", v)] : List (Str × V)) := by
  rw [putF_ne n_nd, putF_ne n_rd, putF_ne n_wd]
  rfl
theorem look_cons {g f : Str} {v : V} {r : List (Str × V)} : ((g, v) :: r : List (Str × V)).lookup f = if f = g then some v else r.lookup f := by
  rw [List.lookup_cons]
  by_cases h : f = g
  · subst h
    simp
  · have : (f == g) = false := by simpa using h
    rw [this, if_neg h]
theorem lk_names (u : V) (r : List (Str × V)) : (("names", u) :: r : List (Str × V)).lookup ("names" : Str) = some u := by rw [look_cons, if_pos rfl]
theorem lk_rows (u t : V) (r : List (Str × V)) : (("names", u) :: ("rows", t) :: r : List (Str × V)).lookup ("rows" : Str) = some t := by
  rw [look_cons, if_neg (fun e => n_nr e.symm), look_cons, if_pos rfl]
theorem lk_writers (u t v : V) (r : List (Str × V)) : (("names", u) :: ("rows", t) :: ("writers", v) :: r : List (Str × V)).lookup ("writers" : Str) = some v := by
  rw [look_cons, if_neg (fun e => n_nw e.symm), look_cons, if_neg (fun e => n_rw e.symm), look_cons, if_pos rfl]
theorem lk_needs (u t v x : V) (r : List (Str × V)) : (("names", u) :: ("rows", t) :: ("writers", v) :: ("needs", x) :: r : List (Str × V)).lookup ("needs" : Str) = some x := by
  rw [look_cons, if_neg (fun e => n_nd e.symm), look_cons, if_neg (fun e => n_rd e.symm), look_cons, if_neg (fun e => n_wd e.symm), look_cons, if_pos rfl]
/-- the lists of the writers, by name, as they stand behind these rows, and behind j of the pages that the next one writes -/
def wcells (nas : List (Str × Addr)) (g : Str → List Int) : List Cell := nas.map fun p => (p.2, .lst ((g p.1).map V.int))
def wdict (nas : List (Str × Addr)) : List (Key × V) := nas.map fun p => (Sum.inr p.1, V.ref p.2)
theorem wdict_get {nas : List (Str × Addr)} {p : Str × Addr} (nd : (nas.map (·.1)).Nodup) (h : p ∈ nas) : valV (wdict nas) (Sum.inr p.1 : Key) = some (.ref p.2) := by
  induction nas with
  | nil => cases h
  | cons q r ih =>
    have nd' := List.nodup_cons.mp (show (q.1 :: r.map (·.1)).Nodup from nd)
    rcases List.mem_cons.mp h with rfl | h
    · exact valV_pos rfl
    · have ne : ¬ (Sum.inr q.1 : Key) = Sum.inr p.1 := fun z => nd'.1 (by rw [Sum.inr.inj z]; exact List.mem_map.mpr ⟨p, h, rfl⟩)
      show valV ((Sum.inr q.1, V.ref q.2) :: wdict r) (Sum.inr p.1 : Key) = _
      rw [valV_neg ne]
      exact ih nd'.2 h
theorem wcells_split {nas : List (Str × Addr)} {p : Str × Addr} (h : p ∈ nas) (nd : (nas.map (·.1)).Nodup) (g : Str → List Int) (y : List Int) : ∃ A B, wcells nas g = A ++ (p.2, .lst ((g p.1).map V.int)) :: B ∧ wcells nas (fun n => if n = p.1 then y else g n) = A ++ (p.2, .lst (y.map V.int)) :: B := by
  induction nas with
  | nil => cases h
  | cons q r ih =>
    have nd' := List.nodup_cons.mp (show (q.1 :: r.map (·.1)).Nodup from nd)
    rcases List.mem_cons.mp h with rfl | h
    · refine ⟨[], wcells r g, rfl, ?_⟩
      have e1 : wcells r (fun n => if n = p.1 then y else g n) = wcells r g := List.map_congr_left fun t ht => by
        have : t.1 ≠ p.1 := fun z => nd'.1 (by rw [← z]; exact List.mem_map.mpr ⟨t, ht, rfl⟩)
        simp only [if_neg this]
      have e2 : wcells (p :: r) (fun n => if n = p.1 then y else g n) = (p.2, .lst ((if p.1 = p.1 then y else g p.1).map V.int)) :: wcells r (fun n => if n = p.1 then y else g n) := rfl
      rw [e2, e1, if_pos rfl]
      rfl
    · obtain ⟨A, B, e1, e2⟩ := ih h nd'.2
      have ne : q.1 ≠ p.1 := fun z => nd'.1 (by rw [z]; exact List.mem_map.mpr ⟨p, h, rfl⟩)
      refine ⟨(q.2, .lst ((g q.1).map V.int)) :: A, B, ?_, ?_⟩
      · show (q.2, HO.lst ((g q.1).map V.int)) :: wcells r g = _
        rw [e1]
        rfl
      · have e3 : wcells (q :: r) (fun n => if n = p.1 then y else g n) = (q.2, .lst ((if q.1 = p.1 then y else g q.1).map V.int)) :: wcells r (fun n => if n = p.1 then y else g n) := rfl
        rw [e3, if_neg ne, e2]
        rfl
theorem wcells_congr {nas : List (Str × Addr)} {g g' : Str → List Int} (h : ∀ p ∈ nas, g p.1 = g' p.1) : wcells nas g = wcells nas g' := List.map_congr_left fun p hp => by simp only [h p hp]
/-- behind j of the pages that row r writes -/
def wrJ (rows : List Row) (ws : List Str) (n : Str) : List Int := wr rows n ++ (if n ∈ ws then [((rows.length : Nat) : Int) + 1] else [])
end Lr

/-! # Logs, on -/
namespace Lr
open PySem PySem.Spec PyProof.Rows L2
theorem wdict_none {nas : List (Str × Addr)} {n : Str} (h : n ∉ nas.map (·.1)) : valV (wdict nas) (Sum.inr n : Key) = none := by
  induction nas with
  | nil => rfl
  | cons q r ih =>
    have h' : ¬ (n = q.1 ∨ n ∈ r.map (·.1)) := fun z => h (List.mem_cons.mpr z)
    have ne : ¬ (Sum.inr q.1 : Key) = Sum.inr n := fun z => h' (.inl (Sum.inr.inj z).symm)
    show valV ((Sum.inr q.1, V.ref q.2) :: wdict r) (Sum.inr n : Key) = _
    rw [valV_neg ne]
    exact ih fun z => h' (.inr z)
theorem wdict_put {nas : List (Str × Addr)} {n : Str} {l : Addr} (h : n ∉ nas.map (·.1)) : putK (wdict nas) (Sum.inr n : Key) (.ref l) = wdict (nas ++ [(n, l)]) := by
  rw [L2.putK_new _ (wdict_none h)]
  unfold wdict
  rw [List.map_append]
  rfl
theorem wcells_app (a b : List (Str × Addr)) (g : Str → List Int) : wcells (a ++ b) g = wcells a g ++ wcells b g := List.map_append
theorem addr_of (nas : List (Str × Addr)) (nd : (nas.map (·.1)).Nodup) : ∃ f : Str → Addr, ∀ p ∈ nas, f p.1 = p.2 := by
  induction nas with
  | nil => exact ⟨fun _ => 0, fun p h => by cases h⟩
  | cons q r ih =>
    have nd' := List.nodup_cons.mp (show (q.1 :: r.map (·.1)).Nodup from nd)
    obtain ⟨f, hf⟩ := ih nd'.2
    refine ⟨fun n => if n = q.1 then q.2 else f n, fun p hp => ?_⟩
    rcases List.mem_cons.mp hp with rfl | hp
    · exact if_pos rfl
    · have ne : p.1 ≠ q.1 := fun z => nd'.1 (by rw [← z]; exact List.mem_map.mpr ⟨p, hp, rfl⟩)
      show (if p.1 = q.1 then q.2 else f p.1) = p.2
      rw [if_neg ne]
      exact hf p hp
theorem strs_at {G : Hp} : ∀ {xs : List Str} {vs : List V}, Reps G (xs.map PyData.str) vs → vs = xs.map V.str
  | [], _, .nil => rfl
  | x :: xs, _, .cons r t => by
    cases r
    rw [strs_at t]
    rfl
theorem rec_at {G : Hp} {r : Lr.Row} {v : V} (h : Rep G (recD r) v) : ∃ b q t, v = .ref b ∧ G b = some (.tup [.ref q, .ref t]) ∧ G q = some (.tup (r.1.map V.str)) ∧ G t = some (.tup (r.2.map V.str)) := by
  cases h with
  | tup e rs =>
    cases rs with
    | cons r1 rs =>
      cases rs with
      | cons r2 rs =>
        cases rs
        cases r1 with
        | tup e1 s1 =>
          cases r2 with
          | tup e2 s2 =>
            rw [strs_at s1] at e1
            rw [strs_at s2] at e2
            exact ⟨_, _, _, rfl, e, e1, e2⟩
theorem recs_get {G : Hp} {rows : List Lr.Row} {vs : List V} {i : Nat} {v : V} (h : Reps G (rows.map recD) vs) (hi : vs[i]? = some v) : ∃ r, rows[i]? = some r ∧ Rep G (recD r) v := by
  obtain ⟨d, hd, r⟩ := h.get hi
  rw [List.getElem?_map] at hd
  cases e : rows[i]? with
  | none =>
    rw [e] at hd
    cases hd
  | some x =>
    rw [e] at hd
    cases hd
    exact ⟨x, rfl, r⟩
theorem map_get {α β : Type} {f : α → β} {xs : List α} {i : Nat} {v : β} (h : (xs.map f)[i]? = some v) : ∃ x, xs[i]? = some x ∧ f x = v := by
  rw [List.getElem?_map] at h
  cases e : xs[i]? with
  | none =>
    rw [e] at h
    cases h
  | some x =>
    rw [e] at h
    exact ⟨x, rfl, Option.some.inj h⟩
theorem rep_strs {G : Hp} (xs : List Str) : Reps G (xs.map PyData.str) (xs.map V.str) := by
  induction xs with
  | nil => exact .nil
  | cons x r ih => exact .cons (.str x) ih
theorem wrJ_step {rows : List Lr.Row} {ws : List Str} {j : Nat} {n m : Str} (hn : ws[j]? = some n) (nd : ws.Nodup) : wrJ rows (ws.take (j + 1)) m = if m = n then wrJ rows (ws.take j) n ++ [((rows.length : Nat) : Int) + 1] else wrJ rows (ws.take j) m := by
  have e := take_more hn
  have hj := (List.getElem?_eq_some_iff.mp hn).1
  unfold wrJ
  by_cases h : m = n
  · subst h
    rw [if_pos rfl]
    have h1 : m ∈ ws.take (j + 1) := by
      rw [e]
      simp
    have h2 : m ∉ ws.take j := fun z => by
      have nd' : (ws.take (j + 1)).Nodup := nd.sublist (List.take_sublist _ _)
      rw [e] at nd'
      exact (List.nodup_append.mp nd').2.2 m z m (by simp) rfl
    rw [if_pos h1, if_neg h2]
    simp
  · rw [if_neg h]
    have : (m ∈ ws.take (j + 1)) ↔ (m ∈ ws.take j) := by
      rw [e, List.mem_append, List.mem_singleton]
      exact ⟨fun z => z.elim id fun y => absurd y h, .inl⟩
    by_cases hm : m ∈ ws.take j
    · rw [if_pos hm, if_pos (this.mpr hm)]
    · rw [if_neg hm, if_neg (fun z => hm (this.mp z))]
theorem wrJ_all {rows : List Lr.Row} {r : Lr.Row} {n : Str} : wrJ rows r.2 n = wr (rows ++ [r]) n := by
  rw [wr_snoc]
  rfl
theorem wr_len (rows : List Lr.Row) (n : Str) : (wr rows n).length ≤ rows.length := by
  unfold wr
  rw [List.length_map]
  exact Nat.le_trans (List.length_filter_le _ _) (by rw [List.length_range]; exact Nat.le_refl _)
theorem wrJ_len (rows : List Lr.Row) (ws : List Str) (n : Str) : (wrJ rows ws n).length ≤ rows.length + 1 := by
  have := wr_len rows n
  unfold wrJ
  split
  · rw [List.length_append]
    simp
    omega
  · simp
    omega
end Lr
namespace Lr
open PySem PySem.Spec PyProof.Rows L2
theorem gc2 {i j : Nat} {x y : V} {σ : L2.St} {H : Hp} {Q : L2.St → Hp → Prop} (h : Q ((σ.set i (some x)).set j (some y)) H) : gCons (gName i) (gCons (gName j) gNil) [x, y] σ H Q := ⟨_, _, rfl, _, _, rfl, rfl, h⟩
theorem tfld {K : PySem.W.Frag} {ta tv : TE} {f : Str} {D : Ends} {σ : L2.St} {H : Hp} (h : tv σ H fun y H1 => ta σ H1 fun x H2 => ∃ a C dx fs, x = .ref a ∧ H2 a = some (.ins C dx fs) ∧ Cls K C ∧ NoAttr K C f ∧ fs.length < 1000 ∧ D.nx σ (upd H2 a (.ins C dx (putF f y fs)))) : sFld K ta tv f D σ H := h
theorem nodup_len {xs : List Str} : ∀ {ns : List Str}, xs.Nodup → (∀ n ∈ xs, n ∈ ns) → xs.length ≤ ns.length := by
  induction xs with
  | nil => exact fun _ _ => Nat.zero_le _
  | cons x r ih =>
    intro ns nd h
    have nd' := List.nodup_cons.mp nd
    have hx := h x List.mem_cons_self
    have := ih (ns := ns.erase x) nd'.2 fun n hn => by
      refine (List.mem_erase_of_ne fun z => nd'.1 (by rw [← z]; exact hn)).mpr (h n (List.mem_cons_of_mem _ hn))
    rw [List.length_erase_of_mem hx] at this
    have := List.length_pos_of_mem hx
    rw [List.length_cons]
    omega
end Lr

/-! # What a law draws: names, records, logs -/
namespace Lr
open PySem PySem.Spec PyProof.Rows L2
def spPages (Cl : Addr) : Sp := fun vs H Q _ => ∃ (G : Hp) (x : Addr) (L : LogM), vs = [.ref x] ∧ LogAt Cl G x L ∧ Same G H ∧ ∀ p, H p = none → Q (.ref p) (upd H p (.lst (L.names.map V.str)))
def spRecords (Cl : Addr) : Sp := fun vs H Q _ => ∃ (G : Hp) (x : Addr) (L : LogM), vs = [.ref x] ∧ LogAt Cl G x L ∧ Same G H ∧ ∀ p rvs, H p = none → Reps G (L.rows.map recD) rvs → Q (.ref p) (upd H p (.lst rvs))
def spSize (Cl : Addr) : Sp := fun vs H Q _ => ∃ (G : Hp) (x : Addr) (L : LogM), vs = [.ref x] ∧ LogAt Cl G x L ∧ Same G H ∧ Q (.int L.rows.length) H
/-- _law_start(script) -/
def spStart (K : PySem.W.Frag) : Sp := fun vs H Q _ => ∃ (G : Hp) (C : List Cell) (a : Addr) (l : List Int), vs = [.ref a] ∧ WF G C H ∧ SqL K H a (l.map V.int) ∧ ∀ st cs H', SW G st cs 0 C H' → Q (.ref st) H'
/-- _law_name(stream) -/
def spName : Sp := fun vs H Q _ => ∃ (G : Hp) (st cs : Addr) (n : Nat) (C : List Cell), vs = [.ref st] ∧ n + 9 < 2 ^ 40 ∧ SW G st cs n C H ∧ ∀ s H', nameB s = true → SW G st cs (n + 9) C H' → Q (.str s) H'
/-- _law_names(stream, many) -/
def spNames : Sp := fun vs H Q _ => ∃ (G : Hp) (st cs : Addr) (n : Nat) (C : List Cell) (m : Nat), vs = [.ref st, .int m] ∧ m ≤ 13 ∧ n + 9 * m < 2 ^ 40 ∧ SW G st cs n C H ∧
  ∀ (ns : List Str) (p : Addr) (H' : Hp), ns.length = m → ns.Nodup → ns.Pairwise leS → (∀ s ∈ ns, nameB s = true) → SW G st cs (n + 9 * m) ((p, .lst (ns.map V.str)) :: C) H' → Q (.ref p) H'
/-- _law_record(stream, pages, plain) -/
def spRecord : Sp := fun vs H Q _ => ∃ (G : Hp) (st cs : Addr) (n : Nat) (C : List Cell) (a : Addr) (ns : List Str) (b : Bool), vs = [.ref st, .ref a, .bl b] ∧ 1 ≤ ns.length ∧ ns.length ≤ 12 ∧ ns.Nodup ∧ ns.Pairwise leS ∧ (∀ s ∈ ns, nameB s = true) ∧ Seq G C a (ns.map V.str) ∧ n + 30 < 2 ^ 40 ∧ SW G st cs n C H ∧
  ∀ (r : Lr.Row) (v : V) (G' H' : Hp), RowOk ns r → Rep G' (recD r) v → Same G G' → SW G' st cs (n + 30) C H' → Q v H'
/-- a log as it is drawn: its pages and its rows -/
structure LogV (G : Hp) (a : Addr) (L : LogM) : Prop where
  ex : ∃ (p q : Addr) (rvs : List V), G a = some (.lst [.ref p, .ref q]) ∧ G p = some (.lst (L.names.map V.str)) ∧ G q = some (.lst rvs) ∧ Reps G (L.rows.map recD) rvs
  nn : 1 ≤ L.names.length ∧ L.names.length ≤ 12
  nd : L.names.Nodup
  sorted : L.names.Pairwise leS
  nb : ∀ n ∈ L.names, nameB n = true
  rl : L.rows.length ≤ 60
  rok : ∀ r ∈ L.rows, RowOk L.names r
theorem LogV.mono {G G' : Hp} {a : Addr} {L : LogM} (h : LogV G a L) (s : Same G G') : LogV G' a L := by
  obtain ⟨p, q, rvs, h1, h2, h3, h4⟩ := h.ex
  exact ⟨⟨p, q, rvs, s _ _ h1, s _ _ h2, s _ _ h3, h4.mono s⟩, h.nn, h.nd, h.sorted, h.nb, h.rl, h.rok⟩
/-- _law_log(stream, size) -/
def spLog : Sp := fun vs H Q _ => ∃ (G : Hp) (st cs : Addr) (n : Nat) (C : List Cell) (z : Nat), vs = [.ref st, .int z] ∧ z ≤ 2 ∧ n + 3000 < 2 ^ 40 ∧ SW G st cs n C H ∧
  ∀ (L : LogM) (a : Addr) (G' H' : Hp), LogV G' a L → Same G G' → SW G' st cs (n + 3000) C H' → Q (.ref a) H'
/-! ### signs of names -/
theorem cps_app (a b : Str) : (a ++ b).cps.toList = a.cps.toList ++ b.cps.toList := by
  show (a.cps ++ b.cps).toList = _
  simp
theorem len_app (a b : Str) : (a ++ b).length = a.length + b.length := PySem.Str.length_append a b
theorem sgns_app {a b : List Nat} : sgns (a ++ b) = (sgns a && sgns b) := by
  unfold sgns
  rw [List.all_append]
/-- a name so far: its first sign a letter, all of them letters or figures -/
def nameP (s : Str) : Prop := sgns s.cps.toList = true ∧ ∃ c r, s.cps.toList = c :: r ∧ low c = true
theorem nameP.name {s : Str} (h : nameP s) (l : s.length ≤ 8) : nameB s = true := by
  obtain ⟨h1, c, r, e, h2⟩ := h
  have hl : s.cps.toList.length = s.length := by simp [Str.length]
  unfold nameB
  have hd : decide (1 ≤ s.length ∧ s.length ≤ 8) = true := decide_eq_true (by
    rw [e, List.length_cons] at hl
    omega)
  rw [h1, e, hd]
  show (true && true && low c) = true
  rw [h2]
  rfl
theorem nameP.app {s t : Str} (h : nameP s) (ht : sgns t.cps.toList = true) : nameP (s ++ t) := by
  obtain ⟨h1, c, r, e, h2⟩ := h
  refine ⟨?_, c, r ++ t.cps.toList, ?_, h2⟩
  · rw [cps_app, sgns_app, h1, ht]
    rfl
  · rw [cps_app, e]
    rfl
theorem nameB.p {s : Str} (h : nameB s = true) : nameP s := by
  unfold nameB at h
  simp only [Bool.and_eq_true, decide_eq_true_eq] at h
  obtain ⟨⟨h1, h2⟩, h3⟩ := h
  refine ⟨h2, ?_⟩
  cases e : s.cps.toList with
  | nil =>
    rw [e] at h3
    cases h3
  | cons c r =>
    rw [e] at h3
    exact ⟨c, r, rfl, h3⟩
theorem one_len (c : Nat) : (⟨#[c]⟩ : Str).length = 1 := rfl
theorem SW.weak {G G' H : Hp} {st cs : Addr} {n : Nat} {C : List Cell} (w : SW G' st cs n C H) (s : Same G G') : SW G st cs n C H := by
  obtain ⟨l, a, b, c, w, k⟩ := w
  exact ⟨l, a, b, c, WF.weak w s, k⟩
/-- 'v' + str(k) -/
def vk (k : Nat) : Str := ("v" : Str) ++ Str.ofString (toString (k : Int))
theorem vk_ok : ∀ k < 13, nameB (vk k) = true := by decide +kernel
theorem vk_nodup : ((List.range 13).map vk).Nodup := by decide +kernel
theorem vk_free (xs : List Str) (h : xs.length < 13) (s : Str) : ((s :: (List.range 13).map vk).filter fun n => decide (n ∉ xs)) ≠ [] := fun e => by
  have : ∀ n ∈ (List.range 13).map vk, n ∈ xs := fun n hn => by
    have := List.filter_eq_nil_iff.mp e n (List.mem_cons_of_mem _ hn)
    simpa using this
  have := nodup_len vk_nodup this
  rw [List.length_map, List.length_range] at this
  omega
theorem vk_len : ∀ k : Nat, k < 13 → ("v" : Str).length + (Str.ofString (toString (k : Int))).length ≤ 1000000 := by decide +kernel
theorem tc1 {ta : TE} {σ : L2.St} {H : Hp} {Q : List V → Hp → Prop} (h : ta σ H fun x H1 => Q [x] H1) : tCons ta tNil σ H Q := h
theorem tc2 {ta tb : TE} {σ : L2.St} {H : Hp} {Q : List V → Hp → Prop} (h : ta σ H fun x H1 => tb σ H1 fun y H2 => Q [x, y] H2) : tCons ta (tCons tb tNil) σ H Q := h
theorem filter_take {α : Type} (p : α → Bool) {l : List α} {i : Nat} {x : α} (h : l[i]? = some x) : (l.take (i + 1)).filter p = (l.take i).filter p ++ (if p x = true then [x] else []) := by
  rw [take_more h, List.filter_append]
  congr 1
  by_cases hp : p x = true
  · simp [hp]
  · simp [hp]
end Lr

namespace Lr
open PySem PySem.Spec PyProof.Rows L2
theorem dpInts (K : PySem.W.Frag) (H : Hp) : ∀ l : List Int, DpAll K H (l.map V.int) (l.map PyData.int)
  | [] => .nil
  | i :: r => .cons (.int i) (dpInts K H r)
theorem shInts (l : List Int) : SeqAt.shaped (.list (l.map PyData.int)) = true := by
  have h1 : ∀ l : List Int, PyData.canLayAll0 (l.map PyData.int) = true := fun l => by
    induction l with
    | nil => rfl
    | cons i r ih => simp [PyData.canLayAll0, PyData.canLay0, ih]
  have h2 : ∀ l : List Int, PyData.depthAll (l.map PyData.int) ≤ 1 := fun l => by
    induction l with
    | nil => simp [PyData.depthAll]
    | cons i r ih => simp [PyData.depthAll, PyData.depth, ih]
  unfold SeqAt.shaped
  rw [Bool.and_eq_true]
  refine ⟨h1 l, decide_eq_true ?_⟩
  show (PyData.list (l.map PyData.int)).depth ≤ 64
  have := h2 l
  simp only [PyData.depth]
  omega
theorem rNeA.dat {K : PySem.W.Frag} {x y : V} {d e : PyData} {H : Hp} {Q : VK} (h1 : Dp K H x d) (h2 : Dp K H y e) (s1 : SeqAt.shaped d = true) (s2 : SeqAt.shaped e = true) (q : Q (.bl (!PyData.eqv d e)) H) : rNeA K x y H Q := by
  unfold rNeA
  exact .inr ⟨_, _, h1, h2, s1, s2, q⟩
theorem rEqA.dat {K : PySem.W.Frag} {x y : V} {d e : PyData} {H : Hp} {Q : VK} (h1 : Dp K H x d) (h2 : Dp K H y e) (s1 : SeqAt.shaped d = true) (s2 : SeqAt.shaped e = true) (q : Q (.bl (PyData.eqv d e)) H) : rEqA K x y H Q := by
  unfold rEqA
  exact .inr ⟨_, _, h1, h2, s1, s2, q⟩
theorem dpStrs (K : PySem.W.Frag) (H : Hp) : ∀ l : List Str, DpAll K H (l.map V.str) (l.map PyData.str)
  | [] => .nil
  | i :: r => .cons (.str i) (dpStrs K H r)
theorem nameB_strOk {s : Str} (h : nameB s = true) : PyData.strOk s = true := by
  have h2 := (nameB.p h).1
  unfold PyData.strOk
  rw [Array.all_eq_true_iff_forall_mem]
  intro c hc
  unfold sgns at h2
  have := List.all_eq_true.mp h2 c (by simpa using hc)
  unfold low fig at this
  simp only [Bool.or_eq_true, decide_eq_true_eq] at this
  exact decide_eq_true (by omega)
theorem shStrs (l : List Str) (hl : ∀ s ∈ l, nameB s = true) : SeqAt.shaped (.list (l.map PyData.str)) = true := by
  have h1 : ∀ l : List Str, (∀ s ∈ l, nameB s = true) → PyData.canLayAll0 (l.map PyData.str) = true := fun l => by
    induction l with
    | nil => exact fun _ => rfl
    | cons i r ih =>
      intro h
      have a := nameB_strOk (h i List.mem_cons_self)
      have b := ih fun s hs => h s (List.mem_cons_of_mem _ hs)
      simp [PyData.canLayAll0, PyData.canLay0, a, b]
  have h2 : ∀ l : List Str, PyData.depthAll (l.map PyData.str) ≤ 1 := fun l => by
    induction l with
    | nil => simp [PyData.depthAll]
    | cons i r ih => simp [PyData.depthAll, PyData.depth, ih]
  unfold SeqAt.shaped
  rw [Bool.and_eq_true]
  refine ⟨h1 l hl, decide_eq_true ?_⟩
  show (PyData.list (l.map PyData.str)).depth ≤ 64
  have := h2 l
  simp only [PyData.depth]
  omega
theorem RowOk.sub {ns a b : List Str} (ha : a.Sublist ns) (hb : b.Sublist ns) (h0 : b ≠ []) (nd : ns.Nodup) (srt : ns.Pairwise leS) : RowOk ns (a, b) :=
  ⟨h0, fun _ h => ha.subset h, fun _ h => hb.subset h, nd.sublist ha, nd.sublist hb, srt.sublist ha, srt.sublist hb⟩
theorem SW.recG {G H : Hp} {st cs : Addr} {n : Nat} {C : List Cell} {p q t : Addr} {a b : List Str} (W : SW G st cs n C H) (np : H p = none) (nq : (upd H p (.tup (a.map V.str))) q = none) (nt : (upd (upd H p (.tup (a.map V.str))) q (.tup (b.map V.str))) t = none) :
    ∃ G', Same G G' ∧ SW G' st cs n C (upd (upd (upd H p (.tup (a.map V.str))) q (.tup (b.map V.str))) t (.tup [.ref p, .ref q])) ∧ Rep G' (recD (a, b)) (.ref t) := by
  have w1 := W.newG (o := .tup (a.map V.str)) np
  have s1 := W.leG (o := .tup (a.map V.str)) np
  have w2 := w1.newG (o := .tup (b.map V.str)) nq
  have s2 := w1.leG (o := .tup (b.map V.str)) nq
  have w3 := w2.newG (o := .tup [.ref p, .ref q]) nt
  have s3 := w2.leG (o := .tup [.ref p, .ref q]) nt
  exact ⟨_, s1.trans (s2.trans s3), w3, .tup upd_same (.cons (.tup (s3 _ _ (s2 _ _ upd_same)) (rep_strs _)) (.cons (.tup (s3 _ _ upd_same) (rep_strs _)) .nil))⟩
theorem sub_strs {ys : List V} {ns : List Str} (h : ys.Sublist (ns.map V.str)) : ∃ zs : List Str, zs.Sublist ns ∧ ys = zs.map V.str := by
  obtain ⟨zs, h1, h2⟩ := List.sublist_map_iff.mp h
  exact ⟨zs, h1, h2⟩
/-- two ways to one tail -/
theorem tjoin {A B : TS} {D : Ends} {σ : L2.St} {H : Hp} (Pj : L2.St → Hp → Prop) (tail : ∀ σ' H', Pj σ' H' → B D σ' H') (h : (∀ σ' H', Pj σ' H' → B D σ' H') → A { D with nx := B D } σ H) : tSeq A B D σ H := h tail
theorem eqv_nil (zs : List Str) : PyData.eqv (.list (zs.map PyData.str)) (.list []) = decide (zs = []) := by
  cases zs <;> rfl
end Lr

/-! # Logs told anew in other kinds of lists -/
namespace Lr
open PySem PySem.Spec PyProof.Rows L2
def unS : V → Str
  | .str s => s
  | _ => ""
theorem perm_strs {ys : List V} {xs : List Str} (h : ys.Perm (xs.map V.str)) : ∃ zs : List Str, ys = zs.map V.str ∧ zs.Perm xs := by
  refine ⟨ys.map unS, ?_, ?_⟩
  · rw [List.map_map]
    have : ys.map (V.str ∘ unS) = ys.map id := List.map_congr_left fun v hv => by
      obtain ⟨s, _, rfl⟩ := List.mem_map.mp (h.subset hv)
      rfl
    rw [this, List.map_id]
  · have := h.map unS
    rw [List.map_map] at this
    have e : xs.map (unS ∘ V.str) = xs.map id := List.map_congr_left fun v hv => rfl
    rw [e, List.map_id] at this
    exact this
def strT (xs : List Str) : List T := xs.map fun s => T.leaf (.str s)
theorem strT_vals (xs : List Str) : vals (strT xs) = xs.map V.str := by
  unfold vals strT
  rw [List.map_map]
  rfl
theorem strT_cells : ∀ xs : List Str, cellsL (strT xs) = []
  | [] => rfl
  | _ :: r => strT_cells r
theorem strT_data : ∀ xs : List Str, dataL (strT xs) = xs.map PyData.str
  | [] => rfl
  | x :: r => by
    show PyData.str x :: dataL (strT r) = _
    rw [strT_data r]
    rfl
theorem strT_ok {G : Hp} : ∀ xs : List Str, OkL G (strT xs)
  | [] => trivial
  | _ :: r => ⟨trivial, strT_ok r⟩
theorem strT_len (xs : List Str) : (strT xs).length = xs.length := List.length_map _
def rowT (b p q : Addr) (r : Lr.Row) : T := .lst b [.lst p (strT r.1), .lst q (strT r.2)]
theorem rowT_cells (b p q : Addr) (r : Lr.Row) : (rowT b p q r).cells = [(b, .lst [.ref p, .ref q]), (p, .lst (r.1.map V.str)), (q, .lst (r.2.map V.str))] := by
  show (b, HO.lst [.ref p, .ref q]) :: (((p, HO.lst (vals (strT r.1))) :: cellsL (strT r.1)) ++ (((q, HO.lst (vals (strT r.2))) :: cellsL (strT r.2)) ++ [])) = _
  rw [strT_vals, strT_vals, strT_cells, strT_cells]
  rfl
def rawD (r : Lr.Row) : PyData := .list [.list (r.1.map .str), .list (r.2.map .str)]
theorem rowT_data (b p q : Addr) (r : Lr.Row) : (rowT b p q r).data = rawD r := by
  show PyData.list [.list (dataL (strT r.1)), .list (dataL (strT r.2))] = _
  rw [strT_data, strT_data]
  rfl
theorem rowT_ok {G : Hp} (b p q : Addr) (r : Lr.Row) : (rowT b p q r).Ok G := ⟨strT_ok _, strT_ok _, trivial⟩
theorem permB {b c p d : Cell} {A C : List Cell} : (b :: c :: p :: d :: (A ++ C)).Perm (d :: ((A ++ [b, p, c]) ++ C)) := by
  have h1 : ([b, c, p, d] ++ (A ++ C)).Perm ([d, b, p, c] ++ (A ++ C)) := List.Perm.append_right _ (by
    refine (List.Perm.cons b (List.Perm.trans (List.Perm.swap p c [d]) (List.Perm.cons p (List.Perm.swap d c [])))).trans ?_
    -- b p d c
    refine (List.Perm.cons b (List.Perm.swap d p [c])).trans (List.Perm.swap d b [p, c]))
  refine h1.trans (List.Perm.cons d ?_)
  rw [List.append_assoc]
  exact List.perm_append_comm_assoc [b, p, c] A C
abbrev RowsP (rows ps : List Lr.Row) : Prop := rows.length = ps.length ∧ ∀ (i : Nat) (r s : Lr.Row), rows[i]? = some r → ps[i]? = some s → s.1.Perm r.1 ∧ s.2.Perm r.2
theorem RowsP.app {rows ps : List Lr.Row} {r s : Lr.Row} (h : RowsP rows ps) (h1 : s.1.Perm r.1) (h2 : s.2.Perm r.2) : RowsP (rows ++ [r]) (ps ++ [s]) := by
  refine ⟨by rw [List.length_append, List.length_append, h.1]; rfl, fun i a b ha hb => ?_⟩
  by_cases hi : i < rows.length
  · rw [List.getElem?_append_left hi] at ha
    rw [List.getElem?_append_left (by rw [← h.1]; exact hi)] at hb
    exact h.2 i a b ha hb
  · rw [List.getElem?_append_right (by omega)] at ha
    rw [List.getElem?_append_right (by rw [← h.1]; omega), ← h.1] at hb
    cases e : i - rows.length with
    | zero =>
      rw [e] at ha hb
      cases ha
      cases hb
      exact ⟨h1, h2⟩
    | succ j =>
      rw [e] at ha
      cases ha
/-- [[_law_mixed(stream, row[0]), _law_mixed(stream, row[1])] for row in log[1]] -/
theorem loop_rows {K : PySem.W.Frag} {G : Hp} {C : List Cell} {st cs a : Addr} {n : Nat} {L : LogM} {σ : L2.St} {H : Hp} {Q : VK} {vs : List Nat} {j : Nat}
    (h0 : ∀ x, ((wipe σ vs).set j (some x))[0]? = some (some (.ref st))) (h1 : σ[1]? = some (some (.ref a))) (hw : ∀ x, ((wipe σ vs).set j (some x))[j]? = some (some x)) (hw2 : ∀ x, wipe ((wipe σ vs).set j (some x)) vs = wipe σ vs)
    (W : SW G st cs n C H) (V0 : LogV G a L) (n40 : n + 2000 < 2 ^ 40)
    (k : ∀ (ps : List Lr.Row) (ts : List T) (D : Addr) (H' : Hp), RowsP L.rows ps → OkL G ts → dataL ts = ps.map rawD → SW G st cs (n + 2000) ((D, .lst (vals ts)) :: (cellsL ts ++ C)) H' → Q (.ref D) H') :
    tLc (iSeq K (tOp (rIx K) (tVar 1) (tC (.int 1)))) (gName j) tYes (tLst (tCons (tCall spMixed [] E0 (tCons (tVar 0) (tCons (tOp (rIx K) (tVar j) (tC (.int 0))) tNil))) (tCons (tCall spMixed [] E0 (tCons (tVar 0) (tCons (tOp (rIx K) (tVar j) (tC (.int 1))) tNil))) tNil))) vs σ H Q := by
  obtain ⟨lp, lq, rvs, g1, g2, g3, g4⟩ := V0.ex
  have lr := g4.length
  rw [List.length_map] at lr
  have l60 := V0.rl
  refine lc_seq (xs := rvs) (k := true) (fun R r => ⟨_, h1, rIx.lst (W.getG g1) (atI_nat (j := 1) rfl) r⟩) (SqK.lst (W.getG g3)) fun D nD => ⟨fun i H' => ∃ (ps : List Lr.Row) (ts : List T), RowsP (L.rows.take i) ps ∧ OkL G ts ∧ dataL ts = ps.map rawD ∧ ts.length = i ∧ SW G st cs (n + 24 * i) ((D, .lst (vals ts)) :: (cellsL ts ++ C)) H',
    ⟨[], [], ⟨rfl, fun i r s h _ => by simp at h⟩, trivial, rfl, rfl, W.new nD⟩, fun i H' _ ⟨ps, ts, _, _, _, _, w⟩ => SqK.lst (w.getG g3), ?_, ?_⟩
  · rintro i v H' hv ⟨ps, ts, rp, ok, ed, el, w⟩
    have hi := (List.getElem?_eq_some_iff.mp hv).1
    obtain ⟨r, hr, rep⟩ := recs_get g4 hv
    obtain ⟨b, q, t, rfl, gb, gq, gt⟩ := rec_at rep
    obtain ⟨o1, o2, o3, o4, o5, _, _⟩ := V0.rok r (List.mem_of_getElem? hr)
    have l1 := nodup_len o4 o2
    have l2 := nodup_len o5 o3
    have n12 := V0.nn.2
    refine ⟨hw2 _, ?_⟩
    refine ⟨_, h0 _, _, hw _, rIx.tup (w.getG gb) (atI_nat (j := 0) rfl) ⟨G, st, cs, _, _, q, _, rfl, by rw [List.length_map]; omega, by rw [List.length_map]; omega, w, .gt gq, fun ys p1 H1 hp1 np1 w1 => ?_⟩⟩
    obtain ⟨zs, rfl, hz⟩ := perm_strs hp1
    rw [List.length_map] at w1
    refine ⟨_, h0 _, _, hw _, rIx.tup (w1.getG gb) (atI_nat (j := 1) rfl) ⟨G, st, cs, _, _, t, _, rfl, by rw [List.length_map]; omega, by rw [List.length_map]; omega, w1, .gt gt, fun ys p2 H2 hp2 np2 w2 => ?_⟩⟩
    obtain ⟨us, rfl, hu⟩ := perm_strs hp2
    rw [List.length_map] at w2
    refine ⟨by show 2 ≤ sizeLine; decide, fun b2 nb2 => ?_⟩
    have w3 := (w2.new (o := .lst [.ref p1, .ref p2]) nb2).perm permB
    have ec : cellsL (ts ++ [rowT b2 p1 p2 (zs, us)]) = cellsL ts ++ [(b2, .lst [.ref p1, .ref p2]), (p1, .lst (zs.map V.str)), (p2, .lst (us.map V.str))] := by
      rw [cellsL_append]
      show cellsL ts ++ ((rowT b2 p1 p2 (zs, us)).cells ++ []) = _
      rw [rowT_cells, List.append_nil]
    refine ⟨_, w3.hd, sz_lt (by rw [List.length_map]; omega), ps ++ [(zs, us)], ts ++ [rowT b2 p1 p2 (zs, us)], ?_, OkL.app ok ⟨rowT_ok _ _ _ _, trivial⟩, ?_, by rw [List.length_append, el]; rfl, ?_⟩
    · rw [take_more hr]
      exact rp.app hz hu
    · rw [dataL_append, List.map_append, ed]
      show _ ++ [(rowT b2 p1 p2 (zs, us)).data] = _
      rw [rowT_data]
      rfl
    · rw [ec]
      have ev : vals (ts ++ [rowT b2 p1 p2 (zs, us)]) = vals ts ++ [.ref b2] := by simp [vals, rowT, T.val]
      rw [ev]
      exact (w3.set).mono (by omega)
  · rintro H' ⟨ps, ts, rp, ok, ed, el, w⟩
    rw [← lr, List.take_length] at rp
    exact k ps ts D H' rp ok ed (w.mono (by omega))
/-! ### the kinds of lists don't matter -/
theorem itemsD_norm (d : PyData) : itemsD (norm d) = (itemsD d).map normL := by cases d <;> rfl
theorem namesL_norm : ∀ (ds : List PyData) (acc : List Str), namesL (normL ds) acc = namesL ds acc
  | [], acc => rfl
  | d :: r, acc => by
    cases d with
    | str s =>
      show (if nameB s = true ∧ s ∉ acc then namesL (normL r) (acc ++ [s]) else none) = (if nameB s = true ∧ s ∉ acc then namesL r (acc ++ [s]) else none)
      rw [namesL_norm r]
    | _ => rfl
theorem namesD_norm (d : PyData) : namesD (norm d) = namesD d := by
  unfold namesD
  rw [itemsD_norm]
  cases itemsD d with
  | none => rfl
  | some ds =>
    show (namesL (normL ds) []).map sortS = (namesL ds []).map sortS
    rw [namesL_norm]
theorem lotD_norm (d : PyData) (ns : List Str) : lotD (norm d) ns = lotD d ns := by
  unfold lotD
  rw [namesD_norm]
theorem rowD_norm (d : PyData) (ns : List Str) : rowD (norm d) ns = rowD d ns := by
  unfold rowD
  rw [itemsD_norm]
  cases itemsD d with
  | none => rfl
  | some ds =>
    match ds with
    | [] => rfl
    | [_] => rfl
    | [a, b] =>
      show (match lotD (norm a) ns, lotD (norm b) ns with
        | some r, some w => if w = [] then none else some (r, w)
        | _, _ => none) = (match lotD a ns, lotD b ns with
        | some r, some w => if w = [] then none else some (r, w)
        | _, _ => none)
      rw [lotD_norm, lotD_norm]
    | _ :: _ :: _ :: _ => rfl
theorem rowsL_norm (ns : List Str) : ∀ (ds : List PyData) (i : Nat) (acc : List Lr.Row), rowsL ns (normL ds) i acc = rowsL ns ds i acc
  | [], i, acc => rfl
  | d :: r, i, acc => by
    show (match rowD (norm d) ns with
      | none => Except.error i
      | some x => if i = 60 then Except.error i else rowsL ns (normL r) (i + 1) (acc ++ [x])) = (match rowD d ns with
      | none => Except.error i
      | some x => if i = 60 then Except.error i else rowsL ns r (i + 1) (acc ++ [x]))
    rw [rowD_norm]
    cases rowD d ns with
    | none => rfl
    | some x =>
      show (if i = 60 then _ else rowsL ns (normL r) (i + 1) (acc ++ [x])) = (if i = 60 then _ else rowsL ns r (i + 1) (acc ++ [x]))
      rw [rowsL_norm ns r]
theorem logD_norm (dp dr : PyData) : logD (norm dp) (norm dr) = logD dp dr := by
  unfold logD
  rw [namesD_norm, itemsD_norm]
  cases namesD dp with
  | none => rfl
  | some ns =>
    cases itemsD dr with
    | none => rfl
    | some ds =>
      show (if 1 ≤ ns.length ∧ ns.length ≤ 12 then (match rowsL ns (normL ds) 0 [] with
        | .error i => LogR.records i
        | .ok rows => .log ⟨ns, rows⟩) else .pages) = (if 1 ≤ ns.length ∧ ns.length ≤ 12 then (match rowsL ns ds 0 [] with
        | .error i => LogR.records i
        | .ok rows => .log ⟨ns, rows⟩) else .pages)
      rw [rowsL_norm]
theorem norm_str {d : PyData} {s : Str} (h : d = .str s) : norm d = .str s := by rw [h]; rfl
theorem normL_mem {d : PyData} : ∀ {ds : List PyData}, d ∈ ds → norm d ∈ normL ds
  | e :: r, h => by
    rcases List.mem_cons.mp h with rfl | h
    · exact List.mem_cons_self
    · exact List.mem_cons_of_mem _ (normL_mem h)
theorem ShortD.norm {d : PyData} (h : ShortD (norm d)) : ShortD d := fun ds e => by
  have := h (normL ds) (by rw [itemsD_norm, e]; rfl)
  rw [normL_length] at this
  exact ⟨this.1, fun x hx s es => this.2 (Lr.norm x) (normL_mem hx) s (norm_str es)⟩
theorem Short2.norm {d : PyData} (h : Short2 (norm d)) : Short2 d := fun ds e => by
  have := h (normL ds) (by rw [itemsD_norm, e]; rfl)
  rw [normL_length] at this
  exact ⟨this.1, fun x hx => ShortD.norm (this.2 (Lr.norm x) (normL_mem hx))⟩
theorem LongD.norm {d : PyData} (h : LongD (norm d)) : LongD d := fun ds e => by
  have := h (normL ds) (by rw [itemsD_norm, e]; rfl)
  rw [normL_length] at this
  exact ⟨this.1, fun x hx => Short2.norm (this.2 (Lr.norm x) (normL_mem hx))⟩
/-! ### what a drawn log makes -/
theorem lotD_of {xs ys ns : List Str} (h : ys.Perm xs) (nd : xs.Nodup) (srt : xs.Pairwise leS) (nb : ∀ n ∈ xs, nameB n = true) (sub : ∀ n ∈ xs, n ∈ ns) : lotD (.list (ys.map .str)) ns = some xs := by
  have e1 : namesL (ys.map PyData.str) [] = some ys := by
    have := namesL_strs ys [] (fun y hy => nb y (h.mem_iff.mp hy)) (by simpa using h.nodup_iff.mpr nd)
    simpa using this
  have e2 : namesD (.list (ys.map .str)) = some xs := by
    show (namesL (ys.map PyData.str) []).map sortS = some xs
    rw [e1]
    show some (sortS ys) = some xs
    rw [sortS_eq h, sortS_self srt]
  unfold lotD
  rw [e2]
  show (if ∀ x ∈ xs, x ∈ ns then some xs else none) = some xs
  rw [if_pos sub]
theorem namesD_of {xs ys : List Str} (h : ys.Perm xs) (nd : xs.Nodup) (srt : xs.Pairwise leS) (nb : ∀ n ∈ xs, nameB n = true) : namesD (.list (ys.map .str)) = some xs := by
  have e1 : namesL (ys.map PyData.str) [] = some ys := by
    have := namesL_strs ys [] (fun y hy => nb y (h.mem_iff.mp hy)) (by simpa using h.nodup_iff.mpr nd)
    simpa using this
  show (namesL (ys.map PyData.str) []).map sortS = some xs
  rw [e1]
  show some (sortS ys) = some xs
  rw [sortS_eq h, sortS_self srt]
theorem rowD_of {ns : List Str} {r s : Lr.Row} (nb : ∀ n ∈ ns, nameB n = true) (o : RowOk ns r) (h1 : s.1.Perm r.1) (h2 : s.2.Perm r.2) : rowD (rawD s) ns = some r := by
  obtain ⟨o1, o2, o3, o4, o5, o6, o7⟩ := o
  show (match lotD (.list (s.1.map .str)) ns, lotD (.list (s.2.map .str)) ns with
    | some r, some w => if w = [] then none else some (r, w)
    | _, _ => none) = _
  rw [lotD_of h1 o4 o6 (fun n hn => nb n (o2 n hn)) o2, lotD_of h2 o5 o7 (fun n hn => nb n (o3 n hn)) o3]
  show (if r.2 = [] then none else some (r.1, r.2)) = some r
  rw [if_neg o1]
theorem rowsL_of {ns : List Str} (nb : ∀ n ∈ ns, nameB n = true) : ∀ (rows ps : List Lr.Row) (i : Nat) (acc : List Lr.Row) (rest : List PyData), (∀ r ∈ rows, RowOk ns r) → RowsP rows ps → i + rows.length ≤ 60 →
    rowsL ns (ps.map rawD ++ rest) i acc = rowsL ns rest (i + rows.length) (acc ++ rows)
  | [], [], i, acc, rest, _, _, _ => by simp
  | [], _ :: _, _, _, _, _, h, _ => by cases h.1
  | _ :: _, [], _, _, _, _, h, _ => by cases h.1
  | r :: rows, s :: ps, i, acc, rest, ro, h, l => by
    have h0 := h.2 0 r s rfl rfl
    have ht : RowsP rows ps := ⟨Nat.succ.inj h.1, fun j a b ha hb => h.2 (j + 1) a b ha hb⟩
    rw [List.length_cons] at l
    show (match rowD (rawD s) ns with
      | none => Except.error i
      | some x => if i = 60 then Except.error i else rowsL ns (ps.map rawD ++ rest) (i + 1) (acc ++ [x])) = _
    rw [rowD_of nb (ro r List.mem_cons_self) h0.1 h0.2]
    show (if i = 60 then _ else rowsL ns (ps.map rawD ++ rest) (i + 1) (acc ++ [r])) = _
    rw [if_neg (by omega), rowsL_of nb rows ps (i + 1) (acc ++ [r]) rest (fun q hq => ro q (List.mem_cons_of_mem _ hq)) ht (by omega)]
    rw [List.length_cons, List.append_assoc]
    have e : i + 1 + rows.length = i + (rows.length + 1) := by omega
    rw [e]
    rfl
theorem logD_of {G : Hp} {a : Addr} {L : LogM} (V0 : LogV G a L) {ys : List Str} {ps : List Lr.Row} (hy : ys.Perm L.names) (hp : RowsP L.rows ps) : logD (.list (ys.map .str)) (.list (ps.map rawD)) = .log L := by
  unfold logD
  rw [namesD_of hy V0.nd V0.sorted V0.nb]
  show (if 1 ≤ L.names.length ∧ L.names.length ≤ 12 then (match rowsL L.names (ps.map rawD) 0 [] with
    | .error i => LogR.records i
    | .ok rows => .log ⟨L.names, rows⟩) else .pages) = _
  rw [if_pos V0.nn]
  have := rowsL_of V0.nb L.rows ps 0 [] [] V0.rok hp (by have := V0.rl; omega)
  rw [List.append_nil] at this
  rw [this]
  rfl
theorem short_strs {xs : List Str} (h : xs.length ≤ 63) (nb : ∀ n ∈ xs, nameB n = true) : ShortD (.list (xs.map .str)) := fun ds e => by
  cases e
  refine ⟨by rw [List.length_map]; exact h, fun d hd s es => ?_⟩
  obtain ⟨y, hy, rfl⟩ := List.mem_map.mp hd
  cases es
  exact Nat.le_trans (nameB_len (nb _ hy)) (by decide)
theorem short_raw {ns : List Str} {r s : Lr.Row} (l : ns.length ≤ 12) (nb : ∀ n ∈ ns, nameB n = true) (o : RowOk ns r) (h1 : s.1.Perm r.1) (h2 : s.2.Perm r.2) : Short2 (rawD s) := fun ds e => by
  obtain ⟨o1, o2, o3, o4, o5, o6, o7⟩ := o
  have a1 := nodup_len o4 o2
  have a2 := nodup_len o5 o3
  have b1 := h1.length_eq
  have b2 := h2.length_eq
  cases e
  refine ⟨by show 2 ≤ 100000; decide, fun d hd => ?_⟩
  rcases List.mem_cons.mp hd with rfl | hd
  · exact short_strs (by omega) fun n hn => nb n (o2 n (h1.mem_iff.mp hn))
  · rw [List.mem_singleton.mp hd]
    exact short_strs (by omega) fun n hn => nb n (o3 n (h2.mem_iff.mp hn))
theorem long_raw {G : Hp} {a : Addr} {L : LogM} (V0 : LogV G a L) {ps : List Lr.Row} (hp : RowsP L.rows ps) : LongD (.list (ps.map rawD)) := fun ds e => by
  cases e
  have l60 := V0.rl
  refine ⟨by rw [List.length_map, ← hp.1]; omega, fun d hd => ?_⟩
  obtain ⟨s, hs, rfl⟩ := List.mem_map.mp hd
  obtain ⟨i, hi⟩ := List.getElem?_of_mem hs
  have hl := (List.getElem?_eq_some_iff.mp hi).1
  have hl' : i < L.rows.length := by rw [hp.1]; exact hl
  obtain ⟨h1, h2⟩ := hp.2 i _ s (List.getElem?_eq_getElem hl') hi
  exact short_raw V0.nn.2 V0.nb (V0.rok _ (List.getElem_mem hl')) h1 h2
end Lr
namespace Lr
open PySem PySem.Spec PyProof.Rows L2
theorem sz_strs : ∀ xs : List Str, szDL (xs.map PyData.str) = 0
  | [] => rfl
  | x :: r => by
    show 0 + szDL (r.map PyData.str) = 0
    rw [sz_strs r]
theorem dep_strs : ∀ xs : List Str, depDL (xs.map PyData.str) = 0
  | [] => rfl
  | x :: r => by
    show max 0 (depDL (r.map PyData.str)) = 0
    rw [dep_strs r]
    rfl
theorem plain_strs : ∀ xs : List Str, Plains (xs.map PyData.str)
  | [] => trivial
  | x :: r => ⟨trivial, plain_strs r⟩
theorem clean_strs : ∀ xs : List Str, (∀ n ∈ xs, nameB n = true) → CleanDL (xs.map PyData.str)
  | [], _ => trivial
  | x :: r, h => ⟨⟨nameB_ne_late (h x List.mem_cons_self), trivial⟩, clean_strs r fun n hn => h n (List.mem_cons_of_mem _ hn)⟩
theorem sz_raw : ∀ ps : List Lr.Row, szDL (ps.map rawD) = 3 * ps.length
  | [] => rfl
  | s :: r => by
    show ((szDL (s.1.map PyData.str) + 1) + ((szDL (s.2.map PyData.str) + 1) + 0)) + 1 + szDL (r.map rawD) = _
    rw [sz_strs, sz_strs, sz_raw r, List.length_cons]
    omega
theorem dep_raw : ∀ ps : List Lr.Row, depDL (ps.map rawD) ≤ 2
  | [] => Nat.zero_le _
  | s :: r => by
    show max (max (depDL (s.1.map PyData.str) + 1) (max (depDL (s.2.map PyData.str) + 1) 0) + 1) (depDL (r.map rawD)) ≤ 2
    have := dep_raw r
    rw [dep_strs, dep_strs]
    omega
structure RowB (ns : List Str) (s : Lr.Row) : Prop where
  l1 : s.1.length ≤ 12
  l2 : s.2.length ≤ 12
  b1 : ∀ n ∈ s.1, nameB n = true
  b2 : ∀ n ∈ s.2, nameB n = true
theorem RowsP.b {G : Hp} {a : Addr} {L : LogM} {ps : List Lr.Row} (V0 : LogV G a L) (h : RowsP L.rows ps) : ∀ s ∈ ps, RowB L.names s := fun s hs => by
  obtain ⟨i, hi⟩ := List.getElem?_of_mem hs
  have hl := (List.getElem?_eq_some_iff.mp hi).1
  have hl' : i < L.rows.length := by rw [h.1]; exact hl
  obtain ⟨h1, h2⟩ := h.2 i _ s (List.getElem?_eq_getElem hl') hi
  obtain ⟨o1, o2, o3, o4, o5, o6, o7⟩ := V0.rok _ (List.getElem_mem hl')
  have a1 := nodup_len o4 o2
  have a2 := nodup_len o5 o3
  have n12 := V0.nn.2
  exact ⟨by rw [h1.length_eq]; omega, by rw [h2.length_eq]; omega, fun n hn => V0.nb n (o2 n (h1.mem_iff.mp hn)), fun n hn => V0.nb n (o3 n (h2.mem_iff.mp hn))⟩
theorem plain_raw {ns : List Str} : ∀ ps : List Lr.Row, (∀ s ∈ ps, RowB ns s) → Plains (ps.map rawD)
  | [], _ => trivial
  | s :: r, h => by
    have b := h s List.mem_cons_self
    have l1 := b.l1
    have l2 := b.l2
    exact ⟨⟨⟨⟨plain_strs _, by rw [List.length_map]; omega⟩, ⟨plain_strs _, by rw [List.length_map]; omega⟩, trivial⟩, by show 2 ≤ 100000; decide⟩, plain_raw r fun s hs => h s (List.mem_cons_of_mem _ hs)⟩
theorem clean_raw {ns : List Str} : ∀ ps : List Lr.Row, (∀ s ∈ ps, RowB ns s) → CleanDL (ps.map rawD)
  | [], _ => trivial
  | s :: r, h => by
    have b := h s List.mem_cons_self
    have l1 := b.l1
    have l2 := b.l2
    exact ⟨⟨trivial, ⟨⟨trivial, ⟨clean_strs _ b.b1, by rw [List.length_map]; omega⟩⟩, ⟨trivial, ⟨clean_strs _ b.b2, by rw [List.length_map]; omega⟩⟩, trivial⟩, by show 2 ≤ 100000; decide⟩, clean_raw r fun s hs => h s (List.mem_cons_of_mem _ hs)⟩
/-- _law_made(stream, log) -/
def spMade (Cl : Addr) : Sp := fun vs H Q _ => ∃ (G : Hp) (st cs : Addr) (n : Nat) (C : List Cell) (a : Addr) (L : LogM), vs = [.ref st, .ref a] ∧ LogV G a L ∧ n + 3000 < 2 ^ 40 ∧ SW G st cs n C H ∧
  ∀ x G' H', Same G G' → LogAt Cl G' x L → SW G' st cs (n + 3000) C H' → Q (.ref x) H'
/-- _law_aheld(stream, log) -/
def spAheld : Sp := fun vs H Q _ => ∃ (G : Hp) (st cs : Addr) (n : Nat) (C : List Cell) (a : Addr) (L : LogM), vs = [.ref st, .ref a] ∧ LogV G a L ∧ n + 6000 < 2 ^ 40 ∧ SW G st cs n C H ∧
  ∀ G' H', Same G G' → SW G' st cs (n + 6000) C H' → Q (.bl true) H'
/-- a log made: the spring stands by -/
theorem SW.make {G H : Hp} {st cs x dx Cl CB CR : Addr} {n : Nat} {C : List Cell} {vp vr : V} {dp dr : PyData} {L : LogM} {R : Hp → Prop} {E : XK} (W : SW G st cs n C H) (hp : RepC G C dp vp) (hr : RepC G C dr vr) (sp : ShortD dp) (sr : LongD dr) (e : logD dp dr = .log L)
    (nx : H x = none) (nd : H dx = none) (ne : dx ≠ x) (k : ∀ G' H', Same G G' → SW G' st cs n C H' → LogAt Cl G' x L → R H') :
    spLogInit Cl CB CR (.ref x :: [vp, vr]) (upd (upd H dx (.own x)) x (.ins Cl dx [])) (fun v H2 => v = .non ∧ R H2) E := by
  obtain ⟨l, a, b, c, w, h1⟩ := W
  have w1 := w.newG (o := .own x) nd
  have s1 := w.leG (o := .own x) nd
  have w2 := w1.new (o := .ins Cl dx []) (show (upd H dx (.own x)) x = none by rw [upd_ne (fun z => ne z.symm)]; exact nx)
  refine ⟨_, _, x, dx, dp, dr, vp, vr, rfl, w2, (hp.cons.cons).mono s1, (hr.cons.cons).mono s1, sp, sr, (fun z => by rw [e] at z; cases z), (fun i z => by rw [e] at z; cases z), fun L' z G' H' s w' A => ⟨rfl, ?_⟩⟩
  rw [e] at z
  cases z
  exact k G' H' (s1.trans s) ⟨l, a, b, c, w', h1⟩ A
end Lr
namespace Lr
open PySem PySem.Spec PyProof.Rows L2
theorem RepC.strs {G : Hp} {C : List Cell} {p : Addr} {zs : List Str} (h : Sees G C p (.lst (zs.map V.str))) : RepC G C (.list (zs.map .str)) (.ref p) := by
  refine ⟨upd (fun _ => none) p (.lst (zs.map V.str)), fun a o e => ?_, .lst upd_same (rep_strs _)⟩
  by_cases z : a = p
  · subst z
    rw [upd_same] at e
    cases e
    exact h
  · rw [upd_ne z] at e
    cases e
theorem normL_strs : ∀ xs : List Str, normL (xs.map PyData.str) = xs.map PyData.str
  | [] => rfl
  | x :: r => by
    show PyData.str x :: normL (r.map PyData.str) = _
    rw [normL_strs r]
    rfl
theorem normL_raw : ∀ ps : List Lr.Row, normL (ps.map rawD) = ps.map rawD
  | [] => rfl
  | s :: r => by
    show PyData.list [.list (normL (s.1.map PyData.str)), .list (normL (s.2.map PyData.str))] :: normL (r.map rawD) = _
    rw [normL_strs, normL_strs, normL_raw r]
    rfl
theorem norm_strs (xs : List Str) : norm (.list (xs.map .str)) = .list (xs.map .str) := by
  show PyData.list (normL (xs.map PyData.str)) = _
  rw [normL_strs]
theorem norm_raw (ps : List Lr.Row) : norm (.list (ps.map rawD)) = .list (ps.map rawD) := by
  show PyData.list (normL (ps.map rawD)) = _
  rw [normL_raw]
end Lr
namespace Lr
open PySem PySem.Spec PyProof.Rows L2
theorem permS {c d : Cell} {A C : List Cell} : (c :: d :: (A ++ C)).Perm (A ++ (c :: d :: C)) := List.perm_append_comm_assoc [c, d] A C
theorem SW.spoilt {G H : Hp} {st cs : Addr} {n m : Nat} {C : List Cell} {t : T} {Q : VK} {E : XK} (W : SW G st cs n (t.cells ++ C) H) (ok : t.Ok G) (sm : t.Small) (dp : t.dep < m) (k : ∀ H', SW G st cs n (t.spoil.cells ++ C) H' → Q .non H') : spSpoilt m [t.val] H Q E := by
  obtain ⟨l, a, b, c, w, h1⟩ := W
  exact ⟨G, _, t, rfl, ok, sm, dp, w.perm permS, fun H' w' => k H' ⟨l, a, b, c, w'.perm permS.symm, h1⟩⟩
theorem SW.apart {G H : Hp} {st cs : Addr} {n m : Nat} {C : List Cell} {t : T} {Q : VK} {E : XK} (W : SW G st cs n (t.cells ++ C) H) (ok : t.Ok G) (nl : notLate t.data) (cl : CleanD t.data) (dp : depD t.data < m) (k : ∀ H', SW G st cs n C H' → Q (.bl true) H') : spApart m [t.val] H Q E := by
  obtain ⟨l, a, b, c, w, h1⟩ := W
  exact ⟨G, _, t, rfl, ok, nl, cl, dp, w.perm permS, fun H' w' => k H' ⟨l, a, b, c, w', h1⟩⟩
theorem strs_cells (p : Addr) (zs : List Str) : (T.lst p (strT zs)).cells = [(p, .lst (zs.map V.str))] := by
  show (p, HO.lst (vals (strT zs))) :: cellsL (strT zs) = _
  rw [strT_vals, strT_cells]
theorem rec_trees {G : Hp} : ∀ {rows : List Lr.Row} {rvs : List V}, Reps G (rows.map recD) rvs → ∃ ts : List T, OkL G ts ∧ vals ts = rvs ∧ dataL ts = rows.map recD ∧ cellsL ts = []
  | [], _, .nil => ⟨[], trivial, rfl, rfl, rfl⟩
  | r :: rows, _, .cons h t => by
    obtain ⟨ts, a1, a2, a3, a4⟩ := rec_trees t
    obtain ⟨b, q, u, rfl, gb, gq, gu⟩ := rec_at h
    have eb : T.cells (.tup b [.tup q (strT r.1), .tup u (strT r.2)]) = [] := by
      show cellsL (strT r.1) ++ (cellsL (strT r.2) ++ []) = []
      rw [strT_cells, strT_cells]
      rfl
    refine ⟨.tup b [.tup q (strT r.1), .tup u (strT r.2)] :: ts, ⟨⟨gb, ⟨by rw [strT_vals]; exact gq, strT_ok _⟩, ⟨by rw [strT_vals]; exact gu, strT_ok _⟩, trivial⟩, a1⟩, by rw [← a2]; rfl, ?_, ?_⟩
    · show PyData.tuple [.tuple (dataL (strT r.1)), .tuple (dataL (strT r.2))] :: dataL ts = _
      rw [strT_data, strT_data, a3]
      rfl
    · show T.cells (.tup b [.tup q (strT r.1), .tup u (strT r.2)]) ++ cellsL ts = []
      rw [eb, a4]
      rfl
theorem lk_none {an ar aw ad : Addr} {m : Str} (h1 : m ≠ "names") (h2 : m ≠ "rows") (h3 : m ≠ "writers") (h4 : m ≠ "needs") : (logF an ar aw ad).lookup m = none := by
  unfold logF
  rw [look_cons, if_neg h1, look_cons, if_neg h2, look_cons, if_neg h3, look_cons, if_neg h4]
  rfl
def toldD (L : LogM) : PyData := .list [.list (L.names.map .str), .list (L.rows.map recD)]
theorem dep_recs : ∀ rows : List Lr.Row, depDL (rows.map recD) ≤ 2
  | [] => Nat.zero_le _
  | s :: r => by
    show max (max (depDL (s.1.map PyData.str) + 1) (max (depDL (s.2.map PyData.str) + 1) 0) + 1) (depDL (r.map recD)) ≤ 2
    have := dep_recs r
    rw [dep_strs, dep_strs]
    omega
theorem dep_told (L : LogM) : depD (toldD L) < 5 := by
  show max (depDL (L.names.map PyData.str) + 1) (max (depDL (L.rows.map recD) + 1) 0) + 1 < 5
  have := dep_recs L.rows
  rw [dep_strs]
  omega
theorem plain_recs {ns : List Str} (l : ns.length ≤ 12) : ∀ rows : List Lr.Row, (∀ r ∈ rows, RowOk ns r) → Plains (rows.map recD)
  | [], _ => trivial
  | s :: r, h => by
    obtain ⟨o1, o2, o3, o4, o5, o6, o7⟩ := h s List.mem_cons_self
    have a1 := nodup_len o4 o2
    have a2 := nodup_len o5 o3
    exact ⟨⟨⟨⟨plain_strs _, by rw [List.length_map]; omega⟩, ⟨plain_strs _, by rw [List.length_map]; omega⟩, trivial⟩, by show 2 ≤ 100000; decide⟩, plain_recs l r fun s hs => h s (List.mem_cons_of_mem _ hs)⟩
theorem clean_recs {ns : List Str} (l : ns.length ≤ 12) (nb : ∀ n ∈ ns, nameB n = true) : ∀ rows : List Lr.Row, (∀ r ∈ rows, RowOk ns r) → CleanDL (rows.map recD)
  | [], _ => trivial
  | s :: r, h => by
    obtain ⟨o1, o2, o3, o4, o5, o6, o7⟩ := h s List.mem_cons_self
    have a1 := nodup_len o4 o2
    have a2 := nodup_len o5 o3
    exact ⟨⟨trivial, ⟨⟨trivial, ⟨clean_strs _ fun n hn => nb n (o2 n hn), by rw [List.length_map]; omega⟩⟩, ⟨trivial, ⟨clean_strs _ fun n hn => nb n (o3 n hn), by rw [List.length_map]; omega⟩⟩, trivial⟩, by show 2 ≤ 100000; decide⟩, clean_recs l nb r fun s hs => h s (List.mem_cons_of_mem _ hs)⟩
theorem plain_told {G : Hp} {a : Addr} {L : LogM} (V0 : LogV G a L) : Plain (toldD L) := by
  have h1 := V0.nn.2
  have h2 := V0.rl
  exact ⟨⟨⟨plain_strs _, by rw [List.length_map]; omega⟩, ⟨plain_recs h1 _ V0.rok, by rw [List.length_map]; omega⟩, trivial⟩, by show 2 ≤ 100000; decide⟩
theorem clean_told {G : Hp} {a : Addr} {L : LogM} (V0 : LogV G a L) : CleanD (toldD L) := by
  have h1 := V0.nn.2
  have h2 := V0.rl
  exact ⟨⟨⟨trivial, ⟨clean_strs _ V0.nb, by rw [List.length_map]; omega⟩⟩, ⟨trivial, ⟨clean_recs h1 V0.nb _ V0.rok, by rw [List.length_map]; omega⟩⟩, trivial⟩, by show 2 ≤ 100000; decide⟩
theorem rep_log {G : Hp} {a : Addr} {L : LogM} (V0 : LogV G a L) : Rep G (toldD L) (.ref a) := by
  obtain ⟨p, q, rvs, h1, h2, h3, h4⟩ := V0.ex
  exact .lst h1 (.cons (.lst h2 (rep_strs _)) (.cons (.lst h3 h4) .nil))
end Lr
namespace Lr
open PySem PySem.Spec PyProof.Rows L2
theorem tdrop {te : TE} {D : Ends} {σ : L2.St} {H : Hp} (h : te σ H fun _ H1 => D.nx σ H1) : tDrop te D σ H := h
theorem tnotb {te : TE} {σ : L2.St} {H : Hp} {R : Bool → Hp → Prop} (h : te σ H fun x H1 => ∃ c, x = .bl c ∧ R (!c) H1) : tNot (tB te) σ H R := h
end Lr

/-! # What is no lot of pages, no record -/
namespace Lr
open PySem PySem.Spec PyProof.Rows L2
theorem str_len (s : Str) : s.cps.toList.length = s.length := by simp [Str.length]
theorem nb_long {s : Str} (h : 8 < s.length) : nameB s = false := by
  unfold nameB
  rw [decide_eq_false (show ¬ (1 ≤ s.length ∧ s.length ≤ 8) by omega)]
  rfl
theorem nb_bad {s : Str} {c : Nat} (h : c ∈ s.cps.toList) (h1 : low c = false) (h2 : fig c = false) : nameB s = false := by
  have : sgns s.cps.toList = false := by
    unfold sgns
    rw [List.all_eq_false]
    exact ⟨c, h, by simp [h1, h2]⟩
  unfold nameB
  rw [this]
  simp
theorem nb_first {s : Str} {c : Nat} {r : List Nat} (h : s.cps.toList = c :: r) (h1 : low c = false) : nameB s = false := by
  unfold nameB
  rw [h]
  show (_ && _ && low c) = false
  rw [h1]
  simp
theorem sIx_lo (n : Nat) : HT.sIx n 0 none = 0 := rfl
theorem cut_pre (z : Str) (k : Nat) : (cutS z none (some (k : Int))).cps.toList = z.cps.toList.take k := by
  unfold cutS
  have e : HT.sIx z.length z.length (some (k : Int)) = min k z.length := by
    unfold HT.sIx
    simp
    omega
  rw [sIx_lo, e]
  simp only [List.drop_zero, Nat.sub_zero]
  rw [List.take_eq_take_iff]
  rw [str_len]
  omega
theorem cut_len (z : Str) (lo hi : Option Int) : (cutS z lo hi).length ≤ z.length := by
  rw [← str_len, ← str_len]
  unfold cutS
  show ((z.cps.toList.drop _).take _).toArray.toList.length ≤ _
  rw [List.toList_toArray, List.length_take, List.length_drop]
  omega
theorem cutV_pre (xs : List V) (k : Nat) : cutV xs none (some (k : Int)) = xs.take k := by
  unfold cutV
  rw [sIx_lo, HT.sIx_nat]
  simp only [List.drop_zero, Nat.sub_zero]
  rw [List.take_eq_take_iff]
  omega
def wrongs1 (u : Str) : List Str := [Txt.upper u, cutS (u ++ "abcdefgh0") none (some (9 : Int)), ("7" : Str) ++ cutS u none (some (7 : Int)), cutS u none (some (5 : Int)) ++ ("_" : Str), cutS u none (some (5 : Int)) ++ (" " : Str), cutS u none (some (5 : Int)) ++ ("\n" : Str), ""]
def wrongs2 (u : Str) : List Str := [cutS u none (some (7 : Int)) ++ ("B" : Str), cutS u none (some (1 : Int)) ++ ("B" : Str) ++ cutS u (some (1 : Int)) (some (7 : Int)), cutS u none (some (5 : Int)) ++ ("-" : Str)]
theorem name_ascii {u : Str} (h : nameB u = true) : ∀ c ∈ u.cps.toList, c < 128 := fun c hc => by
  have h2 := (nameB.p h).1
  unfold sgns at h2
  have := List.all_eq_true.mp h2 c hc
  unfold low fig at this
  simp only [Bool.or_eq_true, decide_eq_true_eq] at this
  omega
theorem wrong_ok {u : Str} (h : nameB u = true) : ∀ s ∈ wrongs1 u ++ wrongs2 u, nameB s = false ∧ s.length ≤ 1000 := by
  have l8 := nameB_len h
  have c5 := cut_len u none (some (5 : Int))
  have c7 := cut_len u none (some (7 : Int))
  have c1 := cut_len u none (some (1 : Int))
  have c17 := cut_len u (some (1 : Int)) (some (7 : Int))
  have u1 : ("_" : Str).length = 1 := by decide +kernel
  have u2 : (" " : Str).length = 1 := by decide +kernel
  have u3 : ("\n" : Str).length = 1 := by decide +kernel
  have u4 : ("B" : Str).length = 1 := by decide +kernel
  have u5 : ("-" : Str).length = 1 := by decide +kernel
  have u6 : ("7" : Str).length = 1 := by decide +kernel
  have m1 : 95 ∈ ("_" : Str).cps.toList := by decide +kernel
  have m2 : 32 ∈ (" " : Str).cps.toList := by decide +kernel
  have m3 : 10 ∈ ("\n" : Str).cps.toList := by decide +kernel
  have m4 : 66 ∈ ("B" : Str).cps.toList := by decide +kernel
  have m5 : 45 ∈ ("-" : Str).cps.toList := by decide +kernel
  have bad : ∀ (a b : Str) (c : Nat), c ∈ b.cps.toList → low c = false → fig c = false → nameB (a ++ b) = false := fun a b c hc h1 h2 => nb_bad (c := c) (by rw [cps_app]; exact List.mem_append_right _ hc) h1 h2
  intro s hs
  simp only [wrongs1, wrongs2, List.mem_append, List.mem_cons, List.not_mem_nil, or_false] at hs
  rcases hs with (rfl | rfl | rfl | rfl | rfl | rfl | rfl) | (rfl | rfl | rfl)
  · obtain ⟨h2, c, r, e, hc⟩ := nameB.p h
    have ea := upper_ascii (name_ascii h)
    have hl : (Txt.upper u).cps.toList = (u.cps.toList).map up1 := by
      rw [ea]
      simp
    refine ⟨?_, ?_⟩
    · refine nb_first (c := up1 c) (r := r.map up1) (by rw [hl, e]; rfl) ?_
      unfold low at hc ⊢
      unfold up1
      have hc' := of_decide_eq_true hc
      rw [if_pos hc']
      exact decide_eq_false (by omega)
    · have := congrArg List.length hl
      rw [str_len, List.length_map, str_len] at this
      omega
  · have e := cut_pre (u ++ "abcdefgh0") 9
    have e9 : ("abcdefgh0" : Str).length = 9 := by decide +kernel
    have hl := congrArg List.length e
    rw [str_len, List.length_take, str_len, len_app, e9] at hl
    have hl2 : (cutS (u ++ "abcdefgh0") none (some (9 : Int))).length = 9 := by
      have : min 9 (u.length + 9) = 9 := by omega
      rw [this] at hl
      exact hl
    exact ⟨nb_long (by omega), by omega⟩
  · refine ⟨nb_first (c := 55) (r := (cutS u none (some (7 : Int))).cps.toList) (by rw [cps_app]; rfl) (by decide), by rw [len_app]; omega⟩
  · exact ⟨bad _ _ 95 m1 (by decide) (by decide), by rw [len_app]; omega⟩
  · exact ⟨bad _ _ 32 m2 (by decide) (by decide), by rw [len_app]; omega⟩
  · exact ⟨bad _ _ 10 m3 (by decide) (by decide), by rw [len_app]; omega⟩
  · exact ⟨by decide +kernel, by decide +kernel⟩
  · exact ⟨bad _ _ 66 m4 (by decide) (by decide), by rw [len_app]; omega⟩
  · refine ⟨nb_bad (c := 66) ?_ (by decide) (by decide), by rw [len_app, len_app]; omega⟩
    rw [cps_app, cps_app]
    exact List.mem_append_left _ (List.mem_append_right _ m4)
  · exact ⟨bad _ _ 45 m5 (by decide) (by decide), by rw [len_app]; omega⟩
/-! ### lots that are none -/
theorem namesL_shape : ∀ {ds : List PyData} {acc xs : List Str}, namesL ds acc = some xs → ∃ ys : List Str, ds = ys.map .str ∧ xs = acc ++ ys
  | [], acc, xs, h => by
    cases h
    exact ⟨[], rfl, by simp⟩
  | d :: r, acc, xs, h => by
    cases d with
    | str s =>
      have h' : (if nameB s = true ∧ s ∉ acc then namesL r (acc ++ [s]) else none) = some xs := h
      by_cases c : nameB s = true ∧ s ∉ acc
      · rw [if_pos c] at h'
        obtain ⟨ys, e1, e2⟩ := namesL_shape h'
        exact ⟨s :: ys, by rw [e1]; rfl, by rw [e2]; simp⟩
      · rw [if_neg c] at h'
        cases h'
    | _ => cases h
theorem namesD_list {ds : List PyData} {ns : List Str} (h : namesD (.list ds) = some ns) : ∃ ys : List Str, ds = ys.map .str ∧ ns.length = ys.length ∧ ys.Nodup ∧ ∀ y ∈ ys, nameB y = true := by
  have h' : (namesL ds []).map sortS = some ns := h
  cases e : namesL ds [] with
  | none =>
    rw [e] at h'
    cases h'
  | some xs =>
    rw [e] at h'
    cases h'
    obtain ⟨ys, e1, e2⟩ := namesL_shape e
    obtain ⟨a, b⟩ := namesL_ok e List.nodup_nil (fun n hn => by cases hn)
    have e3 : xs = ys := by simpa using e2
    subst e3
    exact ⟨xs, e1, sortS_length xs, a, b⟩
def BadP (d : PyData) : Prop := ∀ dr, logD d dr = .pages
theorem BadP.none {d : PyData} (h : namesD d = none) : BadP d := fun dr => by
  unfold logD
  rw [h]
theorem BadP.len {d : PyData} {ns : List Str} (h : namesD d = some ns) (l : ¬ (1 ≤ ns.length ∧ ns.length ≤ 12)) : BadP d := fun dr => by
  unfold logD
  rw [h]
  show (if 1 ≤ ns.length ∧ ns.length ≤ 12 then _ else LogR.pages) = _
  rw [if_neg l]
/-- a list of which each reading as names fails -/
theorem BadP.list {ds : List PyData} (h : ∀ ys : List Str, ds = ys.map .str → ys.Nodup → (∀ y ∈ ys, nameB y = true) → ¬ (1 ≤ ys.length ∧ ys.length ≤ 12)) : BadP (.list ds) := by
  cases e : namesD (.list ds) with
  | none => exact BadP.none e
  | some ns =>
    obtain ⟨ys, e1, e2, e3, e4⟩ := namesD_list e
    exact BadP.len e (by rw [e2]; exact h ys e1 e3 e4)
/-! ### lists of trees -/
theorem dataL_map : ∀ ts : List T, dataL ts = ts.map T.data
  | [] => rfl
  | t :: ts => by
    show t.data :: dataL ts = _
    rw [dataL_map ts]
    rfl
theorem spoilL_map : ∀ ts : List T, spoilL ts = ts.map T.spoil
  | [] => rfl
  | t :: ts => by
    show t.spoil :: spoilL ts = _
    rw [spoilL_map ts]
    rfl
theorem OkL_all {G : Hp} : ∀ {ts : List T}, (∀ t ∈ ts, t.Ok G) → OkL G ts
  | [], _ => trivial
  | t :: ts, h => ⟨h t List.mem_cons_self, OkL_all fun u hu => h u (List.mem_cons_of_mem _ hu)⟩
theorem SmallL_all : ∀ {ts : List T}, (∀ t ∈ ts, t.Small) → SmallL ts
  | [], _ => trivial
  | t :: ts, h => ⟨h t List.mem_cons_self, SmallL_all fun u hu => h u (List.mem_cons_of_mem _ hu)⟩
theorem depL_all {m : Nat} : ∀ {ts : List T}, (∀ t ∈ ts, t.dep ≤ m) → depL ts ≤ m
  | [], _ => Nat.zero_le _
  | t :: ts, h => Nat.max_le.mpr ⟨h t List.mem_cons_self, depL_all fun u hu => h u (List.mem_cons_of_mem _ hu)⟩
theorem Eqas_all : ∀ {ds : List PyData}, (∀ d ∈ ds, Eqa d) → Eqas ds
  | [], _ => trivial
  | t :: ts, h => ⟨h t List.mem_cons_self, Eqas_all fun u hu => h u (List.mem_cons_of_mem _ hu)⟩
theorem dpSL_all {m : Nat} : ∀ {ds : List PyData}, (∀ d ∈ ds, dpS d ≤ m) → dpSL ds ≤ m
  | [], _ => Nat.zero_le _
  | t :: ts, h => Nat.max_le.mpr ⟨h t List.mem_cons_self, dpSL_all fun u hu => h u (List.mem_cons_of_mem _ hu)⟩
theorem cellsL_perm {ts us : List T} (h : ts.Perm us) : (cellsL ts).Perm (cellsL us) := by
  induction h with
  | nil => exact List.Perm.refl _
  | cons x _ ih => exact List.Perm.append_left _ ih
  | swap x y l =>
    show (y.cells ++ (x.cells ++ cellsL l)).Perm (x.cells ++ (y.cells ++ cellsL l))
    exact List.perm_append_comm_assoc _ _ _
  | trans _ _ ih1 ih2 => exact ih1.trans ih2
theorem perm_map_inv {α β : Type} {f : α → β} {ys zs : List β} (h : ys.Perm zs) : ∀ l : List α, zs = l.map f → ∃ l' : List α, ys = l'.map f ∧ l'.Perm l := by
  induction h with
  | nil =>
    intro l e
    exact ⟨l, e, List.Perm.refl _⟩
  | cons x _ ih =>
    intro l e
    cases l with
    | nil => cases e
    | cons a l =>
      rw [List.map_cons] at e
      obtain ⟨e1, e2⟩ := List.cons.inj e
      obtain ⟨l', h1, h2⟩ := ih l e2
      exact ⟨a :: l', by rw [List.map_cons, h1, e1], h2.cons a⟩
  | swap x y r =>
    intro l e
    cases l with
    | nil => cases e
    | cons a l =>
      cases l with
      | nil => cases e
      | cons b l =>
        rw [List.map_cons, List.map_cons] at e
        obtain ⟨e1, e2⟩ := List.cons.inj e
        obtain ⟨e3, e4⟩ := List.cons.inj e2
        exact ⟨b :: a :: l, by rw [List.map_cons, List.map_cons, e1, e3, e4], List.Perm.swap _ _ _⟩
  | trans _ _ ih1 ih2 =>
    intro l e
    obtain ⟨l2, h1, h2⟩ := ih2 l e
    obtain ⟨l3, h3, h4⟩ := ih1 l2 h1
    exact ⟨l3, h3, h4.trans h2⟩
/-- a small thing in a list -/
structure GoodT (G : Hp) (t : T) : Prop where
  ok : t.Ok G
  sm : t.Small
  dp : t.dep ≤ 1
  eq : Eqa t.spoil.data
  ds : dpS t.spoil.data ≤ 1
  st : ∀ s, t.data = .str s → s.length ≤ 1000000
structure AnoT (G : Hp) (t : T) : Prop where
  ok : t.Ok G
  sm : t.Small
  dp : t.dep < 5
  eq : Eqa t.spoil.data
  ds : dpS t.spoil.data < 5
  st : ShortD t.data
  bad : BadP t.data
theorem GoodT.str {G : Hp} {s : Str} (h : s.length ≤ 1000000) : GoodT G (.leaf (.str s)) := ⟨trivial, trivial, Nat.zero_le _, trivial, Nat.zero_le _, fun x e => by cases e; exact h⟩
theorem AnoT.list {G : Hp} {D : Addr} {ts : List T} (h : ∀ t ∈ ts, GoodT G t) (l : ts.length ≤ 20) (b : BadP (.list (dataL ts))) : AnoT G (.lst D ts) := by
  have e : (T.lst D ts).spoil.data = .list (dataL (spoilL ts) ++ [.str LATE]) := by
    show PyData.list (dataL (spoilL ts ++ [T.leaf (.str LATE)])) = _
    rw [dataL_append]
    rfl
  refine ⟨OkL_all fun t ht => (h t ht).ok, ⟨by omega, SmallL_all fun t ht => (h t ht).sm⟩, ?_, ?_, ?_, ?_, b⟩
  · have := depL_all (m := 1) fun t ht => (h t ht).dp
    show depL ts + 1 < 5
    omega
  · rw [e]
    refine ⟨Eqas_all fun d hd => ?_, ?_⟩
    · rcases List.mem_append.mp hd with hd | hd
      · rw [spoilL_map, dataL_map, List.map_map] at hd
        obtain ⟨t, ht, rfl⟩ := List.mem_map.mp hd
        exact (h t ht).eq
      · rw [List.mem_singleton.mp hd]
        trivial
    · rw [List.length_append, dataL_length, spoilL_length]
      simp
      omega
  · rw [e]
    have : dpSL (dataL (spoilL ts) ++ [.str LATE]) ≤ 1 := dpSL_all fun d hd => by
      rcases List.mem_append.mp hd with hd | hd
      · rw [spoilL_map, dataL_map, List.map_map] at hd
        obtain ⟨t, ht, rfl⟩ := List.mem_map.mp hd
        exact (h t ht).ds
      · rw [List.mem_singleton.mp hd]
        exact Nat.zero_le _
    show dpSL _ + 1 < 5
    omega
  · intro ds hd
    cases hd
    refine ⟨by rw [dataL_length]; omega, fun d hd s es => ?_⟩
    rw [dataL_map] at hd
    obtain ⟨t, ht, rfl⟩ := List.mem_map.mp hd
    exact (h t ht).st s es
/-- _law_ano_pages(stream, pages) -/
def spAnoPages : Sp := fun vs H Q _ => ∃ (G : Hp) (st cs : Addr) (n : Nat) (C : List Cell) (a : Addr) (ns : List Str), vs = [.ref st, .ref a] ∧ 1 ≤ ns.length ∧ ns.length ≤ 12 ∧ (∀ s ∈ ns, nameB s = true) ∧ G a = some (.lst (ns.map V.str)) ∧ n + 300 < 2 ^ 40 ∧ SW G st cs n C H ∧
  ∀ (t : T) (G' H' : Hp), Same G G' → AnoT G' t → SW G' st cs (n + 300) (t.cells ++ C) H' → Q t.val H'
end Lr
namespace Lr
open PySem PySem.Spec PyProof.Rows L2
def unD : PyData → Str
  | .str s => s
  | _ => ""
theorem data_perm {ts us : List T} (h : ts.Perm us) : (dataL ts).Perm (dataL us) := by
  rw [dataL_map, dataL_map]
  exact h.map _
theorem unD_strs (xs : List Str) : (xs.map PyData.str).map unD = xs := by
  rw [List.map_map]
  have : xs.map (unD ∘ PyData.str) = xs.map id := List.map_congr_left fun _ _ => rfl
  rw [this, List.map_id]
theorem strT_data_perm {ts : List T} {zs ys : List Str} (h : ts.Perm (strT zs)) (e : dataL ts = ys.map .str) : ys.Perm zs := by
  have := (data_perm h).map unD
  rw [e, strT_data, unD_strs, unD_strs] at this
  exact this
theorem strT_app (a b : List Str) : strT (a ++ b) = strT a ++ strT b := List.map_append
theorem good_strs {G : Hp} {zs : List Str} (h : ∀ s ∈ zs, s.length ≤ 1000000) : ∀ t ∈ strT zs, GoodT G t := fun t ht => by
  obtain ⟨s, hs, rfl⟩ := List.mem_map.mp ht
  exact GoodT.str (h s hs)
end Lr

/-! # What is no record -/
namespace Lr
open PySem PySem.Spec PyProof.Rows L2
theorem SW.lstG {G H : Hp} {st cs : Addr} {n : Nat} {C : List Cell} {p : Addr} {ds : List PyData} {vs : List V} (W : SW G st cs n C H) (np : H p = none) (r : Reps G ds vs) : ∃ G', Same G G' ∧ SW G' st cs n C (upd H p (.lst vs)) ∧ Rep G' (.list ds) (.ref p) :=
  ⟨_, W.leG np, W.newG np, .lst upd_same (r.mono (W.leG np))⟩
theorem SW.tupG {G H : Hp} {st cs : Addr} {n : Nat} {C : List Cell} {p : Addr} {ds : List PyData} {vs : List V} (W : SW G st cs n C H) (np : H p = none) (r : Reps G ds vs) : ∃ G', Same G G' ∧ SW G' st cs n C (upd H p (.tup vs)) ∧ Rep G' (.tuple ds) (.ref p) :=
  ⟨_, W.leG np, W.newG np, .tup upd_same (r.mono (W.leG np))⟩
theorem lotD_shape {ds : List PyData} {ns xs : List Str} (h : lotD (.list ds) ns = some xs) : ∃ ys : List Str, ds = ys.map .str ∧ xs.Perm ys ∧ ys.Nodup ∧ ∀ y ∈ ys, y ∈ ns := by
  unfold lotD at h
  have e0 : namesD (.list ds) = (namesL ds []).map sortS := rfl
  rw [e0] at h
  cases e : namesL ds [] with
  | none =>
    rw [e] at h
    cases h
  | some zs =>
    rw [e] at h
    have h' : (if ∀ x ∈ sortS zs, x ∈ ns then some (sortS zs) else none) = some xs := h
    by_cases c : ∀ x ∈ sortS zs, x ∈ ns
    · rw [if_pos c] at h'
      cases h'
      obtain ⟨ys, e1, e2⟩ := namesL_shape e
      obtain ⟨a, b⟩ := namesL_ok e List.nodup_nil (fun n hn => by cases hn)
      have e3 : zs = ys := by simpa using e2
      subst e3
      exact ⟨zs, e1, sortS_perm zs, a, fun y hy => c y ((sortS_perm zs).mem_iff.mpr hy)⟩
    · rw [if_neg c] at h'
      cases h'
theorem lotD_not {ds : List PyData} {ns : List Str} {d : PyData} (h : d ∈ ds) (hd : ∀ s ∈ ns, d ≠ .str s) : lotD (.list ds) ns = none := by
  cases e : lotD (.list ds) ns with
  | none => rfl
  | some xs =>
    obtain ⟨ys, e1, _, _, e4⟩ := lotD_shape e
    rw [e1] at h
    obtain ⟨s, hs, rfl⟩ := List.mem_map.mp h
    exact absurd rfl (hd s (e4 s hs))
theorem lotD_dup {ns : List Str} {u : Str} : lotD (.list [.str u, .str u]) ns = none := by
  cases e : lotD (.list [.str u, .str u]) ns with
  | none => rfl
  | some xs =>
    obtain ⟨ys, e1, _, nd, _⟩ := lotD_shape e
    match ys, e1 with
    | [a, b], e1 =>
      simp only [List.map_cons, List.map_nil, List.cons.injEq, PyData.str.injEq, and_true] at e1
      rw [← e1.1, ← e1.2] at nd
      simp at nd
theorem lotD_nil {ns : List Str} : lotD (.list []) ns = some [] := by
  have : sortS [] = [] := List.length_eq_zero_iff.mp (by rw [sortS_length]; rfl)
  show (if ∀ x ∈ sortS [], x ∈ ns then some (sortS []) else none) = some []
  rw [this]
  simp
theorem lotD_nilT {ns : List Str} : lotD (.tuple []) ns = some [] := lotD_nil
theorem row_a {a b : PyData} {ns : List Str} (h : lotD a ns = none) : rowD (.list [a, b]) ns = none := by
  show (match lotD a ns, lotD b ns with
    | some r, some w => if w = [] then none else some (r, w)
    | _, _ => none) = none
  rw [h]
theorem row_b {a b : PyData} {ns : List Str} (h : lotD b ns = none) : rowD (.list [a, b]) ns = none := by
  show (match lotD a ns, lotD b ns with
    | some r, some w => if w = [] then none else some (r, w)
    | _, _ => none) = none
  rw [h]
  cases lotD a ns <;> rfl
theorem row_e {a b : PyData} {ns : List Str} (h : lotD b ns = some []) : rowD (.list [a, b]) ns = none := by
  show (match lotD a ns, lotD b ns with
    | some r, some w => if w = [] then none else some (r, w)
    | _, _ => none) = none
  rw [h]
  cases lotD a ns <;> rfl
theorem row_t {a b : PyData} {ns : List Str} (h : lotD a ns = none) : rowD (.tuple [a, b]) ns = none := row_a (b := b) h
def shS : PyData → Prop
  | .str s => s.length ≤ 1000000
  | _ => True
def shL : List PyData → Prop
  | [] => True
  | d :: r => shS d ∧ shL r
def shT : PyData → Prop
  | .list ds => ds.length ≤ 63 ∧ shL ds
  | .tuple ds => ds.length ≤ 63 ∧ shL ds
  | _ => True
def shTL : List PyData → Prop
  | [] => True
  | d :: r => shT d ∧ shTL r
theorem shL.mem : ∀ {ds : List PyData}, shL ds → ∀ e ∈ ds, ∀ s, e = .str s → s.length ≤ 1000000
  | d :: r, h, e, he, s, es => by
    rcases List.mem_cons.mp he with rfl | he
    · subst es
      exact h.1
    · exact shL.mem h.2 e he s es
theorem shT.short {d : PyData} (h : shT d) : ShortD d := fun ds e => by
  cases d with
  | list xs =>
    cases e
    exact ⟨h.1, shL.mem h.2⟩
  | tuple xs =>
    cases e
    exact ⟨h.1, shL.mem h.2⟩
  | _ => cases e
theorem shTL.mem : ∀ {ds : List PyData}, shTL ds → ∀ e ∈ ds, ShortD e
  | d :: r, h, e, he => by
    rcases List.mem_cons.mp he with rfl | he
    · exact h.1.short
    · exact shTL.mem h.2 e he
theorem short2_l {ds : List PyData} (l : ds.length ≤ 100000) (h : shTL ds) : Short2 (.list ds) := fun xs e => by
  cases e
  exact ⟨l, h.mem⟩
theorem short2_t {ds : List PyData} (l : ds.length ≤ 100000) (h : shTL ds) : Short2 (.tuple ds) := fun xs e => by
  cases e
  exact ⟨l, h.mem⟩
theorem short2_0 {d : PyData} (h : itemsD d = none) : Short2 d := fun xs e => by
  rw [h] at e
  cases e
structure BadR (ns : List Str) (d : PyData) : Prop where
  no : rowD d ns = none
  sh : Short2 d
theorem Reps.pick {G : Hp} {ds : List PyData} {vs : List V} {P : PyData → Prop} {i : Nat} {v : V} (r : Reps G ds vs) (h : ∀ d ∈ ds, P d) (hv : vs[i]? = some v) : ∃ d, P d ∧ Rep G d v := by
  obtain ⟨d, hd, rd⟩ := r.get hv
  exact ⟨d, h d (List.mem_of_getElem? hd), rd⟩
/-- _law_ano_record(stream, pages) -/
def spAnoRecord : Sp := fun vs H Q _ => ∃ (G : Hp) (st cs : Addr) (n : Nat) (C : List Cell) (a : Addr) (ns : List Str), vs = [.ref st, .ref a] ∧ 1 ≤ ns.length ∧ ns.length ≤ 12 ∧ (∀ s ∈ ns, nameB s = true) ∧ G a = some (.lst (ns.map V.str)) ∧ n + 20 < 2 ^ 40 ∧ SW G st cs n C H ∧
  ∀ (d : PyData) (v : V) (G' H' : Hp), Same G G' → Rep G' d v → BadR ns d → SW G' st cs (n + 20) C H' → Q v H'
end Lr
namespace Lr
open PySem PySem.Spec PyProof.Rows L2
/-- _law_ano_log_made(pages, rows) of what is refused -/
def spAnoLogMade : Sp := fun vs H Q _ => ∃ (G : Hp) (C : List Cell) (dp dr : PyData) (vp vr : V), vs = [vp, vr] ∧ WF G C H ∧ RepC G C dp vp ∧ RepC G C dr vr ∧ ShortD dp ∧ LongD dr ∧ (∀ L, logD dp dr ≠ .log L) ∧
  (logD dp dr = .pages → ∀ G' H' p, Same G G' → WF G' C H' → G' p = some (.tup [.str "pages", vp]) → Q (.ref p) H') ∧
  (∀ i : Nat, logD dp dr = .records i → ∀ G' H' p, Same G G' → WF G' C H' → G' p = some (.tup [.str "records", .int i]) → Q (.ref p) H')
theorem repK_app {H : Hp} : ∀ {es es' : List (PyData × PyData)} {kvs kvs' : List (Key × V)}, RepK H es kvs → RepK H es' kvs' → RepK H (es ++ es') (kvs ++ kvs')
  | _, _, _, _, .nil, r => r
  | _, _, _, _, .cons h t, r => .cons h (repK_app t r)
theorem dataK_append : ∀ (a b : List (Key × T)), dataK (a ++ b) = dataK a ++ dataK b
  | [], _ => rfl
  | p :: a, b => by
    show (kD p.1, p.2.data) :: dataK (a ++ b) = (kD p.1, p.2.data) :: (dataK a ++ dataK b)
    rw [dataK_append a b]
mutual
theorem T.rep_sp {G H : Hp} (s : Same G H) : ∀ {t : T}, t.Ok G → (∀ c ∈ t.spoil.cells, H c.1 = some c.2) → Rep H t.spoil.data t.spoil.val
  | .leaf v, h, _ => rep_leaf h
  | .lst a ts, h, c => by
    have r := repL_sp s (ts := ts) h fun x hx => c x (by
      show x ∈ (a, HO.lst (vals (spoilL ts ++ [T.leaf (.str LATE)]))) :: cellsL (spoilL ts ++ [T.leaf (.str LATE)])
      rw [cellsL_append]
      exact List.mem_cons_of_mem _ (List.mem_append_left _ hx))
    refine .lst (vs := vals (spoilL ts ++ [T.leaf (.str LATE)])) (c (a, .lst (vals (spoilL ts ++ [T.leaf (.str LATE)]))) List.mem_cons_self) ?_
    rw [dataL_append, vals, List.map_append]
    exact r.app (.cons (.str LATE) .nil)
  | .tup a ts, h, c => by
    have r := repL_sp s (ts := ts) h.2 fun x hx => c x hx
    refine .tup (vs := vals (spoilL ts)) ?_ r
    rw [spoilL_vals]
    exact s _ _ h.1
  | .dic a ks, h, c => by
    have r := repK_sp s (ks := ks) h.2.2 fun x hx => c x (by
      show x ∈ (a, HO.dK (valsK (lateK (spoilK ks)))) :: cellsK (lateK (spoilK ks))
      unfold lateK
      rw [cellsK_append]
      exact List.mem_cons_of_mem _ (List.mem_append_left _ hx))
    refine .dic (kvs := valsK (lateK (spoilK ks))) (c (a, .dK (valsK (lateK (spoilK ks)))) List.mem_cons_self) ?_
    unfold lateK
    rw [dataK_append, valsK, List.map_append]
    exact repK_app r (.cons (k := Sum.inr LATE) (.int 1) .nil)
theorem repL_sp {G H : Hp} (s : Same G H) : ∀ {ts : List T}, OkL G ts → (∀ c ∈ cellsL (spoilL ts), H c.1 = some c.2) → Reps H (dataL (spoilL ts)) (vals (spoilL ts))
  | [], _, _ => .nil
  | t :: ts, h, c => .cons (T.rep_sp s h.1 fun x hx => c x (List.mem_append_left _ hx)) (repL_sp s (ts := ts) h.2 fun x hx => c x (List.mem_append_right _ hx))
theorem repK_sp {G H : Hp} (s : Same G H) : ∀ {ks : List (Key × T)}, OkK G ks → (∀ c ∈ cellsK (spoilK ks), H c.1 = some c.2) → RepK H (dataK (spoilK ks)) (valsK (spoilK ks))
  | [], _, _ => .nil
  | p :: ks, h, c => .cons (T.rep_sp s h.1 fun x hx => c x (List.mem_append_left _ hx)) (repK_sp s (ks := ks) h.2 fun x hx => c x (List.mem_append_right _ hx))
end
end Lr

/-! # What a law asks of refused logs -/
namespace Lr
open PySem PySem.Spec PyProof.Rows L2
theorem SW.anoP {G H : Hp} {st cs : Addr} {n : Nat} {C : List Cell} {dp dr : PyData} {vp vr : V} {Q : VK} {E : XK} (W : SW G st cs n C H) (hp : RepC G C dp vp) (hr : RepC G C dr vr) (sp : ShortD dp) (sr : LongD dr) (e : logD dp dr = .pages)
    (k : ∀ G' H' p, Same G G' → SW G' st cs n C H' → G' p = some (.tup [.str "pages", vp]) → Q (.ref p) H') : spAnoLogMade [vp, vr] H Q E := by
  obtain ⟨l, a, b, c, w, h1⟩ := W
  exact ⟨G, _, dp, dr, vp, vr, rfl, w, hp.cons.cons, hr.cons.cons, sp, sr, (fun L z => by rw [e] at z; cases z), (fun _ G' H' p s w' g => k G' H' p s ⟨l, a, b, c, w', h1⟩ g), fun i z => by rw [e] at z; cases z⟩
theorem SW.anoR {G H : Hp} {st cs : Addr} {n i : Nat} {C : List Cell} {dp dr : PyData} {vp vr : V} {Q : VK} {E : XK} (W : SW G st cs n C H) (hp : RepC G C dp vp) (hr : RepC G C dr vr) (sp : ShortD dp) (sr : LongD dr) (e : logD dp dr = .records i)
    (k : ∀ G' H' p, Same G G' → SW G' st cs n C H' → G' p = some (.tup [.str "records", .int i]) → Q (.ref p) H') : spAnoLogMade [vp, vr] H Q E := by
  obtain ⟨l, a, b, c, w, h1⟩ := W
  refine ⟨G, _, dp, dr, vp, vr, rfl, w, hp.cons.cons, hr.cons.cons, sp, sr, (fun L z => by rw [e] at z; cases z), (fun z => by rw [e] at z; cases z), fun j z G' H' p s w' g => ?_⟩
  rw [e] at z
  cases z
  exact k G' H' p s ⟨l, a, b, c, w', h1⟩ g
structure Pgs (ns : List Str) : Prop where
  nn : 1 ≤ ns.length ∧ ns.length ≤ 12
  nd : ns.Nodup
  sorted : ns.Pairwise leS
  nb : ∀ n ∈ ns, nameB n = true
theorem LogV.pgs {G : Hp} {a : Addr} {L : LogM} (h : LogV G a L) : Pgs L.names := ⟨h.nn, h.nd, h.sorted, h.nb⟩
theorem norm_rec (r : Lr.Row) : norm (recD r) = rawD r := by
  show PyData.list [.list (normL (r.1.map PyData.str)), .list (normL (r.2.map PyData.str))] = _
  rw [normL_strs, normL_strs]
  rfl
theorem normL_recs : ∀ rows : List Lr.Row, normL (rows.map recD) = rows.map rawD
  | [] => rfl
  | r :: rows => by
    show norm (recD r) :: normL (rows.map recD) = _
    rw [norm_rec, normL_recs rows]
    rfl
theorem RowsP.self (rows : List Lr.Row) : RowsP rows rows := ⟨rfl, fun i r s a b => by
  rw [a] at b
  cases b
  exact ⟨List.Perm.refl _, List.Perm.refl _⟩⟩
theorem logD_dp {ns : List Str} (h : Pgs ns) {D : PyData} {ds : List PyData} (hD : itemsD D = some ds) : logD (.list (ns.map .str)) D = match rowsL ns ds 0 [] with
    | .error i => .records i
    | .ok rows => .log ⟨ns, rows⟩ := by
  unfold logD
  rw [namesD_of (List.Perm.refl _) h.nd h.sorted h.nb, hD]
  show (if 1 ≤ ns.length ∧ ns.length ≤ 12 then _ else LogR.pages) = _
  rw [if_pos h.nn]
  all_goals rfl
theorem rows_pre {ns : List Str} (h : Pgs ns) {pre : List Lr.Row} (ro : ∀ r ∈ pre, RowOk ns r) (l : pre.length ≤ 60) (rest : List PyData) : rowsL ns (pre.map recD ++ rest) 0 [] = rowsL ns rest pre.length pre := by
  rw [← rowsL_norm, normL_append, normL_recs, rowsL_of h.nb pre pre 0 [] (normL rest) ro (RowsP.self pre) (by omega), Nat.zero_add, List.nil_append, rowsL_norm]
theorem logD_recs {ns : List Str} (h : Pgs ns) {rows : List Lr.Row} (ro : ∀ r ∈ rows, RowOk ns r) (l : rows.length ≤ 60) : logD (.list (ns.map .str)) (.list (rows.map recD)) = .log ⟨ns, rows⟩ := by
  have e := rows_pre h ro l []
  rw [List.append_nil] at e
  rw [logD_dp h (ds := rows.map recD) rfl, e]
  rfl
theorem logD_bad {ns : List Str} (h : Pgs ns) {pre : List Lr.Row} (ro : ∀ r ∈ pre, RowOk ns r) (l : pre.length ≤ 60) {bad D : PyData} {rest : List PyData} (hb : rowD bad ns = none) (hD : itemsD D = some (pre.map recD ++ bad :: rest)) : logD (.list (ns.map .str)) D = .records pre.length := by
  rw [logD_dp h hD, rows_pre h ro l]
  unfold rowsL
  rw [hb]
theorem logD_61 {ns : List Str} (h : Pgs ns) {pre : List Lr.Row} (ro : ∀ r ∈ pre, RowOk ns r) (l : pre.length = 60) {bad D : PyData} {rest : List PyData} (hD : itemsD D = some (pre.map recD ++ bad :: rest)) : logD (.list (ns.map .str)) D = .records 60 := by
  rw [logD_dp h hD, rows_pre h ro (by omega), l]
  unfold rowsL
  cases rowD bad ns with
  | none => rfl
  | some x =>
    simp only [if_true]
theorem logD_non {ns : List Str} (h : Pgs ns) {D : PyData} (hD : itemsD D = none) : logD (.list (ns.map .str)) D = .records 0 := by
  unfold logD
  rw [namesD_of (List.Perm.refl _) h.nd h.sorted h.nb, hD]
  show (if 1 ≤ ns.length ∧ ns.length ≤ 12 then _ else LogR.pages) = _
  rw [if_pos h.nn]
theorem short2_rec {ns : List Str} {r : Lr.Row} (h : Pgs ns) (o : RowOk ns r) : Short2 (recD r) := by
  refine Short2.norm ?_
  rw [norm_rec]
  exact short_raw h.nn.2 h.nb o (List.Perm.refl _) (List.Perm.refl _)
theorem long_of {D : PyData} {ds : List PyData} (h : itemsD D = some ds) (l : ds.length ≤ 100000) (s : ∀ e ∈ ds, Short2 e) : LongD D := fun xs e => by
  rw [h] at e
  cases e
  exact ⟨l, s⟩
theorem long_non {D : PyData} (h : itemsD D = none) : LongD D := fun xs e => by
  rw [h] at e
  cases e
theorem short_ns {ns : List Str} (h : Pgs ns) : ShortD (.list (ns.map .str)) := short_strs (by have := h.nn.2; omega) h.nb
theorem AnoT.mono {G G' : Hp} {t : T} (h : AnoT G t) (s : Same G G') : AnoT G' t := ⟨T.Ok.mono s h.ok, h.sm, h.dp, h.eq, h.ds, h.st, h.bad⟩
theorem rep_spoilt {G H : Hp} {C : List Cell} {t : T} (ok : t.Ok G) (w : WF G (t.spoil.cells ++ C) H) : Rep H t.spoil.data t.val := by
  have := T.rep_sp w.sub ok fun c hc => (w.own c (List.mem_append_left _ hc)).1
  rw [T.spoil_val] at this
  exact this
theorem Reps.take {G : Hp} : ∀ {ds : List PyData} {vs : List V} (k : Nat), Reps G ds vs → Reps G (ds.take k) (vs.take k)
  | _, _, 0, _ => by
    rw [List.take_zero, List.take_zero]
    exact .nil
  | _, _, k + 1, .nil => .nil
  | _, _, k + 1, .cons h t => .cons h (Reps.take k t)
theorem Reps.drop {G : Hp} : ∀ {ds : List PyData} {vs : List V} (k : Nat), Reps G ds vs → Reps G (ds.drop k) (vs.drop k)
  | _, _, 0, r => r
  | _, _, k + 1, .nil => .nil
  | _, _, k + 1, .cons h t => Reps.drop k t
/-- the law's promise -/
def spLaw (K : PySem.W.Frag) : Sp := fun vs H Q _ => ∃ (a : Addr) (ns : List Int), vs = [.ref a] ∧ SqL K H a (ns.map V.int) ∧ ns.length ≤ 63 ∧ ∀ H', Q (.bl true) H'
end Lr
namespace Lr
open PySem PySem.Spec PyProof.Rows L2
theorem tifnb {te : TE} {a b : TS} {D : Ends} {σ : L2.St} {H : Hp} (h : te σ H fun x H1 => ∃ c, x = .bl c ∧ (if (!c) = true then a D σ H1 else b D σ H1)) : tIfS (tNot (tB te)) a b D σ H := h
theorem RepC.own {G : Hp} {C : List Cell} {D : Addr} {ds : List PyData} {vs : List V} (h : (D, HO.lst vs) ∈ C) (g : G D = none) (r : Reps G ds vs) : RepC G C (.list ds) (.ref D) := by
  refine ⟨upd G D (.lst vs), fun a o e => ?_, .lst upd_same (r.mono (same_new g))⟩
  by_cases z : a = D
  · subst z
    rw [upd_same] at e
    cases e
    exact .inr h
  · rw [upd_ne z] at e
    exact .inl e
/-- ('records', i) is told -/
theorem same_rec {G H : Hp} {st cs p q : Addr} {n : Nat} {C : List Cell} {i : Int} {Q : VK} {E : XK} (W : SW G st cs n C H) (gp : G p = some (.tup [.str "records", .int i])) (nq : H q = none) (k : ∀ H', SW G st cs n C H' → Q (.bl true) H') : spSame 5 [.ref p, .ref q] (upd H q (.tup [.str "records", .int i])) Q E := by
  have W1 := W.same (same_new (o := .tup [.str "records", .int i]) nq)
  exact ⟨.tuple [.str "records", .int i], _, _, rfl, .tup (W1.getG gp) (.cons (.str _) (.cons (.int _) .nil)), .tup upd_same (.cons (.str _) (.cons (.int _) .nil)), ⟨⟨trivial, trivial, trivial⟩, by show 2 ≤ 100000; decide⟩, by show 1 < 5; decide, fun H' s => k H' (W1.same s)⟩
end Lr

/-! # Numbers between bounds -/
namespace Lr
open PySem PySem.Spec PyProof.Rows L2
def betB : PyData → Int → Int → Bool
  | .int i, lo, hi => decide (lo ≤ i ∧ i ≤ hi)
  | _, _, _ => false
/-- is_between(thing, low, high) -/
def spBetween : Sp := fun vs H Q _ => ∃ (d : PyData) (v : V) (lo hi : Int), vs = [v, .int lo, .int hi] ∧ TyD H d v ∧ (∀ i, d = .int i → v = .int i) ∧ Q (.bl (betB d lo hi)) H
/-- what isinstance asks of an own class -/
structure InsC (K : PySem.W.Frag) (C : Addr) : Prop where
  cl : Cls K C
  ha : PySem.W.findIn K (.ref C) "__class__" = some (some (.builtin "object.__class__"))
  hn : PySem.W.specialIn K (.builtin "object.__class__") "__get__" = some (some (.builtin "getset_descriptor.__get__"))
  htk : PySem.W.takesIn K (.builtin "object.__class__") = some true
  hm : PySem.W.mroIn K C (.type "object") = some true
theorem InsC.ty {K : PySem.W.Frag} {C : Addr} {H : Hp} {a dx : Addr} {fs : List (Str × V)} (h : InsC K C) (e : H a = some (.ins C dx fs)) : TyX K H (.ref a) (.ref C) := .base (.ins e h.cl h.ha h.hn h.htk h.hm)
theorem isiC {K : PySem.W.Frag} {C : Addr} {H : Hp} {v : V} {t : Value} {b : Bool} {Q : VK} (ty : TyX K H v t) (h : PySem.W.kitOne K t (.ref C) = some b) (q : Q (.bl b) H) : rIsiA K [v, .ref C] H Q := by
  unfold rIsiA
  exact .inl ⟨_, _, _, _, b, rfl, .own C, ty, h, q⟩
theorem kit_self {K : PySem.W.Frag} {C : Addr} : PySem.W.kitOne K (.ref C) (.ref C) = some true := by
  unfold PySem.W.kitOne
  rw [if_pos (by simp)]
/-- no data is of an own class -/
def NoData (K : PySem.W.Frag) (C : Addr) : Prop := ∀ d : PyData, PySem.W.kitOne K (.type (tyD d)) (.ref C) = some false
/-- need_log(log) -/
def spNeedLog (Cl CB : Addr) : Sp := fun vs H Q E => (∃ (G : Hp) (x : Addr) (L : LogM), vs = [.ref x] ∧ LogAt Cl G x L ∧ Same G H ∧ Q .non H) ∨
  ∃ (d : PyData) (v : V), vs = [v] ∧ TyD H d v ∧ ∀ p, H p = none → E (.ref CB) (some p) (upd H p (.xd [("thing", v)]))
/-- an own class by its name -/
theorem pcls {X : Cx} {x : Str} {C : Addr} {pos : Pos} (hg : Gl X x) (hm : X.mg x = some (.ref C)) (hd : (x == ("__debug__" : Str)) = false := by decide) : PE X (.Name x pos) (tC (.ref C)) := pe_glob hg hm rfl hd
theorem inV_ints {x : Int} {xs : List Int} : inV (.int x) (xs.map V.int) = decide (x ∈ xs) := by
  unfold inV
  rw [List.any_map]
  by_cases h : x ∈ xs
  · rw [decide_eq_true h]
    exact List.any_eq_true.mpr ⟨x, h, by simp [eqV]⟩
  · rw [decide_eq_false h]
    refine List.any_eq_false.mpr fun y hy => ?_
    have : y ≠ x := fun e => h (e ▸ hy)
    simpa [eqV] using this
theorem rInA.ints {K : PySem.W.Frag} {neg : Bool} {x : Int} {p : Addr} {xs : List Int} {H : Hp} {Q : VK} (h : SqL K H p (xs.map V.int) ∨ SqT K H p (xs.map V.int)) (q : Q (.bl (if neg then !decide (x ∈ xs) else decide (x ∈ xs))) H) : rInA K neg (.int x) (.ref p) H Q := by
  unfold rInA
  refine .inl ⟨p, _, rfl, h, rfl, ?_, ?_⟩
  · rw [List.all_map]
    exact List.all_eq_true.mpr fun _ _ => rfl
  · rw [inV_ints]
    exact q
/-- a version of a page of the log -/
def versB (L : LogM) (n : Str) : PyData → Bool
  | .int i => decide (0 ≤ i ∧ i ≤ L.rows.length) && (decide (i = 0) || decide (i ∈ wr L.rows n))
  | _ => false
/-- is_version(log, page, thing) -/
def spIsVersion (Cl : Addr) : Sp := fun vs H Q _ => ∃ (G : Hp) (x : Addr) (L : LogM) (n : Str) (d : PyData) (v : V), vs = [.ref x, .str n, v] ∧ LogAt Cl G x L ∧ Same G H ∧ n ∈ L.names ∧ TyD H d v ∧ (∀ i, d = .int i → v = .int i) ∧ Q (.bl (versB L n d)) H
/-- the writers of a page, as the log holds them -/
theorem LogAt.writer {C : Addr} {G : Hp} {x : Addr} {L : LogM} {n : Str} (h : LogAt C G x L) (hn : n ∈ L.names) : ∃ dx an ar aw ad p kvs, G x = some (.ins C dx (logF an ar aw ad)) ∧ G aw = some (.dK kvs) ∧ valV kvs (Sum.inr n : Key) = some (.ref p) ∧ G p = some (.lst ((wr L.rows n).map V.int)) := by
  obtain ⟨dx, an, ar, aw, ad, rvs, nvs, f, h1, h2, h3, h4, h5, h6, h7, h8⟩ := h.ex
  refine ⟨dx, an, ar, aw, ad, f n, _, h1, h5, ?_, h6 n hn⟩
  have key : ∀ ns : List Str, n ∈ ns → valV (ns.map fun n => (Sum.inr n, V.ref (f n))) (Sum.inr n : Key) = some (.ref (f n)) := by
    intro ns
    induction ns with
    | nil => intro z; cases z
    | cons m r ih =>
      intro z
      by_cases e : m = n
      · subst e
        exact valV_pos rfl
      · have ne : ¬ (Sum.inr m : Key) = Sum.inr n := fun q => e (Sum.inr.inj q)
        rw [List.map_cons, valV_neg ne]
        exact ih ((List.mem_cons.mp z).resolve_left fun q => e q.symm)
  exact key L.names hn
/-! ### numbers among -/
def lastLt (acc : List Int) (i : Int) : Bool := match acc.getLast? with
  | some l => decide (l < i)
  | none => true
def numsL : List PyData → Int → List Int → Option (List Int)
  | [], _, acc => some acc
  | .int i :: r, m, acc => if betB (.int i) 1 m = true ∧ lastLt acc i = true then numsL r m (acc ++ [i]) else none
  | _ :: _, _, _ => none
def numsD (d : PyData) (m : Int) : Option (List Int) := (itemsD d).bind fun ds => numsL ds m []
theorem numsL_none {d : PyData} {r : List PyData} {m : Int} {acc : List Int} (h : betB d 1 m = false) : numsL (d :: r) m acc = none := by
  cases d with
  | int i =>
    show (if betB (.int i) 1 m = true ∧ lastLt acc i = true then numsL r m (acc ++ [i]) else none) = none
    rw [if_neg (by rw [h]; simp)]
  | _ => rfl
/-- numbers_among(thing, most) -/
def spNumbersAmong : Sp := fun vs H Q _ => ∃ (d : PyData) (v : V) (m : Int), vs = [v, .int m] ∧ Rep H d v ∧ (∀ ds, itemsD d = some ds → ds.length ≤ 100000) ∧
  (numsD d m = none → ∀ H', Same H H' → Q .non H') ∧ ∀ ys, numsD d m = some ys → ∀ H' p, Same H H' → H p = none → H' p = some (.lst (ys.map V.int)) → Q (.ref p) H'
/-! ### disks -/
def lookD : List (PyData × PyData) → Str → Option PyData
  | [], _ => none
  | (k, d) :: r, n => match k with
    | .str s => if s = n then some d else lookD r n
    | _ => lookD r n
theorem lookD_rep {H : Hp} : ∀ {es : List (PyData × PyData)} {kvs : List (Key × V)} (n : Str), RepK H es kvs → (lookD es n = none ∧ valV kvs (Sum.inr n : Key) = none) ∨ ∃ d v, lookD es n = some d ∧ valV kvs (Sum.inr n : Key) = some v ∧ Rep H d v
  | _, _, n, .nil => .inl ⟨rfl, rfl⟩
  | _, _, n, .cons (k := k) (d := d) (v := v) r rr => by
    cases k with
    | inl i =>
      have ne : ¬ (Sum.inl i : Key) = Sum.inr n := fun z => by cases z
      rcases lookD_rep n rr with ⟨a, b⟩ | ⟨d', v', a, b, c⟩
      · exact .inl ⟨a, by rw [valV_neg ne]; exact b⟩
      · exact .inr ⟨d', v', a, by rw [valV_neg ne]; exact b, c⟩
    | inr s =>
      by_cases e : s = n
      · subst e
        refine .inr ⟨d, v, ?_, valV_pos rfl, r⟩
        show (if s = s then some d else _) = _
        rw [if_pos rfl]
      · have ne : ¬ (Sum.inr s : Key) = Sum.inr n := fun z => e (Sum.inr.inj z)
        rcases lookD_rep n rr with ⟨a, b⟩ | ⟨d', v', a, b, c⟩
        · refine .inl ⟨?_, by rw [valV_neg ne]; exact b⟩
          show (if s = n then some d else lookD _ n) = _
          rw [if_neg e]
          exact a
        · refine .inr ⟨d', v', ?_, by rw [valV_neg ne]; exact b, c⟩
          show (if s = n then some d else lookD _ n) = _
          rw [if_neg e]
          exact a
theorem RepK.length {H : Hp} : ∀ {es : List (PyData × PyData)} {kvs : List (Key × V)}, RepK H es kvs → es.length = kvs.length
  | _, _, .nil => rfl
  | _, _, .cons _ t => by rw [List.length_cons, List.length_cons, t.length]
/-- a page's entry -/
def pageB (L : LogM) (n : Str) : Option PyData → Bool
  | none => false
  | some .none => true
  | some d => versB L n d
def fitsB (L : LogM) : PyData → Bool
  | .dict es => decide (es.length = L.names.length) && L.names.all fun n => pageB L n (lookD es n)
  | _ => false
/-- fits_disk(log, thing) -/
def spFitsDisk (Cl : Addr) : Sp := fun vs H Q _ => ∃ (G : Hp) (x : Addr) (L : LogM) (d : PyData) (v : V), vs = [.ref x, v] ∧ LogAt Cl G x L ∧ Same G H ∧ Rep H d v ∧ Q (.bl (fitsB L d)) H
/-- an entry of a disk -/
def vD : Option Int → V
  | none => .non
  | some i => .int i
def dkOf (es : List (PyData × PyData)) (n : Str) : Option Int := match lookD es n with
  | some (.int i) => some i
  | _ => none
/-- the dict of a disk over these pages -/
def dkL (ns : List Str) (f : Str → Option Int) : List (Key × V) := ns.map fun n => (Sum.inr n, vD (f n))
theorem dkL_none {ns : List Str} {f : Str → Option Int} {n : Str} (h : n ∉ ns) : valV (dkL ns f) (Sum.inr n : Key) = none := by
  induction ns with
  | nil => rfl
  | cons m r ih =>
    have h' : ¬ (n = m ∨ n ∈ r) := fun z => h (List.mem_cons.mpr z)
    have ne : ¬ (Sum.inr m : Key) = Sum.inr n := fun z => h' (.inl (Sum.inr.inj z).symm)
    show valV ((Sum.inr m, vD (f m)) :: dkL r f) (Sum.inr n : Key) = _
    rw [valV_neg ne]
    exact ih fun z => h' (.inr z)
theorem dkL_get {ns : List Str} {f : Str → Option Int} {n : Str} (h : n ∈ ns) : valV (dkL ns f) (Sum.inr n : Key) = some (vD (f n)) := by
  induction ns with
  | nil => cases h
  | cons m r ih =>
    show valV ((Sum.inr m, vD (f m)) :: dkL r f) (Sum.inr n : Key) = _
    by_cases e : m = n
    · subst e
      exact valV_pos rfl
    · have ne : ¬ (Sum.inr m : Key) = Sum.inr n := fun z => e (Sum.inr.inj z)
      rw [valV_neg ne]
      exact ih ((List.mem_cons.mp h).resolve_left fun q => e q.symm)
/-- what a right disk has of a page -/
theorem fits_at {H : Hp} {L : LogM} {es : List (PyData × PyData)} {kvs : List (Key × V)} {n : Str} (h : fitsB L (.dict es) = true) (r : RepK H es kvs) (hn : n ∈ L.names) : valV kvs (Sum.inr n : Key) = some (vD (dkOf es n)) := by
  have h1 : (decide (es.length = L.names.length) && L.names.all fun n => pageB L n (lookD es n)) = true := h
  rw [Bool.and_eq_true] at h1
  have h2 := List.all_eq_true.mp h1.2 n hn
  rcases lookD_rep n r with ⟨a, _⟩ | ⟨d, v, a, b, c⟩
  · rw [a] at h2
    cases h2
  · rw [a] at h2
    rw [b]
    unfold dkOf
    rw [a]
    cases c with
    | non => rfl
    | int i => rfl
    | _ => cases h2
/-- need_disk(log, disk) -/
def spNeedDisk (Cl CB : Addr) : Sp := fun vs H Q E => ∃ (G : Hp) (x : Addr) (L : LogM) (d : PyData) (v : V), vs = [.ref x, v] ∧ LogAt Cl G x L ∧ Same G H ∧ Rep H d v ∧
  (fitsB L d = false → ∀ p, H p = none → E (.ref CB) (some p) (upd H p (.xd [("thing", v)]))) ∧
  (∀ es, d = .dict es → fitsB L d = true → ∀ H' p, Same H H' → H p = none → H' p = some (.dK (dkL L.names (dkOf es))) → Q (.ref p) H')
/-- need_numbers(log, numbers) -/
def spNeedNumbers (Cl CB : Addr) : Sp := fun vs H Q E => ∃ (G : Hp) (x : Addr) (L : LogM) (d : PyData) (v : V), vs = [.ref x, v] ∧ LogAt Cl G x L ∧ Same G H ∧ Rep H d v ∧ (∀ ds, itemsD d = some ds → ds.length ≤ 100000) ∧
  (numsD d L.rows.length = none → ∀ H' p, Same H H' → H' p = none → E (.ref CB) (some p) (upd H' p (.xd [("thing", v)]))) ∧
  (∀ ys, numsD d L.rows.length = some ys → ∀ H' p, Same H H' → H p = none → H' p = some (.lst (ys.map V.int)) → Q (.ref p) H')
end Lr

/-! # What is found, and whether it is what is needed -/
namespace Lr
open PySem PySem.Spec PyProof.Rows L2
mutual
theorem Rep.dp {K : PySem.W.Frag} {H : Hp} : ∀ {d : PyData} {v : V}, Rep H d v → Plain d → Dp K H v d
  | _, _, .non, _ => .non
  | _, _, .bl b, _ => .bl b
  | _, _, .int i, _ => .int i
  | _, _, .str x, _ => .str x
  | _, _, .lst h r, p => .lst (SqL.of h) (Reps.dp r p.1)
  | _, _, .tup h r, p => .tup (SqT.of h) (Reps.dp r p.1)
theorem Reps.dp {K : PySem.W.Frag} {H : Hp} : ∀ {ds : List PyData} {vs : List V}, Reps H ds vs → Plains ds → DpAll K H vs ds
  | _, _, .nil, _ => .nil
  | _, _, .cons r t, p => .cons (Rep.dp r p.1) (Reps.dp t p.2)
end
def optD : Option Int → PyData
  | none => .none
  | some i => .int i
theorem optD_rep {H : Hp} (o : Option Int) : Rep H (optD o) (vD o) := by
  cases o
  · exact .non
  · exact .int _
/-- what is found of these pages -/
def foundD (ns : List Str) (f : Str → Option Int) : PyData := .tuple (ns.map fun n => .tuple [.str n, optD (f n)])
theorem needD_found (rows : List Lr.Row) (ns : List Str) : needD rows ns = foundD ns fun n => some (ver rows n) := rfl
theorem eqv_found (f g : Str → Option Int) : ∀ ns : List Str, PyData.eqv (foundD ns f) (foundD ns g) = decide (∀ n ∈ ns, f n = g n)
  | [] => rfl
  | n :: r => by
    have ih := eqv_found f g r
    have e : PyData.eqv (foundD (n :: r) f) (foundD (n :: r) g) = ((n == n) && (PyData.eqv (optD (f n)) (optD (g n)) && true) && PyData.eqv (foundD r f) (foundD r g)) := rfl
    rw [e, ih]
    have h1 : PyData.eqv (optD (f n)) (optD (g n)) = decide (f n = g n) := by
      cases f n with
      | none => cases g n <;> rfl
      | some i =>
        cases g n with
        | none => rfl
        | some j =>
          show (i == j) = decide (some i = some j)
          by_cases h : i = j
          · subst h; simp
          · rw [decide_eq_false (fun z => h (Option.some.inj z))]
            simpa using h
    rw [h1]
    by_cases h2 : f n = g n
    · by_cases h3 : ∀ m ∈ r, f m = g m
      · rw [decide_eq_true h2, decide_eq_true h3, decide_eq_true (show ∀ m ∈ n :: r, f m = g m from fun m hm => by
          rcases List.mem_cons.mp hm with rfl | hm
          · exact h2
          · exact h3 m hm)]
        simp
      · rw [decide_eq_false h3, decide_eq_false (show ¬ ∀ m ∈ n :: r, f m = g m from fun z => h3 fun m hm => z m (List.mem_cons_of_mem _ hm))]
        simp
    · rw [decide_eq_false h2, decide_eq_false (show ¬ ∀ m ∈ n :: r, f m = g m from fun z => h2 (z n List.mem_cons_self))]
      simp
theorem found_shaped {ns : List Str} (nb : ∀ n ∈ ns, nameB n = true) (f : Str → Option Int) : SeqAt.shaped (foundD ns f) = true := by
  have h1 : ∀ ns : List Str, (∀ n ∈ ns, nameB n = true) → PyData.canLayAll0 (ns.map fun n => PyData.tuple [.str n, optD (f n)]) = true := fun ns => by
    induction ns with
    | nil => exact fun _ => rfl
    | cons n r ih =>
      intro h
      have a := nameB_strOk (h n List.mem_cons_self)
      have b := ih fun s hs => h s (List.mem_cons_of_mem _ hs)
      have c : PyData.canLay0 (optD (f n)) = true := by cases f n <;> rfl
      simp [PyData.canLayAll0, PyData.canLay0, a, b, c]
  have h2 : ∀ ns : List Str, PyData.depthAll (ns.map fun n => PyData.tuple [.str n, optD (f n)]) ≤ 3 := fun ns => by
    induction ns with
    | nil => simp [PyData.depthAll]
    | cons n r ih =>
      have c : (optD (f n)).depth ≤ 1 := by cases f n <;> simp [optD, PyData.depth]
      simp only [List.map_cons, PyData.depthAll, PyData.depth]
      omega
  unfold SeqAt.shaped
  rw [Bool.and_eq_true]
  refine ⟨h1 ns nb, decide_eq_true ?_⟩
  show (PyData.tuple _).depth ≤ 64
  have := h2 ns
  simp only [PyData.depth]
  omega
theorem found_plain (ns : List Str) (f : Str → Option Int) (l : ns.length ≤ 100000) : Plain (foundD ns f) := by
  have : ∀ ns : List Str, Plains (ns.map fun n => PyData.tuple [.str n, optD (f n)]) := fun ns => by
    induction ns with
    | nil => trivial
    | cons n r ih => exact ⟨⟨⟨trivial, by cases f n <;> trivial, trivial⟩, by show 2 ≤ 100000; decide⟩, ih⟩
  exact ⟨this ns, by rw [List.length_map]; exact l⟩
/-- one record replayed: what it finds, and what stands behind it -/
def needAt (L : LogM) (k : Nat) : Str → Option Int := fun n => some (ver (L.rows.take (k - 1)) n)
def rowAt (L : LogM) (k : Nat) : Lr.Row := (L.rows[k - 1]?).getD ([], [])
def stepF (L : LogM) (k : Nat) (f : Str → Option Int) : Str → Option Int := fun m =>
  if m ∈ (rowAt L k).2 then (if ∀ n ∈ (rowAt L k).1, f n = needAt L k n then some (k : Int) else none) else f m
def walkL (L : LogM) : List Int → (Str → Option Int) → List PyData × (Str → Option Int)
  | [], f => ([], f)
  | k :: r, f => let q := walkL L r (stepF L k.toNat f)
    (.tuple [.int k, foundD (rowAt L k.toNat).1 f] :: q.1, q.2)
/-- walked(log, stands, numbers): the rows told -/
def walkD (L : LogM) (ks : List Int) (f : Str → Option Int) : List PyData := (walkL L ks f).1 ++ [.tuple [.int ((L.rows.length : Int) + 1), foundD L.names (walkL L ks f).2]]
end Lr
namespace Lr
open PySem PySem.Spec PyProof.Rows L2
theorem dkL_put {ns : List Str} {f : Str → Option Int} {n : Str} {o : Option Int} (h : n ∈ ns) : putK (dkL ns f) (Sum.inr n : Key) (vD o) = dkL ns fun m => if m = n then o else f m := by
  unfold putK
  have hany : (dkL ns f).any (fun kv => decide (kv.1 = (Sum.inr n : Key))) = true := by
    rw [List.any_eq_true]
    exact ⟨(Sum.inr n, vD (f n)), List.mem_map.mpr ⟨n, h, rfl⟩, by simp⟩
  rw [if_pos hany]
  unfold dkL
  rw [List.map_map]
  refine List.map_congr_left fun m hm => ?_
  by_cases e : m = n
  · subst e
    show (if (Sum.inr m : Key) = Sum.inr m then ((Sum.inr m : Key), vD o) else _) = (Sum.inr m, vD (if m = m then o else f m))
    rw [if_pos rfl, if_pos rfl]
  · show (if (Sum.inr m : Key) = Sum.inr n then ((Sum.inr m : Key), vD o) else (Sum.inr m, vD (f m))) = (Sum.inr m, vD (if m = n then o else f m))
    rw [if_neg (fun z => e (Sum.inr.inj z)), if_neg e]
theorem dkL_congr {ns : List Str} {f g : Str → Option Int} (h : ∀ n ∈ ns, f n = g n) : dkL ns f = dkL ns g := List.map_congr_left fun n hn => by rw [h n hn]
theorem needs_at {L : LogM} {k : Nat} (h : k < L.rows.length) : L.needs[k]? = some (needD (L.rows.take k) ((L.rows[k]?).getD ([], [])).1) := by
  unfold LogM.needs
  rw [List.getElem?_append_left (by rw [List.length_map, List.length_range]; exact h), List.getElem?_map, List.getElem?_range h]
  rfl
theorem needs_last {L : LogM} : L.needs[L.rows.length]? = some (needD L.rows L.names) := by
  unfold LogM.needs
  rw [List.getElem?_append_right (by rw [List.length_map, List.length_range]; exact Nat.le_refl _)]
  rw [List.length_map, List.length_range, Nat.sub_self]
  rfl
theorem walkL_snoc (L : LogM) : ∀ (ks : List Int) (k : Int) (f : Str → Option Int), walkL L (ks ++ [k]) f = ((walkL L ks f).1 ++ [.tuple [.int k, foundD (rowAt L k.toNat).1 (walkL L ks f).2]], stepF L k.toNat (walkL L ks f).2)
  | [], k, f => rfl
  | j :: r, k, f => by
    have ih := walkL_snoc L r k (stepF L j.toNat f)
    show (.tuple [.int j, foundD (rowAt L j.toNat).1 f] :: (walkL L (r ++ [k]) (stepF L j.toNat f)).1, (walkL L (r ++ [k]) (stepF L j.toNat f)).2) = _
    rw [ih]
    rfl
/-- walked(log, stands, numbers) -/
def spWalked (Cl : Addr) : Sp := fun vs H Q _ => ∃ (G : Hp) (C : List Cell) (x a b : Addr) (L : LogM) (f : Str → Option Int) (ks : List Int), vs = [.ref x, .ref a, .ref b] ∧ WF G ((a, .dK (dkL L.names f)) :: C) H ∧ LogAt Cl G x L ∧ Sees G C b (.lst (ks.map V.int)) ∧
  (∀ k ∈ ks, 1 ≤ k ∧ k ≤ L.rows.length) ∧ ks.length ≤ 100000 ∧
  ∀ (G' H' : Hp) (p : Addr) (us : List V), Same G G' → WF G' ((p, .lst us) :: (a, .dK (dkL L.names (walkL L ks f).2)) :: C) H' → Reps G' (walkD L ks f) us → Q (.ref p) H'
section
variable {X : Cx} {k k' : Nat} {x : Str} {ps : List Str} {sp : Sp} {E : XK} {p pos : Pos} {e : Expr} {es : List Expr} {t : TA}
/-- f(e, ..) of a def that may raise, where nothing is raised -/
theorem pcq (F : Okf X.prog X.w X.K X.mg X.base (L2.CX X.prog X.w) k x ps sp) (hr : Room k' X.A) (ha : PA X (e :: es) t) (hk : k ≤ k' := by omega) (hg : Gl X x := by rfl)
    (hdb : (x == ("__debug__" : Str)) = false := by decide) (he : starEach (e :: es) X.env = (false, eval e X.env) :: starEach es X.env := by rfl) (hpl : (backTo pos (starEach es X.env)).any (·.1) = false := by rfl) :
    PE X (.Call (.Name x p) (e :: es) [] pos) (tCall sp [] E0 t) := pcall F hr passL ha hk hg hdb he hpl
/-- .. where what it raises goes on -/
theorem pcx (F : Okf X.prog X.w X.K X.mg X.base (L2.CX X.prog X.w) k x ps sp) (hr : Room k' X.A) (ha : PA X (e :: es) t) (tk : Takes X (fun cls d _ H => E cls d H)) (hk : k ≤ k' := by omega) (hg : Gl X x := by rfl)
    (hdb : (x == ("__debug__" : Str)) = false := by decide) (he : starEach (e :: es) X.env = (false, eval e X.env) :: starEach es X.env := by rfl) (hpl : (backTo pos (starEach es X.env)).any (·.1) = false := by rfl) :
    PE X (.Call (.Name x p) (e :: es) [] pos) (tCall sp [] E t) := pcall F hr (passes_call tk fun _ _ _ _ h => h) ha hk hg hdb he hpl
end
theorem WF.addC {G H H' : Hp} {C : List Cell} {p : Addr} {o : HO} (w : WF G C H) (s : Same H H') (hp : H p = none) (h : H' p = some o) : WF G ((p, o) :: C) H' := by
  have w' := w.same s
  refine ⟨w'.sub, fun c hc => ?_, ?_⟩
  · rcases List.mem_cons.mp hc with rfl | hc
    · exact ⟨h, w.gnone hp⟩
    · exact w'.own c hc
  · rw [List.map_cons]
    exact List.nodup_cons.mpr ⟨w.notin hp, w.nd⟩
theorem numsL_ok : ∀ {ds : List PyData} {m : Int} {acc ys : List Int}, numsL ds m acc = some ys → (∀ y ∈ acc, 1 ≤ y ∧ y ≤ m) → (∀ y ∈ ys, 1 ≤ y ∧ y ≤ m) ∧ ys.length ≤ acc.length + ds.length
  | [], m, acc, ys, h, ha => by
    cases h
    exact ⟨ha, by simp⟩
  | d :: r, m, acc, ys, h, ha => by
    cases d with
    | int i =>
      have h' : (if betB (.int i) 1 m = true ∧ lastLt acc i = true then numsL r m (acc ++ [i]) else none) = some ys := h
      by_cases c : betB (.int i) 1 m = true ∧ lastLt acc i = true
      · rw [if_pos c] at h'
        have hb : 1 ≤ i ∧ i ≤ m := of_decide_eq_true c.1
        obtain ⟨a, b⟩ := numsL_ok h' (fun y hy => by
          rcases List.mem_append.mp hy with hy | hy
          · exact ha y hy
          · rw [List.mem_singleton.mp hy]
            exact hb)
        refine ⟨a, ?_⟩
        rw [List.length_append] at b
        rw [List.length_cons]
        simp at b
        omega
      · rw [if_neg c] at h'
        cases h'
    | _ => cases h
theorem numsD_ok {d : PyData} {m : Int} {ys : List Int} (h : numsD d m = some ys) (l : ∀ ds, itemsD d = some ds → ds.length ≤ 100000) : (∀ y ∈ ys, 1 ≤ y ∧ y ≤ m) ∧ ys.length ≤ 100000 := by
  unfold numsD at h
  cases e : itemsD d with
  | none =>
    rw [e] at h
    cases h
  | some ds =>
    rw [e] at h
    obtain ⟨a, b⟩ := numsL_ok (ds := ds) h (fun y hy => by cases hy)
    have := l ds e
    exact ⟨a, by simp at b; omega⟩
/-- finds(log, disk, numbers) of right things -/
def spFinds (Cl : Addr) : Sp := fun vs H Q _ => ∃ (G : Hp) (C : List Cell) (x : Addr) (L : LogM) (es : List (PyData × PyData)) (dn : PyData) (vd vn : V) (ks : List Int), vs = [.ref x, vd, vn] ∧ WF G C H ∧ LogAt Cl G x L ∧ RepC G C (.dict es) vd ∧ RepC G C dn vn ∧ fitsB L (.dict es) = true ∧
  (∀ ds, itemsD dn = some ds → ds.length ≤ 100000) ∧ numsD dn L.rows.length = some ks ∧
  ∀ (G' H' : Hp) (p : Addr) (us : List V), Same G G' → WF G' ((p, .lst us) :: C) H' → Reps G' (walkD L ks (dkOf es)) us → Q (.ref p) H'
def endsB (L : LogM) (ks : List Int) (f : Str → Option Int) : Bool := decide (∀ n ∈ L.names, (walkL L ks f).2 n = some (ver L.rows n))
/-- ends_right(log, disk, numbers) of right things -/
def spEndsRight (Cl : Addr) : Sp := fun vs H Q _ => ∃ (G : Hp) (C : List Cell) (x : Addr) (L : LogM) (es : List (PyData × PyData)) (dn : PyData) (vd vn : V) (ks : List Int), vs = [.ref x, vd, vn] ∧ WF G C H ∧ LogAt Cl G x L ∧ RepC G C (.dict es) vd ∧ RepC G C dn vn ∧ fitsB L (.dict es) = true ∧
  (∀ ds, itemsD dn = some ds → ds.length ≤ 100000) ∧ numsD dn L.rows.length = some ks ∧ ∀ (G' H' : Hp), Same G G' → WF G' C H' → Q (.bl (endsB L ks (dkOf es))) H'
theorem reps_last {H : Hp} {ds : List PyData} {d : PyData} {vs : List V} (r : Reps H (ds ++ [d]) vs) : ∃ v, vs.getLast? = some v ∧ Rep H d v := by
  obtain ⟨v1, v2, e, r1, r2⟩ := r.split
  cases r2 with
  | cons r rr =>
    cases rr
    exact ⟨_, by rw [e]; simp, r⟩
def srcF (L : LogM) (rd : Int) (n : Str) (acc k : Int) : Int := if k < rd ∧ n ∈ (rowAt L k.toNat).2 then k else acc
def srcL (L : LogM) (ks : List Int) (rd : Int) (n : Str) : Int := ks.foldl (srcF L rd n) 0
/-- source_of(log, numbers, reader, page) -/
def spSourceOf (K : PySem.W.Frag) (Cl : Addr) : Sp := fun vs H Q _ => ∃ (G : Hp) (x b : Addr) (L : LogM) (ks : List Int) (rd : Int) (n : Str), vs = [.ref x, .ref b, .int rd, .str n] ∧ LogAt Cl G x L ∧ Same G H ∧ SqL K H b (ks.map V.int) ∧ (∀ k ∈ ks, 1 ≤ k ∧ k ≤ L.rows.length) ∧ Q (.int (srcL L ks rd n)) H
/-- _law_up_to(versions, moment) -/
def spUpTo : Sp := fun vs H Q _ => ∃ (G : Hp) (C : List Cell) (a : Addr) (xs : List Int) (m z : Int), vs = [.ref a, .int m] ∧ WF G C H ∧ Sees G C a (.lst (xs.map V.int)) ∧ xs.length ≤ 100000 ∧ (xs.filter fun v => decide (v ≤ m)).getLast? = some z ∧ ∀ H', WF G C H' → Q (.int z) H'
end Lr

/-! # Boxes: what a lot asks of a disk -/
namespace Lr
open PySem PySem.Spec PyProof.Rows L2
theorem walkL_snoc' (L : LogM) (ks : List Int) (k : Int) (f : Str → Option Int) : (walkL L (ks ++ [k]) f).2 = stepF L k.toNat (walkL L ks f).2 := by rw [walkL_snoc]
def lwF (L : LogM) (n : Str) (acc k : Int) : Int := if n ∈ (rowAt L k.toNat).2 then k else acc
theorem srcL_filter (L : LogM) (ks : List Int) (rd : Int) (n : Str) : srcL L ks rd n = (ks.filter fun k => decide (k < rd)).foldl (lwF L n) 0 := by
  unfold srcL
  rw [List.foldl_filter]
  congr 1
  funext acc k
  unfold srcF lwF
  by_cases h : k < rd <;> simp [h]
def readsAt (L : LogM) (rd : Int) : List Str := if rd = (L.rows.length : Int) + 1 then L.names else (rowAt L rd.toNat).1
/-- the reader finds all that it needs -/
def Clean (L : LogM) (ks : List Int) (f : Str → Option Int) (rd : Int) : Prop := ∀ n ∈ readsAt L rd, (walkL L (ks.filter fun k => decide (k < rd)) f).2 n = needAt L rd.toNat n
instance (L : LogM) (ks : List Int) (f : Str → Option Int) (rd : Int) : Decidable (Clean L ks f rd) := by unfold Clean; infer_instance
/-- ascending numbers of records -/
structure Lot (L : LogM) (ks : List Int) : Prop where
  asc : ks.Pairwise (· < ·)
  bd : ∀ k ∈ ks, 1 ≤ k ∧ k ≤ L.rows.length
theorem clean_end {L : LogM} {ks : List Int} {f : Str → Option Int} (lo : Lot L ks) : Clean L ks f ((L.rows.length : Int) + 1) ↔ endsB L ks f = true := by
  have e : (ks.filter fun k => decide (k < (L.rows.length : Int) + 1)) = ks := List.filter_eq_self.mpr fun k hk => by
    have := lo.bd k hk
    simp
    omega
  have e2 : (((L.rows.length : Int) + 1).toNat - 1) = L.rows.length := by omega
  unfold Clean endsB readsAt
  rw [e, if_pos rfl, decide_eq_true_iff]
  unfold needAt
  rw [e2, List.take_length]
theorem filter_pre {ps rest : List Int} {k : Int} (h : (ps ++ k :: rest).Pairwise (· < ·)) : ((ps ++ k :: rest).filter fun j => decide (j < k)) = ps := by
  rw [List.pairwise_append, List.pairwise_cons] at h
  rw [List.filter_append, List.filter_eq_self.mpr, List.filter_cons_of_neg, List.filter_eq_nil_iff.mpr]
  · simp
  · intro j hj
    have := h.2.1.1 j hj
    simp
    omega
  · simp
  · intro j hj
    exact decide_eq_true (h.2.2 j hj k List.mem_cons_self)
theorem walk_stand {L : LogM} {ks : List Int} {f : Str → Option Int} (lo : Lot L ks) (n : Str) : ∀ (m : Nat) (ps rest : List Int), ps.length = m → ks = ps ++ rest →
    (walkL L ps f).2 n = if 0 < ps.foldl (lwF L n) 0 then (if Clean L ks f (ps.foldl (lwF L n) 0) then some (ps.foldl (lwF L n) 0) else none) else f n
  | 0, ps, rest, h, _ => by
    rw [List.length_eq_zero_iff.mp h]
    rfl
  | m + 1, ps, rest, h, e => by
    have hne : ps ≠ [] := fun z => by rw [z] at h; cases h
    obtain ⟨k, qs, rfl⟩ : ∃ k qs, ps = qs ++ [k] := ⟨ps.getLast hne, ps.dropLast, (List.dropLast_concat_getLast hne).symm⟩
    have hq : qs.length = m := by rw [List.length_append] at h; simpa using h
    have e' : ks = qs ++ (k :: rest) := by rw [e, List.append_assoc]; rfl
    have ih := walk_stand (f := f) lo n m qs (k :: rest) hq e'
    have hb := lo.bd k (by rw [e']; simp)
    have hf : (ks.filter fun j => decide (j < k)) = qs := by
      rw [e']
      exact filter_pre (by rw [← e']; exact lo.asc)
    rw [walkL_snoc', List.foldl_append]
    show stepF L k.toNat (walkL L qs f).2 n = if 0 < lwF L n (qs.foldl (lwF L n) 0) k then (if Clean L ks f (lwF L n (qs.foldl (lwF L n) 0) k) then some (lwF L n (qs.foldl (lwF L n) 0) k) else none) else f n
    unfold stepF
    by_cases hw : n ∈ (rowAt L k.toNat).2
    · have e1 : lwF L n (qs.foldl (lwF L n) 0) k = k := by unfold lwF; rw [if_pos hw]
      have e2 : (k.toNat : Int) = k := by omega
      have e3 : readsAt L k = (rowAt L k.toNat).1 := by unfold readsAt; rw [if_neg (by omega)]
      have hc : Clean L ks f k ↔ ∀ n ∈ (rowAt L k.toNat).1, (walkL L qs f).2 n = needAt L k.toNat n := by
        unfold Clean
        rw [hf, e3]
      rw [if_pos hw, e1, if_pos (show 0 < k by omega), e2]
      by_cases c : Clean L ks f k
      · rw [if_pos c, if_pos (hc.mp c)]
      · rw [if_neg c, if_neg (fun z => c (hc.mpr z))]
    · have e1 : lwF L n (qs.foldl (lwF L n) 0) k = qs.foldl (lwF L n) 0 := by unfold lwF; rw [if_neg hw]
      rw [if_neg hw, e1, ih]
theorem lw_mem {L : LogM} {n : Str} : ∀ (ks : List Int) (a : Int), ks.foldl (lwF L n) a = a ∨ ks.foldl (lwF L n) a ∈ ks
  | [], a => .inl rfl
  | k :: r, a => by
    rw [List.foldl_cons]
    rcases lw_mem (n := n) r (lwF L n a k) with h | h
    · by_cases hw : n ∈ (rowAt L k.toNat).2
      · have e1 : lwF L n a k = k := by unfold lwF; rw [if_pos hw]
        rw [e1] at h ⊢
        right
        rw [h]
        exact List.mem_cons_self
      · have e1 : lwF L n a k = a := by unfold lwF; rw [if_neg hw]
        rw [e1] at h ⊢
        exact .inl h
    · exact .inr (List.mem_cons_of_mem _ h)
theorem src_mem {L : LogM} {ks : List Int} {rd : Int} {n : Str} (h : 0 < srcL L ks rd n) : srcL L ks rd n ∈ ks ∧ srcL L ks rd n < rd := by
  rw [srcL_filter] at h ⊢
  rcases lw_mem (L := L) (n := n) (ks.filter fun k => decide (k < rd)) 0 with z | z
  · omega
  · rw [List.mem_filter] at z
    exact ⟨z.1, of_decide_eq_true z.2⟩
theorem src_nonneg {L : LogM} {ks : List Int} {rd : Int} {n : Str} (h : ∀ k ∈ ks, 1 ≤ k) : 0 ≤ srcL L ks rd n := by
  rw [srcL_filter]
  rcases lw_mem (L := L) (n := n) (ks.filter fun k => decide (k < rd)) 0 with z | z
  · omega
  · have := h _ (List.mem_filter.mp z).1
    omega
theorem filter_split {rd : Int} : ∀ {ks : List Int}, ks.Pairwise (· < ·) → ∃ rest, ks = (ks.filter fun k => decide (k < rd)) ++ rest
  | [], _ => ⟨[], rfl⟩
  | k :: r, h => by
    rw [List.pairwise_cons] at h
    by_cases e : k < rd
    · obtain ⟨rest, hr⟩ := filter_split (rd := rd) h.2
      exact ⟨rest, by rw [List.filter_cons_of_pos (by simpa using e), List.cons_append, ← hr]⟩
    · refine ⟨k :: r, ?_⟩
      rw [List.filter_eq_nil_iff.mpr]
      · rfl
      · intro j hj
        rcases List.mem_cons.mp hj with rfl | hj
        · simpa using e
        · have := h.1 j hj
          simp
          omega
/-- what a reader finds -/
theorem stand_src {L : LogM} {ks : List Int} {f : Str → Option Int} (lo : Lot L ks) (n : Str) (rd : Int) : (walkL L (ks.filter fun k => decide (k < rd)) f).2 n = if 0 < srcL L ks rd n then (if Clean L ks f (srcL L ks rd n) then some (srcL L ks rd n) else none) else f n := by
  obtain ⟨rest, hr⟩ := filter_split (rd := rd) lo.asc
  rw [srcL_filter]
  exact walk_stand lo n _ _ rest rfl hr
def Good (L : LogM) (ks : List Int) (f : Str → Option Int) (rd : Int) (n : Str) (v : Int) : Prop := if 0 < srcL L ks rd n then srcL L ks rd n = v ∧ Clean L ks f v else f n = some v
def needsP (L : LogM) (rd : Int) : List (Str × Int) := (readsAt L rd).map fun n => (n, ver (L.rows.take (rd.toNat - 1)) n)
theorem clean_good {L : LogM} {ks : List Int} {f : Str → Option Int} (lo : Lot L ks) (rd : Int) : Clean L ks f rd ↔ ∀ q ∈ needsP L rd, Good L ks f rd q.1 q.2 := by
  have key : ∀ n v, (walkL L (ks.filter fun k => decide (k < rd)) f).2 n = some v ↔ Good L ks f rd n v := by
    intro n v
    rw [stand_src lo]
    unfold Good
    by_cases h : 0 < srcL L ks rd n
    · rw [if_pos h, if_pos h]
      by_cases c : Clean L ks f (srcL L ks rd n)
      · rw [if_pos c]
        constructor
        · intro z
          have := Option.some.inj z
          rw [← this]
          exact ⟨rfl, c⟩
        · intro z
          rw [z.1]
      · rw [if_neg c]
        constructor
        · intro z
          cases z
        · intro z
          rw [z.1] at c
          exact absurd z.2 c
    · rw [if_neg h, if_neg h]
  unfold needsP
  constructor
  · intro h q hq
    obtain ⟨n, hn, rfl⟩ := List.mem_map.mp hq
    exact (key n _).mp (h n hn)
  · intro h n hn
    exact (key n _).mpr (h _ (List.mem_map.mpr ⟨n, hn, rfl⟩))
/-! ### the program's own way -/
def insW (W : List Int) (s : Int) : List Int := if s ∈ W then W else W ++ [s]
theorem mem_insW {W : List Int} {s w : Int} : w ∈ insW W s ↔ w ∈ W ∨ w = s := by
  unfold insW
  by_cases h : s ∈ W
  · rw [if_pos h]
    exact ⟨.inl, fun z => z.elim id fun e => e ▸ h⟩
  · rw [if_neg h, List.mem_append, List.mem_singleton]
abbrev Src := Str × Int × Int
def urP (L : LogM) (ks : List Int) (rd : Int) (st : List Int × List Src) (q : Str × Int) : List Int × List Src :=
  (if 0 < srcL L ks rd q.1 then insW st.1 (srcL L ks rd q.1) else st.1, st.2 ++ [(q.1, q.2, srcL L ks rd q.1)])
def urR (L : LogM) (ks : List Int) (st : List Int × List (Int × List Src)) (rd : Int) : List Int × List (Int × List Src) :=
  if rd ∈ st.1 then (((needsP L rd).foldl (urP L ks rd) (st.1, [])).1, st.2 ++ [(rd, ((needsP L rd).foldl (urP L ks rd) (st.1, [])).2)]) else st
def urL (L : LogM) (ks rs : List Int) : List Int × List (Int × List Src) := rs.foldl (urR L ks) ([(L.rows.length : Int) + 1], [])
/-- useful_readers(log, numbers) -/
def usefulL (L : LogM) (ks : List Int) : List (Int × List Src) := (urL L ks (((L.rows.length : Int) + 1) :: ks.reverse)).2
abbrev Bx := List (Str × Int)
def lkB : Bx → Str → Option Int
  | [], _ => none
  | (m, v) :: r, n => if m = n then some v else lkB r n
def putB (B : Bx) (n : Str) (v : Int) : Bx := if n ∈ B.map Prod.fst then B.map (fun q => if q.1 = n then (n, v) else q) else B ++ [(n, v)]
theorem lkB_none {n : Str} : ∀ {B : Bx}, n ∉ B.map Prod.fst → lkB B n = none
  | [], _ => rfl
  | (a, u) :: r, h => by
    have h' : ¬ (n = a ∨ n ∈ r.map Prod.fst) := fun z => h (List.mem_cons.mpr z)
    show (if a = n then some u else lkB r n) = none
    rw [if_neg (fun z => h' (.inl z.symm))]
    exact lkB_none fun z => h' (.inr z)
theorem lk_app {n m : Str} {v : Int} : ∀ {B : Bx}, n ∉ B.map Prod.fst → lkB (B ++ [(n, v)]) m = if n = m then some v else lkB B m
  | [], _ => rfl
  | (a, u) :: r, h => by
    have h' : ¬ (n = a ∨ n ∈ r.map Prod.fst) := fun z => h (List.mem_cons.mpr z)
    have ih := lk_app (m := m) (v := v) (B := r) fun z => h' (.inr z)
    show (if a = m then some u else lkB (r ++ [(n, v)]) m) = if n = m then some v else (if a = m then some u else lkB r m)
    rw [ih]
    by_cases e : a = m
    · subst e
      rw [if_pos rfl, if_pos rfl, if_neg (fun z => h' (.inl z))]
    · rw [if_neg e, if_neg e]
theorem lk_map {n m : Str} {v : Int} : ∀ B : Bx, lkB (B.map (fun q => if q.1 = n then (n, v) else q)) m = if n = m then (if n ∈ B.map Prod.fst then some v else none) else lkB B m
  | [] => by
    show none = _
    by_cases e : n = m
    · rw [if_pos e]
      rfl
    · rw [if_neg e]
      rfl
  | (a, u) :: r => by
    have ih := lk_map (n := n) (m := m) (v := v) r
    by_cases e : a = n
    · subst e
      rw [List.map_cons, if_pos rfl]
      show (if a = m then some v else lkB _ m) = if a = m then (if a ∈ a :: r.map Prod.fst then some v else none) else (if a = m then some u else lkB r m)
      rw [ih]
      by_cases e2 : a = m
      · rw [if_pos e2, if_pos e2, if_pos List.mem_cons_self]
      · rw [if_neg e2, if_neg e2, if_neg e2, if_neg e2]
    · rw [List.map_cons, if_neg e]
      show (if a = m then some u else lkB _ m) = if n = m then (if n ∈ a :: r.map Prod.fst then some v else none) else (if a = m then some u else lkB r m)
      rw [ih]
      by_cases e2 : n = m
      · subst e2
        have : n ∈ a :: r.map Prod.fst ↔ n ∈ r.map Prod.fst := ⟨fun z => (List.mem_cons.mp z).resolve_left fun q => e q.symm, List.mem_cons_of_mem _⟩
        rw [if_neg e, if_pos rfl, if_pos rfl]
        by_cases h : n ∈ r.map Prod.fst
        · rw [if_pos h, if_pos (this.mpr h)]
        · rw [if_neg h, if_neg (fun z => h (this.mp z))]
      · rw [if_neg e2, if_neg e2]
theorem lk_put {n : Str} {v : Int} (m : Str) (B : Bx) : lkB (putB B n v) m = if n = m then some v else lkB B m := by
  unfold putB
  by_cases h : n ∈ B.map Prod.fst
  · rw [if_pos h, lk_map, if_pos h]
  · rw [if_neg h, lk_app h]
def boxP (b : Option Bx) (q : Src) : Option Bx := b.bind fun B =>
  if 0 < q.2.2 ∧ q.2.2 ≠ q.2.1 then none
  else if q.2.2 = 0 ∧ (lkB B q.1).getD q.2.1 ≠ q.2.1 then none
  else if q.2.2 = 0 then some (putB B q.1 q.2.1) else some B
def boxR (b : Option Bx) (t : Int × List Src) : Option Bx := t.2.foldl boxP b
def boxT (ts : List (Int × List Src)) : Option Bx := ts.foldl boxR (some [])
/-- box_of(log, numbers), ahead of the order of its pages -/
def boxL (L : LogM) (ks : List Int) : Option Bx := boxT (usefulL L ks)
def Match (f : Str → Option Int) (B : Bx) : Prop := ∀ n v, lkB B n = some v → f n = some v
/-- all is well so far -/
def Well (L : LogM) (ks : List Int) (f : Str → Option Int) (ps W : List Int) (b : Option Bx) : Prop := (∃ B, b = some B ∧ Match f B) ∧ ∀ w ∈ W, w ∈ ps → Clean L ks f w
theorem boxP_none (q : Src) : boxP none q = none := rfl
theorem boxP_clash {b : Option Bx} {n : Str} {v s : Int} (h : 0 < s) (h2 : s ≠ v) : boxP b (n, v, s) = none := by
  cases b with
  | none => rfl
  | some B =>
    show (if 0 < s ∧ s ≠ v then none else _) = none
    rw [if_pos ⟨h, h2⟩]
theorem boxP_same {b : Option Bx} {n : Str} {v : Int} (h : 0 < v) : boxP b (n, v, v) = b := by
  cases b with
  | none => rfl
  | some B =>
    show (if 0 < v ∧ v ≠ v then none else if v = 0 ∧ (lkB B n).getD v ≠ v then none else if v = 0 then some (putB B n v) else some B) = some B
    rw [if_neg (by simp), if_neg (by omega), if_neg (by omega)]
theorem boxP_zero {B : Bx} {n : Str} {v : Int} : boxP (some B) (n, v, 0) = if (lkB B n).getD v ≠ v then none else some (putB B n v) := by
  show (if (0:Int) < 0 ∧ 0 ≠ v then none else if (0:Int) = 0 ∧ (lkB B n).getD v ≠ v then none else if (0:Int) = 0 then some (putB B n v) else some B) = _
  rw [if_neg (fun h => by omega), if_pos rfl]
  by_cases h : (lkB B n).getD v ≠ v
  · rw [if_pos ⟨rfl, h⟩, if_pos h]
  · rw [if_neg (fun z => h z.2), if_neg h]
theorem well_step {L : LogM} {ks : List Int} {f : Str → Option Int} {ps W : List Int} {b : Option Bx} {rd : Int} {n : Str} {v : Int} (hk : ∀ k ∈ ks, 1 ≤ k) (hp : 0 < srcL L ks rd n → srcL L ks rd n ∈ ps) :
    Well L ks f ps (if 0 < srcL L ks rd n then insW W (srcL L ks rd n) else W) (boxP b (n, v, srcL L ks rd n)) ↔ Well L ks f ps W b ∧ Good L ks f rd n v := by
  have h0 := src_nonneg (L := L) (rd := rd) (n := n) hk
  unfold Good
  generalize srcL L ks rd n = s at *
  by_cases hs : 0 < s
  · rw [if_pos hs, if_pos hs]
    by_cases e : s = v
    · subst e
      rw [boxP_same hs]
      unfold Well
      constructor
      · rintro ⟨h1, h2⟩
        exact ⟨⟨h1, fun w hw hps => h2 w (mem_insW.mpr (.inl hw)) hps⟩, rfl, h2 s (mem_insW.mpr (.inr rfl)) (hp hs)⟩
      · rintro ⟨⟨h1, h2⟩, _, h3⟩
        refine ⟨h1, fun w hw hps => ?_⟩
        rcases mem_insW.mp hw with hw | rfl
        · exact h2 w hw hps
        · exact h3
    · rw [boxP_clash hs e]
      constructor
      · rintro ⟨⟨B, hB, _⟩, _⟩
        cases hB
      · rintro ⟨_, h, _⟩
        exact absurd h e
  · have e : s = 0 := by omega
    subst e
    rw [if_neg hs, if_neg hs]
    unfold Well
    cases b with
    | none =>
      constructor
      · rintro ⟨⟨B, hB, _⟩, _⟩
        cases hB
      · rintro ⟨⟨⟨B, hB, _⟩, _⟩, _⟩
        cases hB
    | some B =>
      rw [boxP_zero]
      by_cases c : (lkB B n).getD v ≠ v
      · rw [if_pos c]
        constructor
        · rintro ⟨⟨B, hB, _⟩, _⟩
          cases hB
        · rintro ⟨⟨⟨B', hB, hM⟩, _⟩, hf⟩
          cases hB
          exfalso
          cases hl : lkB B n with
          | none =>
            rw [hl] at c
            exact c rfl
          | some u =>
            rw [hl] at c
            have := hM n u hl
            rw [hf] at this
            exact c (Option.some.inj this).symm
      · rw [if_neg c]
        have c' : (lkB B n).getD v = v := Decidable.not_not.mp c
        constructor
        · rintro ⟨⟨B', hB, hM⟩, h2⟩
          cases hB
          have hf : f n = some v := hM n v (by rw [lk_put, if_pos rfl])
          refine ⟨⟨⟨B, rfl, fun m u hm => ?_⟩, h2⟩, hf⟩
          by_cases e : n = m
          · subst e
            rw [hm] at c'
            have : u = v := c'
            rw [this]
            exact hf
          · exact hM m u (by rw [lk_put, if_neg e]; exact hm)
        · rintro ⟨⟨⟨B', hB, hM⟩, h2⟩, hf⟩
          cases hB
          refine ⟨⟨_, rfl, fun m u hm => ?_⟩, h2⟩
          rw [lk_put] at hm
          by_cases e : n = m
          · subst e
            rw [if_pos rfl] at hm
            cases hm
            exact hf
          · rw [if_neg e] at hm
            exact hM m u hm
theorem well_needs {L : LogM} {ks : List Int} {f : Str → Option Int} {ps : List Int} {rd : Int} (hk : ∀ k ∈ ks, 1 ≤ k) (hp : ∀ n, 0 < srcL L ks rd n → srcL L ks rd n ∈ ps) : ∀ (qs : List (Str × Int)) (W : List Int) (ss : List Src) (b : Option Bx),
    Well L ks f ps (qs.foldl (urP L ks rd) (W, ss)).1 ((qs.foldl (urP L ks rd) (W, ss)).2.foldl boxP b) ↔ Well L ks f ps W (ss.foldl boxP b) ∧ ∀ q ∈ qs, Good L ks f rd q.1 q.2
  | [], W, ss, b => by
    constructor
    · exact fun h => ⟨h, fun q hq => by cases hq⟩
    · exact fun h => h.1
  | (n, v) :: r, W, ss, b => by
    rw [List.foldl_cons]
    have ih := well_needs (f := f) hk hp r (if 0 < srcL L ks rd n then insW W (srcL L ks rd n) else W) (ss ++ [(n, v, srcL L ks rd n)]) b
    show Well L ks f ps (r.foldl (urP L ks rd) (if 0 < srcL L ks rd n then insW W (srcL L ks rd n) else W, ss ++ [(n, v, srcL L ks rd n)])).1 _ ↔ _
    refine ih.trans ?_
    rw [List.foldl_append]
    show Well L ks f ps _ (boxP (ss.foldl boxP b) (n, v, srcL L ks rd n)) ∧ _ ↔ _
    rw [well_step hk (hp n)]
    constructor
    · rintro ⟨⟨h1, h2⟩, h3⟩
      refine ⟨h1, fun q hq => ?_⟩
      rcases List.mem_cons.mp hq with rfl | hq
      · exact h2
      · exact h3 q hq
    · rintro ⟨h1, h2⟩
      exact ⟨⟨h1, h2 (n, v) List.mem_cons_self⟩, fun q hq => h2 q (List.mem_cons_of_mem _ hq)⟩
theorem urR_in {L : LogM} {ks W : List Int} {ts : List (Int × List Src)} {rd : Int} (h : rd ∈ W) : urR L ks (W, ts) rd = (((needsP L rd).foldl (urP L ks rd) (W, [])).1, ts ++ [(rd, ((needsP L rd).foldl (urP L ks rd) (W, [])).2)]) := by
  unfold urR
  rw [if_pos h]
theorem urR_out {L : LogM} {ks W : List Int} {ts : List (Int × List Src)} {rd : Int} (h : rd ∉ W) : urR L ks (W, ts) rd = (W, ts) := by
  unfold urR
  rw [if_neg h]
theorem boxT_snoc (ts : List (Int × List Src)) (t : Int × List Src) : boxT (ts ++ [t]) = t.2.foldl boxP (boxT ts) := by
  unfold boxT
  rw [List.foldl_append]
  rfl
/-- readers met downward -/
theorem well_down {L : LogM} {ks : List Int} {f : Str → Option Int} (lo : Lot L ks) : ∀ (m : Nat) (ps rest : List Int) (W : List Int) (ts : List (Int × List Src)), ps.length = m → ks = ps ++ rest →
    (Well L ks f [] (ps.reverse.foldl (urR L ks) (W, ts)).1 (boxT (ps.reverse.foldl (urR L ks) (W, ts)).2) ↔ Well L ks f ps W (boxT ts))
  | 0, ps, rest, W, ts, h, _ => by
    rw [List.length_eq_zero_iff.mp h]
    exact Iff.rfl
  | m + 1, ps, rest, W, ts, h, e => by
    have hne : ps ≠ [] := fun z => by rw [z] at h; cases h
    obtain ⟨k, qs, rfl⟩ : ∃ k qs, ps = qs ++ [k] := ⟨ps.getLast hne, ps.dropLast, (List.dropLast_concat_getLast hne).symm⟩
    have hq : qs.length = m := by rw [List.length_append] at h; simpa using h
    have e' : ks = qs ++ (k :: rest) := by rw [e, List.append_assoc]; rfl
    have hf : (ks.filter fun j => decide (j < k)) = qs := by
      rw [e']
      exact filter_pre (by rw [← e']; exact lo.asc)
    rw [List.reverse_append]
    show Well L ks f [] (qs.reverse.foldl (urR L ks) (urR L ks (W, ts) k)).1 (boxT (qs.reverse.foldl (urR L ks) (urR L ks (W, ts) k)).2) ↔ _
    by_cases hw : k ∈ W
    · rw [urR_in hw]
      refine (well_down lo m qs (k :: rest) _ _ hq e').trans ?_
      rw [boxT_snoc]
      refine (well_needs (fun k hk => (lo.bd k hk).1) (fun n hn => ?_) _ W [] _).trans ?_
      · have := src_mem hn
        rw [← hf]
        exact List.mem_filter.mpr ⟨this.1, decide_eq_true this.2⟩
      · show Well L ks f qs W (boxT ts) ∧ _ ↔ _
        rw [← clean_good lo k]
        unfold Well
        constructor
        · rintro ⟨⟨h1, h2⟩, h3⟩
          refine ⟨h1, fun w hw hp => ?_⟩
          rcases List.mem_append.mp hp with hp | hp
          · exact h2 w hw hp
          · rw [List.mem_singleton.mp hp]
            exact h3
        · rintro ⟨h1, h2⟩
          exact ⟨⟨h1, fun w hw hp => h2 w hw (List.mem_append_left _ hp)⟩, h2 k hw (by simp)⟩
    · rw [urR_out hw]
      refine (well_down lo m qs (k :: rest) _ _ hq e').trans ?_
      unfold Well
      refine and_congr Iff.rfl ?_
      constructor
      · intro h2 w hw' hp
        rcases List.mem_append.mp hp with hp | hp
        · exact h2 w hw' hp
        · rw [List.mem_singleton.mp hp] at hw'
          exact absurd hw' hw
      · exact fun h2 w hw' hp => h2 w hw' (List.mem_append_left _ hp)
/-- a lot ends right on a disk exactly if it has a box and the disk has each version of it -/
theorem ends_box {L : LogM} {ks : List Int} {f : Str → Option Int} (lo : Lot L ks) : endsB L ks f = true ↔ ∃ B, boxL L ks = some B ∧ Match f B := by
  have h1 : Well L ks f [] (urL L ks (((L.rows.length : Int) + 1) :: ks.reverse)).1 (boxT (usefulL L ks)) ↔ Well L ks f ks [(L.rows.length : Int) + 1] (List.foldl boxP (boxT []) []) ∧ endsB L ks f = true := by
    unfold usefulL urL
    rw [List.foldl_cons, urR_in (by simp)]
    refine (well_down (f := f) lo ks.length ks [] _ _ rfl (by simp)).trans ?_
    show Well L ks f ks _ (boxT ([] ++ _)) ↔ _
    rw [boxT_snoc]
    refine (well_needs (fun k hk => (lo.bd k hk).1) (fun n hn => (src_mem hn).1) _ _ [] _).trans ?_
    rw [← clean_good lo, clean_end lo]
  have h2 : Well L ks f ks [(L.rows.length : Int) + 1] (List.foldl boxP (boxT []) []) := ⟨⟨[], rfl, fun n v z => by cases z⟩, fun w hw hk => by
    rw [List.mem_singleton.mp hw] at hk
    have := lo.bd _ hk
    omega⟩
  constructor
  · intro h
    exact (h1.mpr ⟨h2, h⟩).1
  · intro h
    exact (h1.mp ⟨h, fun w _ z => by cases z⟩).2
/-! ### all records -/
def numsAll (N : Nat) : List Int := (List.range N).map fun (j : Nat) => (j : Int) + 1
theorem numsAll_succ (N : Nat) : numsAll (N + 1) = numsAll N ++ [(N : Int) + 1] := by
  unfold numsAll
  rw [List.range_succ, List.map_append]
  rfl
theorem mem_numsAll {N : Nat} {k : Int} : k ∈ numsAll N ↔ 1 ≤ k ∧ k ≤ N := by
  unfold numsAll
  rw [List.mem_map]
  constructor
  · rintro ⟨j, hj, rfl⟩
    have := List.mem_range.mp hj
    omega
  · intro h
    exact ⟨(k - 1).toNat, List.mem_range.mpr (by omega), by omega⟩
theorem numsAll_asc (N : Nat) : (numsAll N).Pairwise (· < ·) := by
  induction N with
  | zero => exact List.Pairwise.nil
  | succ N ih =>
    rw [numsAll_succ, List.pairwise_append]
    refine ⟨ih, List.pairwise_singleton _ _, fun a ha b hb => ?_⟩
    rw [List.mem_singleton.mp hb]
    have := mem_numsAll.mp ha
    omega
theorem Lot.all (L : LogM) : Lot L (numsAll L.rows.length) := ⟨numsAll_asc _, fun k hk => mem_numsAll.mp hk⟩
theorem numsAll_filter {N m : Nat} (h : m ≤ N) : ((numsAll N).filter fun k => decide (k < (m : Int) + 1)) = numsAll m := by
  induction N with
  | zero =>
    have : m = 0 := by omega
    subst this
    rfl
  | succ N ih =>
    by_cases e : m = N + 1
    · subst e
      exact List.filter_eq_self.mpr fun k hk => decide_eq_true (by have := mem_numsAll.mp hk; omega)
    · rw [numsAll_succ, List.filter_append, ih (by omega), List.filter_cons_of_neg (by simp; omega), List.filter_nil, List.append_nil]
theorem ver_snoc (rows : List Row) (r : Row) (n : Str) : ver (rows ++ [r]) n = if n ∈ r.2 then ((rows.length : Nat) : Int) + 1 else ver rows n := by
  unfold ver
  rw [wr_snoc]
  by_cases h : n ∈ r.2
  · rw [if_pos h, if_pos h, List.getLast?_append]
    rfl
  · rw [if_neg h, if_neg h, List.append_nil]
theorem ver_take {L : LogM} {n : Str} : ∀ m : Nat, m ≤ L.rows.length → (numsAll m).foldl (lwF L n) 0 = ver (L.rows.take m) n
  | 0, _ => by
    rw [List.take_zero]
    rfl
  | m + 1, h => by
    have ih := ver_take (L := L) (n := n) m (by omega)
    have e : L.rows.take (m + 1) = L.rows.take m ++ [L.rows[m]] := by rw [List.take_append_getElem]
    rw [numsAll_succ, List.foldl_append, ih, e, ver_snoc]
    have e2 : rowAt L (((m : Int) + 1).toNat) = L.rows[m] := by
      unfold rowAt
      have : ((m : Int) + 1).toNat - 1 = m := by omega
      rw [this, List.getElem?_eq_getElem (by omega)]
      rfl
    show (if n ∈ (rowAt L ((m : Int) + 1).toNat).2 then (m : Int) + 1 else _) = _
    rw [e2, List.length_take, Nat.min_eq_left (by omega)]
theorem src_all {L : LogM} {rd : Int} {n : Str} (h : 1 ≤ rd) (h2 : rd ≤ (L.rows.length : Int) + 1) : srcL L (numsAll L.rows.length) rd n = ver (L.rows.take (rd.toNat - 1)) n := by
  rw [srcL_filter]
  have : rd = ((rd.toNat - 1 : Nat) : Int) + 1 := by omega
  rw [this, numsAll_filter (by omega), ver_take _ (by omega)]
  have e2 : (((rd.toNat - 1 : Nat) : Int) + 1).toNat - 1 = rd.toNat - 1 := by omega
  rw [e2]
theorem ver_nonneg {rows : List Row} {n : Str} : 0 ≤ ver rows n := by
  unfold ver
  cases h : (wr rows n).getLast? with
  | none => exact Int.le_refl _
  | some k =>
    have := List.mem_of_getLast? h
    unfold wr at this
    obtain ⟨j, _, rfl⟩ := List.mem_map.mp this
    show (0 : Int) ≤ (j : Int) + 1
    omega
/-- the law's own walk to what is needed at 0 -/
def azP (st : List Int × List Str) (q : Str × Int) : List Int × List Str :=
  (if 0 < q.2 ∧ q.2 ∉ st.1 then st.1 ++ [q.2] else st.1, if q.2 = 0 ∧ q.1 ∉ st.2 then st.2 ++ [q.1] else st.2)
def azR (L : LogM) (st : List Int × List Str) (rd : Int) : List Int × List Str := if rd ∈ st.1 then (needsP L rd).foldl azP st else st
def azL (L : LogM) : List Str := ((numsAll (L.rows.length + 1)).reverse.foldl (azR L) ([(L.rows.length : Int) + 1], [])).2
def zB (F : List Str) : Bx := F.map fun n => (n, 0)
theorem lk_zB (n : Str) : ∀ F : List Str, lkB (zB F) n = if n ∈ F then some 0 else none
  | [] => rfl
  | m :: r => by
    have ih := lk_zB n r
    show (if m = n then some 0 else lkB (zB r) n) = _
    rw [ih]
    by_cases e : m = n
    · subst e
      simp
    · rw [if_neg e]
      have : n ∈ m :: r ↔ n ∈ r := ⟨fun z => (List.mem_cons.mp z).resolve_left fun q => e q.symm, List.mem_cons_of_mem _⟩
      by_cases h : n ∈ r
      · rw [if_pos h, if_pos (this.mpr h)]
      · rw [if_neg h, if_neg (fun z => h (this.mp z))]
theorem put_zB (n : Str) (F : List Str) : putB (zB F) n 0 = zB (if n ∈ F then F else F ++ [n]) := by
  have e : (zB F).map Prod.fst = F := by
    unfold zB
    rw [List.map_map]
    exact List.map_id F
  unfold putB
  rw [e]
  by_cases h : n ∈ F
  · rw [if_pos h, if_pos h]
    unfold zB
    rw [List.map_map]
    refine List.map_congr_left fun m _ => ?_
    show (if m = n then (n, (0 : Int)) else (m, 0)) = (m, 0)
    by_cases c : m = n
    · rw [if_pos c, c]
    · rw [if_neg c]
  · rw [if_neg h, if_neg h]
    unfold zB
    rw [List.map_append]
    rfl
theorem az_needs {L : LogM} {rd : Int} {b : Option Bx} : ∀ (qs : List (Str × Int)) (W : List Int) (ss : List Src) (F : List Str), (∀ q ∈ qs, srcL L (numsAll L.rows.length) rd q.1 = q.2 ∧ 0 ≤ q.2) → ss.foldl boxP b = some (zB F) →
    (qs.foldl (urP L (numsAll L.rows.length) rd) (W, ss)).1 = (qs.foldl azP (W, F)).1 ∧ (qs.foldl (urP L (numsAll L.rows.length) rd) (W, ss)).2.foldl boxP b = some (zB (qs.foldl azP (W, F)).2)
  | [], W, ss, F, _, hb => ⟨rfl, hb⟩
  | (n, v) :: r, W, ss, F, h, hb => by
    obtain ⟨h1, h2⟩ := h (n, v) List.mem_cons_self
    have h1' : srcL L (numsAll L.rows.length) rd n = v := h1
    have h2' : 0 ≤ v := h2
    have eW : (if 0 < srcL L (numsAll L.rows.length) rd n then insW W (srcL L (numsAll L.rows.length) rd n) else W) = (azP (W, F) (n, v)).1 := by
      rw [h1']
      show _ = if 0 < v ∧ v ∉ W then W ++ [v] else W
      unfold insW
      by_cases a : 0 < v
      · by_cases c : v ∈ W
        · rw [if_pos a, if_pos c, if_neg (fun z => z.2 c)]
        · rw [if_pos a, if_neg c, if_pos ⟨a, c⟩]
      · rw [if_neg a, if_neg (fun z => a z.1)]
    have eF : (ss ++ [(n, v, srcL L (numsAll L.rows.length) rd n)]).foldl boxP b = some (zB (azP (W, F) (n, v)).2) := by
      rw [List.foldl_append, hb, h1']
      show boxP (some (zB F)) (n, v, v) = some (zB (if v = 0 ∧ n ∉ F then F ++ [n] else F))
      by_cases a : v = 0
      · subst a
        have g : (lkB (zB F) n).getD 0 = 0 := by
          rw [lk_zB]
          by_cases c : n ∈ F
          · rw [if_pos c]
            rfl
          · rw [if_neg c]
            rfl
        rw [boxP_zero, if_neg (fun z => z g), put_zB]
        by_cases c : n ∈ F
        · rw [if_pos c, if_neg (fun z => z.2 c)]
        · rw [if_neg c, if_pos ⟨rfl, c⟩]
      · rw [boxP_same (by omega), if_neg (fun z => a z.1)]
    have ih := az_needs (L := L) (rd := rd) (b := b) r (azP (W, F) (n, v)).1 (ss ++ [(n, v, srcL L (numsAll L.rows.length) rd n)]) (azP (W, F) (n, v)).2 (fun q hq => h q (List.mem_cons_of_mem _ hq)) eF
    have eU : urP L (numsAll L.rows.length) rd (W, ss) (n, v) = ((azP (W, F) (n, v)).1, ss ++ [(n, v, srcL L (numsAll L.rows.length) rd n)]) := by
      rw [← eW]
      rfl
    rw [List.foldl_cons, List.foldl_cons, eU]
    exact ih
theorem az_down {L : LogM} : ∀ (rs : List Int) (W : List Int) (ts : List (Int × List Src)) (F : List Str), (∀ r ∈ rs, 1 ≤ r ∧ r ≤ (L.rows.length : Int) + 1) → boxT ts = some (zB F) →
    (rs.foldl (urR L (numsAll L.rows.length)) (W, ts)).1 = (rs.foldl (azR L) (W, F)).1 ∧ boxT (rs.foldl (urR L (numsAll L.rows.length)) (W, ts)).2 = some (zB (rs.foldl (azR L) (W, F)).2)
  | [], W, ts, F, _, hb => ⟨rfl, hb⟩
  | rd :: r, W, ts, F, h, hb => by
    have hr := h rd List.mem_cons_self
    rw [List.foldl_cons, List.foldl_cons]
    by_cases hw : rd ∈ W
    · have e2 : azR L (W, F) rd = (needsP L rd).foldl azP (W, F) := by
        unfold azR
        rw [if_pos hw]
      rw [urR_in hw, e2]
      obtain ⟨a, c⟩ := az_needs (L := L) (rd := rd) (b := boxT ts) (needsP L rd) W [] F (fun q hq => by
        unfold needsP at hq
        obtain ⟨n, hn, rfl⟩ := List.mem_map.mp hq
        exact ⟨src_all hr.1 hr.2, ver_nonneg⟩) hb
      rw [a]
      exact az_down r _ _ _ (fun q hq => h q (List.mem_cons_of_mem _ hq)) (by rw [boxT_snoc]; exact c)
    · have e2 : azR L (W, F) rd = (W, F) := by
        unfold azR
        rw [if_neg hw]
      rw [urR_out hw, e2]
      exact az_down r W ts F (fun q hq => h q (List.mem_cons_of_mem _ hq)) hb
theorem down_all (N : Nat) : (numsAll (N + 1)).reverse = ((N : Int) + 1) :: (numsAll N).reverse := by
  rw [numsAll_succ, List.reverse_append]
  rfl
/-- the box of all records: what is needed at 0 -/
theorem box_all (L : LogM) : boxL L (numsAll L.rows.length) = some (zB (azL L)) := by
  have := (az_down (L := L) (((L.rows.length : Int) + 1) :: (numsAll L.rows.length).reverse) [(L.rows.length : Int) + 1] [] [] (fun r hr => by
    rcases List.mem_cons.mp hr with rfl | hr
    · omega
    · have := mem_numsAll.mp (List.mem_reverse.mp hr)
      omega) rfl).2
  unfold azL
  rw [down_all]
  exact this
/-- all records end right exactly on the disks that have what is needed at 0 -/
theorem ends_all {L : LogM} {f : Str → Option Int} : endsB L (numsAll L.rows.length) f = true ↔ ∀ n ∈ azL L, f n = some 0 := by
  rw [ends_box (Lot.all L), box_all]
  unfold Match
  constructor
  · rintro ⟨B, hB, hM⟩ n hn
    cases hB
    exact hM n 0 (by rw [lk_zB, if_pos hn])
  · intro h
    refine ⟨_, rfl, fun n v hv => ?_⟩
    rw [lk_zB] at hv
    by_cases e : n ∈ azL L
    · rw [if_pos e] at hv
      cases hv
      exact h n e
    · rw [if_neg e] at hv
      cases hv
/-- the box in the order of the pages -/
def ordB (ns : List Str) (B : Bx) : Bx := ns.filterMap fun n => (lkB B n).map fun v => (n, v)
theorem az_mem {L : LogM} (rp : ∀ r ∈ L.rows, ∀ n ∈ r.1, n ∈ L.names) : (∀ n ∈ azL L, n ∈ L.names) ∧ (azL L).Nodup := by
  have h1 : ∀ (qs : List (Str × Int)) (st : List Int × List Str), (∀ q ∈ qs, q.1 ∈ L.names) → ((∀ n ∈ st.2, n ∈ L.names) ∧ st.2.Nodup) → ((∀ n ∈ (qs.foldl azP st).2, n ∈ L.names) ∧ (qs.foldl azP st).2.Nodup) := fun qs => by
    induction qs with
    | nil => exact fun st _ h => h
    | cons q r ih =>
      intro st hq h
      rw [List.foldl_cons]
      refine ih _ (fun p hp => hq p (List.mem_cons_of_mem _ hp)) ?_
      show (∀ n ∈ (if q.2 = 0 ∧ q.1 ∉ st.2 then st.2 ++ [q.1] else st.2), n ∈ L.names) ∧ (if q.2 = 0 ∧ q.1 ∉ st.2 then st.2 ++ [q.1] else st.2).Nodup
      by_cases c : q.2 = 0 ∧ q.1 ∉ st.2
      · rw [if_pos c]
        refine ⟨fun n hn => ?_, ?_⟩
        · rcases List.mem_append.mp hn with hn | hn
          · exact h.1 n hn
          · rw [List.mem_singleton.mp hn]
            exact hq q List.mem_cons_self
        · rw [List.nodup_append]
          refine ⟨h.2, by simp, fun a ha b hb e => ?_⟩
          rw [List.mem_singleton.mp hb] at e
          exact c.2 (e ▸ ha)
      · rw [if_neg c]
        exact h
  have h2 : ∀ (rs : List Int) (st : List Int × List Str), ((∀ n ∈ st.2, n ∈ L.names) ∧ st.2.Nodup) → ((∀ n ∈ (rs.foldl (azR L) st).2, n ∈ L.names) ∧ (rs.foldl (azR L) st).2.Nodup) := fun rs => by
    induction rs with
    | nil => exact fun st h => h
    | cons rd r ih =>
      intro st h
      rw [List.foldl_cons]
      refine ih _ ?_
      unfold azR
      by_cases c : rd ∈ st.1
      · rw [if_pos c]
        refine h1 _ _ (fun q hq => ?_) h
        unfold needsP at hq
        obtain ⟨n, hn, rfl⟩ := List.mem_map.mp hq
        unfold readsAt at hn
        by_cases e : rd = (L.rows.length : Int) + 1
        · rw [if_pos e] at hn
          exact hn
        · rw [if_neg e] at hn
          unfold rowAt at hn
          cases hr : L.rows[rd.toNat - 1]? with
          | none =>
            rw [hr] at hn
            cases hn
          | some r =>
            rw [hr] at hn
            exact rp r (List.mem_of_getElem? hr) n hn
      · rw [if_neg c]
        exact h
  exact h2 _ _ ⟨fun n hn => (by cases hn), List.nodup_nil⟩
theorem ord_zB (F : List Str) : ∀ ns : List Str, ordB ns (zB F) = zB (ns.filter fun n => decide (n ∈ F))
  | [] => rfl
  | n :: r => by
    have ih := ord_zB F r
    unfold ordB at ih ⊢
    by_cases e : n ∈ F
    · rw [List.filter_cons_of_pos (by simpa using e), List.filterMap_cons_some (b := (n, 0)) (by rw [lk_zB, if_pos e]; rfl), ih]
      rfl
    · rw [List.filter_cons_of_neg (by simpa using e), List.filterMap_cons_none (by rw [lk_zB, if_neg e]; rfl), ih]
/-! ### joined lots -/
def jb (z : Str) (R : List Row × List Int) (b : Nat) (row : Row) : List Row × List Int :=
  ((R.1 ++ List.replicate b ([z], [z])) ++ [row], R.2 ++ [((R.1.length + b : Nat) : Int) + 1])
theorem ver_rep {R : List Row} {z n : Str} (h : n ≠ z) : ∀ b : Nat, ver (R ++ List.replicate b ([z], [z])) n = ver R n
  | 0 => by rw [List.replicate_zero, List.append_nil]
  | b + 1 => by
    rw [List.replicate_succ', ← List.append_assoc, ver_snoc, if_neg (by simpa using h)]
    exact ver_rep h b
/-- the numbers of the rows that are no harmless ones -/
def JOk (z : Str) (R : List Row × List Int) : Prop := (∀ j, j < R.1.length → (((j : Int) + 1 ∈ R.2) ↔ z ∉ ((R.1[j]?).getD ([], [])).2)) ∧ ∀ a ∈ R.2, 1 ≤ a ∧ a ≤ (R.1.length : Int)
theorem JOk.jb {z : Str} {R : List Row × List Int} (h : JOk z R) (b : Nat) {row : Row} (hr : z ∉ row.2) : JOk z (jb z R b row) := by
  have l1 : (R.1 ++ List.replicate b ([z], [z])).length = R.1.length + b := by simp
  refine ⟨fun j hj => ?_, fun a ha => ?_⟩
  · have hj' : j < R.1.length + b + 1 := by
      have := hj
      unfold Lr.jb at this
      rw [List.length_append, l1] at this
      exact this
    show ((j : Int) + 1 ∈ R.2 ++ [((R.1.length + b : Nat) : Int) + 1]) ↔ z ∉ ((((R.1 ++ List.replicate b ([z], [z])) ++ [row])[j]?).getD ([], [])).2
    rw [List.mem_append, List.mem_singleton]
    by_cases c1 : j < R.1.length
    · rw [List.getElem?_append_left (by rw [l1]; omega), List.getElem?_append_left c1]
      rw [← h.1 j c1]
      constructor
      · rintro (q | q)
        · exact q
        · omega
      · exact .inl
    · by_cases c2 : j < R.1.length + b
      · rw [List.getElem?_append_left (by rw [l1]; exact c2), List.getElem?_append_right (by omega), List.getElem?_replicate, if_pos (by omega)]
        constructor
        · rintro (q | q)
          · have := h.2 _ q
            omega
          · omega
        · intro q
          exact absurd (show z ∈ [z] by simp) q
      · have e : j = R.1.length + b := by omega
        subst e
        rw [List.getElem?_append_right (by rw [l1]; exact Nat.le_refl _), l1, Nat.sub_self]
        constructor
        · intro _
          exact hr
        · intro _
          exact .inr rfl
  · show 1 ≤ a ∧ a ≤ (((R.1 ++ List.replicate b ([z], [z])) ++ [row]).length : Int)
    rw [List.length_append, l1]
    have ha' : a ∈ R.2 ++ [((R.1.length + b : Nat) : Int) + 1] := ha
    rcases List.mem_append.mp ha' with q | q
    · have := h.2 _ q
      simp
      omega
    · rw [List.mem_singleton.mp q]
      simp
      omega
theorem JOk.nil (z : Str) : JOk z ([], []) := ⟨fun j hj => (by cases hj), fun a ha => (by cases ha)⟩
theorem JOk.more {z : Str} {R : List Row × List Int} (h : JOk z R) : (numsAll R.1.length).filter (fun k => !decide (k ∈ R.2)) = wr R.1 z := by
  unfold numsAll wr
  rw [List.filter_map]
  congr 1
  refine List.filter_congr fun j hj => ?_
  have := h.1 j (List.mem_range.mp hj)
  show (!decide ((j : Int) + 1 ∈ R.2)) = decide (z ∈ ((R.1[j]?).getD ([], [])).2)
  by_cases c : z ∈ ((R.1[j]?).getD ([], [])).2
  · rw [decide_eq_true c, decide_eq_false (fun q => (this.mp q) c)]
    rfl
  · rw [decide_eq_false c, decide_eq_true (this.mpr c)]
    rfl
/-- the written log -/
def jR (x y z : Str) (b0 b1 b2 b3 : Nat) : List Row × List Int := jb z (jb z (jb z (jb z ([], []) b0 ([], [y])) b1 ([], [y])) b2 ([y], [x])) b3 ([], [y])
def jA0 (b0 : Nat) : Nat := b0 + 1
def jA1 (b0 b1 : Nat) : Nat := b0 + 1 + b1 + 1
def jA2 (b0 b1 b2 : Nat) : Nat := b0 + 1 + b1 + 1 + b2 + 1
def jA3 (b0 b1 b2 b3 : Nat) : Nat := b0 + 1 + b1 + 1 + b2 + 1 + b3 + 1
theorem jb_len {z : Str} {R : List Row × List Int} {b : Nat} {row : Row} : (jb z R b row).1.length = R.1.length + b + 1 := by
  unfold jb
  simp
  omega
structure JF (x y z : Str) (L : LogM) (a0 a1 a2 a3 : Nat) : Prop where
  o : 1 ≤ a0 ∧ a0 < a1 ∧ a1 < a2 ∧ a2 < a3 ∧ a3 = L.rows.length
  r0 : rowAt L a0 = ([], [y])
  r1 : rowAt L a1 = ([], [y])
  r2 : rowAt L a2 = ([y], [x])
  r3 : rowAt L a3 = ([], [y])
  n2 : needAt L a2 y = some (a1 : Int)
  vx : ver L.rows x = a2
  vy : ver L.rows y = a3
theorem jb_last {z : Str} {R : List Row × List Int} {b : Nat} {row : Row} : (jb z R b row).1[R.1.length + b]? = some row := by
  unfold jb
  show ((R.1 ++ List.replicate b ([z], [z])) ++ [row])[R.1.length + b]? = _
  rw [List.getElem?_append_right (by simp)]
  simp
theorem jb_old {z : Str} {R : List Row × List Int} {b j : Nat} {row : Row} (h : j < R.1.length) : (jb z R b row).1[j]? = R.1[j]? := by
  unfold jb
  show ((R.1 ++ List.replicate b ([z], [z])) ++ [row])[j]? = _
  rw [List.getElem?_append_left (by simp; omega), List.getElem?_append_left h]
theorem jb_take {z : Str} {R : List Row × List Int} {b m : Nat} {row : Row} (h : m ≤ R.1.length) : (jb z R b row).1.take m = R.1.take m := by
  unfold jb
  show ((R.1 ++ List.replicate b ([z], [z])) ++ [row]).take m = _
  rw [List.append_assoc, List.take_append_of_le_length h]
theorem jb_takeL {z : Str} {R : List Row × List Int} {b : Nat} {row : Row} : (jb z R b row).1.take (R.1.length + b) = R.1 ++ List.replicate b ([z], [z]) := by
  unfold jb
  show ((R.1 ++ List.replicate b ([z], [z])) ++ [row]).take _ = _
  rw [List.take_append_of_le_length (by simp), List.take_of_length_le (by simp)]
theorem jb_ver {z n : Str} {R : List Row × List Int} {b : Nat} {row : Row} (h : n ≠ z) : ver (jb z R b row).1 n = if n ∈ row.2 then ((R.1.length + b : Nat) : Int) + 1 else ver R.1 n := by
  unfold jb
  show ver ((R.1 ++ List.replicate b ([z], [z])) ++ [row]) n = _
  rw [ver_snoc, ver_rep h]
  simp
theorem jF {x y z : Str} (hxy : x ≠ y) (hxz : x ≠ z) (hyz : y ≠ z) (b0 b1 b2 b3 : Nat) (L : LogM) (hL : L.rows = (jR x y z b0 b1 b2 b3).1) : JF x y z L (jA0 b0) (jA1 b0 b1) (jA2 b0 b1 b2) (jA3 b0 b1 b2 b3) := by
  unfold jR at hL
  generalize h1 : jb z ([], []) b0 ([], [y]) = R1 at hL
  have l1 : R1.1.length = b0 + 1 := by rw [← h1, jb_len]; simp
  have e0 : R1.1[b0]? = some ([], [y]) := by
    rw [← h1]
    have := jb_last (z := z) (R := ([], [])) (b := b0) (row := ([], [y]))
    simpa using this
  generalize h2 : jb z R1 b1 ([], [y]) = R2 at hL
  have l2 : R2.1.length = b0 + 1 + b1 + 1 := by rw [← h2, jb_len, l1]
  have e1 : R2.1[b0 + 1 + b1]? = some ([], [y]) := by
    rw [← h2, ← l1]
    exact jb_last
  have e0' : R2.1[b0]? = some ([], [y]) := by rw [← h2, jb_old (by omega), e0]
  have v2 : ver R2.1 y = ((b0 + 1 + b1 : Nat) : Int) + 1 := by
    rw [← h2, jb_ver hyz, if_pos (by simp), l1]
  generalize h3 : jb z R2 b2 ([y], [x]) = R3 at hL
  have l3 : R3.1.length = b0 + 1 + b1 + 1 + b2 + 1 := by rw [← h3, jb_len, l2]
  have e2 : R3.1[b0 + 1 + b1 + 1 + b2]? = some ([y], [x]) := by
    rw [← h3, ← l2]
    exact jb_last
  have e0'' : R3.1[b0]? = some ([], [y]) := by rw [← h3, jb_old (by omega), e0']
  have e1' : R3.1[b0 + 1 + b1]? = some ([], [y]) := by rw [← h3, jb_old (by omega), e1]
  have v3 : ver R3.1 x = ((b0 + 1 + b1 + 1 + b2 : Nat) : Int) + 1 := by
    rw [← h3, jb_ver hxz, if_pos (by simp), l2]
  have t3 : R3.1.take (b0 + 1 + b1 + 1 + b2) = R2.1 ++ List.replicate b2 ([z], [z]) := by
    rw [← h3, ← l2]
    exact jb_takeL
  have e3 : L.rows[b0 + 1 + b1 + 1 + b2 + 1 + b3]? = some ([], [y]) := by
    rw [hL, ← l3]
    exact jb_last
  refine ⟨?_, ?_, ?_, ?_, ?_, ?_, ?_, ?_⟩
  · rw [hL, jb_len, l3]
    unfold jA0 jA1 jA2 jA3
    omega
  · show (L.rows[b0 + 1 - 1]?).getD ([], []) = _
    rw [Nat.add_sub_cancel, hL, jb_old (by omega), e0'']
    rfl
  · show (L.rows[b0 + 1 + b1 + 1 - 1]?).getD ([], []) = _
    rw [Nat.add_sub_cancel, hL, jb_old (by omega), e1']
    rfl
  · show (L.rows[b0 + 1 + b1 + 1 + b2 + 1 - 1]?).getD ([], []) = _
    rw [Nat.add_sub_cancel, hL, jb_old (by omega), e2]
    rfl
  · show (L.rows[b0 + 1 + b1 + 1 + b2 + 1 + b3 + 1 - 1]?).getD ([], []) = _
    rw [Nat.add_sub_cancel, e3]
    rfl
  · show some (ver (L.rows.take (b0 + 1 + b1 + 1 + b2 + 1 - 1)) y) = _
    rw [Nat.add_sub_cancel, hL, jb_take (by omega), t3, ver_rep hyz, v2]
    rfl
  · rw [hL, jb_ver hxz, if_neg (by simpa using hxy), v3]
    rfl
  · rw [hL, jb_ver hyz, if_pos (by simp), l3]
    rfl
theorem step_blind {L : LogM} {k : Nat} {y : Str} (h : rowAt L k = ([], [y])) (f : Str → Option Int) : stepF L k f = fun m => if m = y then some (k : Int) else f m := by
  funext m
  unfold stepF
  rw [h]
  by_cases e : m = y
  · rw [if_pos (by simpa using e), if_pos (fun n hn => by cases hn), if_pos e]
  · rw [if_neg (by simpa using e), if_neg e]
theorem step_read {L : LogM} {k : Nat} {x y : Str} (h : rowAt L k = ([y], [x])) (f : Str → Option Int) : stepF L k f = fun m => if m = x then (if f y = needAt L k y then some (k : Int) else none) else f m := by
  funext m
  unfold stepF
  rw [h]
  by_cases e : m = x
  · rw [if_pos (by simpa using e), if_pos e]
    by_cases c : f y = needAt L k y
    · rw [if_pos c, if_pos (fun n hn => by rw [List.mem_singleton.mp hn]; exact c)]
    · rw [if_neg c, if_neg (fun q => c (q y (by simp)))]
  · rw [if_neg (by simpa using e), if_neg e]
/-- the lots of the written log, and whether each ends right -/
def jLots (a0 a1 a2 a3 : Int) : List (List Int × Bool) :=
  [([a0, a3], true), ([a2, a3], true), ([a0, a2, a3], false), ([a0, a1, a2, a3], true), ([a1, a2, a3], true), ([a3], true), ([a0, a1, a3], true), ([a0, a2], false), ([a1], false), ([], false)]
theorem walk2_nil {L : LogM} {f : Str → Option Int} : (walkL L [] f).2 = f := rfl
theorem walk2_cons {L : LogM} {k : Int} {r : List Int} {f : Str → Option Int} : (walkL L (k :: r) f).2 = (walkL L r (stepF L k.toNat f)).2 := rfl
theorem jEnds {x y z : Str} {L : LogM} {a0 a1 a2 a3 : Nat} {f : Str → Option Int} (h : JF x y z L a0 a1 a2 a3) (hxy : x ≠ y) (hxz : x ≠ z) (hyz : y ≠ z) (hn : ∀ n, n ∈ L.names ↔ n = x ∨ n = y ∨ n = z) (fx : f x = some (a2 : Int)) (fy : f y = some (a1 : Int)) (fz : f z = some (ver L.rows z)) :
    ∀ q ∈ jLots a0 a1 a2 a3, Lot L q.1 ∧ endsB L q.1 f = q.2 := by
  have hb := h.o
  have s0 := step_blind h.r0
  have s1 := step_blind h.r1
  have s2 := step_read h.r2
  have s3 := step_blind h.r3
  rw [h.n2] at s2
  have key : ∀ (ks : List Int) (r : Bool), decide ((walkL L ks f).2 x = some (a2 : Int) ∧ (walkL L ks f).2 y = some (a3 : Int) ∧ (walkL L ks f).2 z = some (ver L.rows z)) = r → endsB L ks f = r := by
    intro ks r hr
    rw [← hr]
    unfold endsB
    congr 1
    refine propext ⟨fun q => ⟨?_, ?_, ?_⟩, fun q n hm => ?_⟩
    · rw [q x ((hn x).mpr (.inl rfl)), h.vx]
    · rw [q y ((hn y).mpr (.inr (.inl rfl))), h.vy]
    · exact q z ((hn z).mpr (.inr (.inr rfl)))
    · rcases (hn n).mp hm with rfl | rfl | rfl
      · rw [q.1, h.vx]
      · rw [q.2.1, h.vy]
      · exact q.2.2
  have yx : y ≠ x := fun e => hxy e.symm
  have zx : z ≠ x := fun e => hxz e.symm
  have zy : z ≠ y := fun e => hyz e.symm
  have n01 : (a0 : Int) ≠ a1 := by omega
  have n03 : (a0 : Int) ≠ a3 := by omega
  have n13 : (a1 : Int) ≠ a3 := by omega
  intro q hq
  simp only [jLots, List.mem_cons, List.not_mem_nil, or_false] at hq
  rcases hq with rfl | rfl | rfl | rfl | rfl | rfl | rfl | rfl | rfl | rfl <;> refine ⟨⟨?_, ?_⟩, key _ _ ?_⟩
  all_goals first
    | (simp only [List.pairwise_cons, List.mem_cons, List.not_mem_nil, or_false, List.Pairwise.nil, and_true]; omega)
    | (simp only [List.pairwise_cons, List.mem_cons, List.not_mem_nil, or_false, List.Pairwise.nil, and_true, forall_eq_or_imp, forall_eq, false_imp_iff, implies_true]; omega)
    | (intro k hk; simp only [List.mem_cons, List.not_mem_nil, or_false] at hk; omega)
    | (simp [walk2_cons, walk2_nil, s0, s1, s2, s3, fx, fy, fz, hxy, hxz, hyz, yx, zx, zy, n01, n03, n13])
end Lr
namespace Lr
open PySem PySem.Spec PyProof.Rows L2
/-! ### promises of useful_readers and box_of -/
def srcD (q : Src) : PyData := .tuple [.str q.1, .int q.2.1, .int q.2.2]
def tolD (t : Int × List Src) : PyData := .tuple [.int t.1, .list (t.2.map srcD)]
/-- the dict of what is wanted -/
def wtD (W : List Int) : List (Key × V) := W.map fun i => (Sum.inl i, .bl true)
theorem wtD_get {W : List Int} {i : Int} : valV (wtD W) (Sum.inl i : Key) = if i ∈ W then some (V.bl true) else none := by
  induction W with
  | nil => rfl
  | cons j r ih =>
    show valV ((Sum.inl j, V.bl true) :: wtD r) (Sum.inl i : Key) = _
    by_cases e : j = i
    · subst e
      rw [valV_pos rfl, if_pos List.mem_cons_self]
    · have ne : ¬ (Sum.inl j : Key) = Sum.inl i := fun z => e (Sum.inl.inj z)
      rw [valV_neg ne, ih]
      by_cases h : i ∈ r
      · rw [if_pos h, if_pos (List.mem_cons_of_mem _ h)]
      · rw [if_neg h, if_neg (fun z => h ((List.mem_cons.mp z).resolve_left fun q => e q.symm))]
theorem wtD_put {W : List Int} {i : Int} : putK (wtD W) (Sum.inl i : Key) (.bl true) = wtD (insW W i) := by
  unfold putK insW
  have key : (wtD W).any (fun kv => decide (kv.1 = (Sum.inl i : Key))) = decide (i ∈ W) := by
    unfold wtD
    rw [List.any_map]
    by_cases h : i ∈ W
    · rw [decide_eq_true h]
      exact List.any_eq_true.mpr ⟨i, h, by simp⟩
    · rw [decide_eq_false h]
      refine List.any_eq_false.mpr fun j hj => ?_
      have : j ≠ i := fun e => h (e ▸ hj)
      simpa using this
  by_cases h : i ∈ W
  · rw [if_pos (by rw [key]; exact decide_eq_true h), if_pos h]
    unfold wtD
    rw [List.map_map]
    refine List.map_congr_left fun j _ => ?_
    show (if (Sum.inl j : Key) = Sum.inl i then ((Sum.inl j : Key), V.bl true) else (Sum.inl j, V.bl true)) = _
    by_cases e : (Sum.inl j : Key) = Sum.inl i
    · rw [if_pos e]
    · rw [if_neg e]
  · rw [if_neg (by rw [key]; simpa using h), if_neg h]
    unfold wtD
    rw [List.map_append]
    rfl
/-- useful_readers(log, numbers) -/
def spUseful (Cl : Addr) : Sp := fun vs H Q _ => ∃ (G : Hp) (C : List Cell) (x b : Addr) (L : LogM) (ks : List Int), vs = [.ref x, .ref b] ∧ WF G C H ∧ LogAt Cl G x L ∧ Sees G C b (.lst (ks.map V.int)) ∧
  (∀ k ∈ ks, 1 ≤ k ∧ k ≤ L.rows.length) ∧ ks.length ≤ 100000 ∧
  ∀ (G' H' : Hp) (p : Addr) (us : List V), Same G G' → WF G' ((p, .lst us) :: C) H' → Reps G' ((usefulL L ks).map tolD) us → Q (.ref p) H'
end Lr
namespace Lr
open PySem PySem.Spec PyProof.Rows L2
theorem tcall4 {sp : Sp} {E : XK} {ta tb tc td : TE} {σ : L2.St} {H : Hp} {Q : VK} (h : ta σ H fun x H1 => tb σ H1 fun y H2 => tc σ H2 fun z H3 => td σ H3 fun u H4 => sp [x, y, z, u] H4 Q E) : tCall sp [] E (tCons ta (tCons tb (tCons tc (tCons td tNil)))) σ H Q := h
def pvD (q : Str × Int) : PyData := .tuple [.str q.1, .int q.2]
theorem needs_rd {L : LogM} {rd : Int} (h : 1 ≤ rd) (h2 : rd ≤ (L.rows.length : Int) + 1) : L.needs[rd.toNat - 1]? = some (.tuple ((needsP L rd).map pvD)) := by
  by_cases e : rd = (L.rows.length : Int) + 1
  · have e2 : rd.toNat - 1 = L.rows.length := by omega
    unfold needsP readsAt
    rw [e2, needs_last, if_pos e, List.take_length, List.map_map]
    rfl
  · rw [needs_at (by omega)]
    unfold needsP readsAt needD rowAt
    rw [if_neg e, List.map_map]
    rfl
theorem needs_len {L : LogM} {rd : Int} (nn : L.names.length ≤ 12) (rok : ∀ r ∈ L.rows, r.1.length ≤ 12) : (needsP L rd).length ≤ 12 := by
  unfold needsP readsAt
  rw [List.length_map]
  by_cases e : rd = (L.rows.length : Int) + 1
  · rw [if_pos e]
    exact nn
  · rw [if_neg e]
    unfold rowAt
    cases hr : L.rows[rd.toNat - 1]? with
    | none => exact Nat.zero_le _
    | some r => exact rok r (List.mem_of_getElem? hr)
theorem insW_len {W : List Int} {s : Int} : (insW W s).length ≤ W.length + 1 := by
  unfold insW
  by_cases h : s ∈ W
  · rw [if_pos h]
    omega
  · rw [if_neg h, List.length_append]
    exact Nat.le_refl _
theorem urL_snoc (L : LogM) (ks rs : List Int) (rd : Int) : urL L ks (rs ++ [rd]) = urR L ks (urL L ks rs) rd := by
  unfold urL
  rw [List.foldl_append]
  rfl
theorem dpint {H : Hp} {p : Addr} {W : List Int} {s : Int} (h : H p = some (.dK (wtD W))) (l : W.length ≤ 10000000) : DPut H p (.int s) (.bl true) (upd H p (.dK (wtD (insW W s)))) := by
  have := DPut.k (k := Sum.inl s) (v := V.bl true) h (by unfold wtD; rw [List.length_map]; exact sz_lt l)
  rw [wtD_put] at this
  exact this
theorem dgint {H : Hp} {p : Addr} {W : List Int} {s : Int} (h : H p = some (.dK (wtD W))) : DGet H p (.int s) (if s ∈ W then some (.bl true) else none) := by
  have := DGet.k (k := Sum.inl s) h
  rw [wtD_get] at this
  exact this
end Lr
namespace Lr
open PySem PySem.Spec PyProof.Rows L2
theorem pv_at {H : Hp} {n : Str} {i : Int} {v : V} (r : Rep H (pvD (n, i)) v) : ∃ a, v = .ref a ∧ H a = some (.tup [.str n, .int i]) := by
  cases r with
  | tup h rs =>
    cases rs with
    | cons a rs =>
      cases a
      cases rs with
      | cons b rs =>
        cases b
        cases rs
        exact ⟨_, rfl, h⟩
end Lr
namespace Lr
open PySem PySem.Spec PyProof.Rows L2
/-- a box as a dict -/
def bxD (B : Bx) : List (Key × V) := B.map fun q => (Sum.inr q.1, .int q.2)
theorem bxD_get {n : Str} : ∀ B : Bx, valV (bxD B) (Sum.inr n : Key) = (lkB B n).map V.int
  | [] => rfl
  | (a, u) :: r => by
    have ih := bxD_get (n := n) r
    show valV ((Sum.inr a, V.int u) :: bxD r) (Sum.inr n : Key) = (if a = n then some u else lkB r n).map V.int
    by_cases e : a = n
    · subst e
      rw [valV_pos rfl, if_pos rfl]
      rfl
    · rw [valV_neg (fun z => e (Sum.inr.inj z)), ih, if_neg e]
theorem bxD_put {n : Str} {v : Int} (B : Bx) : putK (bxD B) (Sum.inr n : Key) (.int v) = bxD (putB B n v) := by
  unfold putK putB
  have key : (bxD B).any (fun kv => decide (kv.1 = (Sum.inr n : Key))) = decide (n ∈ B.map Prod.fst) := by
    unfold bxD
    rw [List.any_map]
    by_cases h : n ∈ B.map Prod.fst
    · rw [decide_eq_true h]
      obtain ⟨q, hq, e⟩ := List.mem_map.mp h
      exact List.any_eq_true.mpr ⟨q, hq, by simp [e]⟩
    · rw [decide_eq_false h]
      refine List.any_eq_false.mpr fun q hq => ?_
      have : q.1 ≠ n := fun e => h (List.mem_map.mpr ⟨q, hq, e⟩)
      simpa using this
  by_cases h : n ∈ B.map Prod.fst
  · rw [if_pos (by rw [key]; exact decide_eq_true h), if_pos h]
    unfold bxD
    rw [List.map_map, List.map_map]
    refine List.map_congr_left fun q _ => ?_
    show (if (Sum.inr q.1 : Key) = Sum.inr n then ((Sum.inr q.1 : Key), V.int v) else (Sum.inr q.1, V.int q.2)) = (Sum.inr (if q.1 = n then (n, v) else q).1, V.int (if q.1 = n then (n, v) else q).2)
    by_cases e : q.1 = n
    · rw [if_pos e, if_pos (by rw [e]), e]
    · rw [if_neg e, if_neg (fun z => e (Sum.inr.inj z))]
  · rw [if_neg (by rw [key]; simpa using h), if_neg h]
    unfold bxD
    rw [List.map_append]
    rfl
theorem putB_len {B : Bx} {n : Str} {v : Int} : (putB B n v).length ≤ B.length + 1 := by
  unfold putB
  by_cases h : n ∈ B.map Prod.fst
  · rw [if_pos h, List.length_map]
    omega
  · rw [if_neg h, List.length_append]
    exact Nat.le_refl _
theorem dpbx {H : Hp} {p : Addr} {B : Bx} {n : Str} {v : Int} (h : H p = some (.dK (bxD B))) (l : B.length ≤ 10000000) : DPut H p (.str n) (.int v) (upd H p (.dK (bxD (putB B n v)))) := by
  have := DPut.k (k := Sum.inr n) (v := V.int v) h (by unfold bxD; rw [List.length_map]; exact sz_lt l)
  rw [bxD_put] at this
  exact this
theorem dgbx {H : Hp} {p : Addr} {B : Bx} {n : Str} (h : H p = some (.dK (bxD B))) : DGet H p (.str n) ((lkB B n).map V.int) := by
  have := DGet.k (k := Sum.inr n) h
  rw [bxD_get] at this
  exact this
/-- box_of(log, numbers) of right things -/
def spBoxOf (Cl : Addr) : Sp := fun vs H Q _ => ∃ (G : Hp) (C : List Cell) (x : Addr) (L : LogM) (dn : PyData) (vn : V) (ks : List Int), vs = [.ref x, vn] ∧ WF G C H ∧ LogAt Cl G x L ∧ RepC G C dn vn ∧
  (∀ ds, itemsD dn = some ds → ds.length ≤ 100000) ∧ numsD dn L.rows.length = some ks ∧
  (boxL L ks = none → ∀ (G' H' : Hp), Same G G' → WF G' C H' → Q .non H') ∧
  (∀ B, boxL L ks = some B → ∀ (G' H' : Hp) (p : Addr), Same G G' → WF G' ((p, .dK (bxD (ordB L.names B))) :: C) H' → Q (.ref p) H')
end Lr
namespace Lr
open PySem PySem.Spec PyProof.Rows L2
theorem us_len {L : LogM} {ks : List Int} (h12 : ∀ rd, (needsP L rd).length ≤ 12) : ∀ (rs : List Int) (W : List Int) (ts : List (Int × List Src)), (∀ t ∈ ts, t.2.length ≤ 12) →
    (∀ t ∈ (rs.foldl (urR L ks) (W, ts)).2, t.2.length ≤ 12) ∧ (rs.foldl (urR L ks) (W, ts)).2.length ≤ ts.length + rs.length
  | [], W, ts, h => ⟨h, Nat.le_refl _⟩
  | rd :: r, W, ts, h => by
    have hl : ∀ (qs : List (Str × Int)) (W : List Int) (ss : List Src), (qs.foldl (urP L ks rd) (W, ss)).2.length = ss.length + qs.length := fun qs => by
      induction qs with
      | nil => exact fun _ _ => rfl
      | cons q r ih =>
        intro W ss
        rw [List.foldl_cons]
        show (r.foldl (urP L ks rd) (_, ss ++ [_])).2.length = _
        rw [ih, List.length_append, List.length_cons]
        simp
        omega
    rw [List.foldl_cons]
    by_cases hw : rd ∈ W
    · rw [urR_in hw]
      obtain ⟨a, b⟩ := us_len h12 r ((needsP L rd).foldl (urP L ks rd) (W, [])).1 (ts ++ [(rd, ((needsP L rd).foldl (urP L ks rd) (W, [])).2)]) (fun t ht => by
        rcases List.mem_append.mp ht with ht | ht
        · exact h t ht
        · rw [List.mem_singleton.mp ht]
          show ((needsP L rd).foldl (urP L ks rd) (W, [])).2.length ≤ 12
          rw [hl]
          have := h12 rd
          simp
          omega)
      refine ⟨a, ?_⟩
      rw [List.length_append] at b
      simp at b
      rw [List.length_cons]
      omega
    · rw [urR_out hw]
      obtain ⟨a, b⟩ := us_len h12 r W ts h
      refine ⟨a, ?_⟩
      rw [List.length_cons]
      omega
theorem useful_len {L : LogM} {ks : List Int} (h12 : ∀ rd, (needsP L rd).length ≤ 12) : (∀ t ∈ usefulL L ks, t.2.length ≤ 12) ∧ (usefulL L ks).length ≤ 1 + ks.length := by
  obtain ⟨a, b⟩ := us_len (ks := ks) h12 (((L.rows.length : Int) + 1) :: ks.reverse) [(L.rows.length : Int) + 1] [] (fun t ht => by cases ht)
  refine ⟨a, ?_⟩
  unfold usefulL urL
  refine Nat.le_trans b ?_
  rw [List.length_cons, List.length_reverse, List.length_nil]
  omega
theorem boxF_none (ss : List Src) : ss.foldl boxP none = none := by
  induction ss with
  | nil => rfl
  | cons q r ih => exact ih
theorem boxT_none : ∀ (ts : List (Int × List Src)), ts.foldl boxR none = none
  | [] => rfl
  | t :: r => by
    rw [List.foldl_cons]
    show r.foldl boxR (t.2.foldl boxP none) = none
    rw [boxF_none]
    exact boxT_none r
/-- once none, none at the end -/
theorem boxL_none {L : LogM} {ks : List Int} {i j : Nat} {t : Int × List Src} {q : Src} (hi : (usefulL L ks)[i]? = some t) (hj : t.2[j]? = some q) (h : boxP ((t.2.take j).foldl boxP (boxT ((usefulL L ks).take i))) q = none) : boxL L ks = none := by
  have e1 : usefulL L ks = (usefulL L ks).take i ++ t :: (usefulL L ks).drop (i + 1) := by
    have hl := (List.getElem?_eq_some_iff.mp hi)
    obtain ⟨hl, he⟩ := hl
    rw [← he, List.getElem_cons_drop, List.take_append_drop]
  have e2 : t.2 = t.2.take j ++ q :: t.2.drop (j + 1) := by
    obtain ⟨hl, he⟩ := List.getElem?_eq_some_iff.mp hj
    rw [← he, List.getElem_cons_drop, List.take_append_drop]
  unfold boxL
  rw [e1]
  unfold boxT
  rw [List.foldl_append, List.foldl_cons]
  have : boxR (((usefulL L ks).take i).foldl boxR (some [])) t = none := by
    unfold boxR
    rw [e2, List.foldl_append, List.foldl_cons]
    show (t.2.drop (j + 1)).foldl boxP (boxP ((t.2.take j).foldl boxP (boxT ((usefulL L ks).take i))) q) = none
    rw [h]
    exact boxF_none _
  rw [this]
  exact boxT_none _
theorem src_at {H : Hp} {q : Src} {v : V} (r : Rep H (srcD q) v) : ∃ a, v = .ref a ∧ H a = some (.tup [.str q.1, .int q.2.1, .int q.2.2]) := by
  cases r with
  | tup h rs =>
    cases rs with
    | cons a rs =>
      cases a
      cases rs with
      | cons b rs =>
        cases b
        cases rs with
        | cons c rs =>
          cases c
          cases rs
          exact ⟨_, rfl, h⟩
theorem tol_at {H : Hp} {t : Int × List Src} {v : V} (r : Rep H (tolD t) v) : ∃ a b ss, v = .ref a ∧ H a = some (.tup [.int t.1, .ref b]) ∧ H b = some (.lst ss) ∧ Reps H (t.2.map srcD) ss := by
  cases r with
  | tup h rs =>
    cases rs with
    | cons a rs =>
      cases a
      cases rs with
      | cons b rs =>
        cases b with
        | lst hb rb =>
          cases rs
          exact ⟨_, _, _, rfl, h, hb, rb⟩
theorem gc3 {i j k : Nat} {x y z : V} {σ : L2.St} {H : Hp} {Q : L2.St → Hp → Prop} (h : Q (((σ.set i (some x)).set j (some y)).set k (some z)) H) : gCons (gName i) (gCons (gName j) (gCons (gName k) gNil)) [x, y, z] σ H Q := ⟨_, _, rfl, _, _, rfl, _, _, rfl, rfl, h⟩
theorem ordB_more {ns : List Str} {B : Bx} {n : Str} : ordB (ns ++ [n]) B = ordB ns B ++ ((lkB B n).map fun v => (n, v)).toList := by
  unfold ordB
  rw [List.filterMap_append]
  congr 1
theorem ordB_keys {ns : List Str} {B : Bx} {n : Str} (h : n ∉ ns) : n ∉ (ordB ns B).map Prod.fst := fun z => by
  obtain ⟨q, hq, e⟩ := List.mem_map.mp z
  unfold ordB at hq
  obtain ⟨m, hm, hq⟩ := List.mem_filterMap.mp hq
  obtain ⟨v, _, rfl⟩ := Option.map_eq_some_iff.mp hq
  exact h (e ▸ hm)
theorem ordB_len {ns : List Str} {B : Bx} : (ordB ns B).length ≤ ns.length := List.length_filterMap_le _ _
theorem getD_box {o : Option Int} {v : Int} : (o.map V.int).getD (.int v) = .int (o.getD v) := by cases o <;> rfl
end Lr

/-! # Dicts of pages made by laws -/
namespace Lr
open PySem PySem.Spec PyProof.Rows L2
theorem put_new {kvs : List (Key × V)} {k : Key} {v : V} (h : k ∉ kvs.map Prod.fst) : putK kvs k v = kvs ++ [(k, v)] := by
  unfold putK
  rw [if_neg]
  intro z
  obtain ⟨q, hq, e⟩ := List.any_eq_true.mp z
  exact h (List.mem_map.mpr ⟨q, hq, of_decide_eq_true e⟩)
theorem merge_new : ∀ (kvs acc : List (Key × V)), (kvs.map Prod.fst).Nodup → (∀ q ∈ kvs, q.1 ∉ acc.map Prod.fst) → mergeK acc kvs = acc ++ kvs
  | [], acc, _, _ => (List.append_nil _).symm
  | q :: r, acc, nd, h => by
    have nd' := List.nodup_cons.mp (show (q.1 :: r.map Prod.fst).Nodup from nd)
    have h1 := put_new (v := q.2) (h q List.mem_cons_self)
    show mergeK (putK acc q.1 q.2) r = _
    rw [h1, merge_new r _ nd'.2 (fun p hp z => by
      rw [List.map_append] at z
      rcases List.mem_append.mp z with z | z
      · exact h p (List.mem_cons_of_mem _ hp) z
      · have e : p.1 = q.1 := by simpa using z
        exact nd'.1 (e ▸ List.mem_map.mpr ⟨p, hp, rfl⟩)), List.append_assoc]
    rfl
theorem nodup_inr {ns : List Str} (nd : ns.Nodup) (g : Str → V) : ((ns.map fun n => ((Sum.inr n : Key), g n)).map Prod.fst).Nodup := by
  rw [List.map_map]
  induction ns with
  | nil => exact List.nodup_nil
  | cons n r ih =>
    have nd' := List.nodup_cons.mp nd
    rw [List.map_cons]
    refine List.nodup_cons.mpr ⟨fun z => ?_, ih nd'.2⟩
    obtain ⟨m, hm, e⟩ := List.mem_map.mp z
    exact nd'.1 ((Sum.inr.inj e) ▸ hm)
/-- dict([(page, e) for page in ..]) -/
theorem dict_lc {K : PySem.W.Frag} {a : Addr} {kd : Bool} {ns : List Str} {tl tx : TE} {i : Nat} {σ : L2.St} {G H : Hp} {C : List Cell} {Q : VK} (W : WF G C H) (nd : ns.Nodup) (ln : ns.length ≤ 1000) (g : Str → V)
    (htl : ∀ R : VK, R (.ref a) H → tl σ H R) (hk : ∀ (C' : List Cell) (G' H' : Hp), Same G G' → WF G' (C' ++ C) H' → SqK kd K H' a (ns.map V.str))
    (hw : ∀ x, wipe ((wipe σ [i]).set i (some x)) [i] = wipe σ [i]) (hv : ∀ x, ((wipe σ [i]).set i (some x))[i]? = some (some x))
    (hx : ∀ n ∈ ns, ∀ (C' : List Cell) (G' H' : Hp) (R : VK), Same G G' → WF G' (C' ++ C) H' → R (g n) H' → tx ((wipe σ [i]).set i (some (.str n))) H' R)
    (k : ∀ G' H' p, Same G G' → WF G' ((p, .dK (ns.map fun n => (Sum.inr n, g n))) :: C) H' → Q (.ref p) H') :
    tCB (fun xs H Q => ∃ (a : Addr) (ps : List Addr) (kvs : List (Key × V)), xs = [.ref a] ∧ SqL K H a (ps.map V.ref) ∧ Paired (fun p kv => SqT K H p [kV kv.1, kv.2]) ps kvs ∧ ∀ p, H p = none → Q (.ref p) (upd H p (.dK (mergeK [] kvs))))
      (tCons (tLc (iSeq K tl) (gName i) tYes (tTup (tCons (tVar i) (tCons tx tNil))) [i]) tNil) σ H Q := by
  refine tcb1 ?_
  refine lc_seq (xs := ns.map V.str) (k := kd) htl (hk [] G H (Same.refl _) W) fun D nD => ⟨fun j H2 => ∃ (G2 : Hp) (ts : List Addr), Same G G2 ∧ WF G2 ((D, .lst (ts.map V.ref)) :: C) H2 ∧ Paired (fun t n => G2 t = some (.tup [.str n, g n])) ts (ns.take j), ⟨G, [], Same.refl _, W.new nD, .nil⟩, fun j H2 _ ⟨G2, ts, s2, w2, _⟩ => hk [_] G2 H2 s2 w2, ?_, ?_⟩
  · rintro j v H2 hv2 ⟨G2, ts, s2, w2, pr⟩
    obtain ⟨n, hn, rfl⟩ := map_get hv2
    have lt := pr.length
    rw [List.length_take] at lt
    refine ⟨hw _, ?_⟩
    refine ⟨_, hv _, hx n (List.mem_of_getElem? hn) [_] G2 H2 _ s2 w2 ⟨by show 2 ≤ sizeLine; decide, fun t nt => ?_⟩⟩
    have w3 := w2.newG (o := .tup [.str n, g n]) nt
    have s3 := w2.leG (o := .tup [.str n, g n]) nt
    refine ⟨_, w3.hd, sz_lt (by rw [List.length_map]; omega), _, ts ++ [t], s2.trans s3, ?_, ?_⟩
    · rw [List.map_append]
      exact w3.set
    · rw [take_more hn]
      exact (Paired.mono (fun b m e => s3 _ _ e) pr).snoc upd_same
  · rintro H2 ⟨G2, ts, s2, w2, pr⟩
    rw [List.length_map, List.take_length] at pr
    have pm : ∀ {l1 : List Addr} {l2 : List Str}, Paired (fun t n => G2 t = some (.tup [.str n, g n])) l1 l2 → Paired (fun p kv => SqT K H2 p [kV kv.1, kv.2]) l1 (l2.map fun n => ((Sum.inr n : Key), g n)) := by
      intro l1 l2 h
      induction h with
      | nil => exact .nil
      | cons h t ih => exact .cons (SqT.of (w2.getG h)) ih
    refine ⟨D, ts, _, rfl, SqL.of w2.hd, pm pr, fun p np => ?_⟩
    rw [merge_new _ _ (nodup_inr nd g) (fun q hq z => by cases z), List.nil_append]
    exact k G2 _ p s2 (w2.drop.new np)
/-! ### promises -/
/-- _law_versions(log): of each page the list of its versions -/
structure VerAt (G : Hp) (p : Addr) (L : LogM) : Prop where
  ex : ∃ f : Str → Addr, G p = some (.dK (L.names.map fun n => (Sum.inr n, V.ref (f n)))) ∧ ∀ n ∈ L.names, G (f n) = some (.lst ((0 :: wr L.rows n).map V.int))
theorem VerAt.mono {G G' : Hp} {p : Addr} {L : LogM} (h : VerAt G p L) (s : Same G G') : VerAt G' p L := by
  obtain ⟨f, h1, h2⟩ := h.ex
  exact ⟨⟨f, s _ _ h1, fun n hn => s _ _ (h2 n hn)⟩⟩
theorem names_get {ns : List Str} {f : Str → V} {n : Str} (h : n ∈ ns) : valV (ns.map fun n => ((Sum.inr n : Key), f n)) (Sum.inr n : Key) = some (f n) := by
  induction ns with
  | nil => cases h
  | cons m r ih =>
    rw [List.map_cons]
    by_cases e : m = n
    · subst e
      exact valV_pos rfl
    · have ne : ¬ (Sum.inr m : Key) = Sum.inr n := fun z => e (Sum.inr.inj z)
      rw [valV_neg ne]
      exact ih ((List.mem_cons.mp h).resolve_left fun q => e q.symm)
theorem VerAt.get {G : Hp} {p : Addr} {L : LogM} {n : Str} (h : VerAt G p L) (hn : n ∈ L.names) : ∃ q, (∀ H, Same G H → DGet H p (.str n) (some (.ref q))) ∧ G q = some (.lst ((0 :: wr L.rows n).map V.int)) := by
  obtain ⟨f, h1, h2⟩ := h.ex
  refine ⟨f n, fun H s => ?_, h2 n hn⟩
  have := DGet.k (k := Sum.inr n) (s _ _ h1)
  rw [names_get hn] at this
  exact this
def spVersions : Sp := fun vs H Q _ => ∃ (G : Hp) (C : List Cell) (a : Addr) (L : LogM), vs = [.ref a] ∧ WF G C H ∧ LogV G a L ∧ ∀ p G' H', Same G G' → WF G' C H' → VerAt G' p L → Q (.ref p) H'
/-- of a reader the pairs of pages and versions, in a list -/
def lnD (L : LogM) (rd : Nat) : PyData := .list ((needsP L rd).map pvD)
def lnsD (L : LogM) : List PyData := (List.range (L.rows.length + 1)).map fun k => lnD L (k + 1)
/-- _law_needs(log) -/
def spNeeds : Sp := fun vs H Q _ => ∃ (G : Hp) (C : List Cell) (a : Addr) (L : LogM), vs = [.ref a] ∧ WF G C H ∧ LogV G a L ∧ ∀ p G' H' us, Same G G' → WF G' C H' → G' p = some (.lst us) → Reps G' (lnsD L) us → Q (.ref p) H'
end Lr
namespace Lr
open PySem PySem.Spec PyProof.Rows L2
/-- [(page, d[page]) for page in ..] -/
theorem pairs_lc {K : PySem.W.Frag} {a : Addr} {kd : Bool} {ms : List Str} {tl tx : TE} {i : Nat} {σ : L2.St} {G H : Hp} {C : List Cell} {Q : VK} (W : WF G C H) (ln : ms.length ≤ 1000) (f : Str → Option Int)
    (htl : ∀ R : VK, R (.ref a) H → tl σ H R) (hk : ∀ (C' : List Cell) (G' H' : Hp), Same G G' → WF G' (C' ++ C) H' → SqK kd K H' a (ms.map V.str))
    (hw : ∀ x, wipe ((wipe σ [i]).set i (some x)) [i] = wipe σ [i]) (hv : ∀ x, ((wipe σ [i]).set i (some x))[i]? = some (some x))
    (hx : ∀ n ∈ ms, ∀ (C' : List Cell) (G' H' : Hp) (R : VK), Same G G' → WF G' (C' ++ C) H' → R (vD (f n)) H' → tx ((wipe σ [i]).set i (some (.str n))) H' R)
    (k : ∀ G' H' D us, Same G G' → WF G' ((D, .lst us) :: C) H' → Reps G' (ms.map fun n => .tuple [.str n, optD (f n)]) us → Q (.ref D) H') :
    tLc (iSeq K tl) (gName i) tYes (tTup (tCons (tVar i) (tCons tx tNil))) [i] σ H Q := by
  refine lc_seq (xs := ms.map V.str) (k := kd) htl (hk [] G H (Same.refl _) W) fun D nD => ⟨fun j H2 => ∃ (G2 : Hp) (us : List V), Same G G2 ∧ WF G2 ((D, .lst us) :: C) H2 ∧ Reps G2 ((ms.take j).map fun n => .tuple [.str n, optD (f n)]) us, ⟨G, [], Same.refl _, W.new nD, .nil⟩, fun j H2 _ ⟨G2, us, s2, w2, _⟩ => hk [_] G2 H2 s2 w2, ?_, ?_⟩
  · rintro j v H2 hv2 ⟨G2, us, s2, w2, r2⟩
    obtain ⟨n, hn, rfl⟩ := map_get hv2
    have l2 := r2.length
    rw [List.length_map, List.length_take] at l2
    refine ⟨hw _, ?_⟩
    refine ⟨_, hv _, hx n (List.mem_of_getElem? hn) [_] G2 H2 _ s2 w2 ⟨by show 2 ≤ sizeLine; decide, fun t nt => ?_⟩⟩
    have w3 := w2.newG (o := .tup [.str n, vD (f n)]) nt
    have s3 := w2.leG (o := .tup [.str n, vD (f n)]) nt
    refine ⟨_, w3.hd, sz_lt (by omega), _, us ++ [.ref t], s2.trans s3, w3.set, ?_⟩
    rw [take_more hn, List.map_append]
    exact (r2.mono s3).app (.cons (.tup upd_same (.cons (.str n) (.cons (optD_rep _) .nil))) .nil)
  · rintro H2 ⟨G2, us, s2, w2, r2⟩
    rw [List.length_map, List.take_length] at r2
    exact k G2 H2 D us s2 w2 r2
theorem lnD_row {L : LogM} {i : Nat} {r : Lr.Row} (h : L.rows[i]? = some r) : lnD L (i + 1) = .list (r.1.map fun n => .tuple [.str n, optD (some (ver (L.rows.take i) n))]) := by
  have hi := (List.getElem?_eq_some_iff.mp h).1
  unfold lnD needsP readsAt
  rw [if_neg (by omega), List.map_map]
  have e : (((i + 1 : Nat) : Int)).toNat - 1 = i := by omega
  unfold rowAt
  rw [e, h]
  rfl
theorem lnD_end {L : LogM} : lnD L (L.rows.length + 1) = .list (L.names.map fun n => .tuple [.str n, optD (some (ver L.rows n))]) := by
  unfold lnD needsP readsAt
  rw [if_pos (by omega), List.map_map]
  have e : (((L.rows.length + 1 : Nat) : Int)).toNat - 1 = L.rows.length := by omega
  rw [e, List.take_length]
  rfl
theorem dkget {H : Hp} {p : Addr} {ns : List Str} {f : Str → Option Int} {n : Str} (h : H p = some (.dK (dkL ns f))) (hn : n ∈ ns) : DGet H p (.str n) (some (vD (f n))) := by
  have := DGet.k (k := Sum.inr n) h
  rw [dkL_get hn] at this
  exact this
theorem dkput {H : Hp} {p : Addr} {ns : List Str} {f : Str → Option Int} {n : Str} {o : Option Int} (h : H p = some (.dK (dkL ns f))) (hn : n ∈ ns) (l : ns.length ≤ 1000) : DPut H p (.str n) (vD o) (upd H p (.dK (dkL ns fun m => if m = n then o else f m))) := by
  have := DPut.k (k := Sum.inr n) (v := vD o) h (by unfold dkL; rw [List.length_map]; exact sz_lt (by omega))
  rw [dkL_put hn] at this
  exact this
end Lr
namespace Lr
open PySem PySem.Spec PyProof.Rows L2
def foundLD (ns : List Str) (f : Str → Option Int) : PyData := .list (ns.map fun n => .tuple [.str n, optD (f n)])
theorem eqv_lst (a b : List PyData) : PyData.eqv (.list a) (.list b) = PyData.eqv (.tuple a) (.tuple b) := by
  cases a <;> cases b <;> rfl
theorem eqv_foundL (f g : Str → Option Int) (ns : List Str) : PyData.eqv (foundLD ns f) (foundLD ns g) = decide (∀ n ∈ ns, f n = g n) := by
  unfold foundLD
  rw [eqv_lst]
  exact eqv_found f g ns
theorem foundL_shaped {ns : List Str} (nb : ∀ n ∈ ns, nameB n = true) (f : Str → Option Int) : SeqAt.shaped (foundLD ns f) = true := found_shaped nb f
theorem foundL_plain (ns : List Str) (f : Str → Option Int) (l : ns.length ≤ 100000) : Plain (foundLD ns f) := found_plain ns f l
/-- _law_replay(log, needs, disk, numbers) -/
def spReplay : Sp := fun vs H Q _ => ∃ (G : Hp) (C : List Cell) (a nd dk b : Addr) (L : LogM) (nus : List V) (kvs : List (Key × V)) (f : Str → Option Int) (ks : List Int), vs = [.ref a, .ref nd, .ref dk, .ref b] ∧ WF G C H ∧ LogV G a L ∧
  G nd = some (.lst nus) ∧ Reps G (lnsD L) nus ∧ Sees G C dk (.dK kvs) ∧ (∀ n ∈ L.names, valV kvs (Sum.inr n : Key) = some (vD (f n))) ∧ Sees G C b (.lst (ks.map V.int)) ∧ (∀ k ∈ ks, 1 ≤ k ∧ k ≤ L.rows.length) ∧ ks.length ≤ 100000 ∧
  ∀ (G' H' : Hp) (t rw st : Addr) (us : List V), Same G G' → WF G' C H' → G' t = some (.tup [.ref rw, .ref st]) → G' rw = some (.lst us) → Reps G' (walkD L ks f) us → Q (.ref t) H'
/-- _law_ends(log, needs, disk, numbers) -/
def spEnds : Sp := fun vs H Q _ => ∃ (G : Hp) (C : List Cell) (a nd dk b : Addr) (L : LogM) (nus : List V) (kvs : List (Key × V)) (f : Str → Option Int) (ks : List Int), vs = [.ref a, .ref nd, .ref dk, .ref b] ∧ WF G C H ∧ LogV G a L ∧
  G nd = some (.lst nus) ∧ Reps G (lnsD L) nus ∧ Sees G C dk (.dK kvs) ∧ (∀ n ∈ L.names, valV kvs (Sum.inr n : Key) = some (vD (f n))) ∧ Sees G C b (.lst (ks.map V.int)) ∧ (∀ k ∈ ks, 1 ≤ k ∧ k ≤ L.rows.length) ∧ ks.length ≤ 100000 ∧
  ∀ (G' H' : Hp), Same G G' → WF G' C H' → Q (.bl (endsB L ks f)) H'
theorem dgv {H : Hp} {p : Addr} {kvs : List (Key × V)} {n : Str} {v : V} (h : H p = some (.dK kvs)) (e : valV kvs (Sum.inr n : Key) = some v) : DGet H p (.str n) (some v) := by
  have := DGet.k (k := Sum.inr n) h
  rw [e] at this
  exact this
theorem lns_get {L : LogM} {G : Hp} {us : List V} {i : Nat} (r : Reps G (lnsD L) us) (h : i ≤ L.rows.length) : ∃ v, us[i]? = some v ∧ Rep G (lnD L (i + 1)) v := by
  have l := r.length
  unfold lnsD at l
  rw [List.length_map, List.length_range] at l
  obtain ⟨v, hv⟩ : ∃ v, us[i]? = some v := ⟨_, List.getElem?_eq_getElem (by omega)⟩
  obtain ⟨d, hd, rd⟩ := r.get hv
  unfold lnsD at hd
  rw [List.getElem?_map, List.getElem?_range (by omega)] at hd
  cases hd
  exact ⟨v, hv, rd⟩
end Lr
namespace Lr
open PySem PySem.Spec PyProof.Rows L2
/-- the pages needed at 0, ascending -/
def zL (L : LogM) : List Str := L.names.filter fun n => decide (n ∈ azL L)
theorem zL_sort {L : LogM} (nd : L.names.Nodup) (srt : L.names.Pairwise leS) (rp : ∀ r ∈ L.rows, ∀ n ∈ r.1, n ∈ L.names) : sortS (azL L) = zL L := by
  obtain ⟨h1, h2⟩ := az_mem rp
  refine (sortS_of ?_ (srt.sublist List.filter_sublist)).symm
  refine (List.perm_ext_iff_of_nodup (nd.sublist List.filter_sublist) h2).mpr fun n => ?_
  rw [List.mem_filter]
  exact ⟨fun h => of_decide_eq_true h.2, fun h => ⟨h1 n h, decide_eq_true h⟩⟩
/-- _law_azero(log, needs) -/
def spAzero : Sp := fun vs H Q _ => ∃ (G : Hp) (C : List Cell) (a nd : Addr) (L : LogM) (nus : List V), vs = [.ref a, .ref nd] ∧ WF G C H ∧ LogV G a L ∧ G nd = some (.lst nus) ∧ Reps G (lnsD L) nus ∧
  ∀ (H' : Hp) (p : Addr), WF G ((p, .lst ((zL L).map V.str)) :: C) H' → Q (.ref p) H'
theorem azL_take {L : LogM} {i : Nat} (h : i ≤ L.rows.length) : (numsAll (L.rows.length + 1)).reverse[i]? = some (((L.rows.length : Int) + 1) + (i : Nat) * (-1)) := by
  rw [List.getElem?_reverse (by unfold numsAll; rw [List.length_map, List.length_range]; omega)]
  unfold numsAll
  rw [List.length_map, List.length_range, List.getElem?_map, List.getElem?_range (by omega)]
  show some ((((L.rows.length + 1 - 1 - i : Nat)) : Int) + 1) = _
  congr 1
  omega
end Lr
namespace Lr
open PySem PySem.Spec PyProof.Rows L2
/-- what may lie on a disk of a page -/
def okV (rows : List Lr.Row) (n : Str) (o : Option Int) : Prop := o = none ∨ ∃ v ∈ 0 :: wr rows n, o = some v
/-- _law_disk(stream, log) -/
def spDisk : Sp := fun vs H Q _ => ∃ (G : Hp) (st cs : Addr) (n : Nat) (C : List Cell) (a : Addr) (L : LogM), vs = [.ref st, .ref a] ∧ LogV G a L ∧ n + 200 < 2 ^ 40 ∧ SW G st cs n C H ∧
  ∀ (f : Str → Option Int) (p : Addr) (G' H' : Hp), (∀ m ∈ L.names, okV L.rows m (f m)) → Same G G' → SW G' st cs (n + 200) ((p, .dK (dkL L.names f)) :: C) H' → Q (.ref p) H'
theorem upto_some {xs : List Int} {m : Int} (h : 0 ≤ m) : ∃ z, ((0 :: xs).filter fun v => decide (v ≤ m)).getLast? = some z ∧ z ∈ 0 :: xs := by
  have hne : ((0 :: xs).filter fun v => decide (v ≤ m)) ≠ [] := by
    rw [List.filter_cons_of_pos (by simpa using h)]
    exact List.cons_ne_nil _ _
  cases e : ((0 :: xs).filter fun v => decide (v ≤ m)).getLast? with
  | none => exact absurd (List.getLast?_eq_none_iff.mp e) hne
  | some z => exact ⟨z, rfl, (List.mem_filter.mp (List.mem_of_getLast? e)).1⟩
theorem SW.upTo {G H : Hp} {st cs q : Addr} {n : Nat} {C : List Cell} {xs : List Int} {m z : Int} {Q : VK} {E : XK} (W : SW G st cs n C H) (hq : G q = some (.lst (xs.map V.int))) (l : xs.length ≤ 100000) (hz : (xs.filter fun v => decide (v ≤ m)).getLast? = some z)
    (k : ∀ H', SW G st cs n C H' → Q (.int z) H') : spUpTo [.ref q, .int m] H Q E := by
  obtain ⟨l', a, b, c, w, h1⟩ := W
  exact ⟨G, _, q, xs, m, z, rfl, w, .inl hq, l, hz, fun H' w' => k H' ⟨l', a, b, c, w', h1⟩⟩
theorem dkL_more {ns : List Str} {f : Str → Option Int} {n : Str} {o : Option Int} {i : Nat} (hn : ns[i]? = some n) (nd : ns.Nodup) : putK (dkL (ns.take i) f) (Sum.inr n : Key) (vD o) = dkL (ns.take (i + 1)) fun m => if m = n then o else f m := by
  have nk : n ∉ ns.take i := fun z => by
    have nd' : (ns.take (i + 1)).Nodup := nd.sublist (List.take_sublist _ _)
    rw [take_more hn] at nd'
    exact (List.nodup_append.mp nd').2.2 n z n (by simp) rfl
  rw [put_new (fun z => by
    unfold dkL at z
    rw [List.map_map] at z
    obtain ⟨m, hm, e⟩ := List.mem_map.mp z
    have e2 : m = n := Sum.inr.inj e
    exact nk (e2 ▸ hm)), take_more hn]
  unfold dkL
  rw [List.map_append]
  congr 1
  · refine List.map_congr_left fun m hm => ?_
    show (Sum.inr m, vD (f m)) = (Sum.inr m, vD (if m = n then o else f m))
    rw [if_neg (fun e : m = n => nk (e ▸ hm))]
  · show _ = [((Sum.inr n : Key), vD (if n = n then o else f n))]
    rw [if_pos rfl]
end Lr

/-! # All records: what the law asks -/
namespace Lr
open PySem PySem.Spec PyProof.Rows L2
theorem numsL_asc : ∀ (ys : List Int) (m : Int) (acc : List Int), (acc ++ ys).Pairwise (· < ·) → (∀ y ∈ ys, 1 ≤ y ∧ y ≤ m) → numsL (ys.map PyData.int) m acc = some (acc ++ ys)
  | [], m, acc, _, _ => by rw [List.append_nil]; rfl
  | y :: r, m, acc, h, hb => by
    have hy := hb y List.mem_cons_self
    have e1 : betB (.int y) 1 m = true := decide_eq_true hy
    have e2 : lastLt acc y = true := by
      unfold lastLt
      cases e : acc.getLast? with
      | none => rfl
      | some l =>
        have hl := List.mem_of_getLast? e
        rw [List.pairwise_append] at h
        exact decide_eq_true (h.2.2 l hl y List.mem_cons_self)
    show (if betB (.int y) 1 m = true ∧ lastLt acc y = true then numsL (r.map PyData.int) m (acc ++ [y]) else none) = _
    rw [if_pos ⟨e1, e2⟩, numsL_asc r m (acc ++ [y]) (by rw [List.append_assoc]; exact h) (fun z hz => hb z (List.mem_cons_of_mem _ hz)), List.append_assoc]
    rfl
theorem Lot.numsL {L : LogM} {ks : List Int} (lo : Lot L ks) : numsD (.list (ks.map PyData.int)) L.rows.length = some ks := numsL_asc ks _ [] (by simpa using lo.asc) lo.bd
theorem Lot.numsT {L : LogM} {ks : List Int} (lo : Lot L ks) : numsD (.tuple (ks.map PyData.int)) L.rows.length = some ks := numsL_asc ks _ [] (by simpa using lo.asc) lo.bd
theorem wr_bd {rows : List Lr.Row} {n : Str} {v : Int} (h : v ∈ wr rows n) : 1 ≤ v ∧ v ≤ rows.length := by
  unfold wr at h
  obtain ⟨j, hj, rfl⟩ := List.mem_map.mp h
  have := List.mem_range.mp (List.mem_filter.mp hj).1
  omega
/-- a disk as a dict of data -/
def esL (ns : List Str) (f : Str → Option Int) : List (PyData × PyData) := ns.map fun n => (.str n, optD (f n))
theorem esL_look {f : Str → Option Int} {n : Str} : ∀ {ns : List Str}, n ∈ ns → lookD (esL ns f) n = some (optD (f n))
  | m :: r, h => by
    show (if m = n then some (optD (f m)) else lookD (esL r f) n) = _
    by_cases e : m = n
    · subst e
      rw [if_pos rfl]
    · rw [if_neg e]
      exact esL_look ((List.mem_cons.mp h).resolve_left fun q => e q.symm)
theorem esL_dk {f : Str → Option Int} {n : Str} {ns : List Str} (h : n ∈ ns) : dkOf (esL ns f) n = f n := by
  unfold dkOf
  rw [esL_look h]
  cases f n <;> rfl
theorem dkL_rep {H : Hp} (f : Str → Option Int) : ∀ ns : List Str, RepK H (esL ns f) (dkL ns f)
  | [] => .nil
  | n :: r => .cons (k := Sum.inr n) (optD_rep (f n)) (dkL_rep f r)
theorem okV_page {L : LogM} {n : Str} {o : Option Int} (h : okV L.rows n o) : pageB L n (some (optD o)) = true := by
  rcases h with rfl | ⟨v, hv, rfl⟩
  · rfl
  · show (decide (0 ≤ v ∧ v ≤ L.rows.length) && (decide (v = 0) || decide (v ∈ wr L.rows n))) = true
    rcases List.mem_cons.mp hv with rfl | hv
    · rw [decide_eq_true (show (0 : Int) ≤ 0 ∧ (0 : Int) ≤ L.rows.length by omega)]
      rfl
    · have := wr_bd hv
      rw [decide_eq_true (show 0 ≤ v ∧ v ≤ (L.rows.length : Int) by omega), decide_eq_true hv]
      simp
theorem esL_fits {L : LogM} {f : Str → Option Int} (h : ∀ m ∈ L.names, okV L.rows m (f m)) : fitsB L (.dict (esL L.names f)) = true := by
  show (decide ((esL L.names f).length = L.names.length) && L.names.all fun n => pageB L n (lookD (esL L.names f) n)) = true
  rw [decide_eq_true (by unfold esL; rw [List.length_map])]
  refine List.all_eq_true.mpr fun n hn => ?_
  rw [esL_look hn]
  exact okV_page (h n hn)
/-- a drawn disk that stands for good -/
def DiskAt (G : Hp) (L : LogM) (p : Addr) (f : Str → Option Int) : Prop := G p = some (.dK (dkL L.names f)) ∧ ∀ m ∈ L.names, okV L.rows m (f m)
theorem DiskAt.mono {G G' : Hp} {L : LogM} {p : Addr} {f : Str → Option Int} (h : DiskAt G L p f) (s : Same G G') : DiskAt G' L p f := ⟨s _ _ h.1, h.2⟩
/-- the pages needed at 0 lie there at 0 -/
theorem ends_zero {L : LogM} {f : Str → Option Int} (rp : ∀ r ∈ L.rows, ∀ n ∈ r.1, n ∈ L.names) : endsB L (numsAll L.rows.length) (dkOf (esL L.names f)) = (zL L).all fun n => decide (f n = some 0) := by
  have hm := (az_mem rp).1
  have h1 := ends_all (L := L) (f := dkOf (esL L.names f))
  have h2 : (∀ n ∈ azL L, dkOf (esL L.names f) n = some 0) ↔ ((zL L).all fun n => decide (f n = some 0)) = true := by
    rw [List.all_eq_true]
    constructor
    · intro h n hn
      obtain ⟨a, b⟩ := List.mem_filter.mp hn
      have := h n (of_decide_eq_true b)
      rw [esL_dk a] at this
      exact decide_eq_true this
    · intro h n hn
      have a := hm n hn
      rw [esL_dk a]
      exact of_decide_eq_true (h n (List.mem_filter.mpr ⟨a, decide_eq_true hn⟩))
  rw [h2] at h1
  cases e1 : endsB L (numsAll L.rows.length) (dkOf (esL L.names f)) with
  | true => exact (h1.mp e1).symm
  | false =>
    cases e2 : (zL L).all fun n => decide (f n = some 0) with
    | false => rfl
    | true =>
      rw [h1.mpr e2] at e1
      cases e1
/-- a dict of pages, each at 0 -/
def zeD (ns : List Str) : List (PyData × PyData) := ns.map fun n => (.str n, .int 0)
theorem zeD_rep {H : Hp} : ∀ ns : List Str, RepK H (zeD ns) (ns.map fun n => (Sum.inr n, V.int 0))
  | [] => .nil
  | n :: r => .cons (k := Sum.inr n) (.int 0) (zeD_rep r)
theorem zeD_eqa : ∀ ns : List Str, EqaK (zeD ns)
  | [] => trivial
  | n :: r => ⟨⟨Sum.inr n, rfl⟩, trivial, zeD_eqa r⟩
theorem zeD_dp : ∀ ns : List Str, dpSK (zeD ns) = 0
  | [] => rfl
  | n :: r => by
    show max 0 (dpSK (zeD r)) = 0
    rw [zeD_dp r]
    rfl
theorem bxD_zB (F : List Str) : bxD (zB F) = F.map fun n => (Sum.inr n, V.int 0) := by
  unfold bxD zB
  rw [List.map_map]
  rfl
theorem ord_all {L : LogM} : ordB L.names (zB (azL L)) = zB (zL L) := ord_zB _ _
theorem rgV_all (N : Nat) : rgV 1 ((N : Int) + 1) = (numsAll N).map V.int := by
  unfold rgV numsAll
  rw [List.map_map, show ((N : Int) + 1 - 1).toNat = N by omega]
  refine List.map_congr_left fun i _ => ?_
  show V.int (1 + (i : Int)) = V.int ((i : Int) + 1)
  rw [Int.add_comm]
/-- the spring through a promise of worlds -/
theorem SW.wrap {G H : Hp} {st cs : Addr} {n : Nat} {C : List Cell} (W : SW G st cs n C H) : ∃ A : List Cell, WF G (A ++ C) H ∧ ∀ (G' H' : Hp) (D : List Cell), WF G' (A ++ D) H' → SW G' st cs n D H' := by
  obtain ⟨l, a, b, c, w, h⟩ := W
  exact ⟨[_, _], w, fun G' H' D w' => ⟨l, a, b, c, w', h⟩⟩
theorem SW.wrap1 {G H : Hp} {st cs : Addr} {n : Nat} {C : List Cell} (W : SW G st cs n C H) : ∃ A : List Cell, WF G (A ++ C) H ∧ ∀ (G' H' : Hp) (D : List Cell) (c : Cell), WF G' (c :: (A ++ D)) H' → SW G' st cs n (c :: D) H' := by
  obtain ⟨l, a, b, c, w, h⟩ := W
  exact ⟨[_, _], w, fun G' H' D x w' => ⟨l, a, b, c, w'.rot, h⟩⟩
/-- _law_ais_all(stream, log) -/
def spAisAll : Sp := fun vs H Q _ => ∃ (G : Hp) (st cs : Addr) (n : Nat) (C : List Cell) (a : Addr) (L : LogM), vs = [.ref st, .ref a] ∧ LogV G a L ∧ n + 4000 < 2 ^ 40 ∧ SW G st cs n C H ∧
  ∀ (G' H' : Hp), Same G G' → SW G' st cs (n + 4000) C H' → Q (.bl true) H'
theorem Reps.intsL {H : Hp} {p : Addr} {ks : List Int} (h : H p = some (.lst (ks.map V.int))) : Rep H (.list (ks.map PyData.int)) (.ref p) := .lst h (Reps.ints H ks)
theorem items_ints {ks : List Int} (l : ks.length ≤ 100000) : (∀ ds, itemsD (.list (ks.map PyData.int)) = some ds → ds.length ≤ 100000) ∧ (∀ ds, itemsD (.tuple (ks.map PyData.int)) = some ds → ds.length ≤ 100000) := by
  constructor <;>
  · intro ds h
    have h' : some (ks.map PyData.int) = some ds := h
    cases h'
    rw [List.length_map]
    exact l
end Lr

/-! # Joined lots: what the law asks -/
namespace Lr
open PySem PySem.Spec PyProof.Rows L2
/-- a comprehension over the keys of a locked dict -/
theorem lc_keys {d : Addr} {o : Obj} {kvs : List (Key × V)} {tl : TE} {g : TG} {tt : TT} {te : TE} {vs : List Nat} {σ : L2.St} {H H1 : Hp} {Q : VK} (htl : ∀ R : VK, R (.ref d) H1 → tl σ H R) (hd : H1 d = some (.frz o (.dK kvs)))
    (go : ∀ D, H1 D = none → ∃ Pv : Nat → Hp → Prop, Pv 0 (upd H1 D (.lst [])) ∧ (∀ i H', i ≤ kvs.length → Pv i H' → H' d = some (.frz o (.dK kvs))) ∧
      (∀ i k v H', kvs[i]? = some (k, v) → Pv i H' → g (kV k) (wipe σ vs) H' fun σ2 H2 => wipe σ2 vs = wipe σ vs ∧ tt σ2 H2 fun b H3 =>
        if b = true then te σ2 H3 fun y H4 => ∃ acc, H4 D = some (.lst acc) ∧ acc.length < sizeLine ∧ Pv (i + 1) (upd H4 D (.lst (acc ++ [y]))) else Pv (i + 1) H3) ∧ ∀ H', Pv kvs.length H' → Q (.ref D) H') :
    tLc (iKeys tl) g tt te vs σ H Q := by
  refine htl _ ⟨d, o, rfl, .inl ⟨kvs, hd, fun D nD => ?_⟩⟩
  obtain ⟨Pv, h0, hl, hs, he⟩ := go D nD
  refine ⟨fun i m H => m = kvs.length - i ∧ i ≤ kvs.length ∧ Pv i H, ⟨kvs.length, rfl, Nat.zero_le _, h0⟩, ?_⟩
  rintro i m H ⟨rfl, hi, p⟩
  have q := hl i H hi p
  by_cases hlt : i < kvs.length
  · refine .inr ⟨⟨q, hlt⟩, Pv (i + 1), fun H' p' => ⟨kvs.length - (i + 1), by omega, rfl, hlt, p'⟩, fun x H' y => ?_⟩
    obtain ⟨rfl, k, v, hk, rfl⟩ := y
    exact hs i k v _ hk p
  · have e : i = kvs.length := by omega
    subst e
    exact .inl ⟨⟨q, Nat.le_refl _⟩, he H p⟩
/-- two numbers, alike or not -/
def spSameI : Sp := fun vs H Q _ => ∃ i j : Int, vs = [.int i, .int j] ∧ ∀ H', Same H H' → Q (.bl (decide (i = j))) H'
/-! ### the written log, row by row -/
def jrow (x y : Str) (i : Nat) : Lr.Row := if i = 2 then ([y], [x]) else ([], [y])
def jN (x y z : Str) (b : Nat → Nat) : Nat → List Lr.Row × List Int
  | 0 => ([], [])
  | i + 1 => jb z (jN x y z b i) (b i) (jrow x y i)
theorem jN_4 (x y z : Str) (b : Nat → Nat) : jN x y z b 4 = jR x y z (b 0) (b 1) (b 2) (b 3) := rfl
theorem jN_ok {x y z : Str} {b : Nat → Nat} (hxz : x ≠ z) (hyz : y ≠ z) : ∀ i, JOk z (jN x y z b i)
  | 0 => JOk.nil z
  | i + 1 => (jN_ok hxz hyz i).jb (b i) (by
      unfold jrow
      by_cases h : i = 2
      · rw [if_pos h]
        simpa using fun e : z = x => hxz e.symm
      · rw [if_neg h]
        simpa using fun e : z = y => hyz e.symm)
theorem jN_rows {x y z : Str} {b : Nat → Nat} : ∀ i, ∀ r ∈ (jN x y z b i).1, r = ([], [y]) ∨ r = ([y], [x]) ∨ r = ([z], [z])
  | 0, r, h => by cases h
  | i + 1, r, h => by
    have h' : r ∈ ((jN x y z b i).1 ++ List.replicate (b i) ([z], [z])) ++ [jrow x y i] := h
    rcases List.mem_append.mp h' with h' | h'
    · rcases List.mem_append.mp h' with h' | h'
      · exact jN_rows i r h'
      · exact .inr (.inr (List.eq_of_mem_replicate h'))
    · rw [List.mem_singleton.mp h']
      unfold jrow
      by_cases h : i = 2
      · rw [if_pos h]
        exact .inr (.inl rfl)
      · rw [if_neg h]
        exact .inl rfl
theorem jN_len {x y z : Str} {b : Nat → Nat} (hb : ∀ i, b i ≤ 3) : ∀ i, (jN x y z b i).1.length ≤ 4 * i ∧ (jN x y z b i).2.length = i
  | 0 => ⟨Nat.le_refl _, rfl⟩
  | i + 1 => by
    obtain ⟨h1, h2⟩ := jN_len hb (x := x) (y := y) (z := z) i
    have := hb i
    constructor
    · show (jb z (jN x y z b i) (b i) (jrow x y i)).1.length ≤ _
      rw [jb_len]
      omega
    · show ((jN x y z b i).2 ++ [_]).length = _
      rw [List.length_append, h2]
      rfl
theorem jN_at (x y z : Str) (b : Nat → Nat) : (jN x y z b 4).2 = [(jA0 (b 0) : Int), (jA1 (b 0) (b 1) : Int), (jA2 (b 0) (b 1) (b 2) : Int), (jA3 (b 0) (b 1) (b 2) (b 3) : Int)] := by
  have l1 : (jN x y z b 1).1.length = b 0 + 1 := by
    show (jb z ([], []) (b 0) _).1.length = _
    rw [jb_len]
    show 0 + b 0 + 1 = _
    omega
  have l2 : (jN x y z b 2).1.length = b 0 + 1 + b 1 + 1 := by
    show (jb z (jN x y z b 1) (b 1) _).1.length = _
    rw [jb_len, l1]
  have l3 : (jN x y z b 3).1.length = b 0 + 1 + b 1 + 1 + b 2 + 1 := by
    show (jb z (jN x y z b 2) (b 2) _).1.length = _
    rw [jb_len, l2]
  show ((([] ++ [((0 + b 0 : Nat) : Int) + 1]) ++ [(((jN x y z b 1).1.length + b 1 : Nat) : Int) + 1]) ++ [(((jN x y z b 2).1.length + b 2 : Nat) : Int) + 1]) ++ [(((jN x y z b 3).1.length + b 3 : Nat) : Int) + 1] = _
  rw [l1, l2, l3]
  unfold jA0 jA1 jA2 jA3
  simp
/-! ### lots and whether they end right -/
def dueD (q : List Int × Bool) : PyData := .tuple [.list (q.1.map .int), .bool q.2]
theorem due_at {H : Hp} {q : List Int × Bool} {v : V} (r : Rep H (dueD q) v) : ∃ a b, v = .ref a ∧ H a = some (.tup [.ref b, .bl q.2]) ∧ H b = some (.lst (q.1.map V.int)) := by
  have aux1 : ∀ {ks : List Int} {vs : List V}, Reps H (ks.map PyData.int) vs → vs = ks.map V.int := by
    intro ks
    induction ks with
    | nil => intro vs h; cases h; rfl
    | cons k r ih =>
      intro vs h
      cases h with
      | cons a t =>
        cases a
        rw [ih t]
        rfl
  cases r with
  | tup h rs =>
    cases rs with
    | cons a rs =>
      cases a with
      | lst hb rb =>
        cases rs with
        | cons c rs =>
          cases c
          cases rs
          rw [aux1 rb] at hb
          exact ⟨_, _, rfl, h, hb⟩
theorem SW.dueG {G H : Hp} {st cs : Addr} {n : Nat} {C : List Cell} {p t : Addr} {ks : List Int} {b : Bool} (W : SW G st cs n C H) (np : H p = none) (nt : (upd H p (.lst (ks.map V.int))) t = none) :
    ∃ G', Same G G' ∧ SW G' st cs n C (upd (upd H p (.lst (ks.map V.int))) t (.tup [.ref p, .bl b])) ∧ Rep G' (dueD (ks, b)) (.ref t) := by
  have w1 := W.newG (o := .lst (ks.map V.int)) np
  have s1 := W.leG (o := .lst (ks.map V.int)) np
  have w2 := w1.newG (o := .tup [.ref p, .bl b]) nt
  have s2 := w1.leG (o := .tup [.ref p, .bl b]) nt
  exact ⟨_, s1.trans s2, w2, .tup upd_same (.cons (.lst (s2 _ _ upd_same) (Reps.ints _ _)) (.cons (.bl b) .nil))⟩
/-! ### the pages of a box -/
theorem us_pages {L : LogM} {ks : List Int} (hp : ∀ rd, ∀ q ∈ needsP L rd, q.1 ∈ L.names) : ∀ (rs : List Int) (W : List Int) (ts : List (Int × List Src)), (∀ t ∈ ts, ∀ q ∈ t.2, q.1 ∈ L.names) → ∀ t ∈ (rs.foldl (urR L ks) (W, ts)).2, ∀ q ∈ t.2, q.1 ∈ L.names
  | [], W, ts, h => h
  | rd :: r, W, ts, h => by
    have hl : ∀ (qs : List (Str × Int)) (W : List Int) (ss : List Src), (∀ q ∈ qs, q.1 ∈ L.names) → (∀ q ∈ ss, q.1 ∈ L.names) → ∀ q ∈ (qs.foldl (urP L ks rd) (W, ss)).2, q.1 ∈ L.names := fun qs => by
      induction qs with
      | nil => exact fun _ _ _ h => h
      | cons q r ih =>
        intro W ss h1 h2
        rw [List.foldl_cons]
        refine ih _ _ (fun p hp => h1 p (List.mem_cons_of_mem _ hp)) fun p hp => ?_
        rcases List.mem_append.mp hp with hp | hp
        · exact h2 p hp
        · rw [List.mem_singleton.mp hp]
          exact h1 q List.mem_cons_self
    rw [List.foldl_cons]
    by_cases hw : rd ∈ W
    · rw [urR_in hw]
      refine us_pages hp r _ _ fun t ht => ?_
      rcases List.mem_append.mp ht with ht | ht
      · exact h t ht
      · rw [List.mem_singleton.mp ht]
        exact hl _ _ _ (hp rd) fun q hq => by cases hq
    · rw [urR_out hw]
      exact us_pages hp r W ts h
theorem needs_pages {L : LogM} (rp : ∀ r ∈ L.rows, ∀ n ∈ r.1, n ∈ L.names) (rd : Int) : ∀ q ∈ needsP L rd, q.1 ∈ L.names := by
  intro q hq
  unfold needsP at hq
  obtain ⟨n, hn, rfl⟩ := List.mem_map.mp hq
  unfold readsAt at hn
  by_cases e : rd = (L.rows.length : Int) + 1
  · rw [if_pos e] at hn
    exact hn
  · rw [if_neg e] at hn
    unfold rowAt at hn
    cases hr : L.rows[rd.toNat - 1]? with
    | none =>
      rw [hr] at hn
      cases hn
    | some r =>
      rw [hr] at hn
      exact rp r (List.mem_of_getElem? hr) n hn
theorem box_pages {L : LogM} {ks : List Int} {B : Bx} (rp : ∀ r ∈ L.rows, ∀ n ∈ r.1, n ∈ L.names) (h : boxL L ks = some B) : ∀ n v, lkB B n = some v → n ∈ L.names := by
  have hu := us_pages (ks := ks) (needs_pages rp) (((L.rows.length : Int) + 1) :: ks.reverse) [(L.rows.length : Int) + 1] [] (fun t ht => by cases ht)
  have stepP : ∀ (b : Option Bx) (q : Src), q.1 ∈ L.names → (∀ B, b = some B → ∀ n v, lkB B n = some v → n ∈ L.names) → ∀ B, boxP b q = some B → ∀ n v, lkB B n = some v → n ∈ L.names := by
    intro b q hq hb B hB n v hv
    cases b with
    | none => cases hB
    | some B0 =>
      have e : (if 0 < q.2.2 ∧ q.2.2 ≠ q.2.1 then none else if q.2.2 = 0 ∧ (lkB B0 q.1).getD q.2.1 ≠ q.2.1 then none else if q.2.2 = 0 then some (putB B0 q.1 q.2.1) else some B0) = some B := hB
      by_cases c1 : 0 < q.2.2 ∧ q.2.2 ≠ q.2.1
      · rw [if_pos c1] at e
        cases e
      · rw [if_neg c1] at e
        by_cases c2 : q.2.2 = 0 ∧ (lkB B0 q.1).getD q.2.1 ≠ q.2.1
        · rw [if_pos c2] at e
          cases e
        · rw [if_neg c2] at e
          by_cases c3 : q.2.2 = 0
          · rw [if_pos c3] at e
            cases e
            rw [lk_put] at hv
            by_cases c4 : q.1 = n
            · exact c4 ▸ hq
            · rw [if_neg c4] at hv
              exact hb B0 rfl n v hv
          · rw [if_neg c3] at e
            cases e
            exact hb _ rfl n v hv
  have foldP : ∀ (ss : List Src) (b : Option Bx), (∀ q ∈ ss, q.1 ∈ L.names) → (∀ B, b = some B → ∀ n v, lkB B n = some v → n ∈ L.names) → ∀ B, ss.foldl boxP b = some B → ∀ n v, lkB B n = some v → n ∈ L.names := by
    intro ss
    induction ss with
    | nil => exact fun b _ hb => hb
    | cons q r ih =>
      intro b hq hb
      rw [List.foldl_cons]
      exact ih _ (fun p hp => hq p (List.mem_cons_of_mem _ hp)) (stepP b q (hq q List.mem_cons_self) hb)
  have foldT : ∀ (ts : List (Int × List Src)) (b : Option Bx), (∀ t ∈ ts, ∀ q ∈ t.2, q.1 ∈ L.names) → (∀ B, b = some B → ∀ n v, lkB B n = some v → n ∈ L.names) → ∀ B, ts.foldl boxR b = some B → ∀ n v, lkB B n = some v → n ∈ L.names := by
    intro ts
    induction ts with
    | nil => exact fun b _ hb => hb
    | cons t r ih =>
      intro b hq hb
      rw [List.foldl_cons]
      exact ih _ (fun p hp => hq p (List.mem_cons_of_mem _ hp)) (foldP t.2 b (hq t List.mem_cons_self) hb)
  exact foldT _ (some []) hu (fun B hB n v hv => by cases hB; cases hv) B h
/-- the law's own look at a box -/
theorem box_all_eq {L : LogM} {ks : List Int} {f : Str → Option Int} (rp : ∀ r ∈ L.rows, ∀ n ∈ r.1, n ∈ L.names) (lo : Lot L ks) : endsB L ks f = (match boxL L ks with | none => false | some B => (ordB L.names B).all fun q => decide (f q.1 = some q.2)) := by
  have h1 := ends_box (f := f) lo
  cases hb : boxL L ks with
  | none =>
    rw [hb] at h1
    cases e : endsB L ks f with
    | false => rfl
    | true =>
      obtain ⟨B, hB, _⟩ := h1.mp e
      cases hB
  | some B =>
    rw [hb] at h1
    have hp := box_pages rp hb
    have h2 : Match f B ↔ ((ordB L.names B).all fun q => decide (f q.1 = some q.2)) = true := by
      rw [List.all_eq_true]
      constructor
      · intro h q hq
        unfold ordB at hq
        obtain ⟨m, hm, hq⟩ := List.mem_filterMap.mp hq
        obtain ⟨v, hv, rfl⟩ := Option.map_eq_some_iff.mp hq
        exact decide_eq_true (h m v hv)
      · intro h n v hv
        have := h (n, v) (by
          unfold ordB
          exact List.mem_filterMap.mpr ⟨n, hp n v hv, by rw [hv]; rfl⟩)
        exact of_decide_eq_true this
    show endsB L ks f = (ordB L.names B).all fun q => decide (f q.1 = some q.2)
    cases e1 : endsB L ks f with
    | true =>
      obtain ⟨B', hB', hM⟩ := h1.mp e1
      cases hB'
      exact (h2.mp hM).symm
    | false =>
      cases e2 : (ordB L.names B).all fun q => decide (f q.1 = some q.2) with
      | false => rfl
      | true =>
        rw [h1.mpr ⟨B, rfl, h2.mpr e2⟩] at e1
        cases e1
/-- a disk over the same pages in another order -/
theorem esL_fits2 {L : LogM} {ms : List Str} {f : Str → Option Int} (hl : ms.length = L.names.length) (hm : ∀ n ∈ L.names, n ∈ ms) (h : ∀ m ∈ L.names, okV L.rows m (f m)) : fitsB L (.dict (esL ms f)) = true := by
  show (decide ((esL ms f).length = L.names.length) && L.names.all fun n => pageB L n (lookD (esL ms f) n)) = true
  rw [decide_eq_true (by unfold esL; rw [List.length_map, hl])]
  refine List.all_eq_true.mpr fun n hn => ?_
  rw [esL_look (hm n hn)]
  exact okV_page (h n hn)
theorem RowOk.one {ns : List Str} (nd : ns.Nodup) (srt : ns.Pairwise leS) {a : List Str} {b : Str} (ha : a = [] ∨ ∃ c ∈ ns, a = [c]) (hb : b ∈ ns) : RowOk ns (a, [b]) := by
  refine RowOk.sub ?_ (List.singleton_sublist.mpr hb) (by simp) nd srt
  rcases ha with rfl | ⟨c, hc, rfl⟩
  · exact List.nil_sublist _
  · exact List.singleton_sublist.mpr hc
theorem ver_okV {rows : List Lr.Row} {n : Str} : okV rows n (some (ver rows n)) := by
  refine .inr ⟨_, ?_, rfl⟩
  unfold ver
  cases e : (wr rows n).getLast? with
  | none => exact List.mem_cons_self
  | some z => exact List.mem_cons_of_mem _ (List.mem_of_getLast? e)
theorem three {α : Type} {l : List α} (h : l.length = 3) : ∃ x y z, l = [x, y, z] := by
  match l, h with
  | [x, y, z], _ => exact ⟨x, y, z, rfl⟩
/-- _law_ais_joined(stream) -/
def spJoined : Sp := fun vs H Q _ => ∃ (G : Hp) (st cs : Addr) (n : Nat) (C : List Cell), vs = [.ref st] ∧ n + 4000 < 2 ^ 40 ∧ SW G st cs n C H ∧
  ∀ (G' H' : Hp), Same G G' → SW G' st cs (n + 4000) C H' → Q (.bl true) H'
end Lr
namespace Lr
open PySem PySem.Spec PyProof.Rows L2
theorem eqv_ints_nil (l : List Int) : PyData.eqv (.list (l.map PyData.int)) (.list []) = decide (l = []) := by
  cases l <;> rfl
/-- the disk of the written lots -/
def jDk (x y : Str) (a b c : Int) : Str → Option Int := fun m => if m = x then some a else if m = y then some b else some c
theorem jDk_dict {x y z : Str} {a b c : Int} (hxy : x ≠ y) (hxz : x ≠ z) (hyz : y ≠ z) : mergeK [] [((Sum.inr x : Key), V.int a), (Sum.inr y, V.int b), (Sum.inr z, V.int c)] = dkL [x, y, z] (jDk x y a b c) := by
  have yx : y ≠ x := fun e => hxy e.symm
  have zx : z ≠ x := fun e => hxz e.symm
  have zy : z ≠ y := fun e => hyz e.symm
  rw [merge_new _ _ (by simp [hxy, hxz, hyz]) (fun q hq h => by cases h), List.nil_append]
  unfold dkL jDk
  simp [yx, zx, zy, vD]
theorem numsAll_len (N : Nat) : (numsAll N).length = N := by
  unfold numsAll
  rw [List.length_map, List.length_range]
end Lr
namespace Lr
open PySem PySem.Spec PyProof.Rows L2
/-- xs[-1] if xs != [] else 0 -/
theorem last_or0 {K : PySem.W.Frag} {i : Nat} {σ : L2.St} {H : Hp} {a : Addr} {xs : List Int} {Q : VK} (hv : σ[i]? = some (some (.ref a))) (ha : H a = some (.lst (xs.map V.int))) (k : ∀ H', Same H H' → Q (.int (xs.getLast?.getD 0)) H') :
    tIf (tTest (tOp (rNeA K) (tVar i) (tLst tNil))) (tOp (rIx K) (tVar i) (tUn (rU fun i => V.int (-i)) (tC (V.int 1)))) (tC (V.int 0)) σ H Q := by
  refine ⟨_, hv, ⟨Nat.zero_le _, fun e ne => rNeA.dat (.lst (SqL.of (same_new ne _ _ ha)) (dpInts _ _ xs)) (.lst (SqL.of upd_same) .nil) (shInts xs) rfl ⟨_, rfl, ?_⟩⟩⟩
  rw [eqv_ints_nil]
  refine ite2 (fun h => ?_) (fun h => ?_)
  · have h' : xs ≠ [] := by simpa using h
    obtain ⟨z, hz⟩ : ∃ z, xs.getLast? = some z := by
      cases e : xs.getLast? with
      | none => exact absurd (List.getLast?_eq_none_iff.mp e) h'
      | some z => exact ⟨z, rfl⟩
    refine ⟨_, hv, 1, rfl, rIx.lst (same_new ne _ _ ha) (last_atI (v := .int z) (by rw [List.getLast?_map, hz]; rfl)) ?_⟩
    rw [hz] at k
    exact k _ (same_new ne)
  · have h' : xs = [] := by simpa using h
    rw [h'] at k
    exact k _ (same_new ne)
end Lr
namespace Lr
open PySem PySem.Spec PyProof.Rows L2
/-- the numbers of the written rows, by place -/
def aAt (a0 a1 a2 a3 : Int) (k : Int) : Int := if k = 0 then a0 else if k = 1 then a1 else if k = 2 then a2 else a3
def lots5 : List (List Int × Bool) := [([0, 3], true), ([2, 3], true), ([0, 2, 3], false), ([0, 1, 2, 3], true), ([1, 2, 3], true)]
def lots6 : List (List Int) := [[3], [0, 1, 3], [0, 2], [1], []]
theorem jLots_5 {a0 a1 a2 a3 : Int} : (jLots a0 a1 a2 a3).take 5 = lots5.map fun q => (q.1.map (aAt a0 a1 a2 a3), q.2) := by simp [jLots, lots5, aAt]
theorem jLots_6 {a0 a1 a2 a3 : Int} : (jLots a0 a1 a2 a3).drop 5 = lots6.map fun q => (q.map (aAt a0 a1 a2 a3), decide ((3 : Int) ∈ q)) := by simp [jLots, lots6, aAt]
theorem lots5_in : ∀ q ∈ lots5, (∀ k ∈ q.1, k = 0 ∨ k = 1 ∨ k = 2 ∨ k = 3) ∧ q.1.length ≤ 4 := by decide
theorem lots6_in : ∀ q ∈ lots6, (∀ k ∈ q, k = 0 ∨ k = 1 ∨ k = 2 ∨ k = 3) ∧ q.length ≤ 4 := by decide
theorem aAt_ix {a0 a1 a2 a3 k : Int} (h : k = 0 ∨ k = 1 ∨ k = 2 ∨ k = 3) : atI ([a0, a1, a2, a3].map V.int) k = some (.int (aAt a0 a1 a2 a3 k)) := by
  rcases h with rfl | rfl | rfl | rfl
  · exact atI_nat (j := 0) rfl
  · exact atI_nat (j := 1) rfl
  · exact atI_nat (j := 2) rfl
  · exact atI_nat (j := 3) rfl
theorem pw_int {a b : List Int} (h : a.Perm b) (ha : a.Pairwise (· ≤ ·)) (hb : b.Pairwise (· < ·)) : a = b :=
  h.eq_of_pairwise (fun _ _ _ _ h1 h2 => Int.le_antisymm h1 h2) ha (hb.imp fun h => Int.le_of_lt h)
/-- sorted([at[k] for k in lot]) -/
theorem sort_lot {K : PySem.W.Frag} {D ac : Addr} {i j : Nat} {ks : List Int} {σ : L2.St} {G H : Hp} {C : List Cell} {a0 a1 a2 a3 : Int} {Q : VK} (W : WF G C H) (hl : G D = some (.lst (ks.map V.int))) (ha : G ac = some (.lst ([a0, a1, a2, a3].map V.int)))
    (hk : ∀ k ∈ ks, k = 0 ∨ k = 1 ∨ k = 2 ∨ k = 3) (l4 : ks.length ≤ 4) (asc : (ks.map (aAt a0 a1 a2 a3)).Pairwise (· < ·)) {tl : TE} (htl : ∀ R : VK, R (.ref D) H → tl σ H R)
    (hw : ∀ x, wipe ((wipe σ [i]).set i (some x)) [i] = wipe σ [i]) (hv : ∀ x, ((wipe σ [i]).set i (some x))[i]? = some (some x)) (hx : ∀ x, ((wipe σ [i]).set i (some x))[j]? = some (some (.ref ac)))
    (k : ∀ G' H' p, Same G G' → WF G' ((p, .lst ((ks.map (aAt a0 a1 a2 a3)).map V.int)) :: C) H' → Q (.ref p) H') :
    tCB (rSorted K) (tCons (tLc (iSeq K tl) (gName i) tYes (tOp (rIx K) (tVar j) (tVar i)) [i]) tNil) σ H Q := by
  refine tcb1 ?_
  refine lc_seq (xs := ks.map V.int) (k := true) htl (SqK.lst (W.getG hl)) fun E nE => ⟨fun t H2 => WF G ((E, .lst (((ks.take t).map (aAt a0 a1 a2 a3)).map V.int)) :: C) H2, W.new nE, fun t H2 _ w2 => SqK.lst (w2.getG hl), ?_, ?_⟩
  · rintro t v H2 hv2 w2
    obtain ⟨z, hz, rfl⟩ := map_get hv2
    have ht := (List.getElem?_eq_some_iff.mp hz).1
    refine ⟨hw _, ?_⟩
    refine ⟨_, hx _, _, hv _, rIx.lst (w2.getG ha) (aAt_ix (hk z (List.mem_of_getElem? hz))) ⟨_, w2.hd, sz_lt (by rw [List.length_map, List.length_map, List.length_take]; omega), ?_⟩⟩
    show WF G ((E, .lst (((ks.take (t + 1)).map (aAt a0 a1 a2 a3)).map V.int)) :: C) _
    rw [take_more hz, List.map_append, List.map_append]
    exact w2.set
  · rintro H2 w2
    rw [List.length_map, List.take_length] at w2
    refine ⟨E, ks.map (aAt a0 a1 a2 a3), rfl, SqL.of w2.hd, by rw [List.length_map]; omega, fun ns' p hp hs np => ?_⟩
    have e := pw_int hp hs asc
    subst e
    exact k G _ p (Same.refl _) (w2.drop.new np)
end Lr
namespace Lr
open PySem PySem.Spec PyProof.Rows L2
theorem lk_ord {B : Bx} {n : Str} : ∀ {ns : List Str}, n ∈ ns → lkB (ordB ns B) n = lkB B n
  | m :: r, h => by
    have key : ordB (m :: r) B = ((lkB B m).map fun v => (m, v)).toList ++ ordB r B := by
      unfold ordB
      cases e : (lkB B m).map fun v => (m, v) with
      | none => rw [List.filterMap_cons_none (f := fun n => (lkB B n).map fun v => (n, v)) (a := m) e]; rfl
      | some q => rw [List.filterMap_cons_some (f := fun n => (lkB B n).map fun v => (n, v)) (a := m) e]; rfl
    rw [key]
    by_cases e : m = n
    · subst e
      cases hl : lkB B m with
      | some v =>
        show (if m = m then some v else _) = _
        rw [if_pos rfl]
      | none =>
        show lkB ([] ++ ordB r B) m = none
        rw [List.nil_append]
        by_cases hr : m ∈ r
        · rw [lk_ord hr, hl]
        · exact lkB_none (ordB_keys hr)
    · have hr : n ∈ r := (List.mem_cons.mp h).resolve_left fun q => e q.symm
      have ih := lk_ord (B := B) hr
      cases hl : lkB B m with
      | some v =>
        show (if m = n then some v else lkB (ordB r B) n) = _
        rw [if_neg e, ih]
      | none =>
        show lkB ([] ++ ordB r B) n = _
        rw [List.nil_append, ih]
theorem ord_in {B : Bx} {ns : List Str} {q : Str × Int} (h : q ∈ ordB ns B) : q.1 ∈ ns ∧ lkB B q.1 = some q.2 := by
  unfold ordB at h
  obtain ⟨m, hm, h⟩ := List.mem_filterMap.mp h
  obtain ⟨v, hv, rfl⟩ := Option.map_eq_some_iff.mp h
  exact ⟨hm, hv⟩
end Lr
namespace Lr
open PySem PySem.Spec PyProof.Rows L2
theorem SW.wrap2 {G H : Hp} {st cs : Addr} {n : Nat} {C : List Cell} (W : SW G st cs n C H) : ∃ A : List Cell, WF G (A ++ C) H ∧ (∀ (G' H' : Hp) (D : List Cell), WF G' (A ++ D) H' → SW G' st cs n D H') ∧ ∀ (G' H' : Hp) (D : List Cell) (c : Cell), WF G' (c :: (A ++ D)) H' → SW G' st cs n (c :: D) H' := by
  obtain ⟨l, a, b, c, w, h⟩ := W
  exact ⟨[_, _], w, fun G' H' D w' => ⟨l, a, b, c, w', h⟩, fun G' H' D x w' => ⟨l, a, b, c, w'.rot, h⟩⟩
end Lr

/-! # The least redo: what two rules demand -/
namespace Lr
open PySem PySem.Spec PyProof.Rows L2
def endN (L : LogM) : Int := (L.rows.length : Int) + 1
/-- no record of S that writes the page stands below the version -/
def okL (L : LogM) (S : List Int) (n : Str) (v : Int) : Prop := ∀ w ∈ S, n ∈ (rowAt L w.toNat).2 → v ≤ w
instance (L : LogM) (S : List Int) (n : Str) (v : Int) : Decidable (okL L S n v) := by unfold okL; infer_instance
/-- what a reader needs is there, or is demanded -/
def Met (L : LogM) (f : Str → Option Int) (S : List Int) (q : Str × Int) : Prop := q.2 ∈ S ∨ (f q.1 = some q.2 ∧ okL L S q.1 q.2)
instance (L : LogM) (f : Str → Option Int) (S : List Int) (q : Str × Int) : Decidable (Met L f S q) := by unfold Met; infer_instance
/-- both rules hold -/
def Closed (L : LogM) (f : Str → Option Int) (S : List Int) : Prop := ∀ rd ∈ endN L :: S, ∀ q ∈ needsP L rd, Met L f S q
/-- what the rules tell: the demanded records, or that what is gone is demanded -/
def DemOk (L : LogM) (f : Str → Option Int) (g : Int) : Option (List Int) → Prop
  | some S => Closed L f S ∧ (∀ v ∈ S, g < v ∧ 1 ≤ v ∧ v ≤ L.rows.length) ∧ S.Nodup ∧ ∀ T, Closed L f T → ∀ v ∈ S, v ∈ T
  | none => ∀ T, Closed L f T → ∃ v ∈ T, v ≤ g
/-! ### one round -/
def rdP (L : LogM) (f : Str → Option Int) (S : List Int) (g : Int) (st : Option (List Int)) (q : Str × Int) : Option (List Int) := st.bind fun nl =>
  if q.2 ∈ S ∨ q.2 ∈ nl ∨ (f q.1 = some q.2 ∧ okL L S q.1 q.2) then some nl else if q.2 ≤ g then none else some (nl ++ [q.2])
def rdR (L : LogM) (f : Str → Option Int) (S : List Int) (g : Int) (st : Option (List Int)) (rd : Int) : Option (List Int) := (needsP L rd).foldl (rdP L f S g) st
def rdL (L : LogM) (f : Str → Option Int) (S : List Int) (g : Int) (R : List Int) : Option (List Int) := R.foldl (rdR L f S g) (some [])
theorem rdF_none {L : LogM} {f : Str → Option Int} {S : List Int} {g : Int} : ∀ qs : List (Str × Int), qs.foldl (rdP L f S g) none = none
  | [] => rfl
  | q :: r => rdF_none r
theorem rdG_none {L : LogM} {f : Str → Option Int} {S : List Int} {g : Int} : ∀ R : List Int, R.foldl (rdR L f S g) none = none
  | [] => rfl
  | q :: r => by
    rw [List.foldl_cons]
    show r.foldl (rdR L f S g) ((needsP L q).foldl (rdP L f S g) none) = none
    rw [rdF_none]
    exact rdG_none r
/-- the pairs in the order in which they are met -/
def allP (L : LogM) (R : List Int) : List (Str × Int) := R.flatMap (needsP L)
theorem rdL_flat {L : LogM} {f : Str → Option Int} {S : List Int} {g : Int} : ∀ (R : List Int) (st : Option (List Int)), R.foldl (rdR L f S g) st = (allP L R).foldl (rdP L f S g) st
  | [], _ => rfl
  | rd :: r, st => by
    rw [List.foldl_cons, rdL_flat r]
    unfold allP
    rw [List.flatMap_cons, List.foldl_append]
    rfl
/-- new: needed, not met -/
def NewV (L : LogM) (f : Str → Option Int) (S : List Int) (qs : List (Str × Int)) (v : Int) : Prop := ∃ q ∈ qs, q.2 = v ∧ ¬ Met L f S q
theorem rd_some {L : LogM} {f : Str → Option Int} {S : List Int} {g : Int} : ∀ (qs : List (Str × Int)) (nl out : List Int), nl.Nodup → (∀ v ∈ nl, g < v ∧ v ∉ S) → qs.foldl (rdP L f S g) (some nl) = some out →
    out.Nodup ∧ (∀ v ∈ out, g < v ∧ v ∉ S) ∧ (∀ v, v ∈ out ↔ v ∈ nl ∨ NewV L f S qs v)
  | [], nl, out, nd, h, e => by
    cases e
    refine ⟨nd, h, fun v => ⟨.inl, fun z => z.elim id fun ⟨q, hq, _⟩ => by cases hq⟩⟩
  | q :: r, nl, out, nd, h, e => by
    rw [List.foldl_cons] at e
    have e0 : rdP L f S g (some nl) q = if q.2 ∈ S ∨ q.2 ∈ nl ∨ (f q.1 = some q.2 ∧ okL L S q.1 q.2) then some nl else if q.2 ≤ g then none else some (nl ++ [q.2]) := rfl
    rw [e0] at e
    have tail : ∀ v, NewV L f S (q :: r) v ↔ (q.2 = v ∧ ¬ Met L f S q) ∨ NewV L f S r v := by
      intro v
      constructor
      · rintro ⟨p, hp, a, b⟩
        rcases List.mem_cons.mp hp with rfl | hp
        · exact .inl ⟨a, b⟩
        · exact .inr ⟨p, hp, a, b⟩
      · rintro (⟨a, b⟩ | ⟨p, hp, a, b⟩)
        · exact ⟨q, List.mem_cons_self, a, b⟩
        · exact ⟨p, List.mem_cons_of_mem _ hp, a, b⟩
    by_cases c : q.2 ∈ S ∨ q.2 ∈ nl ∨ (f q.1 = some q.2 ∧ okL L S q.1 q.2)
    · rw [if_pos c] at e
      obtain ⟨a1, a2, a3⟩ := rd_some r nl out nd h e
      refine ⟨a1, a2, fun v => ?_⟩
      rw [a3, tail]
      constructor
      · rintro (z | z)
        · exact .inl z
        · exact .inr (.inr z)
      · rintro (z | ⟨rfl, z⟩ | z)
        · exact .inl z
        · rcases c with c | c | c
          · exact absurd (.inl c) z
          · exact .inl c
          · exact absurd (.inr c) z
        · exact .inr z
    · rw [if_neg c] at e
      by_cases c2 : q.2 ≤ g
      · rw [if_pos c2, rdF_none] at e
        cases e
      · rw [if_neg c2] at e
        obtain ⟨a1, a2, a3⟩ := rd_some r (nl ++ [q.2]) out (by
          rw [List.nodup_append]
          refine ⟨nd, by simp, fun a ha b hb e => ?_⟩
          rw [List.mem_singleton.mp hb] at e
          exact c (.inr (.inl (e ▸ ha)))) (fun v hv => by
          rcases List.mem_append.mp hv with hv | hv
          · exact h v hv
          · rw [List.mem_singleton.mp hv]
            exact ⟨by omega, fun z => c (.inl z)⟩) e
        refine ⟨a1, a2, fun v => ?_⟩
        rw [a3, tail, List.mem_append, List.mem_singleton]
        constructor
        · rintro ((z | rfl) | z)
          · exact .inl z
          · exact .inr (.inl ⟨rfl, fun m => c (m.elim .inl fun m => .inr (.inr m))⟩)
          · exact .inr (.inr z)
        · rintro (z | ⟨rfl, z⟩ | z)
          · exact .inl (.inl z)
          · exact .inl (.inr rfl)
          · exact .inr z
theorem rd_lost {L : LogM} {f : Str → Option Int} {S : List Int} {g : Int} : ∀ (qs : List (Str × Int)) (nl : List Int), (∀ v ∈ nl, g < v) → qs.foldl (rdP L f S g) (some nl) = none → ∃ v, v ≤ g ∧ NewV L f S qs v
  | [], nl, _, e => by cases e
  | q :: r, nl, h, e => by
    rw [List.foldl_cons] at e
    have e0 : rdP L f S g (some nl) q = if q.2 ∈ S ∨ q.2 ∈ nl ∨ (f q.1 = some q.2 ∧ okL L S q.1 q.2) then some nl else if q.2 ≤ g then none else some (nl ++ [q.2]) := rfl
    rw [e0] at e
    by_cases c : q.2 ∈ S ∨ q.2 ∈ nl ∨ (f q.1 = some q.2 ∧ okL L S q.1 q.2)
    · rw [if_pos c] at e
      obtain ⟨v, a, p, hp, b⟩ := rd_lost r nl h e
      exact ⟨v, a, p, List.mem_cons_of_mem _ hp, b⟩
    · rw [if_neg c] at e
      by_cases c2 : q.2 ≤ g
      · exact ⟨q.2, c2, q, List.mem_cons_self, rfl, fun m => c (m.elim .inl fun m => .inr (.inr m))⟩
      · rw [if_neg c2] at e
        obtain ⟨v, a, p, hp, b⟩ := rd_lost r (nl ++ [q.2]) (fun v hv => by
          rcases List.mem_append.mp hv with hv | hv
          · exact h v hv
          · rw [List.mem_singleton.mp hv]
            omega) e
        exact ⟨v, a, p, List.mem_cons_of_mem _ hp, b⟩
theorem mem_allP {L : LogM} {R : List Int} {q : Str × Int} : q ∈ allP L R ↔ ∃ rd ∈ R, q ∈ needsP L rd := List.mem_flatMap
theorem okL_anti {L : LogM} {S T : List Int} {n : Str} {v : Int} (h : ∀ w ∈ S, w ∈ T) (o : okL L T n v) : okL L S n v := fun w hw => o w (h w hw)
/-- what is new lies in every closed lot -/
theorem new_closed {L : LogM} {f : Str → Option Int} {S T R : List Int} {v : Int} (hT : Closed L f T) (h : ∀ w ∈ S, w ∈ T) (hR : ∀ r ∈ R, r = endN L ∨ r ∈ S) (n : NewV L f S (allP L R) v) : v ∈ T := by
  obtain ⟨q, hq, rfl, nm⟩ := n
  obtain ⟨rd, hrd, hq⟩ := mem_allP.mp hq
  have hrd' : rd ∈ endN L :: T := by
    rcases hR rd hrd with rfl | z
    · exact List.mem_cons_self
    · exact List.mem_cons_of_mem _ (h rd z)
  rcases hT rd hrd' q hq with z | ⟨a, b⟩
  · exact z
  · exact absurd (.inr ⟨a, okL_anti h b⟩) nm
/-! ### the rounds -/
/-- what is known between rounds: S demanded so far -/
structure DemS (L : LogM) (f : Str → Option Int) (g : Int) (S : List Int) : Prop where
  bd : ∀ v ∈ S, g < v ∧ 1 ≤ v ∧ v ≤ L.rows.length
  nd : S.Nodup
  mn : ∀ T, Closed L f T → ∀ v ∈ S, v ∈ T
theorem DemS.nil (L : LogM) (f : Str → Option Int) (g : Int) : DemS L f g [] := ⟨fun v h => (by cases h), List.nodup_nil, fun T _ v h => by cases h⟩
theorem ver_bd {rows : List Lr.Row} {n : Str} : 0 ≤ ver rows n ∧ ver rows n ≤ rows.length := by
  refine ⟨ver_nonneg, ?_⟩
  unfold ver
  cases h : (wr rows n).getLast? with
  | none => show (0 : Int) ≤ _; omega
  | some k => exact (wr_bd (List.mem_of_getLast? h)).2
theorem needs_bd {L : LogM} {rd : Int} {q : Str × Int} (h : q ∈ needsP L rd) : 0 ≤ q.2 ∧ q.2 ≤ L.rows.length ∧ q.2 ≤ ((rd.toNat - 1 : Nat) : Int) := by
  unfold needsP at h
  obtain ⟨n, _, rfl⟩ := List.mem_map.mp h
  have := ver_bd (rows := L.rows.take (rd.toNat - 1)) (n := n)
  rw [List.length_take] at this
  show 0 ≤ ver _ n ∧ ver _ n ≤ _ ∧ ver _ n ≤ _
  omega
theorem DemS.round {L : LogM} {f : Str → Option Int} {g : Int} {S R nl ml : List Int} (d : DemS L f g S) (g0 : 0 ≤ g) (hR : ∀ r, r ∈ R ↔ r = endN L ∨ r ∈ S) (e : rdL L f S g R = some nl) (hp : ml.Perm nl) : DemS L f g (S ++ ml) ∧ nl.Nodup ∧ (∀ v ∈ nl, v ∉ S ∧ g < v ∧ 1 ≤ v ∧ v ≤ L.rows.length) := by
  unfold rdL at e
  rw [rdL_flat] at e
  obtain ⟨a1, a2, a3⟩ := rd_some _ _ _ List.nodup_nil (fun v h => by cases h) e
  have b : ∀ v ∈ nl, v ∉ S ∧ g < v ∧ 1 ≤ v ∧ v ≤ L.rows.length := by
    intro v hv
    obtain ⟨h1, h2⟩ := a2 v hv
    rcases (a3 v).mp hv with z | ⟨q, hq, rfl, _⟩
    · cases z
    · obtain ⟨rd, _, hq⟩ := mem_allP.mp hq
      have := needs_bd hq
      exact ⟨h2, h1, by omega, this.2.1⟩
  refine ⟨⟨fun v hv => ?_, ?_, fun T hT v hv => ?_⟩, a1, b⟩
  · rcases List.mem_append.mp hv with hv | hv
    · exact d.bd v hv
    · exact (b v (hp.mem_iff.mp hv)).2
  · rw [List.nodup_append]
    exact ⟨d.nd, hp.nodup_iff.mpr a1, fun a ha c hc e => (b c (hp.mem_iff.mp hc)).1 (e ▸ ha)⟩
  · rcases List.mem_append.mp hv with hv | hv
    · exact d.mn T hT v hv
    · rcases (a3 v).mp (hp.mem_iff.mp hv) with z | z
      · cases z
      · exact new_closed hT (d.mn T hT) (fun r hr => (hR r).mp hr) z
/-- nothing new: done -/
theorem DemS.done {L : LogM} {f : Str → Option Int} {g : Int} {S R T : List Int} (d : DemS L f g S) (hR : ∀ r, r ∈ R ↔ r = endN L ∨ r ∈ S) (e : rdL L f S g R = some []) (hp : T.Perm S) : DemOk L f g (some T) := by
  unfold rdL at e
  rw [rdL_flat] at e
  obtain ⟨_, _, a3⟩ := rd_some _ _ _ List.nodup_nil (fun v h => by cases h) e
  have cl : Closed L f S := by
    intro rd hrd q hq
    by_cases m : Met L f S q
    · exact m
    · have := (a3 q.2).mpr (.inr ⟨q, mem_allP.mpr ⟨rd, (hR rd).mpr (List.mem_cons.mp hrd), hq⟩, rfl, m⟩)
      cases this
  refine ⟨fun rd hrd q hq => ?_, fun v hv => d.bd v (hp.mem_iff.mp hv), hp.nodup_iff.mpr d.nd, fun T' hT v hv => d.mn T' hT v (hp.mem_iff.mp hv)⟩
  have hrd' : rd ∈ endN L :: S := by
    rcases List.mem_cons.mp hrd with rfl | z
    · exact List.mem_cons_self
    · exact List.mem_cons_of_mem _ (hp.mem_iff.mp z)
  rcases cl rd hrd' q hq with z | ⟨a, b⟩
  · exact .inl (hp.mem_iff.mpr z)
  · exact .inr ⟨a, okL_anti (fun w hw => hp.mem_iff.mp hw) b⟩
theorem DemS.lost {L : LogM} {f : Str → Option Int} {g : Int} {S R : List Int} (d : DemS L f g S) (hR : ∀ r, r ∈ R ↔ r = endN L ∨ r ∈ S) (e : rdL L f S g R = none) : DemOk L f g none := by
  unfold rdL at e
  rw [rdL_flat] at e
  obtain ⟨v, hv, n⟩ := rd_lost _ _ (fun v h => by cases h) e
  exact fun T hT => ⟨v, new_closed hT (d.mn T hT) (fun r hr => (hR r).mp hr) n, hv⟩
/-- the rules tell one thing -/
theorem DemOk.one {L : LogM} {f : Str → Option Int} {g : Int} {a b : Option (List Int)} (ha : DemOk L f g a) (hb : DemOk L f g b) : (a = none ∧ b = none) ∨ ∃ S T, a = some S ∧ b = some T ∧ S.Perm T := by
  cases a with
  | none =>
    cases b with
    | none => exact .inl ⟨rfl, rfl⟩
    | some T =>
      obtain ⟨v, hv, h⟩ := ha T hb.1
      have := (hb.2.1 v hv).1
      omega
  | some S =>
    cases b with
    | none =>
      obtain ⟨v, hv, h⟩ := hb S ha.1
      have := (ha.2.1 v hv).1
      omega
    | some T =>
      exact .inr ⟨S, T, rfl, rfl, (List.perm_ext_iff_of_nodup ha.2.2.1 hb.2.2.1).mpr fun v => ⟨ha.2.2.2 T hb.1 v, hb.2.2.2 S ha.1 v⟩⟩
/-! ### the greatest writer below a reader -/
theorem ver_last {rows : List Lr.Row} {n : Str} : ∀ {w : Int}, w ∈ wr rows n → w ≤ ver rows n := by
  have asc : (wr rows n).Pairwise (· < ·) := by
    unfold wr
    rw [List.pairwise_map]
    refine (List.Pairwise.filter _ List.pairwise_lt_range).imp fun h => ?_
    omega
  intro w hw
  unfold ver
  cases e : (wr rows n).getLast? with
  | none =>
    rw [List.getLast?_eq_none_iff.mp e] at hw
    cases hw
  | some z =>
    show w ≤ z
    obtain ⟨ys, hys⟩ := List.getLast?_eq_some_iff.mp e
    rw [hys] at hw asc
    rcases List.mem_append.mp hw with hw | hw
    · rw [List.pairwise_append] at asc
      have := asc.2.2 w hw z (by simp)
      omega
    · rw [List.mem_singleton.mp hw]
      exact Int.le_refl _
theorem wr_take {L : LogM} {m : Nat} {n : Str} {w : Int} : w ∈ wr (L.rows.take m) n ↔ 1 ≤ w ∧ w ≤ m ∧ w ≤ L.rows.length ∧ n ∈ (rowAt L w.toNat).2 := by
  unfold wr rowAt
  rw [List.mem_map]
  constructor
  · rintro ⟨j, hj, rfl⟩
    obtain ⟨h1, h2⟩ := List.mem_filter.mp hj
    have h1 := List.mem_range.mp h1
    rw [List.length_take] at h1
    have h3 : n ∈ (((L.rows.take m)[j]?).getD ([], [])).2 := of_decide_eq_true h2
    rw [List.getElem?_take_of_lt (by omega)] at h3
    refine ⟨by omega, by omega, by omega, ?_⟩
    have : ((j : Int) + 1).toNat - 1 = j := by omega
    rw [this]
    exact h3
  · rintro ⟨h1, h2, h3, h4⟩
    refine ⟨w.toNat - 1, List.mem_filter.mpr ⟨List.mem_range.mpr (by rw [List.length_take]; omega), ?_⟩, by omega⟩
    rw [List.getElem?_take_of_lt (by omega)]
    exact decide_eq_true h4
/-- the writers that a reader may find lie up to the version that it needs, and the version, if it is one, is written -/
theorem need_src {L : LogM} {rd : Int} {q : Str × Int} (hrd : 1 ≤ rd ∧ rd ≤ (L.rows.length : Int) + 1) (h : q ∈ needsP L rd) : (∀ w : Int, 1 ≤ w → w < rd → q.1 ∈ (rowAt L w.toNat).2 → w ≤ q.2) ∧ (0 < q.2 → q.1 ∈ (rowAt L q.2.toNat).2 ∧ q.2 < rd) := by
  unfold needsP at h
  obtain ⟨n, _, rfl⟩ := List.mem_map.mp h
  refine ⟨fun w h1 h2 h3 => ver_last (wr_take.mpr ⟨h1, by omega, by omega, h3⟩), fun hp => ?_⟩
  have hp : 0 < ver (L.rows.take (rd.toNat - 1)) n := hp
  have : ver (L.rows.take (rd.toNat - 1)) n ∈ wr (L.rows.take (rd.toNat - 1)) n := by
    unfold ver at hp ⊢
    cases e : (wr (L.rows.take (rd.toNat - 1)) n).getLast? with
    | none =>
      rw [e] at hp
      exact absurd hp (by decide)
    | some z => exact List.mem_of_getLast? e
  obtain ⟨a, b, c, d⟩ := wr_take.mp this
  exact ⟨d, by show ver _ n < rd; omega⟩
theorem src_of {L : LogM} {ks : List Int} {rd : Int} {n : Str} (hk : ∀ k ∈ ks, 1 ≤ k) (asc : ks.Pairwise (· < ·)) : (srcL L ks rd n = 0 ∧ ∀ w ∈ ks, w < rd → n ∉ (rowAt L w.toNat).2) ∨ (0 < srcL L ks rd n ∧ n ∈ (rowAt L (srcL L ks rd n).toNat).2 ∧ ∀ w ∈ ks, w < rd → n ∈ (rowAt L w.toNat).2 → w ≤ srcL L ks rd n) := by
  have key : ∀ (ks : List Int), (∀ k ∈ ks, 1 ≤ k) → ks.Pairwise (· < ·) → ∀ a : Int, (a = 0 ∨ (0 < a ∧ n ∈ (rowAt L a.toNat).2 ∧ ∀ k ∈ ks, a < k)) →
      (ks.foldl (srcF L rd n) a = a ∧ ∀ w ∈ ks, w < rd → n ∉ (rowAt L w.toNat).2) ∨ (0 < ks.foldl (srcF L rd n) a ∧ n ∈ (rowAt L (ks.foldl (srcF L rd n) a).toNat).2 ∧ a ≤ ks.foldl (srcF L rd n) a ∧ ∀ w ∈ ks, w < rd → n ∈ (rowAt L w.toNat).2 → w ≤ ks.foldl (srcF L rd n) a) := by
    intro ks
    induction ks with
    | nil => exact fun _ _ a _ => .inl ⟨rfl, fun w h => by cases h⟩
    | cons k r ih =>
      intro hk asc a ha
      rw [List.pairwise_cons] at asc
      rw [List.foldl_cons]
      have hk1 := hk k List.mem_cons_self
      by_cases c : k < rd ∧ n ∈ (rowAt L k.toNat).2
      · have e : srcF L rd n a k = k := by unfold srcF; rw [if_pos c]
        rw [e]
        have hak : a ≤ k := by
          rcases ha with rfl | h
          · omega
          · have := h.2.2 k List.mem_cons_self
            omega
        rcases ih (fun j hj => hk j (List.mem_cons_of_mem _ hj)) asc.2 k (.inr ⟨by omega, c.2, asc.1⟩) with ⟨h1, h2⟩ | ⟨h1, h2, h3, h4⟩
        · refine .inr ⟨by rw [h1]; omega, by rw [h1]; exact c.2, by rw [h1]; exact hak, fun w hw h3 h4 => ?_⟩
          rw [h1]
          rcases List.mem_cons.mp hw with rfl | hw
          · exact Int.le_refl _
          · exact absurd h4 (h2 w hw h3)
        · refine .inr ⟨h1, h2, by omega, fun w hw h5 h6 => ?_⟩
          rcases List.mem_cons.mp hw with rfl | hw
          · exact h3
          · exact h4 w hw h5 h6
      · have e : srcF L rd n a k = a := by unfold srcF; rw [if_neg c]
        rw [e]
        rcases ih (fun j hj => hk j (List.mem_cons_of_mem _ hj)) asc.2 a (ha.imp id fun h => ⟨h.1, h.2.1, fun j hj => h.2.2 j (List.mem_cons_of_mem _ hj)⟩) with ⟨h1, h2⟩ | ⟨h1, h2, h3, h4⟩
        · refine .inl ⟨h1, fun w hw h3 h4 => ?_⟩
          rcases List.mem_cons.mp hw with rfl | hw
          · exact c ⟨h3, h4⟩
          · exact h2 w hw h3 h4
        · refine .inr ⟨h1, h2, h3, fun w hw h5 h6 => ?_⟩
          rcases List.mem_cons.mp hw with rfl | hw
          · exact absurd ⟨h5, h6⟩ c
          · exact h4 w hw h5 h6
  rcases key ks hk asc 0 (.inl rfl) with ⟨h1, h2⟩ | ⟨h1, h2, _, h4⟩
  · exact .inl ⟨h1, h2⟩
  · exact .inr ⟨h1, h2, h4⟩
/-- a closed lot is clean: each of its records and the end finds all that it needs -/
theorem closed_clean {L : LogM} {f : Str → Option Int} {S : List Int} (lo : Lot L S) (hc : Closed L f S) : ∀ (m : Nat) (rd : Int), rd.toNat ≤ m → rd ∈ endN L :: S → Clean L S f rd
  | 0, rd, h, hrd => by
    rcases List.mem_cons.mp hrd with rfl | z
    · unfold endN at h
      omega
    · have := lo.bd rd z
      omega
  | m + 1, rd, h, hrd => by
    have hb : 1 ≤ rd ∧ rd ≤ (L.rows.length : Int) + 1 := by
      rcases List.mem_cons.mp hrd with rfl | z
      · unfold endN
        omega
      · have := lo.bd rd z
        omega
    rw [clean_good lo]
    intro q hq
    obtain ⟨n1, n2⟩ := need_src hb hq
    unfold Good
    rcases hc rd hrd q hq with z | ⟨a, b⟩
    · have hv := lo.bd _ z
      obtain ⟨n3, n4⟩ := n2 (by omega)
      have ih := closed_clean lo hc m q.2 (by omega) (List.mem_cons_of_mem _ z)
      rcases src_of (L := L) (ks := S) (rd := rd) (n := q.1) (fun k hk => (lo.bd k hk).1) lo.asc with ⟨h1, h2⟩ | ⟨h1, h2, h3⟩
      · exact absurd n3 (h2 q.2 z n4)
      · rw [if_pos h1]
        have h4 := h3 q.2 z n4 n3
        have h5 := src_mem h1
        have h6 := n1 _ (by omega) h5.2 h2
        exact ⟨by omega, ih⟩
    · rcases src_of (L := L) (ks := S) (rd := rd) (n := q.1) (fun k hk => (lo.bd k hk).1) lo.asc with ⟨h1, h2⟩ | ⟨h1, h2, h3⟩
      · rw [if_neg (by omega)]
        exact a
      · have h5 := src_mem h1
        have h6 := n1 _ (by omega) h5.2 h2
        have h7 := b _ h5.1 h2
        have e : srcL L S rd q.1 = q.2 := by omega
        rw [if_pos h1]
        refine ⟨e, ?_⟩
        rw [← e]
        exact closed_clean lo hc m _ (by omega) (List.mem_cons_of_mem _ h5.1)
/-- a lot that ends right holds a closed lot: its clean records -/
theorem ends_closed {L : LogM} {f : Str → Option Int} {ks : List Int} (lo : Lot L ks) (h : endsB L ks f = true) : Closed L f (ks.filter fun w => decide (Clean L ks f w)) := by
  intro rd hrd q hq
  have hcl : Clean L ks f rd := by
    rcases List.mem_cons.mp hrd with rfl | z
    · exact (clean_end lo).mpr h
    · exact of_decide_eq_true (List.mem_filter.mp z).2
  have hb : 1 ≤ rd ∧ rd ≤ (L.rows.length : Int) + 1 := by
    rcases List.mem_cons.mp hrd with rfl | z
    · unfold endN
      omega
    · have := lo.bd rd (List.mem_filter.mp z).1
      omega
  obtain ⟨n1, n2⟩ := need_src hb hq
  have hg := (clean_good lo rd).mp hcl q hq
  unfold Good at hg
  rcases src_of (L := L) (ks := ks) (rd := rd) (n := q.1) (fun k hk => (lo.bd k hk).1) lo.asc with ⟨h1, h2⟩ | ⟨h1, h2, h3⟩
  · rw [if_neg (by omega)] at hg
    refine .inr ⟨hg, fun w hw hn => ?_⟩
    obtain ⟨w1, w2⟩ := List.mem_filter.mp hw
    have := (needs_bd hq).2.2
    by_cases c : w < rd
    · exact absurd hn (h2 w w1 c)
    · omega
  · rw [if_pos h1] at hg
    refine .inl (List.mem_filter.mpr ⟨hg.1 ▸ (src_mem h1).1, decide_eq_true hg.2⟩)
/-- the least redo lies in each lot above gone that ends right -/
theorem least_in {L : LogM} {f : Str → Option Int} {g : Int} {ks : List Int} {r : Option (List Int)} (hr : DemOk L f g r) (lo : Lot L ks) (hg : ∀ k ∈ ks, g < k) (h : endsB L ks f = true) : ∃ S, r = some S ∧ ∀ v ∈ S, v ∈ ks := by
  have hc := ends_closed lo h
  cases r with
  | none =>
    obtain ⟨v, hv, e⟩ := hr _ hc
    have := hg v (List.mem_filter.mp hv).1
    omega
  | some S => exact ⟨S, rfl, fun v hv => (List.mem_filter.mp (hr.2.2.2 _ hc v hv)).1⟩
end Lr

/-! # Defs with defaults; promises of the least redo -/
namespace Lr
open PySem PySem.Spec PyProof.Rows L2
/-- a def with defaults, some of them filled in -/
def Okd (P : Program) (w : World) (K : PySem.W.Frag) (mg : Str → Option Value) (base : Heap) (CX : CXT) (k : Nat) (x : Str) (ps : List Str) (dvs : List V) (sp : Sp) : Prop :=
  ∃ (f : Addr) (fd : FuncData) (ds : List Value), mg x = some (.ref f) ∧ PySem.W.keepIn K (.ref f) = true ∧ Binds K fd ps ds ∧ Vals dvs ds ∧ FnOk P w K mg base CX k f fd ps sp
structure FDD (K : PySem.W.Frag) (mg : Str → Option Value) (x : Str) (st : Stmt) (ps : List Str) (dvs av : List V) : Prop where
  ex : ∃ (f : Addr) (fd : FuncData) (ds : List Value), mg x = some (.ref f) ∧ FunD K x x (defArgs st) (defBody st) (defScope st) dvs [] f fd ∧ Vals av ds ∧ Binds K fd ps ds
theorem FDD.okX {P : Program} {w : World} {K : PySem.W.Frag} {mg : Str → Option Value} {base : Heap} {k : Nat} {x : Str} {ps : List Str} {sp : Sp} {st : Stmt} {N : List Str} {dvs av : List V} (F : FDD K mg x st ps dvs av) (S : FnScope N ps (defScope st)) (len : ∀ vs H Q E, sp vs H Q E → vs.length = ps.length)
    (hbody : ∀ (f : Addr) (cdv : Value) (A : Around) (outer : List Env) (s : Shared) (H : Hp) (vs : List V) (Q : VK) (E : XK), Room k (A.deeper (envOfC x (defScope st) s.heap.objs.size f cdv)) → sp vs H Q E →
      ∃ t, PSs (cxOf (L2.CX P w) P w K mg base N x (defScope st) f cdv A outer s H E) (defBody st) t ∧ t { nx := fun _ H' => Q .non H', rt := Q } (start N vs) H) : Okd P w K mg base (L2.CX P w) (k + 1) x ps av sp := by
  obtain ⟨f, fd, ds, a, b, v, c⟩ := F.ex
  exact ⟨f, fd, ds, a, b.kp, c, v, b.ok S len (hbody f)⟩
section
variable {X : Cx} {k k' : Nat} {x : Str} {ps : List Str} {dvs : List V} {sp : Sp} {E : XK} {p pos : Pos} {e : Expr} {es : List Expr} {t : TA}
theorem pcqd (F : Okd X.prog X.w X.K X.mg X.base (L2.CX X.prog X.w) k x ps dvs sp) (hr : Room k' X.A) (ha : PA X (e :: es) t) (hk : k ≤ k' := by omega) (hg : Gl X x := by rfl)
    (hdb : (x == ("__debug__" : Str)) = false := by decide) (he : starEach (e :: es) X.env = (false, eval e X.env) :: starEach es X.env := by rfl) (hpl : (backTo pos (starEach es X.env)).any (·.1) = false := by rfl) :
    PE X (.Call (.Name x p) (e :: es) [] pos) (tCall sp dvs E0 t) := by
  obtain ⟨f, fd, ds, a, b, c, v, d⟩ := F
  exact pe_call d (hr.mono hk) hg a b c v passL ha hdb he hpl
theorem pcxd (F : Okd X.prog X.w X.K X.mg X.base (L2.CX X.prog X.w) k x ps dvs sp) (hr : Room k' X.A) (ha : PA X (e :: es) t) (tk : Takes X (fun cls d _ H => E cls d H)) (hk : k ≤ k' := by omega) (hg : Gl X x := by rfl)
    (hdb : (x == ("__debug__" : Str)) = false := by decide) (he : starEach (e :: es) X.env = (false, eval e X.env) :: starEach es X.env := by rfl) (hpl : (backTo pos (starEach es X.env)).any (·.1) = false := by rfl) :
    PE X (.Call (.Name x p) (e :: es) [] pos) (tCall sp dvs E t) := by
  obtain ⟨f, fd, ds, a, b, c, v, d⟩ := F
  exact pe_call d (hr.mono hk) hg a b c v (passes_call tk fun _ _ _ _ h => h) ha hdb he hpl
end
theorem tcall2d {sp : Sp} {E : XK} {ta tb : TE} {u : V} {σ : L2.St} {H : Hp} {Q : VK} (h : ta σ H fun x H1 => tb σ H1 fun y H2 => sp [x, y, u] H2 Q E) : tCall sp [u] E (tCons ta (tCons tb tNil)) σ H Q := h
/-- need_gone(log, gone) -/
def spNeedGone (Cl CB : Addr) : Sp := fun vs H Q E => ∃ (G : Hp) (x : Addr) (L : LogM) (d : PyData) (v : V), vs = [.ref x, v, .non] ∧ LogAt Cl G x L ∧ Same G H ∧ TyD H d v ∧ (∀ i, d = .int i → v = .int i) ∧
  (betB d 0 L.rows.length = false → ∀ p, H p = none → E (.ref CB) (some p) (upd H p (.xd [("thing", v)]))) ∧ (betB d 0 L.rows.length = true → Q .non H)
/-! ### the least written record of each page -/
def lvOk (L : LogM) (S : List Int) (lv : Str → Int) : Prop := ∀ n ∈ L.names, ∀ v : Int, 0 ≤ v → v ≤ L.rows.length → (v ≤ lv n ↔ okL L S n v)
def mnI (a w : Int) : Int := if w < a then w else a
theorem lv_nil {L : LogM} {z : Int} (h : (L.rows.length : Int) < z) : lvOk L [] fun _ => z := fun n _ v h0 h1 => ⟨fun _ w hw => (by cases hw), fun _ => by
  show v ≤ z
  omega⟩
theorem lv_step {L : LogM} {S : List Int} {lv : Str → Int} {w : Int} (h : lvOk L S lv) : lvOk L (S ++ [w]) fun n => if n ∈ (rowAt L w.toNat).2 then mnI (lv n) w else lv n := by
  intro n hn v h0 h1
  have := h n hn v h0 h1
  show (v ≤ if n ∈ (rowAt L w.toNat).2 then mnI (lv n) w else lv n) ↔ _
  have key : okL L (S ++ [w]) n v ↔ okL L S n v ∧ (n ∈ (rowAt L w.toNat).2 → v ≤ w) := by
    constructor
    · intro o
      exact ⟨fun u hu => o u (List.mem_append_left _ hu), fun hw => o w (by simp) hw⟩
    · rintro ⟨o, o2⟩ u hu hw
      rcases List.mem_append.mp hu with hu | hu
      · exact o u hu hw
      · rw [List.mem_singleton.mp hu] at hw ⊢
        exact o2 hw
  rw [key, ← this]
  by_cases c : n ∈ (rowAt L w.toNat).2
  · rw [if_pos c]
    unfold mnI
    by_cases c2 : w < lv n
    · rw [if_pos c2]
      constructor
      · intro h
        exact ⟨by omega, fun _ => h⟩
      · intro h
        exact h.2 c
    · rw [if_neg c2]
      constructor
      · intro h
        exact ⟨h, fun _ => by omega⟩
      · exact fun h => h.1
  · rw [if_neg c]
    exact ⟨fun h => ⟨h, fun z => absurd z c⟩, fun h => h.1⟩
/-! ### dicts by numbers -/
theorem key_some {kvs : List (Key × V)} {S : List Int} (h : kvs.map Prod.fst = S.map Sum.inl) (v : Int) : (valV kvs (Sum.inl v : Key)).isSome = decide (v ∈ S) := by
  induction kvs generalizing S with
  | nil =>
    cases S with
    | nil => rfl
    | cons _ _ => cases h
  | cons q r ih =>
    cases S with
    | nil => cases h
    | cons s S' =>
      rw [List.map_cons, List.map_cons] at h
      injection h with h1 h2
      obtain ⟨k, u⟩ := q
      have h1 : k = Sum.inl s := h1
      subst h1
      by_cases e : s = v
      · subst e
        rw [valV_pos rfl, decide_eq_true List.mem_cons_self]
        rfl
      · rw [valV_neg (fun z => e (Sum.inl.inj z)), ih h2]
        by_cases c : v ∈ S'
        · rw [decide_eq_true c, decide_eq_true (List.mem_cons_of_mem _ c)]
        · rw [decide_eq_false c, decide_eq_false (fun z => c ((List.mem_cons.mp z).resolve_left fun q => e q.symm))]
theorem key_get {kvs : List (Key × V)} {S : List Int} {v : Int} (h : kvs.map Prod.fst = S.map Sum.inl) (hv : v ∈ S) : ∃ u, valV kvs (Sum.inl v : Key) = some u := by
  have := key_some h v
  rw [decide_eq_true hv] at this
  exact Option.isSome_iff_exists.mp this
theorem key_put {kvs : List (Key × V)} {S : List Int} {v : Int} {u : V} (h : kvs.map Prod.fst = S.map Sum.inl) (hv : v ∉ S) : putK kvs (Sum.inl v : Key) u = kvs ++ [(Sum.inl v, u)] ∧ (kvs ++ [((Sum.inl v : Key), u)]).map Prod.fst = (S ++ [v]).map Sum.inl := by
  refine ⟨put_new fun z => ?_, ?_⟩
  · rw [h] at z
    obtain ⟨w, hw, e⟩ := List.mem_map.mp z
    exact hv ((Sum.inl.inj e) ▸ hw)
  · rw [List.map_append, List.map_append, h]
    rfl
theorem dgi {H : Hp} {p : Addr} {kvs : List (Key × V)} (h : H p = some (.dK kvs)) (v : Int) : DGet H p (.int v) (valV kvs (Sum.inl v : Key)) := DGet.k (k := Sum.inl v) h
theorem dpi {H : Hp} {p : Addr} {kvs : List (Key × V)} {v : Int} {u : V} (h : H p = some (.dK kvs)) (l : kvs.length ≤ 1000000) : DPut H p (.int v) u (upd H p (.dK (putK kvs (Sum.inl v : Key) u))) := DPut.k (k := Sum.inl v) (v := u) h (sz_lt (by omega))
/-! ### promises -/
/-- round_of(log, disk, gone, readers, least, rows) -/
def spRoundOf (Cl : Addr) : Sp := fun vs H Q _ => ∃ (G : Hp) (C : List Cell) (x dk rl ls rw : Addr) (L : LogM) (f : Str → Option Int) (g : Int) (S R : List Int) (lv : Str → Int) (kvs : List (Key × V)),
  vs = [.ref x, .ref dk, .int g, .ref rl, .ref ls, .ref rw] ∧ WF G C H ∧ LogAt Cl G x L ∧ Sees G C dk (.dK (dkL L.names f)) ∧ Sees G C rl (.lst (R.map V.int)) ∧ Sees G C ls (.dK (dkL L.names fun n => some (lv n))) ∧ Sees G C rw (.dK kvs) ∧
  kvs.map Prod.fst = S.map Sum.inl ∧ (∀ r ∈ R, 1 ≤ r ∧ r ≤ (L.rows.length : Int) + 1) ∧ R.length ≤ 1000 ∧ lvOk L S lv ∧
  (rdL L f S g R = none → ∀ (G' H' : Hp) (t nd row : Addr), Same G G' → WF G' C H' → G' t = some (.tup [.ref nd, .ref row]) → Q (.ref t) H') ∧
  (∀ nl, rdL L f S g R = some nl → ∀ (G' H' : Hp) (t nd : Addr) (kv : List (Key × V)), Same G G' → WF G' ((nd, .dK kv) :: C) H' → kv.map Prod.fst = nl.map Sum.inl → G' t = some (.tup [.ref nd, .non]) → Q (.ref t) H')
/-- demands(log, disk, gone) -/
def spDemands (Cl : Addr) : Sp := fun vs H Q _ => ∃ (G : Hp) (C : List Cell) (x dk : Addr) (L : LogM) (f : Str → Option Int) (g : Int), vs = [.ref x, .ref dk, .int g] ∧ WF G C H ∧ LogAt Cl G x L ∧ Sees G C dk (.dK (dkL L.names f)) ∧ 0 ≤ g ∧
  (DemOk L f g none → ∀ (G' H' : Hp) (t a b c : Addr), Same G G' → WF G' C H' → G' t = some (.tup [.ref a, .ref b, .ref c]) → Q (.ref t) H') ∧
  (∀ S, DemOk L f g (some S) → ∀ (G' H' : Hp) (t a b : Addr) (kv : List (Key × V)), Same G G' → WF G' C H' → G' t = some (.tup [.ref a, .ref b, .non]) → G' a = some (.dK kv) → kv.map Prod.fst = S.map Sum.inl → Q (.ref t) H')
/-- demanded(log, disk, gone) -/
def spDemanded (Cl : Addr) : Sp := fun vs H Q _ => ∃ (G : Hp) (C : List Cell) (x dk : Addr) (L : LogM) (f : Str → Option Int) (g : Int), vs = [.ref x, .ref dk, .int g] ∧ WF G C H ∧ LogAt Cl G x L ∧ Sees G C dk (.dK (dkL L.names f)) ∧ 0 ≤ g ∧
  (DemOk L f g none → ∀ (G' H' : Hp), Same G G' → WF G' C H' → Q .non H') ∧
  (∀ ys, DemOk L f g (some ys) → ys.Pairwise (· < ·) → ∀ (G' H' : Hp) (p : Addr), Same G G' → WF G' ((p, .lst (ys.map V.int)) :: C) H' → Q (.ref p) H')
/-- least_redo(log, disk, gone) of right things -/
def spLeast (Cl : Addr) : Sp := fun vs H Q _ => ∃ (G : Hp) (C : List Cell) (x : Addr) (L : LogM) (es : List (PyData × PyData)) (vd : V) (g : Int), vs = [.ref x, vd, .int g] ∧ WF G C H ∧ LogAt Cl G x L ∧ RepC G C (.dict es) vd ∧ fitsB L (.dict es) = true ∧ 0 ≤ g ∧ g ≤ L.rows.length ∧
  (DemOk L (dkOf es) g none → ∀ (G' H' : Hp), Same G G' → WF G' C H' → Q .non H') ∧
  (∀ ys, DemOk L (dkOf es) g (some ys) → ys.Pairwise (· < ·) → ∀ (G' H' : Hp) (p : Addr), Same G G' → WF G' ((p, .lst (ys.map V.int)) :: C) H' → Q (.ref p) H')
theorem pw_lt {ys : List Int} (h : ys.Pairwise (· ≤ ·)) (nd : ys.Nodup) : ys.Pairwise (· < ·) := by
  refine (h.and nd).imp fun ⟨a, b⟩ => ?_
  omega
theorem bd_len {S : List Int} {N : Nat} (nd : S.Nodup) (h : ∀ v ∈ S, 1 ≤ v ∧ v ≤ N) : S.length ≤ N := by
  have := List.Nodup.length_le_of_subset nd (fun v hv => mem_numsAll.mpr (h v hv))
  rw [numsAll_len] at this
  exact this
end Lr
namespace Lr
open PySem PySem.Spec PyProof.Rows L2
theorem rdL_lost {L : LogM} {f : Str → Option Int} {S R nl : List Int} {g rd : Int} {i j : Nat} (hi : R[i]? = some rd) (e : (R.take i).foldl (rdR L f S g) (some []) = some nl) (h : ((needsP L rd).take j).foldl (rdP L f S g) (some nl) = none) : rdL L f S g R = none := by
  have e1 : R = R.take i ++ rd :: R.drop (i + 1) := by
    obtain ⟨hl, he⟩ := List.getElem?_eq_some_iff.mp hi
    rw [← he, List.getElem_cons_drop, List.take_append_drop]
  unfold rdL
  rw [e1, List.foldl_append, List.foldl_cons, e]
  have : rdR L f S g (some nl) rd = none := by
    unfold rdR
    rw [← List.take_append_drop j (needsP L rd), List.foldl_append, h]
    exact rdF_none _
  rw [this]
  exact rdG_none _
end Lr
namespace Lr
open PySem PySem.Spec PyProof.Rows L2
theorem tcall6 {sp : Sp} {E : XK} {ta tb tc td te tf : TE} {σ : L2.St} {H : Hp} {Q : VK} (h : ta σ H fun x H1 => tb σ H1 fun y H2 => tc σ H2 fun z H3 => td σ H3 fun u H4 => te σ H4 fun v H5 => tf σ H5 fun w H6 => sp [x, y, z, u, v, w] H6 Q E) : tCall sp [] E (tCons ta (tCons tb (tCons tc (tCons td (tCons te (tCons tf tNil)))))) σ H Q := h
theorem mem_end {S : List Int} {L : LogM} {r : Int} : r ∈ endN L :: S ↔ r = endN L ∨ r ∈ S := List.mem_cons
theorem endS_bd {L : LogM} {f : Str → Option Int} {g : Int} {S : List Int} (d : DemS L f g S) : ∀ r ∈ endN L :: S, 1 ≤ r ∧ r ≤ (L.rows.length : Int) + 1 := fun r hr => by
  rcases List.mem_cons.mp hr with rfl | z
  · unfold endN
    omega
  · have := d.bd r z
    omega
/-- the cells of the rounds -/
abbrev demC (rl ls rw rk : Addr) (L : LogM) (S : List Int) (lv : Str → Int) (wkv rkv : List (Key × V)) (C : List Cell) : List Cell := (rl, .lst ((endN L :: S).map V.int)) :: (ls, .dK (dkL L.names fun n => some (lv n))) :: (rw, .dK wkv) :: (rk, .dK rkv) :: C
end Lr

/-! # name = {k: v for ..} on one line, the name a local -/
namespace Lr
open PySem PySem.Spec PyProof.Rows L2
section
variable {X : Cx}
theorem ps_setDc {i : Nat} {y : Str} {py : Pos} {kx vx tg iter : Expr} {ifs : List Expr} {scope : Scope} {own : List (Str × Nat)} {pos spos : Pos} {wi : TI} {g : TG} {tt : TT} {tk tv : TE} (hc : X.calm = true) (hN : X.N.Nodup) (hy : X.N[i]? = some y) (hyl : X.env.scope.names.lookup y = some .local)
    (hsw : swapsWith (.DictComp kx vx [⟨tg, iter, ifs, 0⟩] scope pos) (some (.Name y py)) spos.line X.env = pure true) (hi : PI X tg iter wi) (ok : BlkOk X.N X.env.scope scope own)
    (hg : ∀ (s : Shared) (H : Hp) (C : Addr) (cl : List (Str × Addr)) (fp : List Addr), PG (X.blk s H scope (compEnvC scope cl C X.env) fp) tg g) (ht : ∀ (s : Shared) (H : Hp) (C : Addr) (cl : List (Str × Addr)) (fp : List Addr), PTs (X.blk s H scope (compEnvC scope cl C X.env) fp) ifs tt)
    (hk : ∀ (s : Shared) (H : Hp) (C : Addr) (cl : List (Str × Addr)) (fp : List Addr), PE (X.blk s H scope (compEnvC scope cl C X.env) fp) kx tk)
    (he : ∀ (s : Shared) (H : Hp) (C : Addr) (cl : List (Str × Addr)) (fp : List Addr), PE (X.blk s H scope (compEnvC scope cl C X.env) fp) vx tv) (hs : ∀ x, foldedSetIterable iter X.env x = pure x := by intro _; rfl) :
    PS X (.Assign [.Name y py] (.DictComp kx vx [⟨tg, iter, ifs, 0⟩] scope pos) spos) (tAsg (tDc wi g tt tk tv (own.map (·.2))) (gName i)) := by
  refine ⟨fun pins s σ H D I h => ?_⟩
  rw [exec_Assign_Name_used _ _ _ _ hsw]
  refine wpAny_bind (wpAny_standAt (wpAny_bind ?_))
  show wpAny _ X.A (do let _ ← comprehension (.DictComp kx vx [⟨tg, iter, ifs, 0⟩] scope pos) scope X.env (firstIterPos [⟨tg, iter, ifs, 0⟩] pos) newDict false (eval iter X.env) (some (assign (.Name y py) X.env))) _ _ s
  have h : tDc wi g tt tk tv (own.map (·.2)) σ H (fun x H1 => gName i x σ H1 D.nx) := h
  refine wpAny_bind (thn (dc_core (Qf := fun _ s' => SP X pins D .next s') hc hN I hi ok hg ht hk he hs h fun L C s' m H' I' q hn f => ?_) fun _ s' hq => wpAny_pure (wpAny_pure hq))
  show wpAny _ _ (assign (.Name y py) X.env (.ref L)) _ _ _
  refine wpAny_assign_Name (store_ok2 (v := V.ref L) I' hN hy (.inl hyl) rfl (fun s2 I2 ⟨a, sb, ha⟩ => ?_) (.inr hyl))
  obtain ⟨f0, f1, f2, f3, f4, f5⟩ := f
  have haC : C ≠ a := by
    rcases ha with z | z
    · rw [z]; exact f1
    · exact fun e => f4 y a z e.symm
  refine ⟨m, hn.sameBut sb haC, fun h3 sb3 => ?_⟩
  exact ⟨_, H', I2.turned (t' := s2.toks) (fun b o hb e => (sb3.2 b hb).trans e) f0 f1 f3 f4 f5, q⟩
theorem sw_trueD {kx vx : Expr} {gs : List Comprehension} {scope : Scope} {pos py : Pos} {y : Str} {l : Nat} {env : Env} (hk : env.scope.kind = .function) (hy : env.scope.names.lookup y = some .local) (hl : (py.line == pos.line) = true)
    (ha : (scope.names.any fun (n, k) => n == y && (k == .local || k == .cell)) = false) : swapsWith (.DictComp kx vx gs scope pos) (some (.Name y py)) l env = pure true := by
  have ky : env.kindOf y = some .local := hy
  have hb : env.blockKind = .function := by unfold Env.blockKind; rw [hk]; rfl
  unfold swapsWith
  simp only [hb, ky, ha, Expr.pos, hl]
  rfl
end
end Lr

/-! # Replays of a closed lot; dicts in drawn orders -/
namespace Lr
open PySem PySem.Spec PyProof.Rows L2 RZ
/-- for .. in zip(two lists or two tuples of one length) -/
theorem for_zip {K : PySem.W.Frag} {a b : Addr} {xs ys : List V} {ta : TA} {g : TG} {tb : TS} {D : Ends} {σ : L2.St} {H : Hp} {k : Bool} (hta : ∀ R : List V → Hp → Prop, R [.ref a, .ref b] H → ta σ H R) (hl : xs.length = ys.length) (hx : SqK k K H a xs) (hy : SqK k K H b ys)
    (Pv : Nat → L2.St → Hp → Prop) (h0 : Pv 0 σ H) (hk : ∀ i σ' H', i ≤ xs.length → Pv i σ' H' → SqK k K H' a xs ∧ SqK k K H' b ys)
    (hs : ∀ i x y T σ' H', xs[i]? = some x → ys[i]? = some y → Pv i σ' H' → H' T = none → g (.ref T) σ' (upd H' T (.tup [x, y])) fun σ2 H2 => tb { D with nx := Pv (i + 1), ct := Pv (i + 1), bk := D.nx } σ2 H2) (hd : ∀ σ' H', Pv xs.length σ' H' → D.nx σ' H') :
    tFor (iZipA K ta) g tb D σ H := by
  refine hta _ ⟨a, b, xs, ys, rfl, ?_⟩
  have main : ∀ (J : It), (∀ i H', SqK k K H' a xs → SqK k K H' b ys → i < xs.length → J.go i H') → (∀ i H', SqK k K H' a xs → SqK k K H' b ys → i = xs.length → J.stop i H') →
      (∀ i H' v H'', SqK k K H' a xs → SqK k K H' b ys → J.yld i H' v H'' → ∃ T x y, v = .ref T ∧ H' T = none ∧ H'' = upd H' T (.tup [x, y]) ∧ xs[i]? = some x ∧ ys[i]? = some y) →
      ∃ W : Nat → Nat → L2.St → Hp → Prop, (∃ m, W 0 m σ H) ∧ ∀ i m σ H, W i m σ H →
      (J.stop i H ∧ D.nx σ H) ∨ (J.go i H ∧ ∃ N : L2.St → Hp → Prop, (∀ σ' H', N σ' H' → ∃ m', m' < m ∧ W (i + 1) m' σ' H') ∧ ∀ v H', J.yld i H v H' → g v σ H' fun σ2 H2 => tb { D with nx := N, ct := N, bk := D.nx } σ2 H2) := by
    intro J jg js jy
    refine ⟨fun i m σ H => m = xs.length - i ∧ i ≤ xs.length ∧ Pv i σ H, ⟨xs.length, rfl, Nat.zero_le _, h0⟩, ?_⟩
    rintro i m σ H ⟨rfl, hi, p⟩
    obtain ⟨q1, q2⟩ := hk i σ H hi p
    by_cases hlt : i < xs.length
    · refine .inr ⟨jg i H q1 q2 hlt, Pv (i + 1), fun σ' H' p' => ⟨xs.length - (i + 1), by omega, rfl, hlt, p'⟩, fun v H' hv => ?_⟩
      obtain ⟨T, x, y, rfl, nT, rfl, ex, ey⟩ := jy i H v H' q1 q2 hv
      exact hs i x y T σ H ex ey p nT
    · have e : i = xs.length := by omega
      subst e
      exact .inl ⟨js _ H q1 q2 rfl, hd σ H p⟩
  cases k with
  | true =>
    refine .inl ⟨hx, hy, main _ (fun i H' q1 q2 hi => ⟨xs, ys, xs[i], ys[i]'(by omega), q1, q2, List.getElem?_eq_getElem hi, List.getElem?_eq_getElem _⟩) (fun i H' q1 q2 hi => ⟨xs, ys, q1, q2, .inl (by omega)⟩) ?_⟩
    rintro i H' v H'' q1 q2 ⟨T, x, y, rfl, nT, rfl, e1, e2⟩
    exact ⟨T, x, y, rfl, nT, rfl, e1 xs q1, e2 ys q2⟩
  | false =>
    refine .inr ⟨hx, hy, main _ (fun i H' q1 q2 hi => ⟨xs, ys, xs[i], ys[i]'(by omega), q1, q2, List.getElem?_eq_getElem hi, List.getElem?_eq_getElem _⟩) (fun i H' q1 q2 hi => ⟨xs, ys, q1, q2, .inl (by omega)⟩) ?_⟩
    rintro i H' v H'' q1 q2 ⟨T, x, y, rfl, nT, rfl, e1, e2⟩
    exact ⟨T, x, y, rfl, nT, rfl, e1 xs q1, e2 ys q2⟩
/-! ### a clean replay's rows -/
def rowN (L : LogM) (rd : Int) : PyData := .tuple [.int rd, .tuple ((needsP L rd).map pvD)]
theorem found_need {L : LogM} {ks : List Int} {f : Str → Option Int} {rd : Int} {g : Str → Option Int} (hg : ∀ n ∈ readsAt L rd, g n = needAt L rd.toNat n) : foundD (readsAt L rd) g = .tuple ((needsP L rd).map pvD) := by
  unfold foundD needsP
  rw [List.map_map]
  congr 1
  refine List.map_congr_left fun n hn => ?_
  rw [hg n hn]
  rfl
theorem clean_walk {L : LogM} {ks : List Int} {f : Str → Option Int} (lo : Lot L ks) (hc : ∀ rd ∈ ks, Clean L ks f rd) : ∀ (m : Nat) (ps rest : List Int), ps.length = m → ks = ps ++ rest → ∀ d ∈ (walkL L ps f).1, ∃ rd ∈ ks, d = rowN L rd
  | 0, ps, rest, h, _ => by
    rw [List.length_eq_zero_iff.mp h]
    exact fun d hd => by cases hd
  | m + 1, ps, rest, h, e => by
    have hne : ps ≠ [] := fun z => by rw [z] at h; cases h
    obtain ⟨k, qs, rfl⟩ : ∃ k qs, ps = qs ++ [k] := ⟨ps.getLast hne, ps.dropLast, (List.dropLast_concat_getLast hne).symm⟩
    have hq : qs.length = m := by rw [List.length_append] at h; simpa using h
    have e' : ks = qs ++ (k :: rest) := by rw [e, List.append_assoc]; rfl
    have hk : k ∈ ks := by rw [e']; simp
    have hb := lo.bd k hk
    have hf : (ks.filter fun j => decide (j < k)) = qs := by
      rw [e']
      exact filter_pre (by rw [← e']; exact lo.asc)
    have hcl := hc k hk
    unfold Clean at hcl
    rw [hf] at hcl
    have e3 : readsAt L k = (rowAt L k.toNat).1 := by unfold readsAt; rw [if_neg (by omega)]
    rw [walkL_snoc]
    intro d hd
    rcases List.mem_append.mp hd with hd | hd
    · exact clean_walk lo hc m qs _ hq e' d hd
    · rw [List.mem_singleton.mp hd]
      refine ⟨k, hk, ?_⟩
      unfold rowN
      rw [← e3, found_need (ks := ks) (f := f) hcl]
theorem clean_rows {L : LogM} {ks : List Int} {f : Str → Option Int} (lo : Lot L ks) (hc : ∀ rd ∈ endN L :: ks, Clean L ks f rd) : ∀ d ∈ walkD L ks f, ∃ rd ∈ endN L :: ks, d = rowN L rd := by
  intro d hd
  unfold walkD at hd
  rcases List.mem_append.mp hd with hd | hd
  · obtain ⟨rd, h1, h2⟩ := clean_walk lo (fun r hr => hc r (List.mem_cons_of_mem _ hr)) ks.length ks [] rfl (by simp) d hd
    exact ⟨rd, List.mem_cons_of_mem _ h1, h2⟩
  · rw [List.mem_singleton.mp hd]
    refine ⟨endN L, List.mem_cons_self, ?_⟩
    have hcl := hc (endN L) List.mem_cons_self
    have e : (ks.filter fun k => decide (k < endN L)) = ks := List.filter_eq_self.mpr fun k hk => by
      have := lo.bd k hk
      unfold endN
      simp
      omega
    unfold Clean at hcl
    rw [e] at hcl
    have er : readsAt L (endN L) = L.names := by unfold readsAt endN; rw [if_pos rfl]
    unfold rowN
    rw [← found_need (ks := ks) (f := f) hcl, er]
    rfl
theorem endS_lot {L : LogM} {ks : List Int} (lo : Lot L ks) : ∀ rd ∈ endN L :: ks, 1 ≤ rd ∧ rd ≤ (L.rows.length : Int) + 1 := fun rd hr => by
  rcases List.mem_cons.mp hr with rfl | z
  · unfold endN
    omega
  · have := lo.bd rd z
    omega
/-- wrong_in(log, rows), nothing wrong -/
def spWrongIn (Cl : Addr) : Sp := fun vs H Q _ => ∃ (G : Hp) (C : List Cell) (x p : Addr) (L : LogM) (ds : List PyData) (us : List V), vs = [.ref x, .ref p] ∧ WF G C H ∧ LogAt Cl G x L ∧ Sees G C p (.lst us) ∧ Reps G ds us ∧ (∀ d ∈ ds, ∃ rd, 1 ≤ rd ∧ rd ≤ (L.rows.length : Int) + 1 ∧ d = rowN L rd) ∧
  ∀ (G' H' : Hp), Same G G' → WF G' C H' → Q .non H'
/-- first_wrong(log, disk, numbers) of a clean lot -/
def spFirstWrong (Cl : Addr) : Sp := fun vs H Q _ => ∃ (G : Hp) (C : List Cell) (x : Addr) (L : LogM) (es : List (PyData × PyData)) (dn : PyData) (vd vn : V) (ks : List Int), vs = [.ref x, vd, vn] ∧ WF G C H ∧ LogAt Cl G x L ∧ RepC G C (.dict es) vd ∧ RepC G C dn vn ∧ fitsB L (.dict es) = true ∧
  (∀ ds, itemsD dn = some ds → ds.length ≤ 100000) ∧ numsD dn L.rows.length = some ks ∧ Lot L ks ∧ (∀ rd ∈ endN L :: ks, Clean L ks (dkOf es) rd) ∧
  ∀ (G' H' : Hp), Same G G' → WF G' C H' → Q .non H'
/-- _law_ais_clean(log, needs, disk, numbers) of a clean lot -/
def spAisClean : Sp := fun vs H Q _ => ∃ (G : Hp) (C : List Cell) (a nd dk b : Addr) (L : LogM) (nus : List V) (kvs : List (Key × V)) (f : Str → Option Int) (ks : List Int), vs = [.ref a, .ref nd, .ref dk, .ref b] ∧ WF G C H ∧ LogV G a L ∧
  G nd = some (.lst nus) ∧ Reps G (lnsD L) nus ∧ Sees G C dk (.dK kvs) ∧ (∀ n ∈ L.names, valV kvs (Sum.inr n : Key) = some (vD (f n))) ∧ Sees G C b (.lst (ks.map V.int)) ∧ Lot L ks ∧ ks.length ≤ 100000 ∧ (∀ rd ∈ endN L :: ks, Clean L ks f rd) ∧
  ∀ (G' H' : Hp), Same G G' → WF G' C H' → Q (.bl true) H'
/-- _law_turned(stream, given) -/
def spTurned : Sp := fun vs H Q _ => ∃ (G : Hp) (st cs : Addr) (n : Nat) (C : List Cell) (a : Addr) (ns : List Str) (f : Str → Option Int), vs = [.ref st, .ref a] ∧ G a = some (.dK (dkL ns f)) ∧ ns.Nodup ∧ ns.length ≤ 12 ∧ n + 20 < 2 ^ 40 ∧ SW G st cs n C H ∧
  ∀ (ms : List Str) (p : Addr) (G' H' : Hp), ms.Perm ns → Same G G' → SW G' st cs (n + 12) ((p, .dK (dkL ms f)) :: C) H' → Q (.ref p) H'
/-- _law_gone(stream, log) -/
def spGone : Sp := fun vs H Q _ => ∃ (G : Hp) (st cs : Addr) (n : Nat) (C : List Cell) (a : Addr) (L : LogM), vs = [.ref st, .ref a] ∧ LogV G a L ∧ n + 2 < 2 ^ 40 ∧ SW G st cs n C H ∧
  ∀ (g : Nat) (H' : Hp), g ≤ L.rows.length → SW G st cs (n + 2) C H' → Q (.int g) H'
theorem row_at {H : Hp} {L : LogM} {rd : Int} {v : V} (r : Rep H (rowN L rd) v) : ∃ a b ws, v = .ref a ∧ H a = some (.tup [.int rd, .ref b]) ∧ H b = some (.tup ws) ∧ Reps H ((needsP L rd).map pvD) ws := by
  cases r with
  | tup h rs =>
    cases rs with
    | cons a rs =>
      cases a
      cases rs with
      | cons b rs =>
        cases rs
        cases b with
        | tup hb rb => exact ⟨_, _, _, rfl, h, hb, rb⟩
theorem pv_plain (q : Str × Int) : Plain (pvD q) := ⟨⟨trivial, trivial, trivial⟩, by show 2 ≤ 100000; decide⟩
theorem eqv_self (q : Str × Int) : PyData.eqv (pvD q) (pvD q) = true := by
  show ((q.1 == q.1) && ((q.2 == q.2) && true)) = true
  simp
theorem pv_shaped {q : Str × Int} (h : nameB q.1 = true) : SeqAt.shaped (pvD q) = true := by
  have a := nameB_strOk h
  unfold SeqAt.shaped
  rw [Bool.and_eq_true]
  refine ⟨?_, decide_eq_true ?_⟩
  · show PyData.canLayAll0 [.str q.1, .int q.2] = true
    simp [PyData.canLayAll0, PyData.canLay0, a]
  · show (PyData.tuple [.str q.1, .int q.2]).depth ≤ 64
    simp [PyData.depth, PyData.depthAll]
end Lr
namespace Lr
open PySem PySem.Spec PyProof.Rows L2
theorem SW.itemsG {G H H' : Hp} {st cs p : Addr} {n : Nat} {C : List Cell} {ts : List Addr} {kvs : List (Key × V)} (W : SW G st cs n C H) (s : Same H H') (np : H p = none) (nts : ∀ t ∈ ts, H t = none) (hp : H' p = some (.lst (ts.map V.ref)))
    (pr : Paired (fun (t : Addr) (q : Key × V) => H' t = some (.tup [kV q.1, q.2])) ts kvs) : ∃ G', Same G G' ∧ SW G' st cs n C H' ∧ G' p = some (.lst (ts.map V.ref)) ∧ Paired (fun (t : Addr) (q : Key × V) => G' t = some (.tup [kV q.1, q.2])) ts kvs := by
  classical
  obtain ⟨l, a, b, c, w, h⟩ := W
  have hn : ∀ t ∈ p :: ts, H t = none := fun t ht => by
    rcases List.mem_cons.mp ht with rfl | ht
    · exact np
    · exact nts t ht
  have pm : ∀ {l1 : List Addr} {l2 : List (Key × V)}, (∀ t ∈ l1, t ∈ p :: ts) → Paired (fun (t : Addr) (q : Key × V) => H' t = some (.tup [kV q.1, q.2])) l1 l2 → Paired (fun (t : Addr) (q : Key × V) => (if t ∈ p :: ts then H' t else G t) = some (.tup [kV q.1, q.2])) l1 l2 := by
    intro l1 l2 hl h
    induction h with
    | nil => exact .nil
    | cons h t ih => exact .cons (by rw [if_pos (hl _ List.mem_cons_self)]; exact h) (ih fun x hx => hl x (List.mem_cons_of_mem _ hx))
  refine ⟨fun t => if t ∈ p :: ts then H' t else G t, fun t o e => ?_, ⟨l, a, b, c, WF.grow w s (fun t o e => ?_) (fun t e => ?_), h⟩, ?_, pm (fun t ht => List.mem_cons_of_mem _ ht) pr⟩
  · show (if t ∈ p :: ts then H' t else G t) = some o
    by_cases c : t ∈ p :: ts
    · have := w.gnone (hn t c)
      rw [this] at e
      cases e
    · rw [if_neg c]
      exact e
  · have e : (if t ∈ p :: ts then H' t else G t) = some o := e
    by_cases c : t ∈ p :: ts
    · rw [if_pos c] at e
      exact e
    · rw [if_neg c] at e
      exact s _ _ (w.sub _ _ e)
  · by_cases c : t ∈ p :: ts
    · exact .inr (hn t c)
    · have e : (if t ∈ p :: ts then H' t else G t) ≠ none := e
      rw [if_neg c] at e
      exact .inl e
  · show (if p ∈ p :: ts then H' p else G p) = _
    rw [if_pos List.mem_cons_self]
    exact hp
theorem paired_perm {α β : Type} {F : α → β → Prop} {a b : List α} (h : b.Perm a) : ∀ {c : List β}, Paired F a c → ∃ d, d.Perm c ∧ Paired F b d := by
  have key : ∀ {a b : List α}, a.Perm b → ∀ {c : List β}, Paired F a c → ∃ d, d.Perm c ∧ Paired F b d := by
    intro a b h
    induction h with
    | nil => exact fun p => ⟨_, List.Perm.refl _, p⟩
    | cons x h ih =>
      intro c p
      cases p with
      | cons r t =>
        obtain ⟨d, h1, h2⟩ := ih t
        exact ⟨_, h1.cons _, .cons r h2⟩
    | swap x y l =>
      intro c p
      cases p with
      | cons r t =>
        cases t with
        | cons r2 t2 => exact ⟨_, List.Perm.swap _ _ _, .cons r2 (.cons r t2)⟩
    | trans h1 h2 i1 i2 =>
      intro c p
      obtain ⟨d, a1, a2⟩ := i1 p
      obtain ⟨e, b1, b2⟩ := i2 a2
      exact ⟨e, b1.trans a1, b2⟩
  exact fun {c} => key h.symm
theorem perm_refs {ys : List V} {ts : List Addr} (h : ys.Perm (ts.map V.ref)) : ∃ us : List Addr, us.Perm ts ∧ ys = us.map V.ref := by
  have pr : ∀ ts : List Addr, Paired (fun (v : V) (t : Addr) => v = .ref t) (ts.map V.ref) ts := fun ts => by
    induction ts with
    | nil => exact .nil
    | cons t r ih => exact .cons rfl ih
  obtain ⟨us, h1, h2⟩ := paired_perm h (pr ts)
  refine ⟨us, h1, ?_⟩
  have : ∀ {ys : List V} {us : List Addr}, Paired (fun (v : V) (t : Addr) => v = .ref t) ys us → ys = us.map V.ref := by
    intro ys us h
    induction h with
    | nil => rfl
    | cons h t ih => rw [List.map_cons, h, ih]
  exact this h2
end Lr
namespace Lr
open PySem PySem.Spec PyProof.Rows L2
theorem needs_foundL {L : LogM} {rd : Int} : PyData.list ((needsP L rd).map pvD) = foundLD (readsAt L rd) (needAt L rd.toNat) := by
  unfold needsP foundLD
  rw [List.map_map]
  rfl
theorem reads_in {L : LogM} (rp : ∀ r ∈ L.rows, ∀ n ∈ r.1, n ∈ L.names) {rd : Int} : ∀ n ∈ readsAt L rd, n ∈ L.names := fun n hn => needs_pages rp rd (n, ver (L.rows.take (rd.toNat - 1)) n) (List.mem_map.mpr ⟨n, hn, rfl⟩)
end Lr
namespace Lr
open PySem PySem.Spec PyProof.Rows L2
/-- _law_rounds(log, disk, gone) -/
def spRounds : Sp := fun vs H Q _ => ∃ (G : Hp) (C : List Cell) (a dk : Addr) (L : LogM) (f : Str → Option Int) (g : Int), vs = [.ref a, .ref dk, .int g] ∧ WF G C H ∧ LogV G a L ∧ Sees G C dk (.dK (dkL L.names f)) ∧ 0 ≤ g ∧
  (DemOk L f g none → ∀ (G' H' : Hp), Same G G' → WF G' C H' → Q .non H') ∧
  (∀ rs : List (List Int), DemOk L f g (some rs.flatten) → rs.length ≤ 61 → ∀ (G' H' : Hp) (p : Addr) (us : List V), Same G G' → WF G' C H' → G' p = some (.lst us) → Reps G' (rs.map fun r => .list (r.map .int)) us → Q (.ref p) H')
/-- _law_demands(log, disk, gone) -/
def spLawDemands : Sp := fun vs H Q _ => ∃ (G : Hp) (C : List Cell) (a dk : Addr) (L : LogM) (f : Str → Option Int) (g : Int), vs = [.ref a, .ref dk, .int g] ∧ WF G C H ∧ LogV G a L ∧ Sees G C dk (.dK (dkL L.names f)) ∧ 0 ≤ g ∧
  (DemOk L f g none → ∀ (G' H' : Hp), Same G G' → WF G' C H' → Q .non H') ∧
  (∀ ys, DemOk L f g (some ys) → ys.Pairwise (· < ·) → ∀ (G' H' : Hp) (p : Addr), Same G G' → WF G' ((p, .lst (ys.map V.int)) :: C) H' → Q (.ref p) H')
theorem DemOk.perm {L : LogM} {f : Str → Option Int} {g : Int} {S T : List Int} (h : DemOk L f g (some S)) (hp : T.Perm S) : DemOk L f g (some T) :=
  ⟨fun rd hrd q hq => by
    have hrd' : rd ∈ endN L :: S := by
      rcases List.mem_cons.mp hrd with rfl | z
      · exact List.mem_cons_self
      · exact List.mem_cons_of_mem _ (hp.mem_iff.mp z)
    rcases h.1 rd hrd' q hq with z | ⟨a, b⟩
    · exact .inl (hp.mem_iff.mpr z)
    · exact .inr ⟨a, okL_anti (fun w hw => hp.mem_iff.mp hw) b⟩, fun v hv => h.2.1 v (hp.mem_iff.mp hv), hp.nodup_iff.mpr h.2.2.1, fun T' hT v hv => h.2.2.2 T' hT v (hp.mem_iff.mp hv)⟩
end Lr
namespace Lr
open PySem PySem.Spec PyProof.Rows L2
/-- what is told of the demanded records -/
def ddD : Option (List Int) → PyData
  | none => .none
  | some ys => .list (ys.map .int)
theorem ddD_eqa {r : Option (List Int)} (h : ∀ ys, r = some ys → ys.length ≤ 60) : Eqa (ddD r) ∧ dpS (ddD r) < 5 := by
  cases r with
  | none => exact ⟨trivial, by show 0 < 5; decide⟩
  | some ys =>
    have e1 : ∀ ys : List Int, Eqas (ys.map PyData.int) := fun ys => by
      induction ys with
      | nil => trivial
      | cons y r ih => exact ⟨trivial, ih⟩
    have e2 : ∀ ys : List Int, dpSL (ys.map PyData.int) = 0 := fun ys => by
      induction ys with
      | nil => rfl
      | cons y r ih =>
        show max 0 (dpSL (r.map PyData.int)) = 0
        rw [ih]
        rfl
    have := h ys rfl
    refine ⟨⟨e1 ys, by rw [List.length_map]; omega⟩, ?_⟩
    show dpSL (ys.map PyData.int) + 1 < 5
    rw [e2]
    decide
/-- demanded records, ascending -/
def DemA (L : LogM) (f : Str → Option Int) (g : Int) (r : Option (List Int)) : Prop := DemOk L f g r ∧ ∀ ys, r = some ys → ys.Pairwise (· < ·)
theorem DemA.one {L : LogM} {f : Str → Option Int} {g : Int} {a b : Option (List Int)} (ha : DemA L f g a) (hb : DemA L f g b) : a = b := by
  rcases ha.1.one hb.1 with ⟨rfl, rfl⟩ | ⟨S, T, rfl, rfl, hp⟩
  · rfl
  · rw [pw_int hp ((ha.2 S rfl).imp fun h => Int.le_of_lt h) (hb.2 T rfl)]
theorem DemA.lot {L : LogM} {f : Str → Option Int} {g : Int} {ys : List Int} (h : DemA L f g (some ys)) : Lot L ys := ⟨h.2 ys rfl, fun k hk => (h.1.2.1 k hk).2⟩
theorem DemA.len {L : LogM} {f : Str → Option Int} {g : Int} {r : Option (List Int)} (h : DemA L f g r) (l60 : L.rows.length ≤ 60) : ∀ ys, r = some ys → ys.length ≤ 60 := fun ys e => by
  subst e
  have := bd_len h.1.2.2.1 fun v hv => (h.1.2.1 v hv).2
  omega
theorem esL_rep {H : Hp} (f : Str → Option Int) (ns : List Str) : RepK H (esL ns f) (dkL ns f) := dkL_rep f ns
theorem esL_eqa (f : Str → Option Int) : ∀ ns : List Str, EqaK (esL ns f)
  | [] => trivial
  | n :: r => ⟨⟨Sum.inr n, rfl⟩, by
    show Eqa (optD (f n))
    cases f n <;> trivial, esL_eqa f r⟩
theorem esL_out {f : Str → Option Int} {n : Str} : ∀ {ns : List Str}, n ∉ ns → dkOf (esL ns f) n = none := fun {ns} h => by
  have : lookD (esL ns f) n = none := by
    induction ns with
    | nil => rfl
    | cons m r ih =>
      have h' : ¬ (n = m ∨ n ∈ r) := fun z => h (List.mem_cons.mpr z)
      show (if m = n then some (optD (f m)) else lookD (esL r f) n) = none
      rw [if_neg (fun e => h' (.inl e.symm))]
      exact ih fun z => h' (.inr z)
  unfold dkOf
  rw [this]
theorem esL_perm {f : Str → Option Int} {ms ns : List Str} (h : ∀ n, n ∈ ms ↔ n ∈ ns) : dkOf (esL ms f) = dkOf (esL ns f) := by
  funext n
  by_cases c : n ∈ ns
  · rw [esL_dk c, esL_dk ((h n).mpr c)]
  · rw [esL_out c, esL_out (fun z => c ((h n).mp z))]
theorem esL_dp (f : Str → Option Int) : ∀ ns : List Str, dpSK (esL ns f) = 0
  | [] => rfl
  | n :: r => by
    show max (dpS (optD (f n))) (dpSK (esL r f)) = 0
    rw [esL_dp f r]
    cases f n <;> rfl
/-- _law_ais_least(stream, log, made, needs, disk, gone) -/
def spAisLeast (Cl : Addr) : Sp := fun vs H Q _ => ∃ (G : Hp) (st cs : Addr) (n : Nat) (C : List Cell) (a x nd dk : Addr) (L : LogM) (nus : List V) (f : Str → Option Int) (g : Nat), vs = [.ref st, .ref a, .ref x, .ref nd, .ref dk, .int g] ∧ LogV G a L ∧ LogAt Cl G x L ∧ G nd = some (.lst nus) ∧ Reps G (lnsD L) nus ∧ DiskAt G L dk f ∧ g ≤ L.rows.length ∧ n + 100 < 2 ^ 40 ∧ SW G st cs n C H ∧
  ∀ (G' H' : Hp), Same G G' → SW G' st cs (n + 100) C H' → Q (.bl true) H'
theorem tcall5 {sp : Sp} {E : XK} {ta tb tc td te : TE} {σ : L2.St} {H : Hp} {Q : VK} (h : ta σ H fun x H1 => tb σ H1 fun y H2 => tc σ H2 fun z H3 => td σ H3 fun u H4 => te σ H4 fun v H5 => sp [x, y, z, u, v] H5 Q E) : tCall sp [] E (tCons ta (tCons tb (tCons tc (tCons td (tCons te tNil))))) σ H Q := h
end Lr
namespace Lr
open PySem PySem.Spec PyProof.Rows L2
theorem RepC.ownD {G : Hp} {C : List Cell} {D : Addr} {f : Str → Option Int} {ns : List Str} (h : (D, HO.dK (dkL ns f)) ∈ C) (g : G D = none) : RepC G C (.dict (esL ns f)) (.ref D) := by
  refine ⟨upd G D (.dK (dkL ns f)), fun a o e => ?_, .dic upd_same (esL_rep f ns)⟩
  by_cases z : a = D
  · subst z
    rw [upd_same] at e
    cases e
    exact .inr h
  · rw [upd_ne z] at e
    exact .inl e
theorem Okd.f {P : Program} {w : World} {K : PySem.W.Frag} {mg : Str → Option Value} {base : Heap} {CX : CXT} {k : Nat} {x : Str} {ps : List Str} {sp : Sp} (F : Okd P w K mg base CX k x ps [] sp) : Okf P w K mg base CX k x ps sp := by
  obtain ⟨f, fd, ds, a, b, c, v, d⟩ := F
  cases v
  exact ⟨f, fd, a, b, c, d⟩
end Lr
namespace Lr
open PySem PySem.Spec PyProof.Rows L2
theorem reps_ints {H : Hp} : ∀ {ys : List Int} {us : List V}, Reps H (ys.map PyData.int) us → us = ys.map V.int
  | [], _, h => by cases h; rfl
  | y :: r, _, h => by
    cases h with
    | cons a b =>
      cases a
      rw [reps_ints b]
      rfl
theorem ints_at {H : Hp} {ys : List Int} {v : V} (h : Rep H (ddD (some ys)) v) : ∃ q, v = .ref q ∧ H q = some (.lst (ys.map V.int)) := by
  cases h with
  | lst h rs => exact ⟨_, rfl, by rw [h, reps_ints rs]⟩
theorem Lot.filter {L : LogM} {ks : List Int} (lo : Lot L ks) (p : Int → Bool) : Lot L (ks.filter p) := ⟨lo.asc.filter _, fun k hk => lo.bd k (List.mem_filter.mp hk).1⟩
end Lr

/-! # The written chain -/
namespace Lr
open PySem PySem.Spec PyProof.Rows L2
/-- each record needs the one ahead of it -/
structure Chn (L : LogM) : Prop where
  pos : 1 ≤ L.rows.length
  last : ∃ n ∈ L.names, ver L.rows n = L.rows.length
  down : ∀ k : Nat, 2 ≤ k → k ≤ L.rows.length → ∃ n ∈ (rowAt L k).1, ver (L.rows.take (k - 1)) n = ((k - 1 : Nat) : Int)
theorem Chn.all {L : LogM} (h : Chn L) {f : Str → Option Int} (hf : ∀ n ∈ L.names, f n = some 0) (rp : ∀ r ∈ L.rows, ∀ n ∈ r.1, n ∈ L.names) {T : List Int} (hT : Closed L f T) : ∀ v ∈ numsAll L.rows.length, v ∈ T := by
  have key : ∀ j : Nat, j < L.rows.length → ((L.rows.length - j : Nat) : Int) ∈ T := by
    intro j
    induction j with
    | zero =>
      intro _
      obtain ⟨n, hn, e⟩ := h.last
      have hq : (n, ver (L.rows.take ((endN L).toNat - 1)) n) ∈ needsP L (endN L) := by
        unfold needsP
        refine List.mem_map.mpr ⟨n, ?_, rfl⟩
        unfold readsAt endN
        rw [if_pos rfl]
        exact hn
      have e2 : L.rows.take ((endN L).toNat - 1) = L.rows := List.take_of_length_le (by unfold endN; omega)
      rw [e2, e] at hq
      rcases hT (endN L) List.mem_cons_self _ hq with z | ⟨z, _⟩
      · exact z
      · rw [hf n hn] at z
        have := Option.some.inj z
        have := h.pos
        have z : (0 : Int) = (L.rows.length : Int) := by assumption
        omega
    | succ j ih =>
      intro hj
      have a := ih (by omega)
      obtain ⟨n, hn, e⟩ := h.down (L.rows.length - j) (by omega) (by omega)
      have hr : n ∈ readsAt L ((L.rows.length - j : Nat) : Int) := by
        unfold readsAt
        rw [if_neg (by omega)]
        exact hn
      have hq : (n, ver (L.rows.take ((((L.rows.length - j : Nat) : Int)).toNat - 1)) n) ∈ needsP L ((L.rows.length - j : Nat) : Int) := by
        unfold needsP
        exact List.mem_map.mpr ⟨n, hr, rfl⟩
      rw [Int.toNat_natCast, e] at hq
      rcases hT _ (List.mem_cons_of_mem _ a) _ hq with z | ⟨z, _⟩
      · exact z
      · have hn' := needs_pages rp _ _ hq
        rw [hf n hn'] at z
        have z := Option.some.inj z
        have z : (0 : Int) = ((L.rows.length - j - 1 : Nat) : Int) := z
        omega
  intro v hv
  have := mem_numsAll.mp hv
  have a := key (L.rows.length - v.toNat) (by omega)
  have e : ((L.rows.length - (L.rows.length - v.toNat) : Nat) : Int) = v := by omega
  rw [e] at a
  exact a
end Lr
namespace Lr
open PySem PySem.Spec PyProof.Rows L2
/-- the page at a place of the round -/
def cPg (os : List Str) (i : Nat) : Str := (os[i % os.length]?).getD default
def cRow (os : List Str) (i : Nat) : Lr.Row := ([cPg os i], [cPg os (i + 1)])
def cRows (os : List Str) (N : Nat) : List Lr.Row := (List.range N).map (cRow os)
theorem cPg_get {os : List Str} (h : os ≠ []) (i : Nat) : os[i % os.length]? = some (cPg os i) := by
  have hl : 0 < os.length := List.length_pos_iff.mpr h
  have := Nat.mod_lt i hl
  unfold cPg
  rw [List.getElem?_eq_getElem this]
  rfl
theorem cPg_mem {os : List Str} (h : os ≠ []) (i : Nat) : cPg os i ∈ os := List.mem_of_getElem? (cPg_get h i)
theorem cRows_len (os : List Str) (N : Nat) : (cRows os N).length = N := by
  unfold cRows
  rw [List.length_map, List.length_range]
theorem cRows_at {os : List Str} {N k : Nat} (h1 : 1 ≤ k) (h2 : k ≤ N) {ns : List Str} : rowAt ⟨ns, cRows os N⟩ k = cRow os (k - 1) := by
  unfold rowAt cRows
  show (((List.range N).map (cRow os))[k - 1]?).getD ([], []) = _
  rw [List.getElem?_map, List.getElem?_range (by omega)]
  rfl
theorem cRows_succ (os : List Str) (i : Nat) : cRows os (i + 1) = cRows os i ++ [cRow os i] := by
  unfold cRows
  rw [List.range_succ, List.map_append]
  rfl
theorem ver_top {L : LogM} {m : Nat} {n : Str} (h1 : 1 ≤ m) (h2 : m ≤ L.rows.length) (h : n ∈ (rowAt L m).2) : ver (L.rows.take m) n = m := by
  have a := ver_last (rows := L.rows.take m) (wr_take.mpr ⟨(by omega : (1 : Int) ≤ (m : Int)), Int.le_refl _, by omega, by rw [Int.toNat_natCast]; exact h⟩)
  have b := (ver_bd (rows := L.rows.take m) (n := n)).2
  rw [List.length_take] at b
  omega
theorem chn_rows {ns os : List Str} {N : Nat} (hN : 1 ≤ N) (hp : os.Perm ns) (ho : os ≠ []) : Chn ⟨ns, cRows os N⟩ := by
  have hl := cRows_len os N
  refine ⟨by show 1 ≤ (cRows os N).length; omega, ⟨cPg os N, hp.mem_iff.mp (cPg_mem ho N), ?_⟩, fun k h1 h2 => ?_⟩
  · have e : (cRows os N).take N = cRows os N := List.take_of_length_le (by omega)
    have := ver_top (L := ⟨ns, cRows os N⟩) (m := N) (n := cPg os N) hN (by show N ≤ (cRows os N).length; omega) (by
      rw [cRows_at hN (Nat.le_refl _)]
      unfold cRow
      rw [show N - 1 + 1 = N by omega]
      exact List.mem_singleton.mpr rfl)
    have t : ver ((cRows os N).take N) (cPg os N) = N := this
    rw [e] at t
    show ver (cRows os N) _ = ((cRows os N).length : Int)
    rw [t, hl]
  · have h2 : k ≤ N := by
      have h2 : k ≤ (cRows os N).length := h2
      omega
    refine ⟨cPg os (k - 1), ?_, ver_top (by omega) (by show k - 1 ≤ (cRows os N).length; omega) ?_⟩
    · rw [cRows_at (by omega) h2]
      exact List.mem_singleton.mpr rfl
    · rw [cRows_at (by omega) (by omega)]
      unfold cRow
      rw [show k - 1 - 1 + 1 = k - 1 by omega]
      exact List.mem_singleton.mpr rfl
/-- what is demanded of the chain's first disk -/
theorem Chn.first {L : LogM} (h : Chn L) {f : Str → Option Int} (hf : ∀ n ∈ L.names, f n = some 0) (rp : ∀ r ∈ L.rows, ∀ n ∈ r.1, n ∈ L.names) {r : Option (List Int)} : (DemA L f 0 r → r = some (numsAll L.rows.length)) ∧ (DemA L f 1 r → r = none) := by
  constructor
  · intro hA
    have cl : Closed L f (numsAll L.rows.length) := by
      intro rd hrd q hq
      have b := needs_bd hq
      by_cases c : q.2 = 0
      · refine .inr ⟨?_, fun w hw _ => ?_⟩
        · rw [hf _ (needs_pages rp _ _ hq), c]
        · have := mem_numsAll.mp hw
          omega
      · exact .inl (mem_numsAll.mpr (by omega))
    cases r with
    | none =>
      obtain ⟨v, hv, hle⟩ := hA.1 _ cl
      have := mem_numsAll.mp hv
      omega
    | some S =>
      have asc := hA.2 S rfl
      have e : S.Perm (numsAll L.rows.length) := (List.perm_ext_iff_of_nodup hA.1.2.2.1 ((numsAll_asc _).imp fun h => by omega)).mpr fun v => ⟨hA.1.2.2.2 _ cl v, fun hv => h.all hf rp hA.1.1 v hv⟩
      rw [pw_int e (asc.imp fun h => by omega) (numsAll_asc _)]
  · intro hA
    cases r with
    | none => rfl
    | some S =>
      have := h.all hf rp hA.1.1 1 (mem_numsAll.mpr (by have := h.pos; omega))
      have := (hA.1.2.1 1 this).1
      omega
theorem dem_last {L : LogM} {f : Str → Option Int} {g : Int} (hf : ∀ n ∈ L.names, f n = some (ver L.rows n)) {r : Option (List Int)} (hA : DemA L f g r) : r = some [] := by
  have cl : Closed L f [] := by
    intro rd hrd q hq
    rw [List.mem_singleton.mp hrd] at hq
    unfold needsP at hq
    obtain ⟨n, hn, rfl⟩ := List.mem_map.mp hq
    have e2 : L.rows.take ((endN L).toNat - 1) = L.rows := List.take_of_length_le (by unfold endN; omega)
    refine .inr ⟨?_, fun w hw => by cases hw⟩
    unfold readsAt endN at hn
    rw [if_pos rfl] at hn
    rw [e2]
    exact hf n hn
  cases r with
  | none =>
    obtain ⟨v, hv, _⟩ := hA.1 _ cl
    cases hv
  | some S =>
    cases S with
    | nil => rfl
    | cons v r =>
      have := hA.1.2.2.2 _ cl v List.mem_cons_self
      cases this
/-- _law_achain(stream) -/
def spChain : Sp := fun vs H Q _ => ∃ (G : Hp) (st cs : Addr) (n : Nat) (C : List Cell), vs = [.ref st] ∧ n + 4000 < 2 ^ 40 ∧ SW G st cs n C H ∧
  ∀ (L : LogM) (a d t : Addr) (ps : List Addr) (p0 p1 : Addr) (G' H' : Hp), LogV G' a L → Chn L → G' t = some (.tup [.ref a, .ref d]) → G' d = some (.lst (ps.map V.ref)) → ps.length = 5 → ps[0]? = some p0 → ps[1]? = some p1 → (∀ q ∈ ps, ∃ f, DiskAt G' L q f) →
    DiskAt G' L p0 (fun _ => some 0) → DiskAt G' L p1 (fun n => some (ver L.rows n)) → Same G G' → SW G' st cs (n + 4000) C H' → Q (.ref t) H'
end Lr
namespace Lr
open PySem PySem.Spec PyProof.Rows L2
theorem needs_end {L : LogM} : needsP L (endN L) = L.names.map fun n => (n, ver L.rows n) := by
  have e2 : L.rows.take ((endN L).toNat - 1) = L.rows := List.take_of_length_le (by unfold endN; omega)
  unfold needsP
  rw [e2]
  unfold readsAt endN
  rw [if_pos rfl]
theorem pairs_at {G : Hp} : ∀ {qs : List (Str × Int)} {ws : List V}, Reps G (qs.map pvD) ws → ∃ ts : List Addr, ws = ts.map V.ref ∧ Paired (fun (t : Addr) (q : Str × Int) => G t = some (.tup [.str q.1, .int q.2])) ts qs
  | [], _, h => by cases h; exact ⟨[], rfl, .nil⟩
  | q :: r, _, h => by
    cases h with
    | cons a b =>
      obtain ⟨ts, rfl, p⟩ := pairs_at b
      cases a with
      | tup h rs =>
        cases rs with
        | cons x rs =>
          cases x
          cases rs with
          | cons y rs =>
            cases y
            cases rs
            exact ⟨_ :: ts, rfl, .cons h p⟩
/-- what the END needs, as dict() takes it -/
theorem needs_last_at {L : LogM} {G : Hp} {nus : List V} (r : Reps G (lnsD L) nus) : ∃ (b : Addr) (ts : List Addr), atI nus (-1) = some (.ref b) ∧ G b = some (.lst (ts.map V.ref)) ∧ Paired (fun (t : Addr) (kv : Key × V) => G t = some (.tup [kV kv.1, kv.2])) ts (dkL L.names fun n => some (ver L.rows n)) := by
  have l := r.length
  unfold lnsD at l
  rw [List.length_map, List.length_range] at l
  obtain ⟨v, hv, rv⟩ := lns_get r (Nat.le_refl _)
  have hl : nus.getLast? = some v := by
    rw [List.getLast?_eq_getElem?]
    rw [show nus.length - 1 = L.rows.length by omega]
    exact hv
  unfold lnD at rv
  have e : ((L.rows.length + 1 : Nat) : Int) = endN L := by unfold endN; omega
  rw [e, needs_end] at rv
  cases rv with
  | lst hb rs =>
    obtain ⟨ts, rfl, p⟩ := pairs_at rs
    refine ⟨_, ts, last_atI hl, hb, ?_⟩
    have key : ∀ {ts : List Addr} {ns : List Str}, Paired (fun (t : Addr) (q : Str × Int) => G t = some (.tup [.str q.1, .int q.2])) ts (ns.map fun n => (n, ver L.rows n)) → Paired (fun (t : Addr) (kv : Key × V) => G t = some (.tup [kV kv.1, kv.2])) ts (dkL ns fun n => some (ver L.rows n)) := by
      intro ts ns
      induction ns generalizing ts with
      | nil => intro h; cases h; exact .nil
      | cons n r ih =>
        intro h
        cases h with
        | cons a b => exact .cons a (ih b)
    exact key p
end Lr

namespace Lw_below
open PySem PySem.Spec PyProof.Rows L2 Lr
def top (i : Nat) : Stmt := PySem.Challenge.pw_leastredo_k12_whole_least_redo_of_great.main.body.getD i (.Pass ⟨0, 0, 0, 0⟩)
abbrev s_below : Stmt := top 38
abbrev N_below : List Str := ["stream", "many", "cell", "digit", "mixed"]
theorem sc_below : FnScope ["stream", "many", "cell", "digit", "mixed"] ["stream", "many"] (defScope s_below) := ⟨rfl, rfl, rfl, by decide +kernel, rfl, by decide +kernel, by decide +kernel⟩
structure Txt (mg : Str → Option Value) : Prop where
  b : Bl mg
section
variable {P : Program} {w : World} {K : PySem.W.Frag} {mg : Str → Option Value} {base : Heap}
theorem ok_below (T : Txt mg) (F : FD K mg "_law_below" s_below ["stream", "many"]) : Okf P w K mg base CX0 1 "_law_below" ["stream", "many"] spBelow := by
  refine F.ok sc_below (fun vs H Q E h => ?_) (fun f cdv A outer s H vs Q E hr h => ?_)
  · obtain ⟨G, st, cs, n, C, m, rfl, _⟩ := h
    rfl
  · obtain ⟨G, st, cs, n, C, m, rfl, m0, m60, n50, ⟨l, a, b, c, w, a0, b0, bn, c0, c9⟩, k⟩ := h
    refine ⟨_, (pss_cons (ps_asg (pe_op (op_addA (K := K)) (pe_ix (xix (K := K)) (pv 0) pe_int (fun _ _ => rfl)) pe_int) (pg_sub (pv 0) pe_int set_list))
    (pss_cons (ps_while PassesOwn.never (PW.pt (pw_and (pt_cmpR (op_eqA (K := K) hr.units) (pe_ix (xix (K := K)) (pv 0) pe_int (fun _ _ => rfl)) pe_int (nomark _)) (pw_and1 (pt_cmpR (op_neA (K := K) hr.units) (pe_ix (xix (K := K)) (pv 0) pe_int (fun _ _ => rfl)) (pe_lst pa_nil) (nomark _)))))
    (pss_cons (ps_set (i := 2) sc_below.nd rfl (Or.inl rfl) (xbm (K := K) PySem.F.plainAttrs_list PySem.F.slot_list_pop PySem.F.type_list_pop mt_popAt (pe_ix (xix (K := K)) (pv 0) pe_int (fun _ _ => rfl)) (pa_cons pe_int pa_nil)))
    (pss_cons (ps_asg (pe_op op_mod (pe_callTy call_int1 (by rfl) T.b.int (by decide +kernel) (pa_cons (pe_op (op_addA (K := K)) (pe_op (op_addA (K := K)) (pe_op op_mulA (pe_ix (xix (K := K)) (pv 0) pe_int (fun _ _ => rfl)) pe_int) (pv 2)) pe_int) pa_nil)) pe_int) (pg_sub (pv 0) pe_int set_list))
    (pss_one (ps_asg (pe_ifExp (pt_cmpR op_ge (pv 2) (pe_op op_pow pe_int pe_int) (nomark _)) (pv 2) pe_int) (pg_sub (pv 0) pe_int set_list))))))
    (pss_cons (ps_if (pt_cmpR op_gt (pe_ix (xix (K := K)) (pv 0) pe_int (fun _ _ => rfl)) pe_int (nomark _))
    (pss_cons (ps_set (i := 3) sc_below.nd rfl (Or.inl rfl) (pe_op op_mod (pe_callTy call_int1 (by rfl) T.b.int (by decide +kernel) (pa_cons (pe_ix (xix (K := K)) (pv 0) pe_int (fun _ _ => rfl)) pa_nil)) (pv 1)))
    (pss_cons (ps_asg (pe_op op_fdivW (pe_ix (xix (K := K)) (pv 0) pe_int (fun _ _ => rfl)) (pv 1)) (pg_sub (pv 0) pe_int set_list))
    (pss_one (ps_ret (pv 3)))))
    pss_nil)
    (pss_cons (ps_set (i := 4) sc_below.nd rfl (Or.inl rfl) (pe_op op_mod (pe_callTy call_int1 (by rfl) T.b.int (by decide +kernel) (pa_cons (pe_op op_pow (pe_op (op_addA (K := K)) (pe_op (op_addA (K := K)) (pe_ix (xix (K := K)) (pv 0) pe_int (fun _ _ => rfl)) (pe_op op_mulA pe_int (pe_ix (xix (K := K)) (pv 0) pe_int (fun _ _ => rfl)))) pe_int) pe_int) pa_nil)) pe_int))
    (pss_one (ps_ret (pe_op op_mod (pe_op op_mod (pe_callTy call_int1 (by rfl) T.b.int (by decide +kernel) (pa_cons (pe_op op_pow (pe_op (op_addA (K := K)) (pe_op (op_addA (K := K)) (pe_op op_mulA (pv 4) pe_int) (pe_op op_mulA pe_int (pe_ix (xix (K := K)) (pv 0) pe_int (fun _ _ => rfl)))) pe_int) pe_int) pa_nil)) pe_int) (pv 1)))))))), ?_⟩
    refine ⟨_, rfl, rIx.lst w.hd rfl (rAddA.int ⟨_, rfl, rSetL.at w.hd rfl ?_⟩)⟩
    have w1 := w.set (u := .lst [.ref cs, .int a, .int (b + 1), .int c])
    refine ⟨fun j σ H' => ∃ (l : List Int) (a c : Int) (x : Option V), j = l.length ∧ σ = [some (.ref st), some (.int m), x, none, none] ∧ WF G ((st, .lst [.ref cs, .int a, .int (b + 1), .int c]) :: (cs, .lst (l.map V.int)) :: C) H' ∧ 0 ≤ a ∧ 0 ≤ c ∧ c < 2147483648, ⟨_, l, a, c, none, rfl, rfl, w1, a0, c0, c9⟩, ?_⟩
    rintro j σ H' ⟨l, a, c, x, rfl, rfl, w, a0, c0, c9⟩
    have wc := w.swap.hd
    refine ⟨_, rfl, rIx.lst w.hd rfl (rEqA.int ⟨_, rfl, ?_⟩)⟩
    refine ite2 (fun ha => ?h1) (fun ha => ?h2)
    case' h1 =>
      have az : a = 0 := of_decide_eq_true ha
      refine ⟨_, rfl, rIx.lst w.hd rfl ⟨Nat.zero_le _, fun p np => rNeA.dat (.lst (SqL.of ((same_new np) _ _ wc)) (dpInts _ _ l)) (.lst (SqL.of upd_same) .nil) (shInts l) rfl ⟨_, rfl, ?_⟩⟩⟩
      replace w := (w.same (same_new (o := .lst []) np))
      replace wc := w.swap.hd
      cases l
      case' nil => refine iteF ?t1
      case' cons z r => refine iteT ?b1
    case' h2 => refine iteF ?t2
    case h1.cons =>
      subst az
      refine ⟨fun σ' H' => ∃ (a c : Int) (x : Option V), σ' = [some (.ref st), some (.int m), x, none, none] ∧ WF G ((st, .lst [.ref cs, .int a, .int (b + 1), .int c]) :: (cs, .lst (r.map V.int)) :: C) H' ∧ 0 ≤ a ∧ 0 ≤ c ∧ c < 2147483648, fun σ' H' ⟨a, c, x, e, w, h1, h2, h3⟩ => ⟨r.length, Nat.lt_succ_self _, r, a, c, x, rfl, e, w, h1, h2, h3⟩, ?_⟩
      refine ⟨_, rfl, rIx.lst w.hd rfl ⟨.inl ⟨rfl, _, SqL.of wc⟩, _, _, _, 0, _, rfl, rfl, wc, by decide, by decide, (by simp [seqIndex?]), rfl, ?_⟩⟩
      have w2 := (w.swap.set (u := .lst (r.map V.int))).swap
      refine ⟨_, rfl, rIx.lst w2.hd rfl (rMulA.right (by decide) (by decide) ⟨_, rfl, rAddA.int (rAddA.int (.inl ⟨_, rfl, ⟨_, _, rfl, rfl, (show (0 : Int) < 2147483647 by decide), ⟨_, rfl, rSetL.at w2.hd rfl ?_⟩⟩⟩))⟩)⟩
      have w3 := w2.set (u := .lst [.ref cs, .int 0, .int (b + 1), .int ((c * 69031 + z + 13) % 2147483647)])
      have c1 : 0 ≤ (c * 69031 + z + 13) % 2147483647 := Int.emod_nonneg _ (by decide)
      have c2 : (c * 69031 + z + 13) % 2147483647 < 2147483647 := Int.emod_lt_of_pos _ (by decide)
      refine ⟨_, rfl, ⟨_, _, rfl, rfl, ⟨by decide, by decide, by decide⟩, ⟨_, _, rfl, rfl, ⟨_, rfl, ?_⟩⟩⟩⟩
      refine ite2 (fun hz => ?_) (fun hz => ?_)
      · refine ⟨_, rfl, _, rfl, rSetL.at w3.hd rfl ⟨z, _, _, rfl, w3.set, ?_, c1, by omega⟩⟩
        have := of_decide_eq_true hz
        exact Int.le_trans (by decide) this
      · exact ⟨_, rfl, rSetL.at w3.hd rfl ⟨0, _, _, rfl, w3.set, Int.le_refl _, c1, by omega⟩⟩
    all_goals
      refine ⟨_, rfl, rIx.lst w.hd rfl ⟨_, _, rfl, rfl, _, rfl, ?_⟩⟩
      refine ite2 (fun hp => ?_) (fun hp => ?_)
      · refine ⟨_, rfl, rIx.lst w.hd rfl (.inl ⟨_, rfl, _, rfl, _, _, rfl, rfl, m0, ?_⟩)⟩
        refine ⟨_, rfl, rIx.lst w.hd rfl ⟨_, rfl, _, _, rfl, rfl, wide_div (b := 60) m0 (by omega) (by decide) (by decide), ⟨_, rfl, rSetL.at w.hd rfl ⟨_, rfl, ?_⟩⟩⟩⟩
        have d0 : 0 ≤ a % m := Int.emod_nonneg _ (by omega)
        have d1 : a % m < m := Int.emod_lt_of_pos _ m0
        have e : a % m = ((a % m).toNat : Int) := (Int.toNat_of_nonneg d0).symm
        show Q (V.int (a % m)) _
        rw [e]
        exact k _ _ (by omega) ⟨_, _, _, _, w.set, Int.ediv_nonneg (by omega) (by omega), by omega, by omega, c0, c9⟩
      · have fin : ∀ z : Int, Q (V.int (z % m)) _ := fun z => by
          have d0 : 0 ≤ z % m := Int.emod_nonneg _ (by omega)
          have d1 : z % m < m := Int.emod_lt_of_pos _ m0
          have e : z % m = ((z % m).toNat : Int) := (Int.toNat_of_nonneg d0).symm
          rw [e]
          exact k _ _ (by omega) ⟨_, _, _, _, w, a0, by omega, by omega, c0, c9⟩
        refine ⟨_, rfl, rIx.lst w.hd rfl (⟨_, rfl, rIx.lst w.hd rfl (rMulA.left (by decide) (by decide) (rAddA.int (rAddA.int ⟨_, _, rfl, rfl, ⟨by decide, by decide, ?_⟩, ?_⟩)))⟩)⟩
        · omega
        have q0 := Int.emod_nonneg ((c + 9049 * (b + 1) + 130073) ^ (5 : Int).toNat) (show (2147483629 : Int) ≠ 0 by decide)
        have q1 := Int.emod_lt_of_pos ((c + 9049 * (b + 1) + 130073) ^ (5 : Int).toNat) (show (0 : Int) < 2147483629 by decide)
        refine .inl ⟨_, rfl, _, _, rfl, rfl, (show (0 : Int) < 2147483629 by decide), ?_⟩
        refine ⟨_, rfl, (rMulA.right (by decide) (by decide) ⟨_, rfl, rIx.lst w.hd rfl (rMulA.left (by decide) (by decide) (rAddA.int (rAddA.int ⟨_, _, rfl, rfl, ⟨by decide, by decide, ?_⟩, ?_⟩)))⟩)⟩
        · omega
        exact .inl ⟨_, rfl, _, _, rfl, rfl, (show (0 : Int) < 1000000007 by decide), _, rfl, _, _, rfl, rfl, m0, fin _⟩
end
end Lw_below

namespace Lw_draws
open PySem PySem.Spec PyProof.Rows L2 Lr
def top (i : Nat) : Stmt := PySem.Challenge.pw_leastredo_k12_whole_least_redo_of_great.main.body.getD i (.Pass ⟨0, 0, 0, 0⟩)
abbrev s_chance : Stmt := top 39
abbrev N_chance : List Str := ["stream", "many"]
theorem sc_chance : FnScope ["stream", "many"] ["stream", "many"] (defScope s_chance) := ⟨rfl, rfl, rfl, by decide +kernel, rfl, by decide +kernel, by decide +kernel⟩
abbrev s_pick : Stmt := top 40
abbrev N_pick : List Str := ["stream", "some"]
theorem sc_pick : FnScope ["stream", "some"] ["stream", "some"] (defScope s_pick) := ⟨rfl, rfl, rfl, by decide +kernel, rfl, by decide +kernel, by decide +kernel⟩
abbrev s_mixed : Stmt := top 41
abbrev N_mixed : List Str := ["stream", "some", "left", "k"]
theorem sc_mixed : FnScope ["stream", "some", "left", "k"] ["stream", "some"] (defScope s_mixed) := ⟨rfl, rfl, rfl, by decide +kernel, rfl, by decide +kernel, by decide +kernel⟩
abbrev s_lot : Stmt := top 42
abbrev N_lot : List Str := ["stream", "some", "share", "thing"]
theorem sc_lot : FnScope ["stream", "some", "share", "thing"] ["stream", "some", "share"] (defScope s_lot) := ⟨rfl, rfl, rfl, by decide +kernel, rfl, by decide +kernel, by decide +kernel⟩
structure Txt (mg : Str → Option Value) : Prop where
  b : Bl mg
section
variable {P : Program} {w : World} {K : PySem.W.Frag} {mg : Str → Option Value} {base : Heap}
theorem ok_chance (T : Txt mg) (F : FD K mg "_law_chance" s_chance ["stream", "many"]) (G_below : Okf P w K mg base CX0 1 "_law_below" ["stream", "many"] spBelow) : Okf P w K mg base CX0 2 "_law_chance" ["stream", "many"] spChance := by
  refine F.ok sc_chance (fun vs H Q E h => ?_) (fun f cdv A outer s H vs Q E hr h => ?_)
  · obtain ⟨G, st, cs, n, C, m, rfl, _⟩ := h
    rfl
  · obtain ⟨G, st, cs, n, C, m, rfl, m0, m60, n40, W, k⟩ := h
    refine ⟨_, (pss_one (ps_ret (pe_cmpR (op_eqA (K := K) hr.units) (pc G_below hr (pa_cons (pv 0) (pa_cons (pv 1) pa_nil))) pe_int (nomark _)))), ?_⟩
    exact ⟨_, rfl, _, rfl, G, st, cs, n, C, m, rfl, m0, m60, n40, W, fun d H' hd W' => rEqA.int (k _ _ W')⟩
theorem ok_pick (T : Txt mg) (F : FD K mg "_law_pick" s_pick ["stream", "some"]) (G_below : Okf P w K mg base CX0 1 "_law_below" ["stream", "many"] spBelow) : Okf P w K mg base CX0 2 "_law_pick" ["stream", "some"] spPick := by
  refine F.ok sc_pick (fun vs H Q E h => ?_) (fun f cdv A outer s H vs Q E hr h => ?_)
  · obtain ⟨G, st, cs, n, C, a, xs, rfl, _⟩ := h
    rfl
  · obtain ⟨G, st, cs, n, C, a, xs, rfl, l0, l9, n40, W, S, k⟩ := h
    refine ⟨_, (pss_one (ps_ret (pe_ix (xix (K := K)) (pv 1) (pc G_below hr (pa_cons (pv 0) (pa_cons (pe_callB (call_lenA (K := K)) (by rfl) T.b.len (by decide +kernel) (pa_cons (pv 1) pa_nil)) pa_nil))) (fun _ _ => rfl)))), ?_⟩
    refine ⟨_, rfl, _, rfl, _, rfl, lenA S W.wf ⟨G, st, cs, n, C, (xs.length : Int), rfl, by omega, by omega, n40, W, fun d H' hd W' => ?_⟩⟩
    have hd' : d < xs.length := by omega
    exact S.ix W'.wf (atI_nat (List.getElem?_eq_getElem hd')) (k d _ _ (List.getElem?_eq_getElem hd') W')
theorem ok_mixed (T : Txt mg) (F : FD K mg "_law_mixed" s_mixed ["stream", "some"]) (G_below : Okf P w K mg base CX0 1 "_law_below" ["stream", "many"] spBelow) : Okf P w K mg base CX0 2 "_law_mixed" ["stream", "some"] spMixed := by
  refine F.ok sc_mixed (fun vs H Q E h => ?_) (fun f cdv A outer s H vs Q E hr h => ?_)
  · obtain ⟨G, st, cs, n, C, a, xs, rfl, _⟩ := h
    rfl
  · obtain ⟨G, st, cs, n, C, a, xs, rfl, l9, n40, W, S, k⟩ := h
    refine ⟨_, (pss_cons (ps_set (i := 2) sc_mixed.nd rfl (Or.inr rfl) (pe_callTy (call_listA (K := K) rfl) (by rfl) T.b.list (by decide +kernel) (pa_cons (pv 1) pa_nil)))
    (pss_one (ps_ret (pe_lc (own := [("k", 3)]) (g := gName 3) (tt := tYes) rfl sc_mixed.nd (pi_range1 rfl T.b.range (pa_cons (pe_callB (call_lenA (K := K)) (by rfl) T.b.len (by decide +kernel) (pa_cons (pv 2) pa_nil)) pa_nil)) (blkOk_by (N := N_mixed) (sc := defScope s_mixed) (by decide +kernel)) (fun _ _ _ _ _ => (pg_name (i := 3) sc_mixed.nd rfl (Or.inl rfl))) (fun _ _ _ _ _ => pts_nil) (fun _ _ _ _ _ => (xbm (K := K) PySem.F.plainAttrs_list PySem.F.slot_list_pop PySem.F.type_list_pop mt_popAt (pv 2) (pa_cons (pc G_below hr (pa_cons (pv 0) (pa_cons (pe_callB (call_lenA (K := K)) (by rfl) T.b.len (by decide +kernel) (pa_cons (pv 2) pa_nil)) pa_nil))) pa_nil))))))), ?_⟩
    refine ⟨_, rfl, rListA.seq S W.wf fun l nl => ?_⟩
    have W1 := W.new (o := .lst xs) nl
    refine ⟨_, rfl, lenA Seq.hd W1.wf ⟨_, rfl, by omega, by omega, fun D nD => ?_⟩⟩
    have nD0 : H D = none := (same_new nl).free nD
    refine lc_range (n := ((xs.length : Nat) : Int).toNat) (fun i H' => ∃ (left ys : List V), left.length + i = xs.length ∧ (ys ++ left).Perm xs ∧ SW G st cs (n + i) ((D, .lst ys) :: (l, .lst left) :: C) H') ⟨xs, [], rfl, List.Perm.refl _, W1.new nD⟩ ?_ ?_
    · rintro i H' hi ⟨left, ys, hl, hp, W2⟩
      have hil : i < xs.length := by omega
      refine ⟨rfl, _, rfl, .inl ⟨rfl, _, SqL.of W2.swap.hd⟩, _, rfl, _, rfl, lenA Seq.hd.cons W2.wf ⟨G, st, cs, n + i, _, (left.length : Int), rfl, by omega, by omega, by omega, W2, fun d H2 hd W3 => ?_⟩⟩
      have hd' : d < left.length := by omega
      refine ⟨l, left, d, d, left[d], rfl, rfl, W3.swap.hd, by omega, by omega, ?_, List.getElem?_eq_getElem hd', ?_⟩
      · unfold seqIndex?
        simp only [show ¬ ((d : Int) < 0) by omega, if_false]
        simp [hd']
      · have W4 := (W3.swap.set (u := .lst (left.eraseIdx d))).swap
        refine ⟨ys, W4.hd, ?_, left.eraseIdx d, ys ++ [left[d]], ?_, ?_, W4.set⟩
        · have := hp.length_eq
          rw [List.length_append] at this
          exact Nat.lt_of_le_of_lt (show ys.length ≤ 100000 by omega) (by decide)
        · rw [List.length_eraseIdx]
          simp only [hd', if_true]
          omega
        · refine List.Perm.trans ?_ hp
          rw [List.append_assoc]
          refine List.Perm.append_left _ ?_
          exact perm_erase left d hd'
    · rintro H' ⟨left, ys, hl, hp, W2⟩
      have e : left = [] := List.eq_nil_of_length_eq_zero (by omega)
      subst e
      rw [List.append_nil] at hp
      have e2 : ((xs.length : Nat) : Int).toNat = xs.length := by omega
      rw [e2] at W2
      exact k ys D H' hp nD0 W2.swap.drop
theorem ok_lot (T : Txt mg) (F : FD K mg "_law_lot" s_lot ["stream", "some", "share"]) (G_below : Okf P w K mg base CX0 1 "_law_below" ["stream", "many"] spBelow) : Okf P w K mg base CX0 2 "_law_lot" ["stream", "some", "share"] spLot := by
  refine F.ok sc_lot (fun vs H Q E h => ?_) (fun f cdv A outer s H vs Q E hr h => ?_)
  · obtain ⟨G, st, cs, n, C, a, xs, m, rfl, _⟩ := h
    rfl
  · obtain ⟨G, st, cs, n, C, a, xs, m, rfl, m0, m60, l9, n40, W, S, k⟩ := h
    refine ⟨_, (pss_one (ps_ret (pe_lc (own := [("thing", 3)]) (g := gName 3) rfl sc_lot.nd (pi_seq (K := K) (pv 1)) (blkOk_by (N := N_lot) (sc := defScope s_lot) (by decide +kernel)) (fun _ _ _ _ _ => (pg_name (i := 3) sc_lot.nd rfl (Or.inl rfl))) (fun _ _ _ _ _ => (pts_one (pt_cmpR (op_eqA (K := K) hr.units) (pc G_below hr (pa_cons (pv 0) (pa_cons (pv 2) pa_nil))) pe_int (nomark _)))) (fun _ _ _ _ _ => (pv 3))))), ?_⟩
    obtain ⟨kd, hk⟩ := S.kind
    refine lc_seq (xs := xs) (k := kd) (fun R r => ⟨_, rfl, r⟩) (hk K H W.wf) fun D nD => ⟨fun i H' => ∃ ys : List V, ys.Sublist (xs.take i) ∧ SW G st cs (n + i) ((D, .lst ys) :: C) H', ⟨[], by simp, W.new nD⟩, fun i H' hi ⟨ys, _, W2⟩ => hk K H' W2.drop.wf, ?_, ?_⟩
    · rintro i x H' hx ⟨ys, hs, W2⟩
      have hi : i < xs.length := (List.getElem?_eq_some_iff.mp hx).1
      refine ⟨rfl, ⟨_, rfl, _, rfl, G, st, cs, n + i, _, m, rfl, m0, m60, by omega, W2, fun d H3 hd W3 => rEqA.int ⟨_, rfl, ite2 (fun _ => ?_) (fun _ => ?_)⟩⟩⟩
      · refine ⟨_, rfl, ys, W3.hd, sz_lt ?_, ys ++ [x], ?_, W3.set⟩
        · have := hs.length_le
          rw [List.length_take] at this
          omega
        · rw [take_more hx]
          exact hs.append (List.Sublist.refl _)
      · exact ⟨ys, by rw [take_more hx]; exact hs.trans (List.sublist_append_left _ _), W3⟩
    · rintro H' ⟨ys, hs, W2⟩
      rw [List.take_length] at hs
      exact k ys D H' hs nD W2
end
end Lw_draws

namespace Lw_same
open PySem PySem.Spec PyProof.Rows L2 Lr
def top (i : Nat) : Stmt := PySem.Challenge.pw_leastredo_k12_whole_least_redo_of_great.main.body.getD i (.Pass ⟨0, 0, 0, 0⟩)
abbrev s_same : Stmt := top 43
abbrev N_same : List Str := ["found", "due", "x", "y"]
theorem sc_same : FnScope ["found", "due", "x", "y"] ["found", "due"] (defScope s_same) := ⟨rfl, rfl, rfl, by decide +kernel, rfl, by decide +kernel, by decide +kernel⟩
structure Txt (mg : Str → Option Value) : Prop where
  b : Bl mg
section
variable {P : Program} {w : World} {K : PySem.W.Frag} {mg : Str → Option Value} {base : Heap}
theorem st_same (T : Txt mg) (F : FD K mg "_law_same" s_same ["found", "due"]) (n : Nat) (G_same : Okf P w K mg base CX0 n "_law_same" ["found", "due"] (spSame n)) : Okf P w K mg base CX0 (n + 1) "_law_same" ["found", "due"] (spSame (n + 1)) := by
  refine F.ok sc_same (fun vs H Q E h => ?_) (fun f cdv A outer s H vs Q E hr h => ?_)
  · obtain ⟨d, v, u, rfl, _⟩ := h
    rfl
  · obtain ⟨d, v, u, rfl, rv, ru, pl, dp, k⟩ := h
    have hu := hu_of hr
    refine ⟨_, (pss_cons (ps_if (pt_val (pe_callB (call_isiA (K := K)) (by rfl) T.b.isinstance (by decide +kernel) (pa_cons (pv 1) (pa_cons (pe_tup (pa_cons (pe_bltn (v := .ty "list") (by rfl) T.b.list (by decide +kernel) rfl) (pa_cons (pe_bltn (v := .ty "tuple") (by rfl) T.b.tuple (by decide +kernel) rfl) pa_nil))) pa_nil))))
    (pss_cons (ps_if (PW.pt (pw_or (pt_cmpR (op_neA (K := K) hr.units) (pe_callB (call_isiA (K := K)) (by rfl) T.b.isinstance (by decide +kernel) (pa_cons (pv 0) (pa_cons (pe_bltn (v := .ty "list") (by rfl) T.b.list (by decide +kernel) rfl) pa_nil))) (pe_callB (call_isiA (K := K)) (by rfl) T.b.isinstance (by decide +kernel) (pa_cons (pv 1) (pa_cons (pe_bltn (v := .ty "list") (by rfl) T.b.list (by decide +kernel) rfl) pa_nil))) (nomark _)) (pw_or1 (pt_cmpR (op_neA (K := K) hr.units) (pe_callB (call_isiA (K := K)) (by rfl) T.b.isinstance (by decide +kernel) (pa_cons (pv 0) (pa_cons (pe_bltn (v := .ty "tuple") (by rfl) T.b.tuple (by decide +kernel) rfl) pa_nil))) (pe_callB (call_isiA (K := K)) (by rfl) T.b.isinstance (by decide +kernel) (pa_cons (pv 1) (pa_cons (pe_bltn (v := .ty "tuple") (by rfl) T.b.tuple (by decide +kernel) rfl) pa_nil))) (nomark _)))))
    (pss_one (ps_ret pe_bl))
    pss_nil)
    (pss_one (ps_ret (pe_and (pe_cmpR (op_eqA (K := K) hr.units) (pe_callB (call_lenA (K := K)) (by rfl) T.b.len (by decide +kernel) (pa_cons (pv 0) pa_nil)) (pe_callB (call_lenA (K := K)) (by rfl) T.b.len (by decide +kernel) (pa_cons (pv 1) pa_nil)) (nomark _)) (pe_one (pe_callB (cr_allA (K := K) rfl) (by rfl) T.b.all (by decide +kernel) (pa_cons (pe_lc (own := [("x", 2), ("y", 3)]) (tt := tYes) rfl sc_same.nd (xzip (K := K) (by rfl) T.b.zip (pa_cons (pv 0) (pa_cons (pv 1) pa_nil))) (blkOk_by (N := N_same) (sc := defScope s_same) (by decide +kernel)) (fun _ _ _ _ _ => (xtup (K := K) (n := 2) rfl (pgs_cons (pg_name (i := 2) sc_same.nd rfl (Or.inl rfl)) (pgs_cons (pg_name (i := 3) sc_same.nd rfl (Or.inl rfl)) pgs_nil)))) (fun _ _ _ _ _ => pts_nil) (fun _ _ _ _ _ => (pc G_same hr (pa_cons (pv 2) (pa_cons (pv 3) pa_nil))))) pa_nil)))))))
    pss_nil)
    (pss_cons (ps_if (pt_val (pe_callB (call_isiA (K := K)) (by rfl) T.b.isinstance (by decide +kernel) (pa_cons (pv 1) (pa_cons (pe_bltn (v := .ty "dict") (by rfl) T.b.dict (by decide +kernel) rfl) pa_nil))))
    (pss_one (ps_ret (pe_and (pe_callB (call_isiA (K := K)) (by rfl) T.b.isinstance (by decide +kernel) (pa_cons (pv 0) (pa_cons (pe_bltn (v := .ty "dict") (by rfl) T.b.dict (by decide +kernel) rfl) pa_nil))) (pe_one (pc G_same hr (pa_cons (LiI.pe_listItems rfl (pv 0) (by rfl) T.b.list (by decide +kernel)) (pa_cons (LiI.pe_listItems rfl (pv 1) (by rfl) T.b.list (by decide +kernel)) pa_nil)))))))
    pss_nil)
    (pss_cons (ps_if (pt_val (pe_callB (call_isiA (K := K)) (by rfl) T.b.isinstance (by decide +kernel) (pa_cons (pv 1) (pa_cons (pe_bltn (v := .ty "int") (by rfl) T.b.int (by decide +kernel) rfl) pa_nil))))
    (pss_one (ps_ret (pe_and (pe_callB (call_isiA (K := K)) (by rfl) T.b.isinstance (by decide +kernel) (pa_cons (pv 0) (pa_cons (pe_bltn (v := .ty "int") (by rfl) T.b.int (by decide +kernel) rfl) pa_nil))) (pe_and (pe_cmpR (op_eqA (K := K) hr.units) (pe_callB (call_isiA (K := K)) (by rfl) T.b.isinstance (by decide +kernel) (pa_cons (pv 0) (pa_cons (pe_bltn (v := .ty "bool") (by rfl) T.b.bool (by decide +kernel) rfl) pa_nil))) (pe_callB (call_isiA (K := K)) (by rfl) T.b.isinstance (by decide +kernel) (pa_cons (pv 1) (pa_cons (pe_bltn (v := .ty "bool") (by rfl) T.b.bool (by decide +kernel) rfl) pa_nil))) (nomark _)) (pe_one (pe_cmpR (op_eqA (K := K) hr.units) (pv 0) (pv 1) (nomark _)))))))
    pss_nil)
    (pss_cons (ps_if (pt_cmpR op_isN (pv 1) pe_non (nomark _))
    (pss_one (ps_ret (pe_cmpR op_isN (pv 0) pe_non (nomark _))))
    pss_nil)
    (pss_cons (ps_if (pt_val (pe_callB (call_isiA (K := K)) (by rfl) T.b.isinstance (by decide +kernel) (pa_cons (pv 1) (pa_cons (pe_bltn (v := .ty "str") (by rfl) T.b.str (by decide +kernel) rfl) pa_nil))))
    (pss_one (ps_ret (pe_and (pe_callB (call_isiA (K := K)) (by rfl) T.b.isinstance (by decide +kernel) (pa_cons (pv 0) (pa_cons (pe_bltn (v := .ty "str") (by rfl) T.b.str (by decide +kernel) rfl) pa_nil))) (pe_one (pe_cmpR (op_eqA (K := K) hr.units) (pv 0) (pv 1) (nomark _))))))
    pss_nil)
    (pss_one (ps_ret (pe_and (pe_not (pe_callB (call_isiA (K := K)) (by rfl) T.b.isinstance (by decide +kernel) (pa_cons (pv 0) (pa_cons (pe_tup (pa_cons (pe_bltn (v := .ty "int") (by rfl) T.b.int (by decide +kernel) rfl) (pa_cons (pe_bltn (v := .ty "str") (by rfl) T.b.str (by decide +kernel) rfl) (pa_cons (pe_bltn (v := .ty "list") (by rfl) T.b.list (by decide +kernel) rfl) (pa_cons (pe_bltn (v := .ty "tuple") (by rfl) T.b.tuple (by decide +kernel) rfl) (pa_cons (pe_bltn (v := .ty "dict") (by rfl) T.b.dict (by decide +kernel) rfl) pa_nil)))))) pa_nil)))) (pe_one (pe_cmpR (op_eqA (K := K) hr.units) (pv 0) (pv 1) (nomark _))))))))))), ?_⟩
    cases d with
    | dict es =>
      cases rv with
      | dic ha ra =>
      cases ru with
      | dic hb rb =>
        rename_i a xs b ys
        have dn : dpSK es + 2 < n := Nat.lt_of_succ_lt_succ dp
        refine ⟨_, rfl, by show 2 ≤ sizeLine; decide, fun p np => isiT2 upd_same (Rep.ty_dic (same_new np _ _ hb)) (seqTys (.dict [])) ⟨_, rfl, iteF ?_⟩⟩
        generalize hH1 : upd H p _ = H1
        have s1 : Same H H1 := by rw [← hH1]; exact same_new np
        have ha1 := s1 _ _ ha
        have hb1 := s1 _ _ hb
        refine ⟨_, rfl, isiT (Rep.ty_dic hb1) (dicTy (.dict [])) ⟨_, rfl, iteT ?_⟩⟩
        refine ⟨_, rfl, isiT (Rep.ty_dic ha1) (dicTy (.dict [])) ⟨true, rfl, iteT ?_⟩⟩
        refine ⟨_, rfl, a, xs, rfl, ha1, fun H2 l1 t1 s2 _ _ _ hl1 p1 => ?_⟩
        refine ⟨_, rfl, b, ys, rfl, s2 _ _ hb1, fun H3 l2 t2 s3 _ _ _ hl2 p2 => ?_⟩
        have s12 := s1.trans s2
        have r1 := items_rep s2 (ra.mono s1) p1
        have r2 := items_rep s3 (rb.mono s12) p2
        refine ⟨.list (dPairs es), _, _, rfl, .lst (s3 _ _ hl1) (r1.mono s3), .lst hl2 r2, ⟨dPairs_eqa pl.1, by unfold dPairs; rw [List.length_map]; exact pl.2⟩, ?_, fun H4 s4 => k _ (s12.trans (fun b o e => s4 _ _ (s3 _ _ e)))⟩
        have := dPairs_dp pl.1
        show dpSL (dPairs es) + 1 < n
        omega
    | list ds =>
      cases rv with
      | lst ha ra =>
      cases ru with
      | lst hb rb =>
        rename_i a xs b ys
        have dn : dpSL ds < n := Nat.lt_of_succ_lt_succ dp
        refine ⟨_, rfl, by show 2 ≤ sizeLine; decide, fun p np => isiT2 upd_same (Rep.ty_lst (same_new np _ _ hb)) (seqTys _) ⟨_, rfl, iteT ?_⟩⟩
        generalize hH1 : upd H p _ = H1
        have s1 : Same H H1 := by rw [← hH1]; exact same_new np
        have ha1 := s1 _ _ ha
        have hb1 := s1 _ _ hb
        refine ⟨_, rfl, isiT (Rep.ty_lst ha1) (lstTy _) ⟨_, rfl, isiT (Rep.ty_lst hb1) (lstTy _) (rNeA.sc rfl rfl ⟨_, rfl, iteF ?_⟩)⟩⟩
        refine ⟨_, rfl, isiT (Rep.ty_lst ha1) (tupTy _) ⟨_, rfl, isiT (Rep.ty_lst hb1) (tupTy _) (rNeA.sc rfl rfl ⟨_, rfl, iteF ?_⟩)⟩⟩
        have la := ra.length
        have lb := rb.length
        refine ⟨_, rfl, rLenA.v (n := xs.length) (.inl ⟨_, SqL.of ha1, rfl⟩) ⟨_, rfl, rLenA.v (n := ys.length) (.inl ⟨_, SqL.of hb1, rfl⟩) (rEqA.int ⟨true, ?_, iteT ?_⟩)⟩⟩
        · have e : (xs.length : Int) = ys.length := by omega
          rw [decide_eq_true e]
        refine tcb1 ?_
        refine loop_same (kd := true) (xs := xs) (ys := ys) (ds := ds) rfl rfl (fun _ _ => rfl) (fun _ _ => rfl) (fun _ _ => rfl) (fun H' s => ⟨SqK.lst (s _ _ ha1), SqK.lst (s _ _ hb1)⟩) (ra.mono s1) (rb.mono s1) pl.1 dn (by have := pl.2; omega) ?_
        intro H' D s hD
        exact cr_all1 hD (k _ (s1.trans s))
    | tuple ds =>
      cases rv with
      | tup ha ra =>
      cases ru with
      | tup hb rb =>
        rename_i a xs b ys
        have dn : dpSL ds < n := Nat.lt_of_succ_lt_succ dp
        refine ⟨_, rfl, by show 2 ≤ sizeLine; decide, fun p np => isiT2 upd_same (Rep.ty_tup (same_new np _ _ hb)) (seqTys _) ⟨_, rfl, iteT ?_⟩⟩
        generalize hH1 : upd H p _ = H1
        have s1 : Same H H1 := by rw [← hH1]; exact same_new np
        have ha1 := s1 _ _ ha
        have hb1 := s1 _ _ hb
        refine ⟨_, rfl, isiT (Rep.ty_tup ha1) (lstTy _) ⟨_, rfl, isiT (Rep.ty_tup hb1) (lstTy _) (rNeA.sc rfl rfl ⟨_, rfl, iteF ?_⟩)⟩⟩
        refine ⟨_, rfl, isiT (Rep.ty_tup ha1) (tupTy _) ⟨_, rfl, isiT (Rep.ty_tup hb1) (tupTy _) (rNeA.sc rfl rfl ⟨_, rfl, iteF ?_⟩)⟩⟩
        have la := ra.length
        have lb := rb.length
        refine ⟨_, rfl, rLenA.v (n := xs.length) (.inr ⟨_, SqT.of ha1, rfl⟩) ⟨_, rfl, rLenA.v (n := ys.length) (.inr ⟨_, SqT.of hb1, rfl⟩) (rEqA.int ⟨true, ?_, iteT ?_⟩)⟩⟩
        · have e : (xs.length : Int) = ys.length := by omega
          rw [decide_eq_true e]
        refine tcb1 ?_
        refine loop_same (kd := false) (xs := xs) (ys := ys) (ds := ds) rfl rfl (fun _ _ => rfl) (fun _ _ => rfl) (fun _ _ => rfl) (fun H' s => ⟨SqK.tup (s _ _ ha1), SqK.tup (s _ _ hb1)⟩) (ra.mono s1) (rb.mono s1) pl.1 dn (by have := pl.2; omega) ?_
        intro H' D s hD
        exact cr_all1 hD (k _ (s1.trans s))
    | none =>
      cases rv
      cases ru
      refine ⟨_, rfl, by show 2 ≤ sizeLine; decide, fun p np => isiT2 upd_same (Rep.tyd .non) (seqTys _) ⟨_, rfl, iteF ?_⟩⟩
      refine ⟨_, rfl, isiT (Rep.tyd .non) (dicTy _) ⟨_, rfl, iteF ?_⟩⟩
      refine ⟨_, rfl, isiT (Rep.tyd .non) (intTy _) ⟨_, rfl, iteF ?_⟩⟩
      exact ⟨_, rfl, rfl, _, rfl, iteT ⟨_, rfl, rfl, k _ (same_new np)⟩⟩
    | bool b =>
      cases rv
      cases ru
      refine ⟨_, rfl, by show 2 ≤ sizeLine; decide, fun p np => isiT2 upd_same (Rep.tyd (.bl b)) (seqTys _) ⟨_, rfl, iteF ?_⟩⟩
      refine ⟨_, rfl, isiT (Rep.tyd (.bl b)) (dicTy _) ⟨_, rfl, iteF ?_⟩⟩
      refine ⟨_, rfl, isiT (Rep.tyd (.bl b)) (intTy _) ⟨_, rfl, iteT ?_⟩⟩
      refine ⟨_, rfl, isiT (Rep.tyd (.bl b)) (intTy _) ⟨_, rfl, iteT ?_⟩⟩
      refine ⟨_, rfl, isiT (Rep.tyd (.bl b)) (boolTy _) ⟨_, rfl, isiT (Rep.tyd (.bl b)) (boolTy _) (rEqA.sc rfl rfl ⟨_, rfl, iteT ?_⟩)⟩⟩
      exact ⟨_, rfl, _, rfl, rEqA.sc rfl (decide_eq_true rfl) (k _ (same_new np))⟩
    | int i =>
      cases rv
      cases ru
      refine ⟨_, rfl, by show 2 ≤ sizeLine; decide, fun p np => isiT2 upd_same (Rep.tyd (.int i)) (seqTys _) ⟨_, rfl, iteF ?_⟩⟩
      refine ⟨_, rfl, isiT (Rep.tyd (.int i)) (dicTy _) ⟨_, rfl, iteF ?_⟩⟩
      refine ⟨_, rfl, isiT (Rep.tyd (.int i)) (intTy _) ⟨_, rfl, iteT ?_⟩⟩
      refine ⟨_, rfl, isiT (Rep.tyd (.int i)) (intTy _) ⟨_, rfl, iteT ?_⟩⟩
      refine ⟨_, rfl, isiT (Rep.tyd (.int i)) (boolTy _) ⟨_, rfl, isiT (Rep.tyd (.int i)) (boolTy _) (rEqA.sc rfl rfl ⟨_, rfl, iteT ?_⟩)⟩⟩
      exact ⟨_, rfl, _, rfl, rEqA.sc rfl (decide_eq_true rfl) (k _ (same_new np))⟩
    | str x =>
      cases rv
      cases ru
      refine ⟨_, rfl, by show 2 ≤ sizeLine; decide, fun p np => isiT2 upd_same (Rep.tyd (.str x)) (seqTys _) ⟨_, rfl, iteF ?_⟩⟩
      refine ⟨_, rfl, isiT (Rep.tyd (.str x)) (dicTy _) ⟨_, rfl, iteF ?_⟩⟩
      refine ⟨_, rfl, isiT (Rep.tyd (.str x)) (intTy _) ⟨_, rfl, iteF ?_⟩⟩
      refine ⟨_, rfl, rfl, _, rfl, iteF ?_⟩
      refine ⟨_, rfl, isiT (Rep.tyd (.str x)) (strTy _) ⟨_, rfl, iteT ?_⟩⟩
      refine ⟨_, rfl, isiT (Rep.tyd (.str x)) (strTy _) ⟨_, rfl, iteT ?_⟩⟩
      exact ⟨_, rfl, _, rfl, rEqA.sc rfl (decide_eq_true rfl) (k _ (same_new np))⟩
theorem ok_same (T : Txt mg) (F : FD K mg "_law_same" s_same ["found", "due"]) : ∀ n, Okf P w K mg base CX0 n "_law_same" ["found", "due"] (spSame n)
  | 0 => F.none fun vs H Q E ⟨d, v, u, _, _, _, _, h, _⟩ => Nat.not_lt_zero _ h
  | n + 1 => st_same T F n (ok_same T F n)
end
end Lw_same

namespace Lw_loose
open PySem PySem.Spec PyProof.Rows L2 Lr
def top (i : Nat) : Stmt := PySem.Challenge.pw_leastredo_k12_whole_least_redo_of_great.main.body.getD i (.Pass ⟨0, 0, 0, 0⟩)
abbrev s_loose : Stmt := top 44
abbrev N_loose : List Str := ["stream", "thing", "found", "key", "part"]
theorem sc_loose : FnScope ["stream", "thing", "found", "key", "part"] ["stream", "thing"] (defScope s_loose) := ⟨rfl, rfl, rfl, by decide +kernel, rfl, by decide +kernel, by decide +kernel⟩
structure Txt (mg : Str → Option Value) : Prop where
  b : Bl mg
section
variable {P : Program} {w : World} {K : PySem.W.Frag} {mg : Str → Option Value} {base : Heap}
theorem st_loose (T : Txt mg) (F : FD K mg "_law_loose" s_loose ["stream", "thing"]) (n : Nat) (G_below : Okf P w K mg base CX0 1 "_law_below" ["stream", "many"] spBelow) (G_mixed : Okf P w K mg base CX0 2 "_law_mixed" ["stream", "some"] spMixed) (G_loose : Okf P w K mg base CX0 (n + 2) "_law_loose" ["stream", "thing"] (spLoose n)) : Okf P w K mg base CX0 (n + 3) "_law_loose" ["stream", "thing"] (spLoose (n + 1)) := by
  refine F.ok sc_loose (fun vs H Q E h => ?_) (fun f cdv A outer s H vs Q E hr h => ?_)
  · obtain ⟨G, st, cs, m, C, d, v, rfl, _⟩ := h
    rfl
  · obtain ⟨G, st, cs, m, C, d, v, rfl, W, rc, pl, dp, m40, k⟩ := h
    have hu := hu_of hr
    refine ⟨_, (pss_cons (ps_if (pt_val (pe_callB (call_isiA (K := K)) (by rfl) T.b.isinstance (by decide +kernel) (pa_cons (pv 1) (pa_cons (pe_bltn (v := .ty "dict") (by rfl) T.b.dict (by decide +kernel) rfl) pa_nil))))
    (pss_one (ps_ret (pe_callTy (call_dictP rfl) (by rfl) T.b.dict (by decide +kernel) (pa_cons (pe_lc (own := [("key", 3)]) (g := gName 3) (tt := tYes) rfl sc_loose.nd (pi_seq (K := K) (pc G_mixed hr (pa_cons (pv 0) (pa_cons (pe_callTy (call_listA (K := K) rfl) (by rfl) T.b.list (by decide +kernel) (pa_cons (pv 1) pa_nil)) pa_nil)))) (blkOk_by (N := N_loose) (sc := defScope s_loose) (by decide +kernel)) (fun _ _ _ _ _ => (pg_name (i := 3) sc_loose.nd rfl (Or.inl rfl))) (fun _ _ _ _ _ => pts_nil) (fun _ _ _ _ _ => (pe_tup (pa_cons (pv 3) (pa_cons (pc G_loose hr (pa_cons (pv 0) (pa_cons (pe_dget hu (pv 1) (pv 3) (fun _ _ => rfl)) pa_nil))) pa_nil))))) pa_nil))))
    pss_nil)
    (pss_cons (ps_if (pt_not (pt_val (pe_callB (call_isiA (K := K)) (by rfl) T.b.isinstance (by decide +kernel) (pa_cons (pv 1) (pa_cons (pe_tup (pa_cons (pe_bltn (v := .ty "list") (by rfl) T.b.list (by decide +kernel) rfl) (pa_cons (pe_bltn (v := .ty "tuple") (by rfl) T.b.tuple (by decide +kernel) rfl) pa_nil))) pa_nil)))))
    (pss_one (ps_ret (pv 1)))
    pss_nil)
    (pss_cons (ps_setLc (i := 2) (own := [("part", 4)]) (g := gName 4) (tt := tYes) rfl sc_loose.nd rfl rfl (sw_true rfl rfl rfl (by decide +kernel)) (pi_seq (K := K) (pv 1)) (blkOk_by (N := N_loose) (sc := defScope s_loose) (by decide +kernel)) (fun _ _ _ _ _ => (pg_name (i := 4) sc_loose.nd rfl (Or.inl rfl))) (fun _ _ _ _ _ => pts_nil) (fun _ _ _ _ _ => (pc G_loose hr (pa_cons (pv 0) (pa_cons (pv 4) pa_nil)))))
    (pss_one (ps_ret (pe_ifExp (pt_cmpR (op_eqA (K := K) hr.units) (pc G_below hr (pa_cons (pv 0) (pa_cons pe_int pa_nil))) pe_int (nomark _)) (pv 2) (pe_callTy (call_tupleA (K := K)) (by rfl) T.b.tuple (by decide +kernel) (pa_cons (pv 2) pa_nil)))))))), ?_⟩
    obtain ⟨L, hL, r⟩ := rc
    cases d with
    | dict _ => exact pl.elim
    | list ds =>
      cases r with
      | lst hl rs =>
        rename_i a xs
        have ha := sees_same hL W.wf _ _ hl
        have dn : depDL ds < n := Nat.lt_of_succ_lt_succ dp
        have esz : szD (.list ds) = szDL ds + 1 := rfl
        rw [esz] at m40
        refine ⟨_, rfl, isiT (Rep.ty_lst ha) (dicTy _) ⟨_, rfl, iteF ⟨_, rfl, by show 2 ≤ sizeLine; decide, fun p np => isiT2 upd_same (Rep.ty_lst (same_new np _ _ ha)) (seqTys _) ⟨_, rfl, iteF ?_⟩⟩⟩⟩
        have W1 := W.same (same_new (o := .tup [.ty "list", .ty "tuple"]) np)
        have hk : ∀ H', WF G C H' → SqK true K H' a xs ∧ Reps H' ds xs := fun H' w' => ⟨SqK.lst (sees_same hL w' _ _ hl), rs.mono (sees_same hL w')⟩
        refine tnext ?_
        refine tseq ?_
        refine tasg ?_
        refine loop_loose (kd := true) (xs := xs) (ds := ds) rfl rfl (fun _ => rfl) (fun _ => rfl) (fun _ => rfl) W1 hk ⟨L, hL, rs⟩ pl.1 dn (by omega) (by have := pl.2; omega) ?_
        intro ts G' H' D s ok en pn w
        refine ⟨_, rfl, G', st, cs, m + szDL ds, _, 2, rfl, by decide, by decide, by omega, w, fun d H2 hd w2 => ?_⟩
        refine rEqA.int ⟨_, rfl, ite2 (fun _ => ?_) (fun _ => ?_)⟩
        · exact ⟨_, rfl, k (.lst D ts) G' H2 s ok (by simp [Lr.T.data, norm, en]) ⟨pn, by have := pl.2; have h1 := congrArg List.length en; rw [normL_length, normL_length] at h1; omega⟩ w2⟩
        · refine ⟨_, rfl, D, vals ts, rfl, .inl ⟨SqL.of w2.hd, fun q nq => ?_⟩⟩
          have w3 := w2.newG (o := .tup (vals ts)) nq
          have gq := w2.gnone nq
          refine k (.tup q ts) _ _ (s.trans (same_new gq)) ⟨upd_same, OkL.mono (same_new gq) ok⟩ (by simp [Lr.T.data, norm, en]) ⟨pn, by have := pl.2; have h1 := congrArg List.length en; rw [normL_length, normL_length] at h1; omega⟩ w3.drop
    | tuple ds =>
      cases r with
      | tup hl rs =>
        rename_i a xs
        have ha := sees_same hL W.wf _ _ hl
        have dn : depDL ds < n := Nat.lt_of_succ_lt_succ dp
        have esz : szD (.tuple ds) = szDL ds + 1 := rfl
        rw [esz] at m40
        refine ⟨_, rfl, isiT (Rep.ty_tup ha) (dicTy _) ⟨_, rfl, iteF ⟨_, rfl, by show 2 ≤ sizeLine; decide, fun p np => isiT2 upd_same (Rep.ty_tup (same_new np _ _ ha)) (seqTys _) ⟨_, rfl, iteF ?_⟩⟩⟩⟩
        have W1 := W.same (same_new (o := .tup [.ty "list", .ty "tuple"]) np)
        have hk : ∀ H', WF G C H' → SqK false K H' a xs ∧ Reps H' ds xs := fun H' w' => ⟨SqK.tup (sees_same hL w' _ _ hl), rs.mono (sees_same hL w')⟩
        refine tnext ?_
        refine tseq ?_
        refine tasg ?_
        refine loop_loose (kd := false) (xs := xs) (ds := ds) rfl rfl (fun _ => rfl) (fun _ => rfl) (fun _ => rfl) W1 hk ⟨L, hL, rs⟩ pl.1 dn (by omega) (by have := pl.2; omega) ?_
        intro ts G' H' D s ok en pn w
        refine ⟨_, rfl, G', st, cs, m + szDL ds, _, 2, rfl, by decide, by decide, by omega, w, fun d H2 hd w2 => ?_⟩
        refine rEqA.int ⟨_, rfl, ite2 (fun _ => ?_) (fun _ => ?_)⟩
        · exact ⟨_, rfl, k (.lst D ts) G' H2 s ok (by simp [Lr.T.data, norm, en]) ⟨pn, by have := pl.2; have h1 := congrArg List.length en; rw [normL_length, normL_length] at h1; omega⟩ w2⟩
        · refine ⟨_, rfl, D, vals ts, rfl, .inl ⟨SqL.of w2.hd, fun q nq => ?_⟩⟩
          have w3 := w2.newG (o := .tup (vals ts)) nq
          have gq := w2.gnone nq
          refine k (.tup q ts) _ _ (s.trans (same_new gq)) ⟨upd_same, OkL.mono (same_new gq) ok⟩ (by simp [Lr.T.data, norm, en]) ⟨pn, by have := pl.2; have h1 := congrArg List.length en; rw [normL_length, normL_length] at h1; omega⟩ w3.drop
    | none =>
      cases r
      refine ⟨_, rfl, isiT (Rep.tyd .non) (dicTy _) ⟨_, rfl, iteF ⟨_, rfl, by show 2 ≤ sizeLine; decide, fun p np => isiT2 upd_same (Rep.tyd .non) (seqTys _) ⟨_, rfl, iteT ?_⟩⟩⟩⟩
      exact ⟨_, rfl, k (.leaf _) G _ (Same.refl G) trivial rfl trivial (W.same (same_new np))⟩
    | bool b =>
      cases r
      refine ⟨_, rfl, isiT (Rep.tyd (.bl b)) (dicTy _) ⟨_, rfl, iteF ⟨_, rfl, by show 2 ≤ sizeLine; decide, fun p np => isiT2 upd_same (Rep.tyd (.bl b)) (seqTys _) ⟨_, rfl, iteT ?_⟩⟩⟩⟩
      exact ⟨_, rfl, k (.leaf _) G _ (Same.refl G) trivial rfl trivial (W.same (same_new np))⟩
    | int i =>
      cases r
      refine ⟨_, rfl, isiT (Rep.tyd (.int i)) (dicTy _) ⟨_, rfl, iteF ⟨_, rfl, by show 2 ≤ sizeLine; decide, fun p np => isiT2 upd_same (Rep.tyd (.int i)) (seqTys _) ⟨_, rfl, iteT ?_⟩⟩⟩⟩
      exact ⟨_, rfl, k (.leaf _) G _ (Same.refl G) trivial rfl trivial (W.same (same_new np))⟩
    | str x =>
      cases r
      refine ⟨_, rfl, isiT (Rep.tyd (.str x)) (dicTy _) ⟨_, rfl, iteF ⟨_, rfl, by show 2 ≤ sizeLine; decide, fun p np => isiT2 upd_same (Rep.tyd (.str x)) (seqTys _) ⟨_, rfl, iteT ?_⟩⟩⟩⟩
      exact ⟨_, rfl, k (.leaf _) G _ (Same.refl G) trivial rfl trivial (W.same (same_new np))⟩
theorem ok_loose (T : Txt mg) (F : FD K mg "_law_loose" s_loose ["stream", "thing"]) (G_below : Okf P w K mg base CX0 1 "_law_below" ["stream", "many"] spBelow) (G_mixed : Okf P w K mg base CX0 2 "_law_mixed" ["stream", "some"] spMixed) : ∀ n, Okf P w K mg base CX0 (n + 2) "_law_loose" ["stream", "thing"] (spLoose n)
  | 0 => (F.none fun vs H Q E ⟨G, st, cs, m, C, d, v, _, _, _, _, h, _⟩ => Nat.not_lt_zero _ h).mono (by decide)
  | n + 1 => st_loose T F n G_below G_mixed (ok_loose T F G_below G_mixed n)
end
end Lw_loose

namespace Lw_names
open PySem PySem.Spec PyProof.Rows L2 Lr
def top (i : Nat) : Stmt := PySem.Challenge.pw_leastredo_k12_whole_least_redo_of_great.main.body.getD i (.Pass ⟨0, 0, 0, 0⟩)
abbrev s_is_name : Stmt := top 12
abbrev N_is_name : List Str := ["thing", "sign"]
theorem sc_is_name : FnScope ["thing", "sign"] ["thing"] (defScope s_is_name) := ⟨rfl, rfl, rfl, by decide +kernel, rfl, by decide +kernel, by decide +kernel⟩
abbrev s_names_of : Stmt := top 13
abbrev N_names_of : List Str := ["thing", "found", "one"]
theorem sc_names_of : FnScope ["thing", "found", "one"] ["thing"] (defScope s_names_of) := ⟨rfl, rfl, rfl, by decide +kernel, rfl, by decide +kernel, by decide +kernel⟩
abbrev s_lot_among : Stmt := top 14
abbrev N_lot_among : List Str := ["thing", "names", "found", "one"]
theorem sc_lot_among : FnScope ["thing", "names", "found", "one"] ["thing", "names"] (defScope s_lot_among) := ⟨rfl, rfl, rfl, by decide +kernel, rfl, by decide +kernel, by decide +kernel⟩
abbrev s_record_of : Stmt := top 17
abbrev N_record_of : List Str := ["thing", "names", "reads", "writes"]
theorem sc_record_of : FnScope ["thing", "names", "reads", "writes"] ["thing", "names"] (defScope s_record_of) := ⟨rfl, rfl, rfl, by decide +kernel, rfl, by decide +kernel, by decide +kernel⟩
abbrev k_LETTERS : Str := "abcdefghijklmnopqrstuvwxyz"
abbrev k_FIGURES : Str := "0123456789"
structure Txt (mg : Str → Option Value) : Prop where
  b : Bl mg
  L : ∃ t, mg "LETTERS" = some (.str k_LETTERS t)
  F : ∃ t, mg "FIGURES" = some (.str k_FIGURES t)
theorem in_letters (c : Nat) : decide (c ∈ k_LETTERS.cps.toList) = low c := by
  have e : k_LETTERS.cps.toList = (List.range 26).map (· + 97) := by decide +kernel
  rw [e]
  unfold low
  rw [decide_eq_decide]
  constructor
  · intro h
    obtain ⟨x, hx, rfl⟩ := List.mem_map.mp h
    have := List.mem_range.mp hx
    omega
  · intro h
    exact List.mem_map.mpr ⟨c - 97, List.mem_range.mpr (by omega), by omega⟩
theorem in_figures (c : Nat) : decide (c ∈ k_FIGURES.cps.toList) = fig c := by
  have e : k_FIGURES.cps.toList = (List.range 10).map (· + 48) := by decide +kernel
  rw [e]
  unfold fig
  rw [decide_eq_decide]
  constructor
  · intro h
    obtain ⟨x, hx, rfl⟩ := List.mem_map.mp h
    have := List.mem_range.mp hx
    omega
  · intro h
    exact List.mem_map.mpr ⟨c - 48, List.mem_range.mpr (by omega), by omega⟩
section
variable {P : Program} {w : World} {K : PySem.W.Frag} {mg : Str → Option Value} {base : Heap}
theorem ok_is_name (T : Txt mg) (F : FD K mg "is_name" s_is_name ["thing"]) : Okf P w K mg base CX0 1 "is_name" ["thing"] spIsName := by
  refine F.ok sc_is_name (fun vs H Q E h => ?_) (fun f cdv A outer s H vs Q E hr h => ?_)
  · obtain ⟨d, v, rfl, _⟩ := h
    rfl
  · obtain ⟨d, v, rfl, ty, hs, k⟩ := h
    obtain ⟨tL, c_LETTERS⟩ := T.L
    obtain ⟨tF, c_FIGURES⟩ := T.F
    refine ⟨_, (pss_cons (ps_if (PW.pt (pw_or (pt_not (pt_val (pe_callB (call_isiA (K := K)) (by rfl) T.b.isinstance (by decide +kernel) (pa_cons (pv 0) (pa_cons (pe_bltn (v := .ty "str") (by rfl) T.b.str (by decide +kernel) rfl) pa_nil))))) (pw_or1 (pt_not (pt_chain op_le op_le pe_int (pe_callB (call_lenA (K := K)) (by rfl) T.b.len (by decide +kernel) (pa_cons (pv 0) pa_nil)) pe_int)))))
    (pss_one (ps_ret pe_bl))
    pss_nil)
    (pss_cons (ps_for PassesOwn.never rfl (pi_str (pv 0)) (pg_name (i := 1) sc_is_name.nd rfl (Or.inl rfl))
    (pss_one (ps_if (PW.pt (pw_and (pt_cmpR (op_notInA (K := K)) (pv 1) (pe_glob (v := .str k_LETTERS) rfl c_LETTERS ⟨_, rfl⟩) (by rfl)) (pw_and1 (pt_cmpR (op_notInA (K := K)) (pv 1) (pe_glob (v := .str k_FIGURES) rfl c_FIGURES ⟨_, rfl⟩) (by rfl)))))
    (pss_one (ps_ret pe_bl))
    pss_nil)))
    (pss_one (ps_ret (pe_cmpR (op_inA (K := K)) (pe_ix (xix (K := K)) (pv 0) pe_int (fun _ _ => rfl)) (pe_glob (v := .str k_LETTERS) rfl c_LETTERS ⟨_, rfl⟩) (by rfl)))))), ?_⟩
    cases d with
    | str x =>
      obtain ⟨rfl, hx⟩ := hs x rfl
      refine ⟨_, rfl, isiT ty (strTy _) ⟨_, rfl, iteF ?_⟩⟩
      have hz : x.length ≤ sizeLine := Nat.le_trans hx (by decide)
      have no : ∀ {b : Bool}, nameB x = b → Q (.bl b) H := fun {b} e => by
        rw [← e]
        exact k
      refine ⟨_, rfl, rLenA.str hx ⟨_, _, rfl, rfl, ⟨_, rfl, ite2 (fun h1 => ?_) (fun h1 => ⟨_, rfl, ?_⟩)⟩⟩⟩
      · refine ⟨_, _, rfl, rfl, _, rfl, ?_⟩
        have h1' := of_decide_eq_true h1
        by_cases h8 : (x.length : Int) ≤ 8
        · rw [decide_eq_true h8]
          refine iteF ?_
          refine tnext ?_
          refine tseq ?_
          refine for_str (x := x) (fun R r => ⟨_, rfl, r⟩) (fun i σ H' => H' = H ∧ (∃ y, σ = [some (.str x), y]) ∧ sgns (x.cps.toList.take i) = true) ⟨rfl, ⟨_, rfl⟩, rfl⟩ ?_ ?_
          · rintro i c σ H' hc ⟨rfl, ⟨y, rfl⟩, hg⟩
            refine ⟨_, rfl, rInA.sign ⟨_, rfl, ?_⟩⟩
            have e1 : (if true = true then !decide (c ∈ k_LETTERS.cps.toList) else decide (c ∈ k_LETTERS.cps.toList)) = !low c := by rw [if_pos rfl, in_letters]
            rw [e1]
            cases hl : low c with
            | true =>
              refine iteF (iteF ?_)
              refine ⟨rfl, ⟨_, rfl⟩, ?_⟩
              rw [take_more hc]
              unfold sgns at hg ⊢
              rw [List.all_append, hg]
              simp [hl]
            | false =>
              refine iteT ⟨_, rfl, rInA.sign ⟨_, rfl, ?_⟩⟩
              have e2 : (if true = true then !decide (c ∈ k_FIGURES.cps.toList) else decide (c ∈ k_FIGURES.cps.toList)) = !fig c := by rw [if_pos rfl, in_figures]
              rw [e2]
              cases hf : fig c with
              | true =>
                refine iteF ?_
                refine ⟨rfl, ⟨_, rfl⟩, ?_⟩
                rw [take_more hc]
                unfold sgns at hg ⊢
                rw [List.all_append, hg]
                simp [hl, hf]
              | false =>
                refine iteT ?_
                refine no ?_
                unfold nameB
                have : sgns x.cps.toList = false := by
                  unfold sgns
                  rw [List.all_eq_false]
                  exact ⟨c, List.mem_of_getElem? hc, by simp [hl, hf]⟩
                rw [this]
                simp
          · rintro σ H' ⟨rfl, ⟨y, rfl⟩, hg⟩
            rw [List.take_length] at hg
            have hlen : x.cps.toList.length = x.length := by simp [Str.length]
            cases e : x.cps.toList with
            | nil =>
              rw [e] at hlen
              simp at hlen
              omega
            | cons c r =>
              refine ⟨_, rfl, rIx.str hz (c := c) (by rw [e]; exact atI_nat (j := 0) rfl) (rInA.sign ?_)⟩
              refine no ?_
              have e1 : (if false = true then !decide (c ∈ k_LETTERS.cps.toList) else decide (c ∈ k_LETTERS.cps.toList)) = low c := by rw [if_neg (by decide), in_letters]
              rw [e1]
              unfold nameB
              rw [hg, e, decide_eq_true (show 1 ≤ x.length ∧ x.length ≤ 8 by omega)]
              simp
        · rw [decide_eq_false h8]
          refine iteT ?_
          refine no ?_
          unfold nameB
          rw [decide_eq_false (show ¬ (1 ≤ x.length ∧ x.length ≤ 8) by omega)]
          rfl
      · refine iteT ?_
        refine no ?_
        unfold nameB
        have h1' : ¬ (1 : Int) ≤ (x.length : Int) := fun z => h1 (decide_eq_true z)
        rw [decide_eq_false (show ¬ (1 ≤ x.length ∧ x.length ≤ 8) by omega)]
        rfl
    | list ds =>
      refine ⟨_, rfl, isiT ty (strTy _) ⟨_, rfl, iteT k⟩⟩
    | tuple ds =>
      refine ⟨_, rfl, isiT ty (strTy _) ⟨_, rfl, iteT k⟩⟩
    | none =>
      refine ⟨_, rfl, isiT ty (strTy _) ⟨_, rfl, iteT k⟩⟩
    | bool b =>
      refine ⟨_, rfl, isiT ty (strTy _) ⟨_, rfl, iteT k⟩⟩
    | int i =>
      refine ⟨_, rfl, isiT ty (strTy _) ⟨_, rfl, iteT k⟩⟩
    | dict es =>
      refine ⟨_, rfl, isiT ty (strTy _) ⟨_, rfl, iteT k⟩⟩
theorem ok_names_of (T : Txt mg) (F : FD K mg "names_of" s_names_of ["thing"]) (G_is_name : Okf P w K mg base CX0 1 "is_name" ["thing"] spIsName) : Okf P w K mg base CX0 2 "names_of" ["thing"] spNamesOf := by
  refine F.ok sc_names_of (fun vs H Q E h => ?_) (fun f cdv A outer s H vs Q E hr h => ?_)
  · obtain ⟨d, v, rfl, _⟩ := h
    rfl
  · obtain ⟨d, v, rfl, r, sh, k0, k1⟩ := h
    refine ⟨_, (pss_cons (ps_if (pt_not (pt_val (pe_callB (call_isiA (K := K)) (by rfl) T.b.isinstance (by decide +kernel) (pa_cons (pv 0) (pa_cons (pe_tup (pa_cons (pe_bltn (v := .ty "list") (by rfl) T.b.list (by decide +kernel) rfl) (pa_cons (pe_bltn (v := .ty "tuple") (by rfl) T.b.tuple (by decide +kernel) rfl) pa_nil))) pa_nil)))))
    (pss_one (ps_ret pe_non))
    pss_nil)
    (pss_cons (ps_set (i := 1) sc_names_of.nd rfl (Or.inl rfl) (pe_lst pa_nil))
    (pss_cons (ps_for PassesOwn.never rfl (pi_seq (K := K) (pv 0)) (pg_name (i := 2) sc_names_of.nd rfl (Or.inl rfl))
    (pss_cons (ps_if (PW.pt (pw_or (pt_not (pt_val (pc G_is_name hr (pa_cons (pv 2) pa_nil)))) (pw_or1 (pt_cmpR (op_inA (K := K)) (pv 2) (pv 1) (by rfl)))))
    (pss_one (ps_ret pe_non))
    pss_nil)
    (pss_one (ps_expr (xbm (K := K) PySem.F.plainAttrs_list PySem.F.slot_list_append PySem.F.type_list_append mt_append (pv 1) (pa_cons (pv 2) pa_nil))))))
    (pss_one (ps_ret (pe_callB (cr_sortedA (K := K)) (by rfl) T.b.sorted (by decide +kernel) (pa_cons (pv 1) pa_nil))))))), ?_⟩
    refine ⟨_, rfl, by show 2 ≤ sizeLine; decide, fun p np => isiT2 upd_same (r.mono (same_new np)).tyd items_ty ⟨_, rfl, ?_⟩⟩
    have s1 := same_new (o := .tup [.ty "list", .ty "tuple"]) np
    cases e : itemsD d with
    | none =>
      refine iteT (k0 ?_ _ s1)
      unfold namesD
      rw [e]
      rfl
    | some ds =>
      refine iteF (tnext (tseq ⟨Nat.zero_le _, fun l nl => ?_⟩))
      obtain ⟨kd, a, vs, rfl, rs, hk⟩ := r.items (K := K) e
      have lx := rs.length
      have hl : H l = none := s1.free nl
      have en : namesD d = (namesL ds []).map sortS := by
        unfold namesD
        rw [e]
        rfl
      refine tseq ?_
      refine for_seq (xs := vs) (k := kd) (fun R r => ⟨_, rfl, r⟩) (hk _ (s1.trans (same_new nl))) (fun i σ H' => ∃ (acc : List Str) (y : Option V), σ = [some (.ref a), some (.ref l), y] ∧ Same H H' ∧ H' l = some (.lst (acc.map V.str)) ∧ acc.length ≤ i ∧ namesL (ds.drop i) acc = namesL ds []) ⟨[], _, rfl, s1.trans (same_new nl), upd_same, Nat.le_refl _, by simp⟩ (fun i σ H' _ p => ?_) ?_ ?_
      · obtain ⟨acc, y, _, s, _⟩ := p
        exact hk H' s
      · rintro i x σ H' hx ⟨acc, y, rfl, s, hL, la, eN⟩
        have hi := (List.getElem?_eq_some_iff.mp hx).1
        obtain ⟨di, hd, ri⟩ := rs.get hx
        have ri' := ri.mono s
        have edrop : ds.drop i = di :: ds.drop (i + 1) := by
          rw [List.drop_eq_getElem_cons (by omega)]
          rw [(List.getElem?_eq_some_iff.mp hd).2]
        rw [edrop] at eN
        have shi := (sh ds e).2 di (List.mem_of_getElem? hd)
        refine ⟨_, rfl, di, x, rfl, ri'.tyd, fun s0 es => ⟨by subst es; cases ri; rfl, shi s0 es⟩, ⟨_, rfl, ?_⟩⟩
        cases hn : isNameD di with
        | false =>
          refine iteT (k0 ?_ _ s)
          rw [en, ← eN, namesL_none hn]
          rfl
        | true =>
          refine iteF ?_
          cases di with
          | str s0 =>
            cases ri
            have hn' : nameB s0 = true := hn
            refine ⟨_, rfl, _, rfl, rInA.strs (.inl (SqL.of hL)) ⟨_, rfl, ?_⟩⟩
            by_cases hm : s0 ∈ acc
            · have e1 : (if false = true then !decide (s0 ∈ acc) else decide (s0 ∈ acc)) = true := by rw [if_neg (by decide), decide_eq_true hm]
              rw [e1]
              refine iteT (k0 ?_ _ s)
              rw [en, ← eN]
              show Option.map sortS (if nameB s0 = true ∧ s0 ∉ acc then namesL (ds.drop (i + 1)) (acc ++ [s0]) else none) = none
              rw [if_neg (by simp [hm])]
              rfl
            · have e1 : (if false = true then !decide (s0 ∈ acc) else decide (s0 ∈ acc)) = false := by rw [if_neg (by decide), decide_eq_false hm]
              rw [e1]
              refine iteF ?_
              have d63 := (sh ds e).1
              refine ⟨_, rfl, .inl ⟨rfl, _, SqL.of hL⟩, _, rfl, _, _, _, rfl, rfl, hL, ?_, ?_⟩
              · rw [List.length_map]
                exact sz_lt (by omega)
              · refine ⟨acc ++ [s0], _, rfl, fun b o eb => ?_, ?_, ?_, ?_⟩
                · rw [upd_ne (ne_of_none eb hl)]
                  exact s _ _ eb
                · rw [upd_same]
                  simp
                · rw [List.length_append]
                  simp
                  omega
                · rw [← eN]
                  show _ = (if nameB s0 = true ∧ s0 ∉ acc then namesL (ds.drop (i + 1)) (acc ++ [s0]) else none)
                  rw [if_pos ⟨hn', hm⟩]
          | _ => cases hn
      · rintro σ H' ⟨acc, y, rfl, s, hL, la, eN⟩
        have d63 := (sh ds e).1
        have e0 : ds.drop vs.length = [] := List.drop_eq_nil_of_le (by omega)
        rw [e0] at eN
        have eN' : some acc = namesL ds [] := eN
        refine ⟨_, rfl, l, acc, rfl, SqL.of hL, by omega, fun ys p pm srt np => ?_⟩
        refine k1 ys ?_ _ p (s.trans (same_new np)) (s.free np) upd_same
        rw [en, ← eN', sortS_of pm (sorted_pw srt)]
        rfl
theorem ok_lot_among (T : Txt mg) (F : FD K mg "lot_among" s_lot_among ["thing", "names"]) (G_names_of : Okf P w K mg base CX0 2 "names_of" ["thing"] spNamesOf) : Okf P w K mg base CX0 3 "lot_among" ["thing", "names"] (spLotAmong K) := by
  refine F.ok sc_lot_among (fun vs H Q E h => ?_) (fun f cdv A outer s H vs Q E hr h => ?_)
  · obtain ⟨d, v, a, ns, rfl, _⟩ := h
    rfl
  · obtain ⟨d, v, a, ns, rfl, r, sh, hn, k0, k1⟩ := h
    refine ⟨_, (pss_cons (ps_set (i := 2) sc_lot_among.nd rfl (Or.inl rfl) (pc G_names_of hr (pa_cons (pv 0) pa_nil)))
    (pss_cons (ps_if (pt_cmpR op_isN (pv 2) pe_non (nomark _))
    (pss_one (ps_ret pe_non))
    pss_nil)
    (pss_cons (ps_for PassesOwn.never rfl (pi_seq (K := K) (pv 2)) (pg_name (i := 3) sc_lot_among.nd rfl (Or.inl rfl))
    (pss_one (ps_if (pt_cmpR (op_notInA (K := K)) (pv 3) (pv 1) (by rfl))
    (pss_one (ps_ret pe_non))
    pss_nil)))
    (pss_one (ps_ret (pv 2)))))), ?_⟩
    refine ⟨_, rfl, d, v, rfl, r, sh, fun e H' s => ?_, fun ys e H' p s np hp => ?_⟩
    · refine ⟨_, rfl, rfl, _, rfl, iteT ?_⟩
      refine k0 ?_ _ s
      unfold lotD
      rw [e]
      rfl
    · have el : lotD d ns = if ∀ x ∈ ys, x ∈ ns then some ys else none := by
        unfold lotD
        rw [e]
        rfl
      refine ⟨_, rfl, rfl, _, rfl, iteF ?_⟩
      refine tnext (tseq ?_)
      have hn' : ∀ H', Same H H' → (SqL K H' a (ns.map V.str) ∨ SqT K H' a (ns.map V.str)) := fun H' s => hn.imp s.seq (Lr.Same.tup s)
      refine for_seq (xs := ys.map V.str) (k := true) (fun R r => ⟨_, rfl, r⟩) (SqK.lst hp) (fun i σ H2 => H2 = H' ∧ (∃ y, σ = [some v, some (.ref a), some (.ref p), y]) ∧ ∀ x ∈ ys.take i, x ∈ ns) ⟨rfl, ⟨_, rfl⟩, fun x hx => by simp at hx⟩ (fun i σ H2 _ p2 => by rw [p2.1]; exact SqK.lst hp) ?_ ?_
      · rintro i x σ H2 hx ⟨rfl, ⟨y, rfl⟩, hall⟩
        rw [List.getElem?_map] at hx
        cases ex : ys[i]? with
        | none =>
          rw [ex] at hx
          cases hx
        | some z =>
          rw [ex] at hx
          cases hx
          refine ⟨_, rfl, _, rfl, rInA.strs (hn' _ s) ⟨_, rfl, ?_⟩⟩
          by_cases hm : z ∈ ns
          · have e1 : (if true = true then !decide (z ∈ ns) else decide (z ∈ ns)) = false := by rw [if_pos rfl, decide_eq_true hm]; rfl
            rw [e1]
            refine iteF ⟨rfl, ⟨_, rfl⟩, fun x hx => ?_⟩
            rw [take_more ex] at hx
            rcases List.mem_append.mp hx with hx | hx
            · exact hall x hx
            · rw [List.mem_singleton.mp hx]
              exact hm
          · have e1 : (if true = true then !decide (z ∈ ns) else decide (z ∈ ns)) = true := by rw [if_pos rfl, decide_eq_false hm]; rfl
            rw [e1]
            refine iteT (k0 ?_ _ s)
            rw [el, if_neg]
            intro h
            exact hm (h z (List.mem_of_getElem? ex))
      · rintro σ H2 ⟨rfl, ⟨y, rfl⟩, hall⟩
        rw [List.length_map, List.take_length] at hall
        refine ⟨_, rfl, k1 ys ?_ _ p s np hp⟩
        rw [el, if_pos hall]
theorem ok_record_of (T : Txt mg) (F : FD K mg "record_of" s_record_of ["thing", "names"]) (G_lot_among : Okf P w K mg base CX0 3 "lot_among" ["thing", "names"] (spLotAmong K)) : Okf P w K mg base CX0 4 "record_of" ["thing", "names"] (spRecordOf K) := by
  refine F.ok sc_record_of (fun vs H Q E h => ?_) (fun f cdv A outer s H vs Q E hr h => ?_)
  · obtain ⟨d, v, a, ns, rfl, _⟩ := h
    rfl
  · obtain ⟨d, v, a, ns, rfl, r, sh, hn, k0, k1⟩ := h
    refine ⟨_, (pss_cons (ps_if (PW.pt (pw_or (pt_not (pt_val (pe_callB (call_isiA (K := K)) (by rfl) T.b.isinstance (by decide +kernel) (pa_cons (pv 0) (pa_cons (pe_tup (pa_cons (pe_bltn (v := .ty "list") (by rfl) T.b.list (by decide +kernel) rfl) (pa_cons (pe_bltn (v := .ty "tuple") (by rfl) T.b.tuple (by decide +kernel) rfl) pa_nil))) pa_nil))))) (pw_or1 (pt_cmpR (op_neA (K := K) hr.units) (pe_callB (call_lenA (K := K)) (by rfl) T.b.len (by decide +kernel) (pa_cons (pv 0) pa_nil)) pe_int (nomark _)))))
    (pss_one (ps_ret pe_non))
    pss_nil)
    (pss_cons (ps_set (i := 2) sc_record_of.nd rfl (Or.inl rfl) (pc G_lot_among hr (pa_cons (pe_ix (xix (K := K)) (pv 0) pe_int (fun _ _ => rfl)) (pa_cons (pv 1) pa_nil))))
    (pss_cons (ps_set (i := 3) sc_record_of.nd rfl (Or.inl rfl) (pc G_lot_among hr (pa_cons (pe_ix (xix (K := K)) (pv 0) pe_int (fun _ _ => rfl)) (pa_cons (pv 1) pa_nil))))
    (pss_cons (ps_if (PW.pt (pw_or (pt_cmpR op_isN (pv 2) pe_non (nomark _)) (pw_or1 (pt_not (xtruth (K := K) (pv 3) (by intro _; rfl))))))
    (pss_one (ps_ret pe_non))
    pss_nil)
    (pss_one (ps_ret (pe_tup (pa_cons (pe_callTy (call_tupleA (K := K)) (by rfl) T.b.tuple (by decide +kernel) (pa_cons (pv 2) pa_nil)) (pa_cons (pe_callTy (call_tupleA (K := K)) (by rfl) T.b.tuple (by decide +kernel) (pa_cons (pv 3) pa_nil)) pa_nil))))))))), ?_⟩
    refine ⟨_, rfl, by show 2 ≤ sizeLine; decide, fun p np => isiT2 upd_same (r.mono (same_new np)).tyd items_ty ⟨_, rfl, ?_⟩⟩
    have s1 := same_new (o := .tup [.ty "list", .ty "tuple"]) np
    cases e : itemsD d with
    | none =>
      refine iteT (iteT (k0 ?_ _ s1))
      unfold rowD
      rw [e]
    | some ds =>
      refine iteF ?_
      obtain ⟨kd, b, us, rfl, rs, hk⟩ := r.items (K := K) e
      have lx := rs.length
      have hl : LenV K (.ref b) _ us.length := (hk _ s1).or.imp (fun h => ⟨_, h, rfl⟩) (fun h => ⟨_, h, rfl⟩)
      refine ⟨_, rfl, rLenA.v hl (rNeA.int ⟨_, rfl, ?_⟩)⟩
      by_cases h2 : us.length = 2
      · have e1 : (!decide ((us.length : Int) = 2)) = false := by rw [decide_eq_true (by omega)]; rfl
        rw [e1]
        refine iteF (tnext ?_)
        obtain ⟨x, y, rfl⟩ : ∃ x y, us = [x, y] := by
          match us, h2 with
          | [x, y], _ => exact ⟨x, y, rfl⟩
        cases rs with
        | cons rx rr =>
        cases rr with
        | cons ry rr =>
        cases rr
        rename_i dx dy
        have shx := (sh _ e).2 dx (by simp)
        have shy := (sh _ e).2 dy (by simp)
        have ix : ∀ (i : Int) (z : V) (H' : Hp) (Q' : VK), Same H H' → atI [x, y] i = some z → Q' z H' → rIx K (.ref b) (.int i) H' Q' := fun i z H' Q' s hz q => by
          rcases (hk H' s).or with h | h
          · exact .inl ⟨_, _, _, _, rfl, rfl, h, hz, q⟩
          · exact .inr (.inl ⟨_, _, _, _, rfl, rfl, h, hz, q⟩)
        have hn' : ∀ H', Same H H' → (SqL K H' a (ns.map V.str) ∨ SqT K H' a (ns.map V.str)) := fun H' s => hn.imp s.seq (Lr.Same.tup s)
        have er : rowD d ns = (match lotD dx ns, lotD dy ns with
          | some r, some w => if w = [] then none else some (r, w)
          | _, _ => none) := by
          unfold rowD
          rw [e]
          all_goals rfl
        refine (⟨_, rfl, ix 0 x _ _ s1 (atI_nat (j := 0) rfl) ⟨_, rfl, dx, x, a, ns, rfl, rx.mono s1, shx, hn' _ s1, fun e0 H2 s2 => ?_, fun yr e0 H2 p1 s2 np1 hp1 => ?_⟩⟩)
        · refine (⟨_, rfl, ix 1 y _ _ (s1.trans s2) (atI_nat (j := 1) rfl) ⟨_, rfl, dy, y, a, ns, rfl, ry.mono (s1.trans s2), shy, hn' _ (s1.trans s2), fun e1 H3 s3 => ?_, fun yw e1 H3 p2 s3 np2 hp2 => ?_⟩⟩)
          · refine ⟨_, rfl, rfl, _, rfl, iteT (iteT (k0 ?_ _ (s1.trans (s2.trans s3))))⟩
            rw [er, e0]
          · refine ⟨_, rfl, rfl, _, rfl, iteT (iteT (k0 ?_ _ (s1.trans (s2.trans s3))))⟩
            rw [er, e0]
        · refine (⟨_, rfl, ix 1 y _ _ (s1.trans s2) (atI_nat (j := 1) rfl) ⟨_, rfl, dy, y, a, ns, rfl, ry.mono (s1.trans s2), shy, hn' _ (s1.trans s2), fun e1 H3 s3 => ?_, fun yw e1 H3 p2 s3 np2 hp2 => ?_⟩⟩)
          · refine ⟨_, rfl, rfl, _, rfl, iteF ⟨_, rfl, false, rfl, iteT (k0 ?_ _ (s1.trans (s2.trans s3)))⟩⟩
            rw [er, e0, e1]
          · have s13 := s1.trans (s2.trans s3)
            have hp1' := s3 _ _ hp1
            by_cases hw : yw = []
            · subst hw
              refine ⟨_, rfl, rfl, _, rfl, iteF ⟨_, rfl, false, .inl ⟨_, SqL.of hp2, rfl⟩, ?_⟩⟩
              refine iteT (k0 ?_ _ s13)
              rw [er, e0, e1]
              rfl
            · refine ⟨_, rfl, rfl, _, rfl, iteF ⟨_, rfl, true, .inl ⟨_, SqL.of hp2, ?_⟩, ?_⟩⟩
              · cases yw with
                | nil => exact absurd rfl hw
                | cons _ _ => rfl
              refine iteF (tnext ?_)
              refine ⟨_, rfl, p1, _, rfl, .inl ⟨SqL.of hp1', fun q nq => ?_⟩⟩
              refine ⟨_, rfl, p2, _, rfl, .inl ⟨SqL.of (same_new nq _ _ hp2), fun t nt => ?_⟩⟩
              refine ⟨by show 2 ≤ sizeLine; decide, fun u nu => ?_⟩
              have sq := same_new (o := .tup (yr.map V.str)) nq
              have st := same_new (o := .tup (yw.map V.str)) nt
              have su := same_new (o := .tup [.ref q, .ref t]) nu
              have nut : u ≠ t := fun z => by
                rw [z, upd_same] at nu
                cases nu
              have nuq : u ≠ q := fun z => by
                have := st _ _ (upd_same (H := H3) (a := q) (o := .tup (yr.map V.str)))
                rw [z, this] at nu
                cases nu
              have nqt : q ≠ t := fun z => by
                rw [← z, upd_same] at nt
                cases nt
              refine k1 yr yw ?_ _ u q t (s13.trans (sq.trans (st.trans su))) ?_ ?_ ?_ nuq nut nqt upd_same (su _ _ (st _ _ upd_same)) (su _ _ upd_same)
              · rw [er, e0, e1]
                simp only
                rw [if_neg hw]
              · exact s13.free (sq.free (st.free nu))
              · exact s13.free nq
              · exact s13.free (sq.free nt)
      · have e1 : (!decide ((us.length : Int) = 2)) = true := by rw [decide_eq_false (by omega)]; rfl
        rw [e1]
        refine iteT (k0 ?_ _ s1)
        unfold rowD
        rw [e]
        match ds, h2, lx with
        | [], _, _ => rfl
        | [_], _, _ => rfl
        | [_, _], h2, lx => exact absurd lx.symm h2
        | _ :: _ :: _ :: _, _, _ => rfl
end
end Lw_names

namespace Lw_log
open PySem PySem.Spec PyProof.Rows L2 Lr
def top (i : Nat) : Stmt := PySem.Challenge.pw_leastredo_k12_whole_least_redo_of_great.main.body.getD i (.Pass ⟨0, 0, 0, 0⟩)
abbrev s_Log_init : Stmt := inClass (top 18) 0
abbrev N_Log_init : List Str := ["self", "pages", "records", "names", "index", "thing", "row", "number", "name"]
theorem sc_Log_init : FnScope ["self", "pages", "records", "names", "index", "thing", "row", "number", "name"] ["self", "pages", "records"] (defScope s_Log_init) := ⟨rfl, rfl, rfl, by decide +kernel, rfl, by decide +kernel, by decide +kernel⟩
abbrev s_Log_standing : Stmt := inClass (top 18) 1
abbrev N_Log_standing : List Str := ["self", "names", "name"]
theorem sc_Log_standing : FnScope ["self", "names", "name"] ["self", "names"] (defScope s_Log_standing) := ⟨rfl, rfl, rfl, by decide +kernel, rfl, by decide +kernel, by decide +kernel⟩
abbrev s_Log_pages : Stmt := inClass (top 18) 2
abbrev N_Log_pages : List Str := ["self"]
theorem sc_Log_pages : FnScope ["self"] ["self"] (defScope s_Log_pages) := ⟨rfl, rfl, rfl, by decide +kernel, rfl, by decide +kernel, by decide +kernel⟩
abbrev s_Log_records : Stmt := inClass (top 18) 3
abbrev N_Log_records : List Str := ["self"]
theorem sc_Log_records : FnScope ["self"] ["self"] (defScope s_Log_records) := ⟨rfl, rfl, rfl, by decide +kernel, rfl, by decide +kernel, by decide +kernel⟩
abbrev s_Log_size : Stmt := inClass (top 18) 4
abbrev N_Log_size : List Str := ["self"]
theorem sc_Log_size : FnScope ["self"] ["self"] (defScope s_Log_size) := ⟨rfl, rfl, rfl, by decide +kernel, rfl, by decide +kernel, by decide +kernel⟩
structure Txt (K : PySem.W.Frag) (mg : Str → Option Value) (Cl : Addr) : Prop where
  b : Bl mg
  cl_Log : Cls K Cl
  nW : NoAttr K Cl "writers"
  nR : NoAttr K Cl "rows"
  nN : NoAttr K Cl "names"
  nD : NoAttr K Cl "needs"
section
variable {P : Program} {w : World} {K : PySem.W.Frag} {mg : Str → Option Value} {base : Heap} {Cl : Addr}
theorem ok_standing {f : Addr} {fd : FuncData} (T : Txt K mg Cl) (F : Fun K "standing" "Log.standing" s_Log_standing f fd) : FnOk P w K mg base CX0 1 f fd ["self", "names"] (spStanding Cl) := by
  refine F.ok sc_Log_standing (fun vs H Q E h => ?_) (fun cdv A outer s H vs Q E hr h => ?_)
  · obtain ⟨G, C, x, dx, aw, a, fs, kvs, rows, nms, f, rfl, _⟩ := h
    rfl
  · obtain ⟨G, C, x, dx, aw, a, fs, kvs, rows, nms, f, rfl, W, hx, hw, haw, hS, hl, hf, k⟩ := h
    have hu := hu_of hr
    refine ⟨_, (pss_one (ps_ret (pe_callTy (call_tupleA (K := K)) (by rfl) T.b.tuple (by decide +kernel) (pa_cons (pe_lc (own := [("name", 2)]) (g := gName 2) (tt := tYes) rfl sc_Log_standing.nd (pi_seq (K := K) (pv 1)) (blkOk_by (N := N_Log_standing) (sc := defScope s_Log_standing) (by decide +kernel)) (fun _ _ _ _ _ => (pg_name (i := 2) sc_Log_standing.nd rfl (Or.inl rfl))) (fun _ _ _ _ _ => pts_nil) (fun _ _ _ _ _ => (pe_tup (pa_cons (pv 2) (pa_cons (pe_ifExp (xtruth (K := K) (pe_dget hu (xfld (K := K) (pv 0) rfl) (pv 2) (fun _ _ => rfl)) (by intro _; rfl)) (pe_ix (xix (K := K)) (pe_dget hu (xfld (K := K) (pv 0) rfl) (pv 2) (fun _ _ => rfl)) (pe_un un_neg pe_int) (fun _ _ => rfl)) pe_int) pa_nil))))) pa_nil)))), ?_⟩
    obtain ⟨kd, hk⟩ := hS.kind
    refine tret (tcb1 ?_)
    refine lc_seq (xs := nms.map V.str) (k := kd) (fun R r => ⟨_, rfl, r⟩) (hk K H W) fun D nD => ⟨fun i H' => ∃ (G' : Hp) (us : List V), Same G G' ∧ WF G' ((D, .lst us) :: C) H' ∧ Reps G' ((nms.take i).map fun n => PyData.tuple [.str n, .int (ver rows n)]) us, ⟨G, [], Same.refl G, W.new nD, .nil⟩, ?_, ?_, ?_⟩
    · rintro i H' _ ⟨G', us, s, w', _⟩
      exact hk K H' (w'.drop.weak s)
    · rintro i v H' hv ⟨G', us, s, w', rs⟩
      obtain ⟨n, hn, rfl⟩ : ∃ n, nms[i]? = some n ∧ V.str n = v := by
        rw [List.getElem?_map] at hv
        cases e : nms[i]? with
        | none =>
          rw [e] at hv
          cases hv
        | some u =>
          rw [e] at hv
          exact ⟨u, rfl, Option.some.inj hv⟩
      obtain ⟨h1, h2⟩ := hf n (List.mem_of_getElem? hn)
      have li : us.length ≤ 1000 := by
        have := rs.length
        rw [List.length_map, List.length_take] at this
        omega
      have gx : H' x = some (.ins Cl dx fs) := (hx.mono s).cons.at w'
      have gw : H' aw = some (.dK kvs) := (haw.mono s).cons.at w'
      have gf : H' (f n) = some (.lst ((wr rows n).map V.int)) := (h2.mono s).cons.at w'
      have dg : DGet H' aw (.str n) (some (.ref (f n))) := by
        have := DGet.k (k := Sum.inr n) gw
        rw [h1] at this
        exact this
      refine ⟨rfl, ?_⟩
      refine ⟨_, rfl, _, rfl, x, Cl, dx, fs, _, rfl, gx, T.cl_Log, T.nW, hw, _, rfl, aw, _, rfl, dg, ?_⟩
      have fin : ∀ z : Int, z = ver rows n → ∀ p, H' p = none → ∃ acc, upd H' p (.tup [.str n, .int z]) D = some (.lst acc) ∧ acc.length < sizeLine ∧
          ∃ (G2 : Hp) (us2 : List V), Same G G2 ∧ WF G2 ((D, .lst us2) :: C) (upd (upd H' p (.tup [.str n, .int z])) D (.lst (acc ++ [.ref p]))) ∧ Reps G2 ((nms.take (i + 1)).map fun n => PyData.tuple [.str n, .int (ver rows n)]) us2 := by
        intro z ez p np
        have w2 := w'.newG (o := .tup [.str n, .int z]) np
        have sg := w'.leG (o := .tup [.str n, .int z]) np
        refine ⟨us, w2.hd, sz_lt (by omega), _, us ++ [.ref p], s.trans sg, w2.set, ?_⟩
        rw [take_more hn, List.map_append]
        subst ez
        exact (rs.mono sg).app (.cons (.tup upd_same (.cons (.str n) (.cons (.int _) .nil))) .nil)
      by_cases he : wr rows n = []
      · refine ⟨false, .inl ⟨_, SqL.of gf, by rw [he]; rfl⟩, iteF ?_⟩
        refine ⟨by show 2 ≤ sizeLine; decide, fun p np => ?_⟩
        exact fin 0 (by unfold ver; rw [he]; rfl) p np
      · refine ⟨true, .inl ⟨_, SqL.of gf, ?_⟩, iteT ?_⟩
        · cases e : wr rows n with
          | nil => exact absurd e he
          | cons _ _ => rfl
        · obtain ⟨z, hz⟩ : ∃ z, (wr rows n).getLast? = some z := by
            cases e : (wr rows n).getLast? with
            | none => exact absurd (List.getLast?_eq_none_iff.mp e) he
            | some z => exact ⟨z, rfl⟩
          have hz2 : atI ((wr rows n).map V.int) (-1) = some (.int z) := last_atI (by rw [List.getLast?_map, hz]; rfl)
          refine ⟨_, rfl, x, Cl, dx, fs, _, rfl, gx, T.cl_Log, T.nW, hw, _, rfl, aw, _, rfl, dg, ?_⟩
          refine ⟨1, rfl, rIx.lst gf hz2 ?_⟩
          refine ⟨by show 2 ≤ sizeLine; decide, fun p np => ?_⟩
          exact fin z (by unfold ver; rw [hz]; rfl) p np
    · rintro H' ⟨G', us, s, w', rs⟩
      have e : (nms.map V.str).length = nms.length := List.length_map _
      rw [e, List.take_length] at rs
      refine ⟨D, us, rfl, .inl ⟨SqL.of w'.hd, fun p np => ?_⟩⟩
      have w2 := (w'.newG (o := .tup us) np).drop
      have sg := w'.leG (o := .tup us) np
      exact k _ _ _ (s.trans sg) w2 (.tup upd_same (rs.mono sg))
end
end Lw_log

namespace Lw_init
open PySem PySem.Spec PyProof.Rows L2 Lr
def top (i : Nat) : Stmt := PySem.Challenge.pw_leastredo_k12_whole_least_redo_of_great.main.body.getD i (.Pass ⟨0, 0, 0, 0⟩)
abbrev s_Log_init : Stmt := inClass (top 18) 0
abbrev N_Log_init : List Str := ["self", "pages", "records", "names", "index", "thing", "row", "number", "name"]
theorem sc_Log_init : FnScope ["self", "pages", "records", "names", "index", "thing", "row", "number", "name"] ["self", "pages", "records"] (defScope s_Log_init) := ⟨rfl, rfl, rfl, by decide +kernel, rfl, by decide +kernel, by decide +kernel⟩
structure Txt (K : PySem.W.Frag) (mg : Str → Option Value) (Cl CB fB CR fR : Addr) : Prop where
  b : Bl mg
  cl_Log : Cls K Cl
  nW : NoAttr K Cl "writers"
  nR : NoAttr K Cl "rows"
  nN : NoAttr K Cl "names"
  nD : NoAttr K Cl "needs"
  x_BadPages : PySem.Exthing.Txtthing "BadPages" "BadPages.__init__" K mg CB fB
  x_BadRecords : PySem.Exindex.Txtindex "BadRecords" "BadRecords.__init__" K mg CR fR
section
variable {P : Program} {w : World} {K : PySem.W.Frag} {mg : Str → Option Value} {base : Heap} {Cl CB fB CR fR : Addr}
theorem ok_Log_init {f : Addr} {fd : FuncData} (T : Txt K mg Cl CB fB CR fR) (F : Fun K "__init__" "Log.__init__" s_Log_init f fd) (G_names_of : Okf P w K mg base CX0 2 "names_of" ["thing"] spNamesOf) (G_record_of : Okf P w K mg base CX0 4 "record_of" ["thing", "names"] (spRecordOf K))
    (G_Log_standing : Okm P w K mg base CX0 1 Cl "standing" ["self", "names"] (spStanding Cl)) : FnOk P w K mg base (L2.CX P w) 5 f fd ["self", "pages", "records"] (spLogInit Cl CB CR) := by
  refine F.okX sc_Log_init (fun vs H Q E h => ?_) (fun cdv A outer s H vs Q E hr h => ?_)
  · obtain ⟨G, C, x, dx, dp, dr, vp, vr, rfl, _⟩ := h
    rfl
  · obtain ⟨G, C, x, dx, dp, dr, vp, vr, rfl, W, hp, hd, sp, sr, kP, kR, kL⟩ := h
    have hu := hu_of hr
    refine ⟨_, (pss_cons (ps_set (i := 3) sc_Log_init.nd rfl (Or.inl rfl) (pc G_names_of hr (pa_cons (pv 1) pa_nil)))
    (pss_cons (ps_if (PW.pt (pw_or (pt_cmpR op_isN (pv 3) pe_non (nomark _)) (pw_or1 (pt_not (pt_chain op_le op_le pe_int (pe_callB (call_lenA (K := K)) (by rfl) T.b.len (by decide +kernel) (pa_cons (pv 3) pa_nil)) pe_int)))))
    (pss_one (ps_raiseLow_thing rfl T.x_BadPages hr (takes_of rfl rfl rfl rfl) (pa_cons (pv 1) pa_nil)))
    pss_nil)
    (pss_cons (ps_if (pt_not (pt_val (pe_callB (call_isiA (K := K)) (by rfl) T.b.isinstance (by decide +kernel) (pa_cons (pv 2) (pa_cons (pe_tup (pa_cons (pe_bltn (v := .ty "list") (by rfl) T.b.list (by decide +kernel) rfl) (pa_cons (pe_bltn (v := .ty "tuple") (by rfl) T.b.tuple (by decide +kernel) rfl) pa_nil))) pa_nil)))))
    (pss_one (ps_raiseLow_index rfl T.x_BadRecords hr (takes_of rfl rfl rfl rfl) (pa_cons pe_int pa_nil)))
    pss_nil)
    (pss_cons (ps_fld (pv 0) (pe_callTy (call_tupleA (K := K)) (by rfl) T.b.tuple (by decide +kernel) (pa_cons (pv 3) pa_nil)) rfl)
    (pss_cons (ps_fld (pv 0) (pe_lst pa_nil) rfl)
    (pss_cons (ps_for (passes_of rfl) rfl (pi_enumA (K := K) rfl T.b.enumerate (pa_cons (pv 2) pa_nil)) (xtup (K := K) (n := 2) rfl (pgs_cons (pg_name (i := 4) sc_Log_init.nd rfl (Or.inl rfl)) (pgs_cons (pg_name (i := 5) sc_Log_init.nd rfl (Or.inl rfl)) pgs_nil)))
    (pss_cons (ps_set (i := 6) sc_Log_init.nd rfl (Or.inl rfl) (pc G_record_of hr (pa_cons (pv 5) (pa_cons (pv 3) pa_nil))))
    (pss_cons (ps_if (PW.pt (pw_or (pt_cmpR op_isN (pv 6) pe_non (nomark _)) (pw_or1 (pt_cmpR (op_eqA (K := K) hr.units) (pv 4) pe_int (nomark _)))))
    (pss_one (ps_raiseLow_index rfl T.x_BadRecords hr (takes_of rfl rfl rfl rfl) (pa_cons (pv 4) pa_nil)))
    pss_nil)
    (pss_one (ps_expr (xbm (K := K) PySem.F.plainAttrs_list PySem.F.slot_list_append PySem.F.type_list_append mt_append (xfld (K := K) (pv 0) rfl) (pa_cons (pv 6) pa_nil)))))))
    (pss_cons (ps_fld (pv 0) (pe_dc (own := [("name", 8)]) (g := gName 8) (tt := tYes) rfl sc_Log_init.nd (pi_seq (K := K) (pv 3)) (blkOk_by (N := N_Log_init) (sc := defScope s_Log_init) (by decide +kernel)) (fun _ _ _ _ _ => (pg_name (i := 8) sc_Log_init.nd rfl (Or.inl rfl))) (fun _ _ _ _ _ => pts_nil) (fun _ _ _ _ _ => (pv 8)) (fun _ _ _ _ _ => (pe_lst pa_nil))) rfl)
    (pss_cons (ps_fld (pv 0) (pe_lst pa_nil) rfl)
    (pss_cons (ps_for (passes_of rfl) rfl (pi_enumS (K := K) rfl T.b.enumerate (pa_cons (xfld (K := K) (pv 0) rfl) pa_nil) (pk_cons pe_int pk_nil)) (xtup (K := K) (n := 2) rfl (pgs_cons (pg_name (i := 7) sc_Log_init.nd rfl (Or.inl rfl)) (pgs_cons (pg_name (i := 6) sc_Log_init.nd rfl (Or.inl rfl)) pgs_nil)))
    (pss_cons (ps_expr (xbm (K := K) PySem.F.plainAttrs_list PySem.F.slot_list_append PySem.F.type_list_append mt_append (xfld (K := K) (pv 0) rfl) (pa_cons (pm (pv 0) T.cl_Log G_Log_standing hr (pa_cons (pe_ix (xix (K := K)) (pv 6) pe_int (fun _ _ => rfl)) pa_nil)) pa_nil)))
    (pss_one (ps_for (passes_of rfl) rfl (pi_seq (K := K) (pe_ix (xix (K := K)) (pv 6) pe_int (fun _ _ => rfl))) (pg_name (i := 8) sc_Log_init.nd rfl (Or.inl rfl))
    (pss_one (ps_expr (xbm (K := K) PySem.F.plainAttrs_list PySem.F.slot_list_append PySem.F.type_list_append mt_append (pe_dget hu (xfld (K := K) (pv 0) rfl) (pv 8) (fun _ _ => rfl)) (pa_cons (pv 7) pa_nil))))))))
    (pss_one (ps_expr (xbm (K := K) PySem.F.plainAttrs_list PySem.F.slot_list_append PySem.F.type_list_append mt_append (xfld (K := K) (pv 0) rfl) (pa_cons (pm (pv 0) T.cl_Log G_Log_standing hr (pa_cons (pv 3) pa_nil)) pa_nil))))))))))))), ?_⟩
    have rp := hp.at W.drop
    have rr := hd.at W.drop
    have badP : logD dp dr = .pages → ∀ {G' : Hp} {D : List Cell} {H' : Hp} (d : Addr), Same G G' → WF G' (D ++ C) H' → H' d = none → E (.ref CB) (some d) (upd H' d (.xd [(("thing" : Str), vp)])) := fun e G' D H' d s w hd =>
      kP e _ _ d (s.trans (w.leG hd)) (w.newG hd).dropL upd_same
    have badR : ∀ i : Nat, logD dp dr = .records i → ∀ {G' : Hp} {D : List Cell} {H' : Hp} (d : Addr), Same G G' → WF G' (D ++ C) H' → H' d = none → E (.ref CR) (some d) (upd H' d (.xd [(("index" : Str), .int i)])) := fun i e G' D H' d s w hd =>
      kR i e _ _ d (s.trans (w.leG hd)) (w.newG hd).dropL upd_same
    refine ⟨_, rfl, dp, vp, rfl, rp, sp, fun en H1 s1 => ?_, fun ns en H1 pn s1 np hpn => ?_⟩
    · refine ⟨_, rfl, rfl, _, rfl, iteT (iteT ⟨_, rfl, _, rfl, fun d hd => badP ?_ (D := [_]) d (Same.refl G) (W.same s1) hd⟩)⟩
      unfold logD
      rw [en]
    · have W1 := W.add s1 np hpn
      have g1 : Same G (upd G pn (.lst (ns.map V.str))) := W.leG np
      obtain ⟨G1, eG1⟩ : ∃ G1, G1 = upd G pn (.lst (ns.map V.str)) := ⟨_, rfl⟩
      rw [← eG1] at W1 g1
      have hpG : G1 pn = some (.lst (ns.map V.str)) := by
        rw [eG1]
        exact upd_same
      have eD : logD dp dr = if 1 ≤ ns.length ∧ ns.length ≤ 12 then (match itemsD dr with
          | none => .records 0
          | some ds => match rowsL ns ds 0 [] with
            | .error i => .records i
            | .ok rows => .log ⟨ns, rows⟩) else .pages := by
        unfold logD
        rw [en]
        all_goals rfl
      have bad2 : ¬ (1 ≤ ns.length ∧ ns.length ≤ 12) → logD dp dr = .pages := fun h => by rw [eD, if_neg h]
      refine ⟨_, rfl, rfl, _, rfl, iteF ?_⟩
      refine ⟨_, rfl, rLenA.v (n := ns.length) (.inl ⟨_, SqL.of hpn, by simp⟩) ⟨_, _, rfl, rfl, ⟨_, rfl, ite2 (fun h1 => ⟨_, _, rfl, rfl, ?_⟩) (fun h1 => ?_)⟩⟩⟩
      rotate_left
      · refine ⟨_, rfl, iteT ⟨_, rfl, _, rfl, fun d hd => badP (bad2 fun h => h1 (decide_eq_true (by omega))) (D := [_]) d (Same.refl G) (W.same s1) hd⟩⟩
      have h1' : (1 : Int) ≤ ns.length := of_decide_eq_true h1
      refine ⟨_, rfl, ?_⟩
      by_cases h2 : (ns.length : Int) ≤ 12
      rotate_left
      · rw [decide_eq_false h2]
        refine iteT ⟨_, rfl, _, rfl, fun d hd => badP (bad2 fun h => h2 (by omega)) (D := [_]) d (Same.refl G) (W.same s1) hd⟩
      rw [decide_eq_true h2]
      have hnn : 1 ≤ ns.length ∧ ns.length ≤ 12 := ⟨by omega, by omega⟩
      rw [if_pos hnn] at eD
      refine iteF (tnext ?_)
      obtain ⟨nd, srt, nb⟩ := namesD_ok en
      refine ⟨_, rfl, by show 2 ≤ sizeLine; decide, fun p np => isiT2 upd_same ((rr.mono s1).mono (same_new np)).tyd items_ty ⟨_, rfl, ?_⟩⟩
      have W2 := W1.newG (o := .tup [.ty "list", .ty "tuple"]) np
      have g2 := g1.trans (W1.leG (o := .tup [.ty "list", .ty "tuple"]) np)
      have hpG2 := W1.leG (o := .tup [.ty "list", .ty "tuple"]) np _ _ hpG
      generalize upd G1 p (.tup [.ty "list", .ty "tuple"]) = G2 at W2 g2 hpG2
      generalize upd H1 p (.tup [.ty "list", .ty "tuple"]) = H2 at W2
      cases e : itemsD dr with
      | none =>
        rw [e] at eD
        refine iteT ⟨_, rfl, fun d hd => badR 0 eD (D := [_]) d g2 W2 hd⟩
      | some ds =>
        rw [e] at eD
        obtain ⟨l60, shd⟩ := sr ds e
        obtain ⟨L, hL, rL⟩ := hd
        obtain ⟨kd, a, vs, rfl, rs, hk⟩ := rL.items (K := K) e
        refine iteF (tnext (tseq ?_))
        refine ⟨_, rfl, pn, _, rfl, .inl ⟨SqL.of (W2.getG hpG2), fun an nan => ?_⟩⟩
        have W3 := W2.newG (o := .tup (ns.map V.str)) nan
        refine ⟨_, rfl, x, Cl, dx, [], rfl, W3.hd, T.cl_Log, T.nN, by decide, ?_⟩
        rw [putF1]
        have W4 := W3.set (u := .ins Cl dx ([("names", V.ref an)] : List (Str × V)))
        have g4 := g2.trans (W2.leG (o := .tup (ns.map V.str)) nan)
        have hpG4 := W2.leG (o := .tup (ns.map V.str)) nan _ _ hpG2
        have hanG : (upd G2 an (.tup (ns.map V.str))) an = some (.tup (ns.map V.str)) := upd_same
        generalize upd G2 an (.tup (ns.map V.str)) = G4 at W4 g4 hpG4 hanG
        generalize upd (upd H2 an (.tup (ns.map V.str))) x (.ins Cl dx ([("names", V.ref an)] : List (Str × V))) = H4 at W4
        refine tseq ⟨Nat.zero_le _, fun ar nar => ?_⟩
        have W5 := (W4.new (o := .lst []) nar).swap
        refine ⟨_, rfl, x, Cl, dx, _, rfl, W5.hd, T.cl_Log, T.nR, by show 1 < 1000; decide, ?_⟩
        rw [putF2]
        have W6 := W5.set (u := .ins Cl dx ([("names", V.ref an), ("rows", V.ref ar)] : List (Str × V)))
        generalize upd (upd H4 ar (.lst [])) x (.ins Cl dx ([("names", V.ref an), ("rows", V.ref ar)] : List (Str × V))) = H6 at W6
        refine tseq ?_
        have hk6 : ∀ {G' : Hp} {D : List Cell} {H' : Hp}, Same G G' → WF G' (D ++ C) H' → SqK kd K H' a vs := fun s w => hk _ (sees_same hL (w.dropL.weak s) |>.trans (Same.refl _))
        refine ⟨_, rfl, kd, a, vs, rfl, ?_, for_enumE (xs := vs) (c := 0) (fun i σ H' => ∃ (G' : Hp) (rvs : List V) (acc : List Lr.Row), Same G4 G' ∧ WF G' ((x, .ins Cl dx ([("names", V.ref an), ("rows", V.ref ar)] : List (Str × V))) :: (ar, .lst rvs) :: C) H' ∧ Reps G' (acc.map recD) rvs ∧ acc.length = i ∧ rowsL ns (ds.drop i) i acc = rowsL ns ds 0 [] ∧
          ∃ y1 y2 y3 y4 y5, σ = [some (.ref x), some vp, some (.ref a), some (.ref pn), y1, y2, y3, y4, y5]) ⟨G4, [], [], Same.refl _, W6, .nil, rfl, rfl, _, _, _, _, _, rfl⟩ ?_ ?_ ?_⟩
        · exact hk6 (D := [_, _]) g4 W6
        · rintro i σ H' _ ⟨G', rvs, acc, sg, w, _⟩
          exact hk6 (D := [_, _]) (g4.trans sg) w
        · rintro i v Tq σ H' hx ⟨G', rvs, acc, sg, w, rr', la, eN, y1, y2, y3, y4, y5, rfl⟩ nT
          have hi := (List.getElem?_eq_some_iff.mp hx).1
          have lx := rs.length
          obtain ⟨di, hdi, ri⟩ := rs.get hx
          have edrop : ds.drop i = di :: ds.drop (i + 1) := by
            rw [List.drop_eq_getElem_cons (by omega)]
            rw [(List.getElem?_eq_some_iff.mp hdi).2]
          rw [edrop] at eN
          have w1 := w.newG (o := .tup [.int (0 + ((i : Nat) : Int)), v]) nT
          have sg1 := sg.trans (w.leG (o := .tup [.int (0 + ((i : Nat) : Int)), v]) nT)
          have rr1 := rr'.mono (w.leG (o := .tup [.int (0 + ((i : Nat) : Int)), v]) nT)
          refine ⟨Tq, _, rfl, SqT.of upd_same, rfl, ?_⟩
          generalize upd G' Tq (.tup [.int (0 + ((i : Nat) : Int)), v]) = G7 at w1 sg1 rr1
          generalize upd H' Tq (.tup [.int (0 + ((i : Nat) : Int)), v]) = H7 at w1
          have hpn7 : H7 pn = some (.lst (ns.map V.str)) := w1.getG (sg1 _ _ hpG4)
          refine gc2 ?_
          refine tseq ?_
          refine tasg ?_
          refine (⟨_, rfl, _, rfl, di, v, pn, ns, rfl, ri.mono (sees_same hL ((w1.dropL (A := [_, _])).weak (g4.trans sg1))), shd di (List.mem_of_getElem? hdi), .inl (SqL.of hpn7), fun er H8 s8 => ?_, fun r wq er H8 p8 q8 t8 s8 np8 nq8 nt8 npq npt nqt e1 e2 e3 => ?_⟩)
          · have eb : logD dp dr = .records i := by
              rw [eD]
              show (match rowsL ns ds 0 [] with
                | .error i => LogR.records i
                | .ok rows => .log ⟨ns, rows⟩) = _
              rw [← eN]
              unfold rowsL
              rw [er]
            refine ⟨_, rfl, rfl, _, rfl, iteT (iteT ⟨_, rfl, _, rfl, fun d hd => ?_⟩)⟩
            rw [Int.zero_add]
            exact badR i eb (D := [_, _]) d (g4.trans sg1) (w1.same s8) hd
          · refine ⟨_, rfl, rfl, _, rfl, iteF ⟨_, rfl, rEqA.int ⟨_, rfl, ?_⟩⟩⟩
            by_cases h60 : i = 60
            · have eb : logD dp dr = .records i := by
                rw [eD]
                show (match rowsL ns ds 0 [] with
                  | .error i => LogR.records i
                  | .ok rows => .log ⟨ns, rows⟩) = _
                rw [← eN]
                unfold rowsL
                rw [er]
                simp only [h60, if_true]
              rw [decide_eq_true (by omega)]
              refine iteT ⟨_, rfl, _, rfl, fun d hd => ?_⟩
              rw [Int.zero_add]
              exact badR i eb (D := [_, _]) d (g4.trans sg1) (w1.same s8) hd
            · rw [decide_eq_false (by omega)]
              refine iteF (tnext ?_)
              obtain ⟨G8, w8, s78, f1, f2, f3⟩ := w1.add3 s8 np8 nq8 nt8 npq npt nqt e1 e2 e3
              have har := w8.swap.hd
              have lr := rr1.length
              rw [List.length_map] at lr
              refine ⟨_, rfl, x, Cl, dx, _, _, rfl, w8.hd, T.cl_Log, T.nR, lk_rows _ _ _, .inl ⟨rfl, _, SqL.of har⟩, _, rfl, _, _, _, rfl, rfl, har, sz_lt (by omega), ?_⟩
              refine ⟨G8, rvs ++ [.ref p8], acc ++ [(r, wq)], sg1.trans s78, w8.swap.set.swap, ?_, by rw [List.length_append, la]; rfl, ?_, _, _, _, _, _, rfl⟩
              · rw [List.map_append]
                refine (rr1.mono s78).app (.cons (.tup f1 (.cons (.tup f2 (rep_strs _)) (.cons (.tup f3 (rep_strs _)) .nil))) .nil)
              · rw [← eN]
                conv => rhs; unfold rowsL
                rw [er]
                simp only [h60, if_false]
        · rintro σ H' ⟨G', rvs, rows, sg, w, rr', la, eN, y1, y2, y3, y4, y5, rfl⟩
          have lx := rs.length
          have e0 : ds.drop vs.length = [] := List.drop_eq_nil_of_le (by omega)
          rw [e0] at eN
          have eL : logD dp dr = .log ⟨ns, rows⟩ := by
            rw [eD]
            show (match rowsL ns ds 0 [] with
              | .error i => LogR.records i
              | .ok rows => .log ⟨ns, rows⟩) = _
            rw [← eN]
            rfl
          obtain ⟨rok, rl⟩ := rowsL_ok eN.symm (fun r hr => by cases hr) rfl (by omega)
          have k9 := kL _ eL
          have hpG' := sg _ _ hpG4
          have hanG' := sg _ _ hanG
          have g' := g4.trans sg
          clear eN eL kL kR badR eD e0 kP badP
          clear sg g4
          refine tnx ?_
          refine tseq ?_
          refine tfld ?_
          obtain ⟨fs2, efs2⟩ : ∃ fs2, fs2 = ([("names", V.ref an), ("rows", V.ref ar)] : List (Str × V)) := ⟨_, rfl⟩
          rw [← efs2] at w
          refine dc_seq (xs := ns.map V.str) (k := true) (fun R r => ⟨_, rfl, r⟩) (SqK.lst (w.getG hpG')) fun D nD => ⟨fun j H2 => ∃ nas, nas.map (·.1) = ns.take j ∧ WF G' ((D, .dK (wdict nas)) :: (wcells nas (fun _ => []) ++ (x, .ins Cl dx fs2) :: (ar, .lst rvs) :: C)) H2, ⟨[], rfl, w.new nD⟩, fun j H2 _ ⟨nas, _, w2⟩ => SqK.lst (w2.getG hpG'), ?_, ?_⟩
          · rintro j v H2 hv ⟨nas, en2, w2⟩
            obtain ⟨n, hn, rfl⟩ := map_get hv
            have hj := (List.getElem?_eq_some_iff.mp hn).1
            have ll : nas.length = j := by
              have := congrArg List.length en2
              rw [List.length_map, List.length_take] at this
              omega
            refine ⟨rfl, ?_⟩
            refine ⟨_, rfl, ⟨Nat.zero_le _, fun l nl => ?_⟩⟩
            have nn : n ∉ nas.map (·.1) := fun z => by
              rw [en2] at z
              have nd' : (ns.take (j + 1)).Nodup := nd.sublist (List.take_sublist _ _)
              rw [take_more hn] at nd'
              exact (List.nodup_append.mp nd').2.2 n z n (by simp) rfl
            have w3 := (w2.new (o := .lst []) nl).swap
            refine ⟨_, Sum.inr n, rfl, w3.hd, sz_lt (by unfold wdict; rw [List.length_map]; omega), nas ++ [(n, l)], by rw [List.map_append, en2, take_more hn]; rfl, ?_⟩
            rw [wdict_put nn, wcells_app]
            refine (w3.set).perm (List.Perm.cons _ ?_)
            show ((l, HO.lst []) :: (wcells nas (fun _ => []) ++ _)).Perm ((wcells nas (fun _ => []) ++ [(l, HO.lst [])]) ++ _)
            rw [List.append_assoc]
            exact List.perm_middle.symm
          · rintro H2 ⟨nas, en2, w2⟩
            rw [List.length_map, List.take_length] at en2
            have w3 := w2.perm (List.Perm.symm (List.perm_middle (l₁ := wcells nas (fun _ => []))))
            have w4 := WF.perm (D := wcells nas (fun _ => []) ++ (x, .ins Cl dx fs2) :: (D, .dK (wdict nas)) :: (ar, .lst rvs) :: C) w3 (List.Perm.append_left _ (List.Perm.swap _ _ _))
            clear w2 w3
            refine ⟨_, rfl, x, Cl, dx, fs2, rfl, w4.getApp, T.cl_Log, T.nW, by rw [efs2]; show 2 < 1000; decide, ?_⟩
            rw [efs2, putF3]
            have w5 := w4.setApp (u := .ins Cl dx ([("names", V.ref an), ("rows", V.ref ar), ("writers", V.ref D)] : List (Str × V)))
            generalize upd H2 x (.ins Cl dx ([("names", V.ref an), ("rows", V.ref ar), ("writers", V.ref D)] : List (Str × V))) = H3 at w5
            refine tseq ⟨Nat.zero_le _, fun ad nad => ?_⟩
            have w6 := WF.perm (D := wcells nas (fun _ => []) ++ (x, .ins Cl dx ([("names", V.ref an), ("rows", V.ref ar), ("writers", V.ref D)] : List (Str × V))) :: (ad, .lst []) :: (D, .dK (wdict nas)) :: (ar, .lst rvs) :: C) (w5.newApp (o := .lst []) nad) (List.Perm.append_left _ (List.Perm.swap _ _ _))
            refine ⟨_, rfl, x, Cl, dx, _, rfl, w6.getApp, T.cl_Log, T.nD, by show 3 < 1000; decide, ?_⟩
            rw [putF4]
            have w7 := w6.setApp (u := .ins Cl dx (logF an ar D ad))
            have w8 := WF.perm (D := wcells nas (fun _ => []) ++ (ad, .lst []) :: (x, .ins Cl dx (logF an ar D ad)) :: (D, .dK (wdict nas)) :: (ar, .lst rvs) :: C) w7 (List.Perm.append_left _ (List.Perm.swap _ _ _))
            generalize upd (upd H3 ad (.lst [])) x _ = H4 at w8
            clear w4 w5 w6 w7
            obtain ⟨fA, hfA⟩ := addr_of nas (by rw [en2]; exact nd)
            have eLen : rows.length = rvs.length := by
              have := rr'.length
              rwa [List.length_map] at this
            -- what standing is given
            have give : ∀ (G9 : Hp) (gw : Str → List Int) (Z : List Cell) (H9 : Hp) (sgo : Same G' G9), ∀ (rs0 : List Lr.Row), (∀ n ∈ ns, gw n = wr rs0 n) → ∀ (b : Addr) (nms : List Str), (∀ n ∈ nms, n ∈ ns) → ∀ n ∈ nms, valV (wdict nas) (Sum.inr n : Key) = some (.ref (fA n)) ∧ Sees G9 (wcells nas gw ++ Z) (fA n) (.lst ((wr rs0 n).map V.int)) := by
              intro G9 gw Z H9 _ rs0 hgw b nms hsub n hn
              have hm : n ∈ nas.map (·.1) := by
                rw [en2]
                exact hsub n hn
              obtain ⟨p, hp, rfl⟩ := List.mem_map.mp hm
              refine ⟨?_, .inr (List.mem_append_left _ ?_)⟩
              · rw [hfA p hp]
                exact wdict_get (by rw [en2]; exact nd) hp
              · rw [hfA p hp, ← hgw p.1 (hsub _ hn)]
                exact List.mem_map.mpr ⟨p, hp, rfl⟩
            obtain ⟨fs9, efs9⟩ : ∃ fs9, fs9 = logF an ar D ad := ⟨_, rfl⟩
            have lkN : fs9.lookup ("needs" : Str) = some (.ref ad) := by rw [efs9]; exact lk_needs _ _ _ _ _
            have lkW : fs9.lookup ("writers" : Str) = some (.ref D) := by rw [efs9]; exact lk_writers _ _ _ _
            have lkR : fs9.lookup ("rows" : Str) = some (.ref ar) := by rw [efs9]; exact lk_rows _ _ _
            have lkS : fs9.lookup ("standing" : Str) = none := by
              rw [efs9]
              unfold logF
              rw [look_cons, if_neg (by decide +kernel), look_cons, if_neg (by decide +kernel), look_cons, if_neg (by decide +kernel), look_cons, if_neg (by decide +kernel)]
              rfl
            have n12 : ∀ xs : List Str, xs.Nodup → (∀ n ∈ xs, n ∈ ns) → xs.length ≤ 1000 := fun xs h1 h2 => by
              have := nodup_len h1 h2
              omega
            rw [← efs9] at w8
            obtain ⟨Z, eZ⟩ : ∃ Z : List Cell, Z = (D, .dK (wdict nas)) :: (ar, .lst rvs) :: C := ⟨_, rfl⟩
            have inX : ∀ (gw : Str → List Int) (nvs : List V), (x, HO.ins Cl dx fs9) ∈ wcells nas gw ++ (ad, .lst nvs) :: (x, .ins Cl dx fs9) :: Z := fun gw nvs => List.mem_append_right _ (List.mem_cons_of_mem _ List.mem_cons_self)
            have inD : ∀ (gw : Str → List Int) (nvs : List V), (D, HO.dK (wdict nas)) ∈ wcells nas gw ++ (ad, .lst nvs) :: (x, .ins Cl dx fs9) :: Z := fun gw nvs => by
              rw [eZ]
              exact List.mem_append_right _ (List.mem_cons_of_mem _ (List.mem_cons_of_mem _ List.mem_cons_self))
            have inR : ∀ (gw : Str → List Int) (nvs : List V), (ar, HO.lst rvs) ∈ wcells nas gw ++ (ad, .lst nvs) :: (x, .ins Cl dx fs9) :: Z := fun gw nvs => by
              rw [eZ]
              exact List.mem_append_right _ (List.mem_cons_of_mem _ (List.mem_cons_of_mem _ (List.mem_cons_of_mem _ List.mem_cons_self)))
            rw [← eZ] at w8
            refine tseq ?_
            refine ⟨_, rfl, x, Cl, dx, fs9, _, rfl, w8.get (inX _ _), T.cl_Log, T.nR, lkR, true, ar, rvs, 1, rfl, rfl, by decide, by decide, SqK.lst (w8.get (inR _ _)), for_enumE (xs := rvs) (c := 1) (fun i σ H' => ∃ (G9 : Hp) (nvs : List V), Same G' G9 ∧ WF G9 (wcells nas (wr (rows.take i)) ++ (ad, .lst nvs) :: (x, .ins Cl dx fs9) :: Z) H' ∧ Reps G9 ((List.range i).map fun k => needD (rows.take k) ((rows[k]?).getD ([], [])).1) nvs ∧
              ∃ y1 y2 y3 y4 y5, σ = [some (.ref x), some vp, some (.ref a), some (.ref pn), y1, y2, y3, y4, y5]) ⟨G', [], Same.refl _, ?_, .nil, _, _, _, _, _, rfl⟩ ?_ ?_ ?_⟩
            · rw [wcells_congr (g' := fun _ => []) (fun p _ => rfl)]
              exact w8
            · rintro i σ H' _ ⟨G9, nvs, _, w, _⟩
              exact SqK.lst (w.get (inR _ _))
            · rintro i v Tq σ H5 hx ⟨G9, nvs, sg, w, rn, z1, z2, z3, z4, z5, rfl⟩ nT
              have hi := (List.getElem?_eq_some_iff.mp hx).1
              obtain ⟨r, hrr, ri⟩ := recs_get (rr'.mono sg) hx
              obtain ⟨b, q, t, rfl, gb, gq, gt⟩ := rec_at ri
              obtain ⟨o1, o2, o3, o4, o5, _, _⟩ := rok r (List.mem_of_getElem? hrr)
              have w1 := w.newG (o := .tup [.int (1 + ((i : Nat) : Int)), .ref b]) nT
              have sn := w.leG (o := .tup [.int (1 + ((i : Nat) : Int)), .ref b]) nT
              have sg1 := sg.trans sn
              have rn1 := rn.mono sn
              have gb1 := sn _ _ gb
              have gq1 := sn _ _ gq
              have gt1 := sn _ _ gt
              refine ⟨Tq, _, rfl, SqT.of upd_same, rfl, ?_⟩
              generalize upd G9 Tq (.tup [.int (1 + ((i : Nat) : Int)), .ref b]) = G7 at w1 sg1 rn1 gb1 gq1 gt1
              generalize upd H5 Tq (.tup [.int (1 + ((i : Nat) : Int)), .ref b]) = H7 at w1
              clear gb gq gt sn w rn sg
              refine gc2 ?_
              refine tseq ?_
              have ln := rn1.length
              rw [List.length_map, List.length_range] at ln
              refine ⟨_, rfl, x, Cl, dx, fs9, _, rfl, w1.get (inX _ _), T.cl_Log, T.nD, lkN, .inl ⟨rfl, _, SqL.of w1.getApp⟩, ?_⟩
              refine ⟨_, rfl, x, dx, fs9, rfl, w1.get (inX _ _), lkS, _, rfl, rIx.tup (w1.getG gb1) (atI_nat (j := 0) rfl) ?_⟩
              refine ⟨G7, _, x, dx, D, q, fs9, wdict nas, rows.take i, r.1, fA, rfl, w1, .inr (inX _ _), lkW, .inr (inD _ _), .inr (.inl gq1), n12 _ o4 o2, give G7 _ _ H7 sg1 _ (fun n _ => rfl) q r.1 o2, fun G8 H8 v s8 w8 rep => ?_⟩
              refine ⟨_, _, _, rfl, rfl, w8.getApp, sz_lt (by omega), ?_⟩
              have w9 := w8.setApp (u := .lst (nvs ++ [v]))
              generalize upd H8 ad (.lst (nvs ++ [v])) = H9 at w9
              refine for_seq (xs := r.2.map V.str) (k := false) (fun R r => ⟨_, rfl, rIx.tup (w9.getG (s8 _ _ gb1)) (atI_nat (j := 1) rfl) r⟩) (SqK.tup (w9.getG (s8 _ _ gt1))) (fun j σ H' => WF G8 (wcells nas (wrJ (rows.take i) (r.2.take j)) ++ (ad, .lst (nvs ++ [v])) :: (x, .ins Cl dx fs9) :: Z) H' ∧
                ∃ y1 y2 y5, σ = [some (.ref x), some vp, some (.ref a), some (.ref pn), y1, y2, some (.ref b), some (.int (1 + ((i : Nat) : Int))), y5]) ⟨?_, _, _, _, rfl⟩ (fun j σ H' _ p => SqK.tup (p.1.getG (s8 _ _ gt1))) ?_ ?_
              · rw [wcells_congr (g' := wr (rows.take i)) (fun p _ => by unfold wrJ; simp)]
                exact w9
              · rintro j v2 σ H' hv ⟨w, u1, u2, u5, rfl⟩
                obtain ⟨n, hn, rfl⟩ := map_get hv
                have hm : n ∈ nas.map (·.1) := by
                  rw [en2]
                  exact o3 n (List.mem_of_getElem? hn)
                obtain ⟨p, hp, rfl⟩ := List.mem_map.mp hm
                have dg : DGet H' D (.str p.1) (some (.ref p.2)) := by
                  have := DGet.k (k := Sum.inr p.1) (w.get (inD _ _))
                  rw [wdict_get (by rw [en2]; exact nd) hp] at this
                  exact this
                obtain ⟨A1, B1, c1, c2⟩ := wcells_split hp (by rw [en2]; exact nd) (wrJ (rows.take i) (r.2.take j)) (wrJ (rows.take i) (r.2.take j) p.1 ++ [1 + ((i : Nat) : Int)])
                have wx := w.get (inX _ _)
                rw [c1, List.append_assoc] at w
                have lw := wrJ_len (rows.take i) (r.2.take j) p.1
                rw [List.length_take] at lw
                refine ⟨_, rfl, x, Cl, dx, fs9, _, rfl, wx, T.cl_Log, T.nW, lkW, _, rfl, D, _, rfl, dg, .inl ⟨rfl, _, SqL.of w.getApp⟩, _, rfl, ?_⟩
                refine ⟨_, _, _, rfl, rfl, w.getApp, sz_lt (by rw [List.length_map]; omega), ?_, _, _, _, rfl⟩
                have w2 := w.setApp (u := .lst ((wrJ (rows.take i) (r.2.take j) p.1 ++ [1 + ((i : Nat) : Int)]).map V.int))
                rw [List.map_append] at w2
                have c3 : wcells nas (wrJ (rows.take i) (r.2.take (j + 1))) = A1 ++ (p.2, HO.lst ((wrJ (rows.take i) (r.2.take j) p.1 ++ [1 + ((i : Nat) : Int)]).map V.int)) :: B1 := by
                  rw [← c2]
                  refine wcells_congr fun p' _ => ?_
                  rw [wrJ_step hn o5]
                  have : (((rows.take i).length : Nat) : Int) + 1 = 1 + ((i : Nat) : Int) := by
                    rw [List.length_take]
                    omega
                  rw [this]
                rw [c3, List.append_assoc, List.map_append]
                exact w2
              · rintro σ H' ⟨w, u1, u2, u5, rfl⟩
                rw [List.length_map, List.take_length, wcells_congr (g' := wr (rows.take (i + 1))) (fun p _ => by rw [take_more hrr]; exact wrJ_all)] at w
                refine ⟨G8, nvs ++ [v], sg1.trans s8, w, ?_, _, _, _, _, _, rfl⟩
                rw [List.range_succ, List.map_append]
                refine (rn1.mono s8).app (.cons ?_ .nil)
                show Rep G8 (needD (rows.take i) ((rows[i]?).getD ([], [])).1) v
                rw [hrr]
                exact rep
            · rintro σ H5 ⟨G9, nvs, sg, w, rn, z1, z2, z3, z4, z5, rfl⟩
              refine tnx ?_
              have ln := rn.length
              rw [List.length_map, List.length_range] at ln
              rw [← eLen, List.take_length] at w
              refine ⟨_, rfl, x, Cl, dx, fs9, _, rfl, w.get (inX _ _), T.cl_Log, T.nD, lkN, .inl ⟨rfl, _, SqL.of w.getApp⟩, ?_⟩
              refine ⟨_, rfl, x, dx, fs9, rfl, w.get (inX _ _), lkS, _, rfl, ?_⟩
              refine ⟨G9, _, x, dx, D, pn, fs9, wdict nas, rows, ns, fA, rfl, w, .inr (inX _ _), lkW, .inr (inD _ _), .inl (.inl (sg _ _ hpG')), n12 _ nd (fun n h => h), give G9 _ _ H5 sg _ (fun n _ => rfl) pn ns (fun n h => h), fun G8 H8 v s8 w8 rep => ?_⟩
              refine ⟨_, _, _, rfl, rfl, w8.getApp, sz_lt (by omega), ?_⟩
              have w9 := w8.setApp (u := .lst (nvs ++ [v]))
              generalize upd H8 ad (.lst (nvs ++ [v])) = H9 at w9
              rw [eZ] at w9
              have w10 : WF G8 ((wcells nas (wr rows) ++ [(ad, .lst (nvs ++ [v])), (x, .ins Cl dx fs9), (D, .dK (wdict nas)), (ar, .lst rvs)]) ++ C) H9 := by
                rw [List.append_assoc]
                exact w9
              obtain ⟨G3, w11, s3, hall⟩ := w10.frzAll
              have s83 := s8.trans s3
              refine k9 G3 H9 (g'.trans (sg.trans s83)) w11 ⟨⟨dx, an, ar, D, ad, rvs, nvs ++ [v], fA, ?_, s83 _ _ (sg _ _ hanG'), hall (ar, _) (List.mem_append_right _ (by simp)), rr'.mono (sg.trans s83), ?_, fun n hn => ?_, hall (ad, _) (List.mem_append_right _ (by simp)), ?_⟩, hnn, nd, srt, nb, rl, rok⟩
              · rw [← efs9]
                exact hall (x, _) (List.mem_append_right _ (by simp))
              · have e9 : wdict nas = ns.map fun n => (Sum.inr n, V.ref (fA n)) := by
                  rw [← en2, List.map_map]
                  unfold wdict
                  refine List.map_congr_left fun p hp => ?_
                  show _ = (Sum.inr p.1, V.ref (fA p.1))
                  rw [hfA p hp]
                show G3 D = some (.dK (ns.map fun n => (Sum.inr n, V.ref (fA n))))
                rw [← e9]
                exact hall (D, _) (List.mem_append_right _ (by simp))
              · have hm : n ∈ nas.map (·.1) := by
                  rw [en2]
                  exact hn
                obtain ⟨p, hp, rfl⟩ := List.mem_map.mp hm
                rw [hfA p hp]
                exact hall (p.2, _) (List.mem_append_left _ (List.mem_map.mpr ⟨p, hp, rfl⟩))
              · unfold LogM.needs
                refine ((rn.mono s83).app (.cons (rep.mono s3) .nil) : Reps G3 (_ ++ [needD rows ns]) _) |> fun h => ?_
                rw [← eLen] at h
                exact h
end
end Lw_init

namespace Lw_meth
open PySem PySem.Spec PyProof.Rows L2 Lr
def top (i : Nat) : Stmt := PySem.Challenge.pw_leastredo_k12_whole_least_redo_of_great.main.body.getD i (.Pass ⟨0, 0, 0, 0⟩)
abbrev s_Log_pages : Stmt := inClass (top 18) 2
abbrev N_Log_pages : List Str := ["self"]
theorem sc_Log_pages : FnScope ["self"] ["self"] (defScope s_Log_pages) := ⟨rfl, rfl, rfl, by decide +kernel, rfl, by decide +kernel, by decide +kernel⟩
abbrev s_Log_records : Stmt := inClass (top 18) 3
abbrev N_Log_records : List Str := ["self"]
theorem sc_Log_records : FnScope ["self"] ["self"] (defScope s_Log_records) := ⟨rfl, rfl, rfl, by decide +kernel, rfl, by decide +kernel, by decide +kernel⟩
abbrev s_Log_size : Stmt := inClass (top 18) 4
abbrev N_Log_size : List Str := ["self"]
theorem sc_Log_size : FnScope ["self"] ["self"] (defScope s_Log_size) := ⟨rfl, rfl, rfl, by decide +kernel, rfl, by decide +kernel, by decide +kernel⟩
abbrev s_start : Stmt := top 37
abbrev N_start : List Str := ["script"]
theorem sc_start : FnScope ["script"] ["script"] (defScope s_start) := ⟨rfl, rfl, rfl, by decide +kernel, rfl, by decide +kernel, by decide +kernel⟩
structure Txt (K : PySem.W.Frag) (mg : Str → Option Value) (Cl : Addr) : Prop where
  b : Bl mg
  cl_Log : Cls K Cl
  nR : NoAttr K Cl "rows"
  nN : NoAttr K Cl "names"
section
variable {P : Program} {w : World} {K : PySem.W.Frag} {mg : Str → Option Value} {base : Heap} {Cl : Addr}
theorem ok_Log_pages {f : Addr} {fd : FuncData} (T : Txt K mg Cl) (F : Fun K "pages" "Log.pages" s_Log_pages f fd) : FnOk P w K mg base CX0 1 f fd ["self"] (spPages Cl) := by
  refine F.ok sc_Log_pages (fun vs H Q E h => ?_) (fun cdv A outer s H vs Q E hr h => ?_)
  · obtain ⟨G, x, L, rfl, _⟩ := h
    rfl
  · obtain ⟨G, x, L, rfl, A, s, k⟩ := h
    refine ⟨_, (pss_one (ps_ret (pe_callTy (call_listA (K := K) rfl) (by rfl) T.b.list (by decide +kernel) (pa_cons (xfld (K := K) (pv 0) rfl) pa_nil)))), ?_⟩
    obtain ⟨dx, an, ar, aw, ad, rvs, nvs, fa, h1, h2, h3, h4, h5, h6, h7, h8⟩ := A.ex
    refine ⟨_, rfl, x, Cl, dx, _, _, rfl, s _ _ h1, T.cl_Log, T.nN, lk_names _ _, rListA.sq (.inr (SqT.of (s _ _ h2))) fun l nl => k l nl⟩
theorem ok_Log_records {f : Addr} {fd : FuncData} (T : Txt K mg Cl) (F : Fun K "records" "Log.records" s_Log_records f fd) : FnOk P w K mg base CX0 1 f fd ["self"] (spRecords Cl) := by
  refine F.ok sc_Log_records (fun vs H Q E h => ?_) (fun cdv A outer s H vs Q E hr h => ?_)
  · obtain ⟨G, x, L, rfl, _⟩ := h
    rfl
  · obtain ⟨G, x, L, rfl, A, s, k⟩ := h
    refine ⟨_, (pss_one (ps_ret (pe_callTy (call_listA (K := K) rfl) (by rfl) T.b.list (by decide +kernel) (pa_cons (xfld (K := K) (pv 0) rfl) pa_nil)))), ?_⟩
    obtain ⟨dx, an, ar, aw, ad, rvs, nvs, fa, h1, h2, h3, h4, h5, h6, h7, h8⟩ := A.ex
    refine ⟨_, rfl, x, Cl, dx, _, _, rfl, s _ _ h1, T.cl_Log, T.nR, lk_rows _ _ _, rListA.sq (.inl (SqL.of (s _ _ h3))) fun l nl => k l _ nl h4⟩
theorem ok_Log_size {f : Addr} {fd : FuncData} (T : Txt K mg Cl) (F : Fun K "size" "Log.size" s_Log_size f fd) : FnOk P w K mg base CX0 1 f fd ["self"] (spSize Cl) := by
  refine F.ok sc_Log_size (fun vs H Q E h => ?_) (fun cdv A outer s H vs Q E hr h => ?_)
  · obtain ⟨G, x, L, rfl, _⟩ := h
    rfl
  · obtain ⟨G, x, L, rfl, A, s, k⟩ := h
    refine ⟨_, (pss_one (ps_ret (pe_callB (call_lenA (K := K)) (by rfl) T.b.len (by decide +kernel) (pa_cons (xfld (K := K) (pv 0) rfl) pa_nil)))), ?_⟩
    obtain ⟨dx, an, ar, aw, ad, rvs, nvs, fa, h1, h2, h3, h4, h5, h6, h7, h8⟩ := A.ex
    have e := h4.length
    rw [List.length_map] at e
    rw [e] at k
    exact ⟨_, rfl, x, Cl, dx, _, _, rfl, s _ _ h1, T.cl_Log, T.nR, lk_rows _ _ _, rLenA.v (.inl ⟨_, SqL.of (s _ _ h3), rfl⟩) k⟩
theorem ok_start (T : Txt K mg Cl) (F : FD K mg "_law_start" s_start ["script"]) : Okf P w K mg base CX0 1 "_law_start" ["script"] (spStart K) := by
  refine F.ok sc_start (fun vs H Q E h => ?_) (fun f cdv A outer s H vs Q E hr h => ?_)
  · obtain ⟨G, C, a, l, rfl, _⟩ := h
    rfl
  · obtain ⟨G, C, a, l, rfl, W, S, k⟩ := h
    refine ⟨_, (pss_one (ps_ret (pe_lst (pa_cons (pe_callTy (call_listA (K := K) rfl) (by rfl) T.b.list (by decide +kernel) (pa_cons (pv 0) pa_nil)) (pa_cons pe_int (pa_cons pe_int (pa_cons pe_int pa_nil))))))), ?_⟩
    refine ⟨_, rfl, rListA.sq (.inl S) fun cs ncs => ⟨by show 4 ≤ sizeLine; decide, fun st nst => ?_⟩⟩
    refine k st cs _ ⟨l, 0, 0, 43, ?_, by decide, by decide, by decide, by decide, by decide⟩
    exact (W.new ncs).new nst
end
end Lw_meth

namespace Lw_name
open PySem PySem.Spec PyProof.Rows L2 Lr
def top (i : Nat) : Stmt := PySem.Challenge.pw_leastredo_k12_whole_least_redo_of_great.main.body.getD i (.Pass ⟨0, 0, 0, 0⟩)
abbrev s_name : Stmt := top 46
abbrev N_name : List Str := ["stream", "signs", "name", "turn"]
theorem sc_name : FnScope ["stream", "signs", "name", "turn"] ["stream"] (defScope s_name) := ⟨rfl, rfl, rfl, by decide +kernel, rfl, by decide +kernel, by decide +kernel⟩
abbrev s_names : Stmt := top 47
abbrev N_names : List Str := ["stream", "many", "found", "turn", "free", "k", "name"]
theorem sc_names : FnScope ["stream", "many", "found", "turn", "free", "k", "name"] ["stream", "many"] (defScope s_names) := ⟨rfl, rfl, rfl, by decide +kernel, rfl, by decide +kernel, by decide +kernel⟩
structure Txt (mg : Str → Option Value) : Prop where
  b : Bl mg
abbrev k_signs : Str := "abcdefghijklmnopqrstuvwxyz0123456789"
theorem signs_low (d : Nat) (h : d < 26) : ∃ c, k_signs.cps.toList[d]? = some c ∧ low c = true := by
  have e : ∀ d : Fin 26, (match k_signs.cps.toList[d.val]? with | some c => low c | none => false) = true := by decide +kernel
  have := e ⟨d, h⟩
  simp only at this
  split at this
  · rename_i c q
    exact ⟨c, q, this⟩
  · cases this
theorem signs_all (d : Nat) (h : d < 36) : ∃ c, k_signs.cps.toList[d]? = some c ∧ (low c || fig c) = true := by
  have e : ∀ d : Fin 36, (match k_signs.cps.toList[d.val]? with | some c => low c || fig c | none => false) = true := by decide +kernel
  have := e ⟨d, h⟩
  simp only at this
  split at this
  · rename_i c q
    exact ⟨c, q, this⟩
  · cases this
section
variable {P : Program} {w : World} {K : PySem.W.Frag} {mg : Str → Option Value} {base : Heap}
theorem ok_name (T : Txt mg) (F : FD K mg "_law_name" s_name ["stream"]) (G_below : Okf P w K mg base CX0 1 "_law_below" ["stream", "many"] spBelow) (G_pick : Okf P w K mg base CX0 2 "_law_pick" ["stream", "some"] spPick) : Okf P w K mg base CX0 3 "_law_name" ["stream"] spName := by
  refine F.ok sc_name (fun vs H Q E h => ?_) (fun f cdv A outer s H vs Q E hr h => ?_)
  · obtain ⟨G, st, cs, n, C, rfl, _⟩ := h
    rfl
  · obtain ⟨G, st, cs, n, C, rfl, n40, W, k⟩ := h
    refine ⟨_, (pss_cons (ps_set (i := 1) sc_name.nd rfl (Or.inl rfl) pe_str)
    (pss_cons (ps_set (i := 2) sc_name.nd rfl (Or.inl rfl) (pe_ix (xix (K := K)) (pv 1) (pc G_below hr (pa_cons (pv 0) (pa_cons pe_int pa_nil))) (fun _ _ => rfl)))
    (pss_cons (ps_for PassesOwn.never rfl (pi_range1 rfl T.b.range (pa_cons (pc G_pick hr (pa_cons (pv 0) (pa_cons (pe_lst (pa_cons pe_int (pa_cons pe_int (pa_cons pe_int (pa_cons pe_int (pa_cons pe_int (pa_cons pe_int (pa_cons pe_int (pa_cons pe_int (pa_cons pe_int (pa_cons pe_int pa_nil))))))))))) pa_nil))) pa_nil)) (pg_name (i := 3) sc_name.nd rfl (Or.inl rfl))
    (pss_one (ps_set (i := 2) sc_name.nd rfl (Or.inl rfl) (pe_op (op_addA (K := K)) (pv 2) (pe_ix (xix (K := K)) (pv 1) (pc G_below hr (pa_cons (pv 0) (pa_cons pe_int pa_nil))) (fun _ _ => rfl))))))
    (pss_one (ps_ret (pv 2)))))), ?_⟩
    refine tseq (tseq ?_)
    refine ⟨_, rfl, _, rfl, G, st, cs, n, C, 26, rfl, by decide, by decide, by omega, W, fun d H1 hd W1 => ?_⟩
    obtain ⟨c, hc, lc⟩ := signs_low d (by omega)
    refine rIx.str (by decide +kernel) (atI_nat hc) ?_
    refine tnx (tseq ?_)
    refine ⟨_, rfl, by show 10 ≤ sizeLine; decide, fun p np => ?_⟩
    have W2 := W1.newG (o := .lst [.int 0, .int 0, .int 1, .int 1, .int 2, .int 3, .int 4, .int 5, .int 6, .int 7]) np
    have gp : (upd G p (.lst [.int 0, .int 0, .int 1, .int 1, .int 2, .int 3, .int 4, .int 5, .int 6, .int 7])) p = _ := upd_same
    refine ⟨_, st, cs, _, C, p, _, rfl, by decide, by decide, by omega, W2, .gl gp, fun i v H3 hv W3 => ?_⟩
    have hz : ∃ z : Nat, z ≤ 7 ∧ v = .int z := by
      have hm := List.mem_of_getElem? hv
      simp only [List.mem_cons, List.not_mem_nil, or_false] at hm
      rcases hm with rfl | rfl | rfl | rfl | rfl | rfl | rfl | rfl | rfl | rfl
      · exact ⟨0, by decide, rfl⟩
      · exact ⟨0, by decide, rfl⟩
      · exact ⟨1, by decide, rfl⟩
      · exact ⟨1, by decide, rfl⟩
      · exact ⟨2, by decide, rfl⟩
      · exact ⟨3, by decide, rfl⟩
      · exact ⟨4, by decide, rfl⟩
      · exact ⟨5, by decide, rfl⟩
      · exact ⟨6, by decide, rfl⟩
      · exact ⟨7, by decide, rfl⟩
    obtain ⟨z, hz, rfl⟩ := hz
    have sg := W1.leG (o := .lst [.int 0, .int 0, .int 1, .int 1, .int 2, .int 3, .int 4, .int 5, .int 6, .int 7]) np
    have W4 : SW G st cs (n + 1 + 1) C H3 := SW.weak W3 sg
    refine ⟨z, rfl, by omega, by omega, for_range (n := ((z : Nat) : Int).toNat) (fun i σ H' => ∃ s y, σ = [some (.ref st), some (.str k_signs), some (.str s), y] ∧ nameP s ∧ s.length = i + 1 ∧ SW G st cs (n + 2 + i) C H') ⟨⟨#[c]⟩, _, rfl, ⟨?_, c, [], rfl, lc⟩, rfl, W4⟩ ?_ ?_⟩
    · unfold sgns
      simp [lc]
    · rintro i σ H4 hi ⟨s, y, rfl, hp, hl, W5⟩
      have hi' : i < z := by omega
      refine ⟨_, rfl, _, rfl, _, rfl, G, st, cs, _, C, 36, rfl, by decide, by decide, by omega, W5, fun d H5 hd W6 => ?_⟩
      obtain ⟨c2, hc2, lc2⟩ := signs_all d (by omega)
      refine rIx.str (by decide +kernel) (atI_nat hc2) ?_
      refine rAddA.str (by rw [one_len]; omega) ?_
      refine ⟨_, _, rfl, hp.app (by unfold sgns; simpa using lc2), by rw [len_app, one_len]; omega, W6⟩
    · rintro σ H4 ⟨s, y, rfl, hp, hl, W5⟩
      refine ⟨_, rfl, k s _ (hp.name (by omega)) (W5.mono (by omega))⟩
theorem ok_names (T : Txt mg) (F : FD K mg "_law_names" s_names ["stream", "many"]) (G_name : Okf P w K mg base CX0 3 "_law_name" ["stream"] spName) : Okf P w K mg base CX0 4 "_law_names" ["stream", "many"] spNames := by
  refine F.ok sc_names (fun vs H Q E h => ?_) (fun f cdv A outer s H vs Q E hr h => ?_)
  · obtain ⟨G, st, cs, n, C, m, rfl, _⟩ := h
    rfl
  · obtain ⟨G, st, cs, n, C, m, rfl, hm, n40, W, k⟩ := h
    refine ⟨_, (pss_cons (ps_set (i := 2) sc_names.nd rfl (Or.inr rfl) (pe_lst pa_nil))
    (pss_cons (ps_for PassesOwn.never rfl (pi_range1 rfl T.b.range (pa_cons (pv 1) pa_nil)) (pg_name (i := 3) sc_names.nd rfl (Or.inl rfl))
    (pss_cons (ps_set (i := 4) sc_names.nd rfl (Or.inl rfl) (pe_op (op_addA (K := K)) (pe_lst (pa_cons (pc G_name hr (pa_cons (pv 0) pa_nil)) pa_nil)) (pe_lc (own := [("k", 5)]) (g := gName 5) (tt := tYes) rfl sc_names.nd (pi_range1 rfl T.b.range (pa_cons pe_int pa_nil)) (blkOk_by (N := N_names) (sc := defScope s_names) (by decide +kernel)) (fun _ _ _ _ _ => (pg_name (i := 5) sc_names.nd rfl (Or.inl rfl))) (fun _ _ _ _ _ => pts_nil) (fun _ _ _ _ _ => (pe_op (op_addA (K := K)) pe_str (pe_callTy call_str_int (by rfl) T.b.str (by decide +kernel) (pa_cons (pv 5) pa_nil)))))))
    (pss_one (ps_expr (xbm (K := K) PySem.F.plainAttrs_list PySem.F.slot_list_append PySem.F.type_list_append mt_append (pv 2) (pa_cons (pe_ix (xix (K := K)) (pe_lc (own := [("name", 6)]) (g := gName 6) rfl sc_names.nd (pi_seq (K := K) (pv 4)) (blkOk_by (N := N_names) (sc := defScope s_names) (by decide +kernel)) (fun _ _ _ _ _ => (pg_name (i := 6) sc_names.nd rfl (Or.inl rfl))) (fun _ _ _ _ _ => (pts_one (pt_cmpR (op_notInA (K := K)) (pv 6) (pv 2) (by rfl)))) (fun _ _ _ _ _ => (pv 6))) pe_int (fun _ _ => rfl)) pa_nil))))))
    (pss_one (ps_ret (pe_callB (cr_sortedA (K := K)) (by rfl) T.b.sorted (by decide +kernel) (pa_cons (pv 2) pa_nil)))))), ?_⟩
    refine tseq ⟨Nat.zero_le _, fun l nl => ?_⟩
    have W1 := W.new (o := .lst []) nl
    refine tnx (tseq ?_)
    refine ⟨_, rfl, m, rfl, by omega, by omega, for_range (n := ((m : Nat) : Int).toNat) (fun i σ H' => ∃ (xs : List Str) (y1 y2 : Option V), σ = [some (.ref st), some (.int m), some (.ref l), y1, y2, none, none] ∧ xs.length = i ∧ xs.Nodup ∧ (∀ s ∈ xs, nameB s = true) ∧ SW G st cs (n + 9 * i) ((l, .lst (xs.map V.str)) :: C) H') ⟨[], _, _, rfl, rfl, List.nodup_nil, (fun s hs => by cases hs), W1⟩ ?_ ?_⟩
    · rintro i σ H2 hi ⟨xs, y1, y2, rfl, hl, nd, nb, W2⟩
      have hi' : i < m := by omega
      refine tseq ?_
      refine tasg ?_
      refine (⟨_, rfl, G, st, cs, _, _, rfl, by omega, W2, fun s H3 hs W3 => ⟨by show 1 ≤ sizeLine; decide, fun p np => ?_⟩⟩)
      have W4 := W3.newG (o := .lst [.str s]) np
      have sg4 := W3.leG (o := .lst [.str s]) np
      have gp : (upd G p (.lst [.str s])) p = some (.lst [.str s]) := upd_same
      generalize upd G p (.lst [.str s]) = G4 at W4 sg4 gp
      generalize upd H3 p (.lst [.str s]) = H4 at W4
      refine ⟨_, rfl, by decide, by decide, fun D nD => ?_⟩
      refine lc_range (n := (13 : Int).toNat) (fun j H' => SW G4 st cs (n + 9 * i + 9) ((D, .lst (((List.range j).map vk).map V.str)) :: (l, .lst (xs.map V.str)) :: C) H') (W4.new nD) ?_ ?_
      · rintro j H5 hj W5
        have hj' : j < 13 := hj
        refine ⟨rfl, _, rfl, _, rfl, (by
          have : ((0 : Int) + (j : Nat)).natAbs = j := by omega
          rw [this]
          exact Nat.lt_of_le_of_lt (Nat.log2_le_self j) (by omega)), rAddA.str ?_ ?_⟩
        · rw [Int.zero_add]
          exact vk_len j hj'
        · refine ⟨_, W5.hd, sz_lt (by simp; omega), ?_⟩
          have e : (((List.range (j + 1)).map vk).map V.str) = ((List.range j).map vk).map V.str ++ [.str (("v" : Str) ++ Str.ofString (toString ((0 : Int) + (j : Nat))))] := by
            rw [List.range_succ, List.map_append, List.map_append, Int.zero_add]
            rfl
          rw [e]
          exact W5.set
      · rintro H5 W5
        refine rAddA.lst (xs := [.str s]) (ys := ((List.range 13).map vk).map V.str) (W5.getG gp) W5.hd (by simp) fun q nq => ?_
        have W6 := W5.newG (o := .lst ([.str s] ++ ((List.range 13).map vk).map V.str)) nq
        have sg6 := sg4.trans (W5.leG (o := .lst ([.str s] ++ ((List.range 13).map vk).map V.str)) nq)
        have gq : (upd G4 q (.lst ([.str s] ++ ((List.range 13).map vk).map V.str))) q = some (.lst ((s :: (List.range 13).map vk).map V.str)) := upd_same
        generalize upd G4 q _ = G6 at W6 sg6 gq
        generalize upd H5 q _ = H6 at W6
        have W7 := W6.drop
        clear W6 W5 W4
        refine ⟨_, rfl, .inl ⟨rfl, _, SqL.of W7.hd⟩, ?_⟩
        refine tc1 ?_
        refine top_ ?_
        have eix : ∀ v : Str, (if true = true then !decide (v ∈ xs) else decide (v ∈ xs)) = decide (v ∉ xs) := fun v => by simp
        refine lc_seq (xs := (s :: (List.range 13).map vk).map V.str) (k := true) (fun R r => ⟨_, rfl, r⟩) (SqK.lst (W7.getG gq)) fun D2 nD2 => ⟨fun j H' => SW G6 st cs (n + 9 * i + 9) ((D2, .lst ((((s :: (List.range 13).map vk).take j).filter fun n => decide (n ∉ xs)).map V.str)) :: (l, .lst (xs.map V.str)) :: C) H', W7.new nD2, fun j H' _ W => SqK.lst (W.getG gq), ?_, ?_⟩
        · rintro j v H8 hv W8
          obtain ⟨u, hu, rfl⟩ := map_get hv
          have e := filter_take (fun n => decide (n ∉ xs)) hu
          refine ⟨rfl, ?_⟩
          refine ⟨_, rfl, _, rfl, rInA.strs (.inl (SqL.of W8.swap.hd)) ⟨_, rfl, ?_⟩⟩
          rw [eix]
          refine ite2 (fun h => ?_) (fun h => ?_)
          · rw [if_pos h] at e
            refine ⟨_, rfl, _, W8.hd, sz_lt ?_, ?_⟩
            · rw [List.length_map]
              refine Nat.le_trans (List.length_filter_le _ _) ?_
              rw [List.length_take]
              simp
              omega
            · show SW G6 st cs (n + 9 * i + 9) ((D2, .lst ((((s :: (List.range 13).map vk).take (j + 1)).filter fun n => decide (n ∉ xs)).map V.str)) :: (l, .lst (xs.map V.str)) :: C) _
              rw [e, List.map_append]
              exact W8.set
          · rw [if_neg h, List.append_nil] at e
            show SW G6 st cs (n + 9 * i + 9) ((D2, .lst ((((s :: (List.range 13).map vk).take (j + 1)).filter fun n => decide (n ∉ xs)).map V.str)) :: (l, .lst (xs.map V.str)) :: C) _
            rw [e]
            exact W8
        · rintro H8 W8
          rw [List.length_map, List.take_length] at W8
          have hf := vk_free xs (by omega) s
          cases ef : (s :: (List.range 13).map vk).filter (fun n => decide (n ∉ xs)) with
          | nil => exact absurd ef hf
          | cons u r =>
            rw [ef] at W8
            have hu : u ∈ (s :: (List.range 13).map vk).filter (fun n => decide (n ∉ xs)) := by
              rw [ef]
              exact List.mem_cons_self
            obtain ⟨hu1, hu2⟩ := List.mem_filter.mp hu
            have hu2' : u ∉ xs := by simpa using hu2
            have hu3 : nameB u = true := by
              rcases List.mem_cons.mp hu1 with rfl | hu1
              · exact hs
              · obtain ⟨q, hq, rfl⟩ := List.mem_map.mp hu1
                exact vk_ok q (List.mem_range.mp hq)
            refine rIx.lst W8.hd (atI_nat (j := 0) rfl) ?_
            have W9 := W8.swap.set (u := .lst (xs.map V.str ++ [.str u]))
            refine ⟨_, _, _, rfl, rfl, W8.swap.hd, sz_lt (by rw [List.length_map]; omega), xs ++ [u], _, _, rfl, by simp [hl], ?_, ?_, ?_⟩
            · exact List.nodup_append.mpr ⟨nd, by simp, fun a ha b hb e => hu2' (by rw [List.mem_singleton.mp hb] at e; exact e ▸ ha)⟩
            · intro t ht
              rcases List.mem_append.mp ht with ht | ht
              · exact nb t ht
              · rw [List.mem_singleton.mp ht]
                exact hu3
            · have e : (xs ++ [u]).map V.str = xs.map V.str ++ [.str u] := by simp
              rw [e]
              have := (W9.swap.drop).weak sg6
              have e9 : n + 9 * (i + 1) = n + 9 * i + 9 := by omega
              rw [e9]
              exact this
    · rintro σ H2 ⟨xs, y1, y2, rfl, hl, nd, nb, W2⟩
      have hl' : xs.length = m := by omega
      refine ⟨_, rfl, l, xs, rfl, SqL.of W2.hd, by omega, fun ys p pm srt np => ?_⟩
      have e9 : n + 9 * ((m : Nat) : Int).toNat = n + 9 * m := by omega
      rw [e9] at W2
      refine k ys p _ (by rw [pm.length_eq]; exact hl') (pm.nodup_iff.mpr nd) (sorted_pw srt) (fun s hs => nb s (pm.mem_iff.mp hs)) ?_
      exact (W2.new np).swap.drop
end
end Lw_name

namespace Lw_rec
open PySem PySem.Spec PyProof.Rows L2 Lr
def top (i : Nat) : Stmt := PySem.Challenge.pw_leastredo_k12_whole_least_redo_of_great.main.body.getD i (.Pass ⟨0, 0, 0, 0⟩)
abbrev s_record : Stmt := top 48
abbrev N_record : List Str := ["stream", "pages", "plain", "one", "kind", "writes", "reads"]
theorem sc_record : FnScope ["stream", "pages", "plain", "one", "kind", "writes", "reads"] ["stream", "pages", "plain"] (defScope s_record) := ⟨rfl, rfl, rfl, by decide +kernel, rfl, by decide +kernel, by decide +kernel⟩
abbrev s_log : Stmt := top 49
abbrev N_log : List Str := ["stream", "size", "many", "count", "pages", "plain", "k"]
theorem sc_log : FnScope ["stream", "size", "many", "count", "pages", "plain", "k"] ["stream", "size"] (defScope s_log) := ⟨rfl, rfl, rfl, by decide +kernel, rfl, by decide +kernel, by decide +kernel⟩
structure Txt (mg : Str → Option Value) : Prop where
  b : Bl mg
section
variable {P : Program} {w : World} {K : PySem.W.Frag} {mg : Str → Option Value} {base : Heap}
theorem ok_record (T : Txt mg) (F : FD K mg "_law_record" s_record ["stream", "pages", "plain"]) (G_below : Okf P w K mg base CX0 1 "_law_below" ["stream", "many"] spBelow) (G_pick : Okf P w K mg base CX0 2 "_law_pick" ["stream", "some"] spPick)
    (G_lot : Okf P w K mg base CX0 2 "_law_lot" ["stream", "some", "share"] spLot) : Okf P w K mg base CX0 3 "_law_record" ["stream", "pages", "plain"] spRecord := by
  refine F.ok sc_record (fun vs H Q E h => ?_) (fun f cdv A outer s H vs Q E hr h => ?_)
  · obtain ⟨G, st, cs, n, C, a, ns, b, rfl, _⟩ := h
    rfl
  · obtain ⟨G, st, cs, n, C, a, ns, b, rfl, l1, l12, nd, srt, nb, S, n40, W, k⟩ := h
    refine ⟨_, (pss_cons (ps_set (i := 3) sc_record.nd rfl (Or.inl rfl) (pc G_pick hr (pa_cons (pv 0) (pa_cons (pv 1) pa_nil))))
    (pss_cons (ps_set (i := 4) sc_record.nd rfl (Or.inl rfl) (pc G_below hr (pa_cons (pv 0) (pa_cons pe_int pa_nil))))
    (pss_cons (ps_if (pt_cmpR op_lt (pv 4) pe_int (nomark _))
    (pss_one (ps_ret (pe_tup (pa_cons (pe_tup pa_nil) (pa_cons (pe_tup (pa_cons (pv 3) pa_nil)) pa_nil)))))
    pss_nil)
    (pss_cons (ps_if (PW.pt (pw_or (pt_cmpR (op_eqA (K := K) hr.units) (pv 4) pe_int (nomark _)) (pw_or1 (xtruth (K := K) (pv 2) (by intro _; rfl)))))
    (pss_one (ps_ret (pe_tup (pa_cons (pe_tup (pa_cons (pv 3) pa_nil)) (pa_cons (pe_tup (pa_cons (pv 3) pa_nil)) pa_nil)))))
    pss_nil)
    (pss_cons (ps_if (pt_cmpR op_lt (pv 4) pe_int (nomark _))
    (pss_one (ps_ret (pe_tup (pa_cons (pe_tup (pa_cons (pc G_pick hr (pa_cons (pv 0) (pa_cons (pv 1) pa_nil))) pa_nil)) (pa_cons (pe_tup (pa_cons (pv 3) pa_nil)) pa_nil)))))
    pss_nil)
    (pss_cons (ps_set (i := 5) sc_record.nd rfl (Or.inl rfl) (pc G_lot hr (pa_cons (pv 0) (pa_cons (pv 1) (pa_cons pe_int pa_nil)))))
    (pss_cons (ps_if (pt_cmpR (op_eqA (K := K) hr.units) (pv 5) (pe_lst pa_nil) (nomark _))
    (pss_one (ps_set (i := 5) sc_record.nd rfl (Or.inl rfl) (pe_lst (pa_cons (pv 3) pa_nil))))
    pss_nil)
    (pss_cons (ps_set (i := 6) sc_record.nd rfl (Or.inl rfl) (pe_ifExp (pt_cmpR (op_eqA (K := K) hr.units) (pv 4) pe_int (nomark _)) (pe_lst pa_nil) (pc G_lot hr (pa_cons (pv 0) (pa_cons (pv 1) (pa_cons pe_int pa_nil))))))
    (pss_one (ps_ret (pe_tup (pa_cons (pe_callTy (call_tupleA (K := K)) (by rfl) T.b.tuple (by decide +kernel) (pa_cons (pv 6) pa_nil)) (pa_cons (pe_callTy (call_tupleA (K := K)) (by rfl) T.b.tuple (by decide +kernel) (pa_cons (pv 5) pa_nil)) pa_nil))))))))))))), ?_⟩
    have lm : (ns.map V.str).length = ns.length := List.length_map _
    refine ⟨_, rfl, _, rfl, G, st, cs, n, C, a, _, rfl, by omega, by omega, by omega, W, S, fun i v H1 hv W1 => ?_⟩
    obtain ⟨x, hx, rfl⟩ := map_get hv
    have hxn : x ∈ ns := List.mem_of_getElem? hx
    have sx : [x].Sublist ns := List.singleton_sublist.mpr hxn
    refine ⟨_, rfl, G, st, cs, _, C, 9, rfl, by decide, by decide, by omega, W1, fun d H2 hd W2 => ?_⟩
    have fin : ∀ {a b : List Str} {H' : Hp} {m : Nat}, a.Sublist ns → b.Sublist ns → b ≠ [] → m ≤ n + 30 → SW G st cs m C H' → ∀ p, H' p = none → ∀ q, (upd H' p (.tup (a.map V.str))) q = none → ∀ t, (upd (upd H' p (.tup (a.map V.str))) q (.tup (b.map V.str))) t = none →
        Q (.ref t) (upd (upd (upd H' p (.tup (a.map V.str))) q (.tup (b.map V.str))) t (.tup [.ref p, .ref q])) := fun ha hb h0 hm w p np q nq t nt => by
      obtain ⟨G', sg, w', r⟩ := w.recG np nq nt
      exact k _ _ G' _ (RowOk.sub ha hb h0 nd srt) r sg (w'.mono hm)
    refine ⟨_, rfl, _, _, rfl, rfl, ⟨_, rfl, ite2 (fun h1 => ?_) (fun h1 => ?_)⟩⟩
    · refine ⟨Nat.zero_le _, fun p np => ⟨_, rfl, by show 1 ≤ sizeLine; decide, fun q nq => ⟨by show 2 ≤ sizeLine; decide, fun t nt => ?_⟩⟩⟩
      exact fin (a := []) (b := [x]) (List.nil_sublist _) sx (by simp) (by omega) W2 p np q nq t nt
    have one : ∀ {x : Str} {H' : Hp} {m : Nat} {y : Str}, y ∈ ns → x ∈ ns → m ≤ n + 30 → SW G st cs m C H' → ∀ p, H' p = none → ∀ q, (upd H' p (.tup [.str y])) q = none → ∀ t, (upd (upd H' p (.tup [.str y])) q (.tup [.str x])) t = none →
        Q (.ref t) (upd (upd (upd H' p (.tup [.str y])) q (.tup [.str x])) t (.tup [.ref p, .ref q])) := fun {x H' m y} hy hx hm w p np q nq t nt =>
      fin (a := [y]) (b := [x]) (List.singleton_sublist.mpr hy) (List.singleton_sublist.mpr hx) (by simp) hm w p np q nq t nt
    refine tnext (tseq ?_)
    refine ⟨_, rfl, rEqA.int ⟨_, rfl, ite2 (fun h2 => ?_) (fun h2 => ?_)⟩⟩
    · refine ⟨_, rfl, by show 1 ≤ sizeLine; decide, fun p np => ⟨_, rfl, by show 1 ≤ sizeLine; decide, fun q nq => ⟨by show 2 ≤ sizeLine; decide, fun t nt => ?_⟩⟩⟩
      exact one hxn hxn (by omega) W2 p np q nq t nt
    · refine ⟨_, rfl, b, rfl, ite2 (fun h3 => ?_) (fun h3 => ?_)⟩
      · refine ⟨_, rfl, by show 1 ≤ sizeLine; decide, fun p np => ⟨_, rfl, by show 1 ≤ sizeLine; decide, fun q nq => ⟨by show 2 ≤ sizeLine; decide, fun t nt => ?_⟩⟩⟩
        exact one hxn hxn (by omega) W2 p np q nq t nt
      · refine tnext (tseq ?_)
        refine ⟨_, rfl, _, _, rfl, rfl, ⟨_, rfl, ite2 (fun h4 => ?_) (fun h4 => ?_)⟩⟩
        · refine ⟨_, rfl, _, rfl, G, st, cs, _, C, a, _, rfl, by omega, by omega, by omega, W2, S, fun i v H3 hv W3 => ?_⟩
          obtain ⟨y, hy, rfl⟩ := map_get hv
          refine ⟨by show 1 ≤ sizeLine; decide, fun p np => ⟨_, rfl, by show 1 ≤ sizeLine; decide, fun q nq => ⟨by show 2 ≤ sizeLine; decide, fun t nt => ?_⟩⟩⟩
          exact one (List.mem_of_getElem? hy) hxn (by omega) W3 p np q nq t nt
        · refine tnext (tseq ?_)
          refine ⟨_, rfl, _, rfl, G, st, cs, _, C, a, _, 3, rfl, by decide, by decide, by omega, by omega, W2, S, fun ys l H3 hs nl W3 => ?_⟩
          obtain ⟨zs, hz, rfl⟩ := sub_strs hs
          have nbz : ∀ s ∈ zs, nameB s = true := fun s h => nb s (hz.subset h)
          refine tnx ?_
          refine tjoin (fun σ' H' => ∃ (zs : List Str) (l : Addr) (D : List Cell), σ' = [some (.ref st), some (.ref a), some (.bl b), some (.str x), some (.int d), some (.ref l), none] ∧ zs.Sublist ns ∧ zs ≠ [] ∧ SW G st cs (n + 1 + 1 + ns.length) ((l, .lst (zs.map V.str)) :: C) H') ?_ (fun tail => ?_)
          · rintro σ' H5 ⟨zs, l, D, rfl, hz, z0, W5⟩
            have lastly : ∀ (us : List Str) (r : Addr) (H6 : Hp), us.Sublist ns → SW G st cs (n + 1 + 1 + ns.length + ns.length) ((r, .lst (us.map V.str)) :: (l, .lst (zs.map V.str)) :: C) H6 → ∀ p, H6 p = none → ∀ q, (upd H6 p (.tup (us.map V.str))) q = none → ∀ t, (upd (upd H6 p (.tup (us.map V.str))) q (.tup (zs.map V.str))) t = none →
                Q (.ref t) (upd (upd (upd H6 p (.tup (us.map V.str))) q (.tup (zs.map V.str))) t (.tup [.ref p, .ref q])) := fun us r H6 hu w p np q nq t nt =>
              fin hu hz z0 (by omega) w.drop.drop p np q nq t nt
            refine tseq ?_
            refine ⟨_, rfl, rEqA.int ⟨_, rfl, ite2 (fun h5 => ?_) (fun h5 => ?_)⟩⟩
            · refine ⟨Nat.zero_le _, fun r nr => ?_⟩
              have W6 := (W5.new (o := .lst []) nr).mono (show n + 1 + 1 + ns.length ≤ n + 1 + 1 + ns.length + ns.length by omega)
              refine ⟨_, rfl, r, _, rfl, .inl ⟨SqL.of W6.hd, fun p np => ⟨_, rfl, l, _, rfl, .inl ⟨SqL.of (same_new np _ _ W6.swap.hd), fun q nq => ⟨by show 2 ≤ sizeLine; decide, fun t nt => ?_⟩⟩⟩⟩⟩
              exact lastly [] r _ (List.nil_sublist _) W6 p np q nq t nt
            · refine ⟨_, rfl, _, rfl, G, st, cs, _, _, a, _, 2, rfl, by decide, by decide, by omega, by omega, W5, S.cons, fun ys r H6 hs nr W6 => ?_⟩
              obtain ⟨us, hu, rfl⟩ := sub_strs hs
              rw [lm] at W6
              refine ⟨_, rfl, r, _, rfl, .inl ⟨SqL.of W6.hd, fun p np => ⟨_, rfl, l, _, rfl, .inl ⟨SqL.of (same_new np _ _ W6.swap.hd), fun q nq => ⟨by show 2 ≤ sizeLine; decide, fun t nt => ?_⟩⟩⟩⟩⟩
              exact lastly us r _ hu W6 p np q nq t nt
          · rw [lm] at W3
            refine ⟨_, rfl, Nat.zero_le _, fun e ne => rEqA.dat (.lst (SqL.of (same_new ne _ _ W3.hd)) (dpStrs _ _ zs)) (.lst (SqL.of upd_same) .nil) (shStrs zs nbz) rfl ⟨_, rfl, ?_⟩⟩
            have W4 := W3.same (same_new (o := .lst []) ne)
            generalize upd H3 e (.lst []) = H4 at W4
            rw [eqv_nil]
            refine ite2 (fun h5 => ?_) (fun h5 => ?_)
            · refine ⟨_, rfl, by show 1 ≤ sizeLine; decide, fun l2 nl2 => ?_⟩
              exact tail _ _ ⟨[x], l2, [], rfl, sx, by simp, (W4.new nl2).swap.drop⟩
            · exact tail _ _ ⟨zs, l, [], rfl, hz, by simpa using h5, W4⟩
theorem ok_log (T : Txt mg) (F : FD K mg "_law_log" s_log ["stream", "size"]) (G_below : Okf P w K mg base CX0 1 "_law_below" ["stream", "many"] spBelow) (G_chance : Okf P w K mg base CX0 2 "_law_chance" ["stream", "many"] spChance)
    (G_names : Okf P w K mg base CX0 4 "_law_names" ["stream", "many"] spNames) (G_record : Okf P w K mg base CX0 3 "_law_record" ["stream", "pages", "plain"] spRecord) : Okf P w K mg base CX0 5 "_law_log" ["stream", "size"] spLog := by
  refine F.ok sc_log (fun vs H Q E h => ?_) (fun f cdv A outer s H vs Q E hr h => ?_)
  · obtain ⟨G, st, cs, n, C, z, rfl, _⟩ := h
    rfl
  · obtain ⟨G, st, cs, n, C, z, rfl, z2, n40, W, k⟩ := h
    refine ⟨_, (pss_cons (ps_set (i := 2) sc_log.nd rfl (Or.inl rfl) (pe_op (op_addA (K := K)) pe_int (pc G_below hr (pa_cons (pv 0) (pa_cons (pe_ix (xix (K := K)) (pe_lst (pa_cons pe_int (pa_cons pe_int (pa_cons pe_int pa_nil)))) (pv 1) (fun _ _ => rfl)) pa_nil)))))
    (pss_cons (ps_set (i := 3) sc_log.nd rfl (Or.inl rfl) (pc G_below hr (pa_cons (pv 0) (pa_cons (pe_ix (xix (K := K)) (pe_lst (pa_cons pe_int (pa_cons pe_int (pa_cons pe_int pa_nil)))) (pv 1) (fun _ _ => rfl)) pa_nil))))
    (pss_cons (ps_if (PW.pt (pw_and (pt_cmpR (op_eqA (K := K) hr.units) (pv 1) pe_int (nomark _)) (pw_and1 (pt_val (pc G_chance hr (pa_cons (pv 0) (pa_cons pe_int pa_nil)))))))
    (pss_one (ps_asg (pe_tup (pa_cons pe_int (pa_cons pe_int pa_nil))) (xtup (K := K) (n := 2) rfl (pgs_cons (pg_name (i := 2) sc_log.nd rfl (Or.inl rfl)) (pgs_cons (pg_name (i := 3) sc_log.nd rfl (Or.inl rfl)) pgs_nil)))))
    pss_nil)
    (pss_cons (ps_set (i := 4) sc_log.nd rfl (Or.inr rfl) (pc G_names hr (pa_cons (pv 0) (pa_cons (pv 2) pa_nil))))
    (pss_cons (ps_set (i := 5) sc_log.nd rfl (Or.inr rfl) (pc G_chance hr (pa_cons (pv 0) (pa_cons pe_int pa_nil))))
    (pss_one (ps_ret (pe_lst (pa_cons (pv 4) (pa_cons (pe_lc (own := [("k", 6)]) (g := gName 6) (tt := tYes) rfl sc_log.nd (pi_range1 rfl T.b.range (pa_cons (pv 3) pa_nil)) (blkOk_by (N := N_log) (sc := defScope s_log) (by decide +kernel)) (fun _ _ _ _ _ => (pg_name (i := 6) sc_log.nd rfl (Or.inl rfl))) (fun _ _ _ _ _ => pts_nil) (fun _ _ _ _ _ => (pc G_record hr (pa_cons (pv 0) (pa_cons (pv 4) (pa_cons (pv 5) pa_nil)))))) pa_nil)))))))))), ?_⟩
    have at1 : ∃ m : Nat, 1 ≤ m ∧ m ≤ 12 ∧ atI [V.int 4, .int 6, .int 12] (z : Int) = some (.int m) := by
      match z, z2 with
      | 0, _ => exact ⟨4, by decide, by decide, rfl⟩
      | 1, _ => exact ⟨6, by decide, by decide, rfl⟩
      | 2, _ => exact ⟨12, by decide, by decide, rfl⟩
    have at2 : ∃ m : Nat, 1 ≤ m ∧ m ≤ 61 ∧ atI [V.int 7, .int 15, .int 61] (z : Int) = some (.int m) := by
      match z, z2 with
      | 0, _ => exact ⟨7, by decide, by decide, rfl⟩
      | 1, _ => exact ⟨15, by decide, by decide, rfl⟩
      | 2, _ => exact ⟨61, by decide, by decide, rfl⟩
    obtain ⟨m1, m1a, m1b, e1⟩ := at1
    obtain ⟨m2, m2a, m2b, e2⟩ := at2
    refine ⟨_, rfl, by show 3 ≤ sizeLine; decide, fun p np => ⟨_, rfl, rIx.lst upd_same e1 ⟨G, st, cs, n, C, m1, rfl, by omega, by omega, by omega, W.same (same_new np), fun d1 H1 hd1 W1 => rAddA.int ?_⟩⟩⟩
    refine tnx (tseq ?_)
    refine ⟨_, rfl, by show 3 ≤ sizeLine; decide, fun q nq => ⟨_, rfl, rIx.lst upd_same e2 ⟨G, st, cs, _, C, m2, rfl, by omega, by omega, by omega, W1.same (same_new nq), fun d2 H2 hd2 W2 => ?_⟩⟩⟩
    refine tnx ?_
    refine tjoin (fun σ' H' => ∃ (a b : Nat), σ' = [some (.ref st), some (.int z), some (.int a), some (.int b), none, none, none] ∧ 1 ≤ a ∧ a ≤ 12 ∧ b ≤ 60 ∧ SW G st cs (n + 3) C H') ?_ (fun tail => ?_)
    · rintro σ' H3 ⟨a, b, rfl, a1, a12, b60, W3⟩
      refine tseq ?_
      refine ⟨_, rfl, _, rfl, G, st, cs, _, C, a, rfl, by omega, by omega, W3, fun ns p H4 ln nd srt nb W4 => ?_⟩
      refine tnx (tseq ?_)
      refine ⟨_, rfl, G, st, cs, _, _, 8, rfl, by decide, by decide, by omega, W4, fun plain H5 W5 => ?_⟩
      refine tnx ?_
      refine tret ?_
      refine ⟨_, rfl, _, rfl, b, rfl, by omega, by omega, fun D nD => ?_⟩
      refine lc_range (n := ((b : Nat) : Int).toNat) (fun i H' => ∃ (G' : Hp) (rvs : List V) (rows : List Lr.Row), Same G G' ∧ SW G' st cs (n + 3 + 9 * a + 1 + 30 * i) ((D, .lst rvs) :: (p, .lst (ns.map V.str)) :: C) H' ∧ Reps G' (rows.map recD) rvs ∧ rows.length = i ∧ ∀ r ∈ rows, RowOk ns r)
        ⟨G, [], [], Same.refl G, W5.new nD, .nil, rfl, fun r hr => by cases hr⟩ ?_ ?_
      · rintro i H6 hi ⟨G', rvs, rows, sg, W6, rr, li, ro⟩
        have hi' : i < b := by omega
        have lr := rr.length
        rw [List.length_map] at lr
        refine ⟨rfl, _, rfl, _, rfl, _, rfl, G', st, cs, _, _, p, ns, plain, rfl, by omega, by omega, nd, srt, nb, Seq.hd.cons, by omega, W6, fun r v G2 H7 rok rep s2 W7 => ?_⟩
        refine ⟨rvs, W7.hd, sz_lt (by omega), G2, rvs ++ [v], rows ++ [r], sg.trans s2, ?_, ?_, by rw [List.length_append, li]; rfl, fun q hq => ?_⟩
        · have e : n + 3 + 9 * a + 1 + 30 * (i + 1) = n + 3 + 9 * a + 1 + 30 * i + 30 := by omega
          rw [e]
          exact W7.set
        · rw [List.map_append]
          exact (rr.mono s2).app (.cons rep .nil)
        · rcases List.mem_append.mp hq with hq | hq
          · exact ro q hq
          · rw [List.mem_singleton.mp hq]
            exact rok
      · rintro H6 ⟨G', rvs, rows, sg, W6, rr, li, ro⟩
        refine ⟨by show 2 ≤ sizeLine; decide, fun t nt => ?_⟩
        have W7 := (W6.new (o := .lst [.ref p, .ref D]) nt)
        have s1 := W7.leF
        have W8 := W7.frz
        have s2 := W8.leF
        have W9 := W8.frz
        have s3 := W9.leF
        have W10 := W9.frz
        have s123 := s1.trans (s2.trans s3)
        exact k ⟨ns, rows⟩ t _ _ ⟨⟨p, D, rvs, s3 _ _ (s2 _ _ upd_same), upd_same, s3 _ _ upd_same, rr.mono s123⟩, ⟨by show 1 ≤ ns.length; omega, by show ns.length ≤ 12; omega⟩, nd, srt, nb, by show rows.length ≤ 60; omega, ro⟩ (sg.trans s123) (W10.mono (by omega))
    · refine ⟨_, rfl, rEqA.int ⟨_, rfl, ite2 (fun h1 => ?_) (fun h1 => ?_)⟩⟩
      · refine ⟨_, rfl, G, st, cs, _, C, 2, rfl, by decide, by decide, by omega, W2, fun b H3 W3 => ⟨_, rfl, ite2 (fun h2 => ?_) (fun h2 => ?_)⟩⟩
        · refine ⟨by show 2 ≤ sizeLine; decide, fun t nt => ⟨_, _, rfl, SqT.of upd_same, rfl, gc2 ?_⟩⟩
          exact tail _ _ ⟨12, 60, rfl, by decide, by decide, by decide, W3.same (same_new nt)⟩
        · exact tail _ _ ⟨1 + d1, d2, by rfl, by omega, by omega, by omega, W3⟩
      · exact tail _ _ ⟨1 + d1, d2, by rfl, by omega, by omega, by omega, W2.mono (by omega)⟩
end
end Lw_rec

namespace Lw_made
open PySem PySem.Spec PyProof.Rows L2 Lr
def top (i : Nat) : Stmt := PySem.Challenge.pw_leastredo_k12_whole_least_redo_of_great.main.body.getD i (.Pass ⟨0, 0, 0, 0⟩)
abbrev s_made : Stmt := top 50
abbrev N_made : List Str := ["stream", "log", "rows", "row"]
theorem sc_made : FnScope ["stream", "log", "rows", "row"] ["stream", "log"] (defScope s_made) := ⟨rfl, rfl, rfl, by decide +kernel, rfl, by decide +kernel, by decide +kernel⟩
structure Txt (K : PySem.W.Frag) (mg : Str → Option Value) (Cl : Addr) : Prop where
  b : Bl mg
  cl_Log : Cls K Cl
section
variable {P : Program} {w : World} {K : PySem.W.Frag} {mg : Str → Option Value} {base : Heap} {Cl CB CR : Addr}
theorem ok_made (T : Txt K mg Cl) (F : FD K mg "_law_made" s_made ["stream", "log"]) (G_mixed : Okf P w K mg base CX0 2 "_law_mixed" ["stream", "some"] spMixed)
    (G_loose : Okf P w K mg base CX0 6 "_law_loose" ["stream", "thing"] (spLoose 4)) (M_Log : MkC P w K mg base (L2.CX P w) 5 "Log" Cl ["self", "pages", "records"] (spLogInit Cl CB CR)) : Okf P w K mg base CX0 7 "_law_made" ["stream", "log"] (spMade Cl) := by
  refine F.ok sc_made (fun vs H Q E h => ?_) (fun f cdv A outer s H vs Q E hr h => ?_)
  · obtain ⟨G, st, cs, n, C, a, L, rfl, _⟩ := h
    rfl
  · obtain ⟨G, st, cs, n, C, a, L, rfl, V0, n40, W, k⟩ := h
    refine ⟨_, (pss_cons (ps_setLc (i := 2) (own := [("row", 3)]) (g := gName 3) (tt := tYes) rfl sc_made.nd rfl rfl (sw_true rfl rfl rfl (by decide +kernel)) (pi_seq (K := K) (pe_ix (xix (K := K)) (pv 1) pe_int (fun _ _ => rfl))) (blkOk_by (N := N_made) (sc := defScope s_made) (by decide +kernel)) (fun _ _ _ _ _ => (pg_name (i := 3) sc_made.nd rfl (Or.inl rfl))) (fun _ _ _ _ _ => pts_nil) (fun _ _ _ _ _ => (pe_lst (pa_cons (pc G_mixed hr (pa_cons (pv 0) (pa_cons (pe_ix (xix (K := K)) (pv 3) pe_int (fun _ _ => rfl)) pa_nil))) (pa_cons (pc G_mixed hr (pa_cons (pv 0) (pa_cons (pe_ix (xix (K := K)) (pv 3) pe_int (fun _ _ => rfl)) pa_nil))) pa_nil)))))
    (pss_one (ps_ret (pmk M_Log hr (pa_cons (pc G_loose hr (pa_cons (pv 0) (pa_cons (pc G_mixed hr (pa_cons (pv 0) (pa_cons (pe_ix (xix (K := K)) (pv 1) pe_int (fun _ _ => rfl)) pa_nil))) pa_nil))) (pa_cons (pc G_loose hr (pa_cons (pv 0) (pa_cons (pv 2) pa_nil))) pa_nil)))))), ?_⟩
    obtain ⟨lp, lq, rvs, g1, g2, g3, g4⟩ := V0.ex
    have l60 := V0.rl
    have n12 := V0.nn.2
    refine tseq ?_
    refine loop_rows (L := L) (fun _ => rfl) rfl (fun _ => rfl) (fun _ => rfl) W V0 (by omega) fun ps ts D H1 rp ok ed W1 => ?_
    refine tnx ?_
    refine tret ?_
    have lps : ps.length ≤ 60 := by rw [← rp.1]; exact l60
    have bps := rp.b V0
    refine ⟨_, rfl, _, rfl, _, rfl, rIx.lst (W1.getG g1) (atI_nat (j := 0) rfl) ⟨G, st, cs, _, _, lp, _, rfl, by rw [List.length_map]; omega, by rw [List.length_map]; omega, W1, .gl g2, fun ys p H2 hpm np W2 => ?_⟩⟩
    obtain ⟨zs, rfl, hz⟩ := perm_strs hpm
    have lz := hz.length_eq
    rw [List.length_map] at W2
    have nbz : ∀ s ∈ zs, nameB s = true := fun s hs => V0.nb s (hz.mem_iff.mp hs)
    have d1 : depD (.list (zs.map .str)) < 4 := by
      show depDL (zs.map .str) + 1 < 4
      rw [dep_strs]
      decide
    have d2 : depD (.list (ps.map rawD)) < 4 := by
      have := dep_raw ps
      show depDL (ps.map rawD) + 1 < 4
      omega
    have z1 : szD (.list (zs.map .str)) = 1 := by
      show szDL (zs.map .str) + 1 = 1
      rw [sz_strs]
    have z2 : szD (.list (ps.map rawD)) ≤ 181 := by
      show szDL (ps.map rawD) + 1 ≤ 181
      rw [sz_raw]
      omega
    refine ⟨G, st, cs, _, _, .list (zs.map .str), .ref p, rfl, W2, RepC.strs (.inr List.mem_cons_self), ⟨plain_strs _, by rw [List.length_map]; omega⟩, d1, by rw [z1]; omega, fun t1 G2 H3 s2 ok1 en1 pl1 W3 => ?_⟩
    rw [z1] at W3
    have rR : RepC G ((D, .lst (vals ts)) :: (cellsL ts ++ C)) (.list (ps.map rawD)) (.ref D) := by
      have := RepC.tree (t := Lr.T.lst D ts) (C := C) (show (Lr.T.lst D ts).Ok G from ok) W1.wf
      rw [← ed]
      exact this
    refine ⟨_, rfl, _, rfl, G2, st, cs, _, _, .list (ps.map rawD), .ref D, rfl, W3, ((rR.cons).app).mono s2, ⟨plain_raw ps bps, by rw [List.length_map]; omega⟩, d2, by omega, fun t2 G3 H4 s3 ok2 en2 pl2 W4 => ?_⟩
    intro x dx nx nd ne
    have eD : logD t1.data t2.data = .log L := by
      rw [← logD_norm, en1, en2, logD_norm]
      exact logD_of V0 hz rp
    refine SW.make W4 ((((RepC.tree ok1 W3.wf)).mono s3).app) (RepC.tree ok2 W4.wf) (ShortD.norm ?_) (LongD.norm ?_) eD nx nd ne fun G5 H5 s5 W5 A => ?_
    · rw [en1, norm_strs]
      exact short_strs (by omega) nbz
    · rw [en2, norm_raw]
      exact long_raw V0 rp
    · exact k x G5 H5 (s2.trans (s3.trans s5)) A (((W5.dropL).dropL).drop.drop.dropL.mono (by omega))
end
end Lw_made

namespace Lw_betw
open PySem PySem.Spec PyProof.Rows L2 Lr
def top (i : Nat) : Stmt := PySem.Challenge.pw_leastredo_k12_whole_least_redo_of_great.main.body.getD i (.Pass ⟨0, 0, 0, 0⟩)
abbrev s_is_between : Stmt := top 11
abbrev N_is_between : List Str := ["thing", "low", "high"]
theorem sc_is_between : FnScope ["thing", "low", "high"] ["thing", "low", "high"] (defScope s_is_between) := ⟨rfl, rfl, rfl, by decide +kernel, rfl, by decide +kernel, by decide +kernel⟩
structure Txt (mg : Str → Option Value) : Prop where
  b : Bl mg
section
variable {P : Program} {w : World} {K : PySem.W.Frag} {mg : Str → Option Value} {base : Heap}
theorem ok_is_between (T : Txt mg) (F : FD K mg "is_between" s_is_between ["thing", "low", "high"]) : Okf P w K mg base CX0 1 "is_between" ["thing", "low", "high"] spBetween := by
  refine F.ok sc_is_between (fun vs H Q E h => ?_) (fun f cdv A outer s H vs Q E hr h => ?_)
  · obtain ⟨d, v, lo, hi, rfl, _⟩ := h
    rfl
  · obtain ⟨d, v, lo, hi, rfl, ty, hi2, k⟩ := h
    refine ⟨_, (pss_one (ps_ret (pe_and (pe_callB (call_isiA (K := K)) (by rfl) T.b.isinstance (by decide +kernel) (pa_cons (pv 0) (pa_cons (pe_bltn (v := .ty "int") (by rfl) T.b.int (by decide +kernel) rfl) pa_nil))) (pe_and (pe_not (pe_callB (call_isiA (K := K)) (by rfl) T.b.isinstance (by decide +kernel) (pa_cons (pv 0) (pa_cons (pe_bltn (v := .ty "bool") (by rfl) T.b.bool (by decide +kernel) rfl) pa_nil)))) (pe_one (pe_chain op_le op_le (pv 1) (pv 0) (pv 2))))))), ?_⟩
    cases d with
    | int i =>
      obtain rfl := hi2 i rfl
      refine ⟨_, rfl, isiT ty (intTy _) ⟨_, rfl, iteT ?_⟩⟩
      refine ⟨_, rfl, isiT ty (boolTy _) ⟨_, rfl, ?_⟩⟩
      refine ⟨_, rfl, iteT ?_⟩
      refine ⟨_, rfl, _, rfl, ⟨_, _, rfl, rfl, ⟨_, rfl, ite2 (fun h1 => ?_) (fun h1 => ?_)⟩⟩⟩
      · refine ⟨_, rfl, ⟨_, _, rfl, rfl, ?_⟩⟩
        have h1' := of_decide_eq_true h1
        have e : decide (i ≤ hi) = betB (.int i) lo hi := by
          show _ = decide (lo ≤ i ∧ i ≤ hi)
          rw [decide_eq_decide]
          exact ⟨fun z => ⟨h1', z⟩, fun z => z.2⟩
        show Q (.bl (decide (i ≤ hi))) H
        rw [e]
        exact k
      · have e : betB (.int i) lo hi = false := decide_eq_false fun z => h1 (decide_eq_true z.1)
        rw [e] at k
        exact k
    | bool b =>
      refine ⟨_, rfl, isiT ty (intTy _) ⟨_, rfl, iteT ?_⟩⟩
      refine ⟨_, rfl, isiT ty (boolTy _) ⟨_, rfl, ?_⟩⟩
      exact ⟨_, rfl, iteF k⟩
    | none => exact ⟨_, rfl, isiT ty (intTy _) ⟨_, rfl, iteF k⟩⟩
    | str x => exact ⟨_, rfl, isiT ty (intTy _) ⟨_, rfl, iteF k⟩⟩
    | list x => exact ⟨_, rfl, isiT ty (intTy _) ⟨_, rfl, iteF k⟩⟩
    | tuple x => exact ⟨_, rfl, isiT ty (intTy _) ⟨_, rfl, iteF k⟩⟩
    | dict x => exact ⟨_, rfl, isiT ty (intTy _) ⟨_, rfl, iteF k⟩⟩
end
end Lw_betw

namespace Lw_need
open PySem PySem.Spec PyProof.Rows L2 Lr
def top (i : Nat) : Stmt := PySem.Challenge.pw_leastredo_k12_whole_least_redo_of_great.main.body.getD i (.Pass ⟨0, 0, 0, 0⟩)
abbrev s_need_log : Stmt := top 20
abbrev N_need_log : List Str := ["log"]
theorem sc_need_log : FnScope ["log"] ["log"] (defScope s_need_log) := ⟨rfl, rfl, rfl, by decide +kernel, rfl, by decide +kernel, by decide +kernel⟩
structure Txt (K : PySem.W.Frag) (mg : Str → Option Value) (Cl CB fB : Addr) : Prop where
  b : Bl mg
  lg : InsC K Cl
  no : NoData K Cl
  mg_Log : mg "Log" = some (.ref Cl)
  x_BadLog : PySem.Exthing.Txtthing "BadLog" "BadLog.__init__" K mg CB fB
section
variable {P : Program} {w : World} {K : PySem.W.Frag} {mg : Str → Option Value} {base : Heap} {Cl CB fB : Addr}
theorem ok_need_log (T : Txt K mg Cl CB fB) (F : FD K mg "need_log" s_need_log ["log"]) : Okf P w K mg base (L2.CX P w) 1 "need_log" ["log"] (spNeedLog Cl CB) := by
  refine F.okX sc_need_log (fun vs H Q E h => ?_) (fun f cdv A outer s H vs Q E hr h => ?_)
  · rcases h with ⟨G, x, L, rfl, _⟩ | ⟨d, v, rfl, _⟩ <;> rfl
  · rcases h with ⟨G, x, L, rfl, A9, sm, k⟩ | ⟨d, v, rfl, ty, k⟩
    · refine ⟨_, (pss_one (ps_if (pt_not (pt_val (pe_callB (call_isiA (K := K)) (by rfl) T.b.isinstance (by decide +kernel) (pa_cons (pv 0) (pa_cons (pcls rfl T.mg_Log) pa_nil)))))
    (pss_one (ps_raiseLow_thing rfl T.x_BadLog hr (takes_of rfl rfl rfl rfl) (pa_cons (pv 0) pa_nil)))
    pss_nil)), ?_⟩
      obtain ⟨dx, an, ar, aw, ad, rvs, nvs, fa, h1, _⟩ := A9.ex
      exact ⟨_, rfl, isiC (T.lg.ty (sm _ _ h1)) kit_self ⟨_, rfl, iteF k⟩⟩
    · refine ⟨_, (pss_one (ps_if (pt_not (pt_val (pe_callB (call_isiA (K := K)) (by rfl) T.b.isinstance (by decide +kernel) (pa_cons (pv 0) (pa_cons (pcls rfl T.mg_Log) pa_nil)))))
    (pss_one (ps_raiseLow_thing rfl T.x_BadLog hr (takes_of rfl rfl rfl rfl) (pa_cons (pv 0) pa_nil)))
    pss_nil)), ?_⟩
      exact ⟨_, rfl, isiC (ty K) (T.no d) ⟨_, rfl, iteT ⟨_, rfl, _, rfl, k⟩⟩⟩
end
end Lw_need

namespace Lw_vers
open PySem PySem.Spec PyProof.Rows L2 Lr
def top (i : Nat) : Stmt := PySem.Challenge.pw_leastredo_k12_whole_least_redo_of_great.main.body.getD i (.Pass ⟨0, 0, 0, 0⟩)
abbrev s_is_version : Stmt := top 21
abbrev N_is_version : List Str := ["log", "page", "thing"]
theorem sc_is_version : FnScope ["log", "page", "thing"] ["log", "page", "thing"] (defScope s_is_version) := ⟨rfl, rfl, rfl, by decide +kernel, rfl, by decide +kernel, by decide +kernel⟩
structure Txt (K : PySem.W.Frag) (mg : Str → Option Value) (Cl : Addr) : Prop where
  b : Bl mg
  cl_Log : Cls K Cl
  nW : NoAttr K Cl "writers"
  nR : NoAttr K Cl "rows"
section
variable {P : Program} {w : World} {K : PySem.W.Frag} {mg : Str → Option Value} {base : Heap} {Cl : Addr}
theorem ok_is_version (T : Txt K mg Cl) (F : FD K mg "is_version" s_is_version ["log", "page", "thing"]) (G_is_between : Okf P w K mg base CX0 1 "is_between" ["thing", "low", "high"] spBetween) : Okf P w K mg base CX0 2 "is_version" ["log", "page", "thing"] (spIsVersion Cl) := by
  refine F.ok sc_is_version (fun vs H Q E h => ?_) (fun f cdv A outer s H vs Q E hr h => ?_)
  · obtain ⟨G, x, L, n, d, v, rfl, _⟩ := h
    rfl
  · obtain ⟨G, x, L, n, d, v, rfl, A9, sm, hn, ty, hi, k⟩ := h
    have hu := hu_of hr
    refine ⟨_, (pss_one (ps_ret (pe_and (pc G_is_between hr (pa_cons (pv 2) (pa_cons pe_int (pa_cons (pe_callB (call_lenA (K := K)) (by rfl) T.b.len (by decide +kernel) (pa_cons (xfld (K := K) (pv 0) rfl) pa_nil)) pa_nil)))) (pe_one (pe_or (pe_cmpR (op_eqA (K := K) hr.units) (pv 2) pe_int (nomark _)) (pe_one (pe_cmpR (op_inA (K := K)) (pv 2) (pe_dget hu (xfld (K := K) (pv 0) rfl) (pv 1) (fun _ _ => rfl)) (by rfl)))))))), ?_⟩
    obtain ⟨dx, an, ar, aw, ad, rvs, nvs, fa, h1, h2, h3, h4, _⟩ := A9.ex
    have lr := h4.length
    rw [List.length_map] at lr
    refine ⟨_, rfl, _, rfl, x, Cl, dx, _, _, rfl, sm _ _ h1, T.cl_Log, T.nR, lk_rows _ _ _, rLenA.v (n := L.rows.length) (.inl ⟨_, SqL.of (sm _ _ h3), lr⟩) ?_⟩
    refine ⟨d, v, 0, (L.rows.length : Int), rfl, ty, hi, ?_⟩
    refine ⟨_, rfl, ?_⟩
    obtain ⟨dx2, an2, ar2, aw2, ad2, pw, kvs, e1, e2, e3, e4⟩ := A9.writer hn
    cases d with
    | int i =>
      obtain rfl := hi i rfl
      by_cases hb : 0 ≤ i ∧ i ≤ (L.rows.length : Int)
      · have eb : betB (.int i) 0 (L.rows.length : Int) = true := decide_eq_true hb
        have ev : versB L n (.int i) = (decide (i = 0) || decide (i ∈ wr L.rows n)) := by
          show (decide (0 ≤ i ∧ i ≤ (L.rows.length : Int)) && _) = _
          rw [decide_eq_true hb]
          rfl
        rw [ev] at k
        rw [eb]
        refine iteT ?_
        refine ⟨_, rfl, rEqA.int ⟨_, rfl, ite2 (fun h => ?_) (fun h => ?_)⟩⟩
        · rw [h] at k
          exact k
        · have h0 : decide (i = 0) = false := by simpa using h
          rw [h0] at k
          have dg : DGet H aw2 (.str n) (some (.ref pw)) := by
            have := DGet.k (k := Sum.inr n) (sm _ _ e2)
            rw [e3] at this
            exact this
          refine ⟨_, rfl, _, rfl, x, Cl, dx2, _, _, rfl, sm _ _ e1, T.cl_Log, T.nW, lk_writers _ _ _ _, _, rfl, aw2, _, rfl, dg, rInA.ints (.inl (SqL.of (sm _ _ e4))) ?_⟩
          exact k
      · have eb : betB (.int i) 0 (L.rows.length : Int) = false := decide_eq_false hb
        have ev : versB L n (.int i) = false := by
          show (decide (0 ≤ i ∧ i ≤ (L.rows.length : Int)) && _) = _
          rw [decide_eq_false hb]
          rfl
        rw [ev] at k
        rw [eb]
        exact iteF k
    | none => exact iteF k
    | bool b => exact iteF k
    | str z => exact iteF k
    | list z => exact iteF k
    | tuple z => exact iteF k
    | dict z => exact iteF k
end
end Lw_vers

namespace Lw_nums
open PySem PySem.Spec PyProof.Rows L2 Lr
def top (i : Nat) : Stmt := PySem.Challenge.pw_leastredo_k12_whole_least_redo_of_great.main.body.getD i (.Pass ⟨0, 0, 0, 0⟩)
abbrev s_numbers_among : Stmt := top 15
abbrev N_numbers_among : List Str := ["thing", "most", "found", "one"]
theorem sc_numbers_among : FnScope ["thing", "most", "found", "one"] ["thing", "most"] (defScope s_numbers_among) := ⟨rfl, rfl, rfl, by decide +kernel, rfl, by decide +kernel, by decide +kernel⟩
structure Txt (mg : Str → Option Value) : Prop where
  b : Bl mg
section
variable {P : Program} {w : World} {K : PySem.W.Frag} {mg : Str → Option Value} {base : Heap}
theorem ok_numbers_among (T : Txt mg) (F : FD K mg "numbers_among" s_numbers_among ["thing", "most"]) (G_is_between : Okf P w K mg base CX0 1 "is_between" ["thing", "low", "high"] spBetween) : Okf P w K mg base CX0 2 "numbers_among" ["thing", "most"] spNumbersAmong := by
  refine F.ok sc_numbers_among (fun vs H Q E h => ?_) (fun f cdv A outer s H vs Q E hr h => ?_)
  · obtain ⟨d, v, m, rfl, _⟩ := h
    rfl
  · obtain ⟨d, v, m, rfl, r, sh, k0, k1⟩ := h
    refine ⟨_, (pss_cons (ps_if (pt_not (pt_val (pe_callB (call_isiA (K := K)) (by rfl) T.b.isinstance (by decide +kernel) (pa_cons (pv 0) (pa_cons (pe_tup (pa_cons (pe_bltn (v := .ty "list") (by rfl) T.b.list (by decide +kernel) rfl) (pa_cons (pe_bltn (v := .ty "tuple") (by rfl) T.b.tuple (by decide +kernel) rfl) pa_nil))) pa_nil)))))
    (pss_one (ps_ret pe_non))
    pss_nil)
    (pss_cons (ps_set (i := 2) sc_numbers_among.nd rfl (Or.inl rfl) (pe_lst pa_nil))
    (pss_cons (ps_for PassesOwn.never rfl (pi_seq (K := K) (pv 0)) (pg_name (i := 3) sc_numbers_among.nd rfl (Or.inl rfl))
    (pss_cons (ps_if (PW.pt (pw_or (pt_not (pt_val (pc G_is_between hr (pa_cons (pv 3) (pa_cons pe_int (pa_cons (pv 1) pa_nil)))))) (pw_or1 (PW.pt (pw_and (xtruth (K := K) (pv 2) (by intro _; rfl)) (pw_and1 (pt_cmpR op_le (pv 3) (pe_ix (xix (K := K)) (pv 2) (pe_un un_neg pe_int) (fun _ _ => rfl)) (nomark _))))))))
    (pss_one (ps_ret pe_non))
    pss_nil)
    (pss_one (ps_expr (xbm (K := K) PySem.F.plainAttrs_list PySem.F.slot_list_append PySem.F.type_list_append mt_append (pv 2) (pa_cons (pv 3) pa_nil))))))
    (pss_one (ps_ret (pv 2)))))), ?_⟩
    refine ⟨_, rfl, by show 2 ≤ sizeLine; decide, fun p np => isiT2 upd_same (r.mono (same_new np)).tyd items_ty ⟨_, rfl, ?_⟩⟩
    have s1 := same_new (o := .tup [.ty "list", .ty "tuple"]) np
    cases e : itemsD d with
    | none =>
      refine iteT (k0 ?_ _ s1)
      unfold numsD
      rw [e]
      rfl
    | some ds =>
      have ld := sh ds e
      refine iteF (tnext (tseq ⟨Nat.zero_le _, fun l nl => ?_⟩))
      obtain ⟨kd, a, vs, rfl, rs, hk⟩ := r.items (K := K) e
      have lx := rs.length
      have hl : H l = none := s1.free nl
      have en : numsD d m = numsL ds m [] := by
        unfold numsD
        rw [e]
        rfl
      refine tseq ?_
      refine for_seq (xs := vs) (k := kd) (fun R r => ⟨_, rfl, r⟩) (hk _ (s1.trans (same_new nl))) (fun i σ H' => ∃ (acc : List Int) (y : Option V), σ = [some (.ref a), some (.int m), some (.ref l), y] ∧ Same H H' ∧ H' l = some (.lst (acc.map V.int)) ∧ acc.length ≤ i ∧ numsL (ds.drop i) m acc = numsL ds m []) ⟨[], _, rfl, s1.trans (same_new nl), upd_same, Nat.le_refl _, by simp⟩ (fun i σ H' _ p => ?_) ?_ ?_
      · obtain ⟨acc, y, _, s, _⟩ := p
        exact hk H' s
      · rintro i x σ H' hx ⟨acc, y, rfl, s, hL, la, eN⟩
        have hi := (List.getElem?_eq_some_iff.mp hx).1
        obtain ⟨di, hd, ri⟩ := rs.get hx
        have ri' := ri.mono s
        have edrop : ds.drop i = di :: ds.drop (i + 1) := by
          rw [List.drop_eq_getElem_cons (by omega)]
          rw [(List.getElem?_eq_some_iff.mp hd).2]
        rw [edrop] at eN
        refine ⟨_, rfl, _, rfl, di, x, 1, m, rfl, ri'.tyd, (fun j ej => by subst ej; cases ri; rfl), ⟨_, rfl, ?_⟩⟩
        cases hb : betB di 1 m with
        | false =>
          refine iteT (k0 ?_ _ s)
          rw [en, ← eN, numsL_none hb]
        | true =>
          refine iteF ?_
          cases di with
          | int j =>
            cases ri
            have app : lastLt acc j = true → ∃ lL xL yL, V.ref l = V.ref lL ∧ [V.int j] = [yL] ∧ H' lL = some (.lst xL) ∧ xL.length < sizeLine ∧ (∃ (acc' : List Int) (y : Option V), ([some (.ref a), some (.int m), some (.ref l), y].set 3 (some (V.int j)) : List (Option V)) = [some (.ref a), some (.int m), some (.ref l), y] ∧ Same H (upd H' lL (.lst (xL ++ [yL]))) ∧ (upd H' lL (.lst (xL ++ [yL]))) l = some (.lst (acc'.map V.int)) ∧ acc'.length ≤ i + 1 ∧ numsL (ds.drop (i + 1)) m acc' = numsL ds m []) := fun hlt => by
              refine ⟨l, _, _, rfl, rfl, hL, by rw [List.length_map]; exact sz_lt (by omega), acc ++ [j], some (.int j), rfl, fun b o eb => ?_, ?_, ?_, ?_⟩
              · rw [upd_ne (ne_of_none eb hl)]
                exact s _ _ eb
              · rw [upd_same]
                simp
              · rw [List.length_append]
                simp
                omega
              · rw [← eN]
                show _ = (if betB (.int j) 1 m = true ∧ lastLt acc j = true then numsL (ds.drop (i + 1)) m (acc ++ [j]) else none)
                rw [if_pos ⟨hb, hlt⟩]
            have bad : lastLt acc j = false → numsD d m = none := fun hlt => by
              rw [en, ← eN]
              show (if betB (.int j) 1 m = true ∧ lastLt acc j = true then numsL (ds.drop (i + 1)) m (acc ++ [j]) else none) = none
              rw [if_neg (by rw [hlt]; simp)]
            cases eg : acc.getLast? with
            | none =>
              have ea : acc = [] := List.getLast?_eq_none_iff.mp eg
              refine ⟨_, rfl, false, .inl ⟨_, SqL.of hL, by rw [ea]; rfl⟩, iteF (iteF ?_)⟩
              refine ⟨_, rfl, .inl ⟨rfl, _, SqL.of hL⟩, _, rfl, ?_⟩
              obtain ⟨lL, xL, yL, e1, e2, e3, e4, e5⟩ := app (by unfold lastLt; rw [eg])
              obtain ⟨acc', y', f1, f2⟩ := e5
              exact ⟨lL, xL, yL, e1, e2, e3, e4, acc', _, rfl, f2⟩
            | some z =>
              have hne : acc ≠ [] := fun ea => by rw [ea] at eg; cases eg
              have hz2 : atI (acc.map V.int) (-1) = some (.int z) := last_atI (by rw [List.getLast?_map, eg]; rfl)
              refine ⟨_, rfl, true, .inl ⟨_, SqL.of hL, ?_⟩, iteT ?_⟩
              · cases acc with
                | nil => exact absurd rfl hne
                | cons _ _ => rfl
              refine ⟨_, rfl, _, rfl, 1, rfl, rIx.lst hL hz2 ⟨_, _, rfl, rfl, ⟨_, rfl, ite2 (fun h => ?_) (fun h => ?_)⟩⟩⟩
              · refine k0 (bad ?_) _ s
                have := of_decide_eq_true h
                unfold lastLt
                rw [eg]
                exact decide_eq_false (by omega)
              · refine ⟨_, rfl, .inl ⟨rfl, _, SqL.of hL⟩, _, rfl, ?_⟩
                have h' : ¬ j ≤ z := fun q => h (decide_eq_true q)
                obtain ⟨lL, xL, yL, e1, e2, e3, e4, e5⟩ := app (by unfold lastLt; rw [eg]; exact decide_eq_true (by omega))
                obtain ⟨acc', y', f1, f2⟩ := e5
                exact ⟨lL, xL, yL, e1, e2, e3, e4, acc', _, rfl, f2⟩
          | _ => cases hb
      · rintro σ H' ⟨acc, y, rfl, s, hL, la, eN⟩
        have e0 : ds.drop vs.length = [] := List.drop_eq_nil_of_le (by omega)
        rw [e0] at eN
        refine ⟨_, rfl, k1 acc ?_ _ l s hl hL⟩
        rw [en, ← eN]
        rfl
end
end Lw_nums

namespace Lw_fits
open PySem PySem.Spec PyProof.Rows L2 Lr
def top (i : Nat) : Stmt := PySem.Challenge.pw_leastredo_k12_whole_least_redo_of_great.main.body.getD i (.Pass ⟨0, 0, 0, 0⟩)
abbrev s_fits_disk : Stmt := top 22
abbrev N_fits_disk : List Str := ["log", "thing", "page"]
theorem sc_fits_disk : FnScope ["log", "thing", "page"] ["log", "thing"] (defScope s_fits_disk) := ⟨rfl, rfl, rfl, by decide +kernel, rfl, by decide +kernel, by decide +kernel⟩
structure Txt (K : PySem.W.Frag) (mg : Str → Option Value) (Cl : Addr) : Prop where
  b : Bl mg
  cl_Log : Cls K Cl
  nN : NoAttr K Cl "names"
section
variable {P : Program} {w : World} {K : PySem.W.Frag} {mg : Str → Option Value} {base : Heap} {Cl : Addr}
theorem ok_fits_disk (T : Txt K mg Cl) (F : FD K mg "fits_disk" s_fits_disk ["log", "thing"]) (G_is_version : Okf P w K mg base CX0 2 "is_version" ["log", "page", "thing"] (spIsVersion Cl)) : Okf P w K mg base CX0 3 "fits_disk" ["log", "thing"] (spFitsDisk Cl) := by
  refine F.ok sc_fits_disk (fun vs H Q E h => ?_) (fun f cdv A outer s H vs Q E hr h => ?_)
  · obtain ⟨G, x, L, d, v, rfl, _⟩ := h
    rfl
  · obtain ⟨G, x, L, d, v, rfl, A9, sm, r, k⟩ := h
    have hu := hu_of hr
    refine ⟨_, (pss_cons (ps_if (PW.pt (pw_or (pt_not (pt_val (pe_callB (call_isiA (K := K)) (by rfl) T.b.isinstance (by decide +kernel) (pa_cons (pv 1) (pa_cons (pe_bltn (v := .ty "dict") (by rfl) T.b.dict (by decide +kernel) rfl) pa_nil))))) (pw_or1 (pt_cmpR (op_neA (K := K) hr.units) (pe_callB (call_lenA (K := K)) (by rfl) T.b.len (by decide +kernel) (pa_cons (pv 1) pa_nil)) (pe_callB (call_lenA (K := K)) (by rfl) T.b.len (by decide +kernel) (pa_cons (xfld (K := K) (pv 0) rfl) pa_nil)) (nomark _)))))
    (pss_one (ps_ret pe_bl))
    pss_nil)
    (pss_cons (ps_for PassesOwn.never rfl (pi_seq (K := K) (xfld (K := K) (pv 0) rfl)) (pg_name (i := 2) sc_fits_disk.nd rfl (Or.inl rfl))
    (pss_cons (ps_if (pt_cmp (pc_dnotin hu (pv 2) (pv 1)))
    (pss_one (ps_ret pe_bl))
    pss_nil)
    (pss_one (ps_if (PW.pt (pw_and (pt_cmpR op_notN (pe_dget hu (pv 1) (pv 2) (fun _ _ => rfl)) pe_non (nomark _)) (pw_and1 (pt_not (pt_val (pc G_is_version hr (pa_cons (pv 0) (pa_cons (pv 2) (pa_cons (pe_dget hu (pv 1) (pv 2) (fun _ _ => rfl)) pa_nil)))))))))
    (pss_one (ps_ret pe_bl))
    pss_nil))))
    (pss_one (ps_ret pe_bl)))), ?_⟩
    obtain ⟨dx, an, ar, aw, ad, rvs, nvs, fa, h1, h2, _⟩ := A9.ex
    cases r with
    | dic hd rk =>
      rename_i a kvs es
      have le := rk.length
      refine ⟨_, rfl, isiT (Rep.ty_dic hd) (dicTy (.dict [])) ⟨_, rfl, iteF ?_⟩⟩
      refine ⟨_, rfl, rLenA.dic hd ⟨_, rfl, x, Cl, dx, _, _, rfl, sm _ _ h1, T.cl_Log, T.nN, lk_names _ _, rLenA.v (n := L.names.length) (.inr ⟨_, SqT.of (sm _ _ h2), by simp⟩) (rNeA.int ⟨_, rfl, ?_⟩)⟩⟩
      by_cases hl : es.length = L.names.length
      · rw [decide_eq_true (show ((kvs.length : Nat) : Int) = L.names.length by omega)]
        refine iteF (tnext (tseq ?_))
        refine for_seq (xs := L.names.map V.str) (k := false) (fun R r => ⟨_, rfl, x, Cl, dx, _, _, rfl, sm _ _ h1, T.cl_Log, T.nN, lk_names _ _, r⟩) (SqK.tup (sm _ _ h2)) (fun i σ H' => H' = H ∧ (∃ y, σ = [some (.ref x), some (.ref a), y]) ∧ (L.names.take i).all (fun n => pageB L n (lookD es n)) = true) ⟨rfl, ⟨_, rfl⟩, by simp⟩ (fun i σ H' _ p => by rw [p.1]; exact SqK.tup (sm _ _ h2)) ?_ ?_
        · rintro i v σ H' hv ⟨rfl, ⟨y, rfl⟩, hall⟩
          obtain ⟨n, hn, rfl⟩ := map_get hv
          have hmem := List.mem_of_getElem? hn
          have bad : pageB L n (lookD es n) = false → fitsB L (.dict es) = false := fun hb => by
            show (decide _ && L.names.all _) = false
            rw [Bool.and_eq_false_iff]
            exact .inr (List.all_eq_false.mpr ⟨n, hmem, by rw [hb]; simp⟩)
          have more : pageB L n (lookD es n) = true → (L.names.take (i + 1)).all (fun n => pageB L n (lookD es n)) = true := fun hb => by
            rw [take_more hn, List.all_append, hall]
            simp [hb]
          have dg : DGet H' a (.str n) (valV kvs (Sum.inr n : Key)) := DGet.k (k := Sum.inr n) hd
          rcases lookD_rep n rk with ⟨l1, l2⟩ | ⟨d', v', l1, l2, l3⟩
          · rw [l2] at dg
            refine ⟨_, rfl, _, rfl, a, _, rfl, dg, ⟨_, rfl, iteT ?_⟩⟩
            rw [bad (by rw [l1]; rfl)] at k
            exact k
          · rw [l2] at dg
            refine ⟨_, rfl, _, rfl, a, _, rfl, dg, ⟨_, rfl, iteF (tnext ?_)⟩⟩
            have nx : pageB L n (lookD es n) = true → H' = H' ∧ (∃ y, ([some (.ref x), some (.ref a), y].set 2 (some (V.str n)) : List (Option V)) = [some (.ref x), some (.ref a), y]) ∧ (L.names.take (i + 1)).all (fun n => pageB L n (lookD es n)) = true := fun hb => ⟨rfl, ⟨_, rfl⟩, more hb⟩
            refine ⟨_, rfl, _, rfl, a, v', rfl, dg, rfl, _, rfl, ?_⟩
            by_cases hnon : d' = .none
            · subst hnon
              cases l3
              exact iteF (iteF (nx (by rw [l1]; rfl)))
            · have hv' : v' ≠ .non := fun z => by
                subst z
                cases l3
                exact hnon rfl
              have hp : pageB L n (some d') = versB L n d' := by
                cases d' with
                | none => exact absurd rfl hnon
                | _ => rfl
              have ed : (!decide (v' = V.non)) = true := by rw [decide_eq_false hv']; rfl
              rw [ed]
              refine iteT ?_
              refine ⟨_, rfl, _, rfl, _, rfl, _, rfl, a, v', rfl, dg, G, x, L, n, d', v', rfl, A9, sm, hmem, l3.tyd, (fun j ej => by subst ej; cases l3; rfl), ⟨_, rfl, ?_⟩⟩
              cases hb : versB L n d' with
              | true => exact iteF (nx (by rw [l1, hp]; exact hb))
              | false =>
                refine iteT ?_
                rw [bad (by rw [l1, hp]; exact hb)] at k
                exact k
        · rintro σ H' ⟨rfl, ⟨y, rfl⟩, hall⟩
          rw [List.length_map, List.take_length] at hall
          have : fitsB L (.dict es) = true := by
            show (decide _ && L.names.all _) = true
            rw [decide_eq_true hl, hall]
            rfl
          rw [this] at k
          exact k
      · rw [decide_eq_false (show ¬ ((kvs.length : Nat) : Int) = L.names.length by omega)]
        have : fitsB L (.dict es) = false := by
          show (decide _ && L.names.all _) = false
          rw [decide_eq_false hl]
          rfl
        rw [this] at k
        exact iteT k
    | non => exact ⟨_, rfl, isiT (Rep.tyd .non) (dicTy _) ⟨_, rfl, iteT k⟩⟩
    | bl b => exact ⟨_, rfl, isiT (Rep.tyd (.bl b)) (dicTy _) ⟨_, rfl, iteT k⟩⟩
    | int i => exact ⟨_, rfl, isiT (Rep.tyd (.int i)) (dicTy _) ⟨_, rfl, iteT k⟩⟩
    | str z => exact ⟨_, rfl, isiT (Rep.tyd (.str z)) (dicTy _) ⟨_, rfl, iteT k⟩⟩
    | lst h r => exact ⟨_, rfl, isiT (Rep.ty_lst h) (dicTy (.list [])) ⟨_, rfl, iteT k⟩⟩
    | tup h r => exact ⟨_, rfl, isiT (Rep.ty_tup h) (dicTy (.tuple [])) ⟨_, rfl, iteT k⟩⟩
end
end Lw_fits

namespace Lw_ndisk
open PySem PySem.Spec PyProof.Rows L2 Lr
def top (i : Nat) : Stmt := PySem.Challenge.pw_leastredo_k12_whole_least_redo_of_great.main.body.getD i (.Pass ⟨0, 0, 0, 0⟩)
abbrev s_need_disk : Stmt := top 23
abbrev N_need_disk : List Str := ["log", "disk", "page"]
theorem sc_need_disk : FnScope ["log", "disk", "page"] ["log", "disk"] (defScope s_need_disk) := ⟨rfl, rfl, rfl, by decide +kernel, rfl, by decide +kernel, by decide +kernel⟩
structure Txt (K : PySem.W.Frag) (mg : Str → Option Value) (Cl CB fB : Addr) : Prop where
  b : Bl mg
  cl_Log : Cls K Cl
  nN : NoAttr K Cl "names"
  x_BadDisk : PySem.Exthing.Txtthing "BadDisk" "BadDisk.__init__" K mg CB fB
section
variable {P : Program} {w : World} {K : PySem.W.Frag} {mg : Str → Option Value} {base : Heap} {Cl CB fB : Addr}
theorem ok_need_disk (T : Txt K mg Cl CB fB) (F : FD K mg "need_disk" s_need_disk ["log", "disk"]) (G_fits_disk : Okf P w K mg base CX0 3 "fits_disk" ["log", "thing"] (spFitsDisk Cl)) : Okf P w K mg base (L2.CX P w) 4 "need_disk" ["log", "disk"] (spNeedDisk Cl CB) := by
  refine F.okX sc_need_disk (fun vs H Q E h => ?_) (fun f cdv A outer s H vs Q E hr h => ?_)
  · obtain ⟨G, x, L, d, v, rfl, _⟩ := h
    rfl
  · obtain ⟨G, x, L, d, v, rfl, A9, sm, r, kE, k⟩ := h
    have hu := hu_of hr
    refine ⟨_, (pss_cons (ps_if (pt_not (pt_val (pc G_fits_disk hr (pa_cons (pv 0) (pa_cons (pv 1) pa_nil)))))
    (pss_one (ps_raiseLow_thing rfl T.x_BadDisk hr (takes_of rfl rfl rfl rfl) (pa_cons (pv 1) pa_nil)))
    pss_nil)
    (pss_one (ps_ret (pe_dc (own := [("page", 2)]) (g := gName 2) (tt := tYes) rfl sc_need_disk.nd (pi_seq (K := K) (xfld (K := K) (pv 0) rfl)) (blkOk_by (N := N_need_disk) (sc := defScope s_need_disk) (by decide +kernel)) (fun _ _ _ _ _ => (pg_name (i := 2) sc_need_disk.nd rfl (Or.inl rfl))) (fun _ _ _ _ _ => pts_nil) (fun _ _ _ _ _ => (pv 2)) (fun _ _ _ _ _ => (pe_dget hu (pv 1) (pv 2) (fun _ _ => rfl))))))), ?_⟩
    refine ⟨_, rfl, _, rfl, G, x, L, d, v, rfl, A9, sm, r, ⟨_, rfl, ?_⟩⟩
    cases hf : fitsB L d with
    | false => exact iteT ⟨_, rfl, _, rfl, kE hf⟩
    | true =>
      refine iteF (tnext ?_)
      cases r with
      | dic hd rk =>
        rename_i a kvs es
        obtain ⟨dx, an, ar, aw, ad, rvs, nvs, fa, h1, h2, _⟩ := A9.ex
        have n12 := A9.nn.2
        refine tret ?_
        refine dc_seq (xs := L.names.map V.str) (k := false) (fun R r => ⟨_, rfl, x, Cl, dx, _, _, rfl, sm _ _ h1, T.cl_Log, T.nN, lk_names _ _, r⟩) (SqK.tup (sm _ _ h2)) fun D nD => ⟨fun j H2 => Same H H2 ∧ H D = none ∧ H2 D = some (.dK (dkL (L.names.take j) (dkOf es))), ⟨same_new nD, nD, upd_same⟩, fun j H2 _ p => SqK.tup (p.1 _ _ (sm _ _ h2)), ?_, ?_⟩
        · rintro j v H2 hv ⟨s2, _, hD⟩
          obtain ⟨n, hn, rfl⟩ := map_get hv
          have dg : DGet H2 a (.str n) (valV kvs (Sum.inr n : Key)) := DGet.k (k := Sum.inr n) (s2 _ _ hd)
          rw [fits_at hf rk (List.mem_of_getElem? hn)] at dg
          have nn : n ∉ L.names.take j := fun z => by
            have nd' : (L.names.take (j + 1)).Nodup := A9.nd.sublist (List.take_sublist _ _)
            rw [take_more hn] at nd'
            exact (List.nodup_append.mp nd').2.2 n z n (by simp) rfl
          refine ⟨rfl, ?_⟩
          refine ⟨_, rfl, _, rfl, _, rfl, a, _, rfl, dg, _, Sum.inr n, rfl, hD, sz_lt ?_, ?_, nD, ?_⟩
          · unfold dkL
            rw [List.length_map, List.length_take]
            omega
          · intro b o eb
            rw [upd_ne (ne_of_none eb nD)]
            exact s2 _ _ eb
          · rw [upd_same, L2.putK_new _ (dkL_none nn), take_more hn]
            unfold dkL
            rw [List.map_append]
            rfl
        · rintro H2 ⟨s2, _, hD⟩
          rw [List.length_map, List.take_length] at hD
          exact k es rfl hf H2 D s2 nD hD
      | _ => cases hf
end
end Lw_ndisk

namespace Lw_nnum
open PySem PySem.Spec PyProof.Rows L2 Lr
def top (i : Nat) : Stmt := PySem.Challenge.pw_leastredo_k12_whole_least_redo_of_great.main.body.getD i (.Pass ⟨0, 0, 0, 0⟩)
abbrev s_need_numbers : Stmt := top 24
abbrev N_need_numbers : List Str := ["log", "numbers", "found"]
theorem sc_need_numbers : FnScope ["log", "numbers", "found"] ["log", "numbers"] (defScope s_need_numbers) := ⟨rfl, rfl, rfl, by decide +kernel, rfl, by decide +kernel, by decide +kernel⟩
structure Txt (K : PySem.W.Frag) (mg : Str → Option Value) (Cl CB fB : Addr) : Prop where
  b : Bl mg
  cl_Log : Cls K Cl
  nR : NoAttr K Cl "rows"
  x_BadNumbers : PySem.Exthing.Txtthing "BadNumbers" "BadNumbers.__init__" K mg CB fB
section
variable {P : Program} {w : World} {K : PySem.W.Frag} {mg : Str → Option Value} {base : Heap} {Cl CB fB : Addr}
theorem ok_need_numbers (T : Txt K mg Cl CB fB) (F : FD K mg "need_numbers" s_need_numbers ["log", "numbers"]) (G_numbers_among : Okf P w K mg base CX0 2 "numbers_among" ["thing", "most"] spNumbersAmong) : Okf P w K mg base (L2.CX P w) 3 "need_numbers" ["log", "numbers"] (spNeedNumbers Cl CB) := by
  refine F.okX sc_need_numbers (fun vs H Q E h => ?_) (fun f cdv A outer s H vs Q E hr h => ?_)
  · obtain ⟨G, x, L, d, v, rfl, _⟩ := h
    rfl
  · obtain ⟨G, x, L, d, v, rfl, A9, sm, r, sh, kE, k⟩ := h
    refine ⟨_, (pss_cons (ps_set (i := 2) sc_need_numbers.nd rfl (Or.inl rfl) (pc G_numbers_among hr (pa_cons (pv 1) (pa_cons (pe_callB (call_lenA (K := K)) (by rfl) T.b.len (by decide +kernel) (pa_cons (xfld (K := K) (pv 0) rfl) pa_nil)) pa_nil))))
    (pss_cons (ps_if (pt_cmpR op_isN (pv 2) pe_non (nomark _))
    (pss_one (ps_raiseLow_thing rfl T.x_BadNumbers hr (takes_of rfl rfl rfl rfl) (pa_cons (pv 1) pa_nil)))
    pss_nil)
    (pss_one (ps_ret (pv 2))))), ?_⟩
    obtain ⟨dx, an, ar, aw, ad, rvs, nvs, fa, h1, h2, h3, h4, _⟩ := A9.ex
    have lr := h4.length
    rw [List.length_map] at lr
    refine ⟨_, rfl, _, rfl, x, Cl, dx, _, _, rfl, sm _ _ h1, T.cl_Log, T.nR, lk_rows _ _ _, rLenA.v (n := L.rows.length) (.inl ⟨_, SqL.of (sm _ _ h3), lr⟩) ?_⟩
    refine ⟨d, v, (L.rows.length : Int), rfl, r, sh, fun e H1 s1 => ?_, fun ys e H1 p s1 np hp => ?_⟩
    · exact ⟨_, rfl, rfl, _, rfl, iteT ⟨_, rfl, _, rfl, fun q nq => kE e H1 q s1 nq⟩⟩
    · exact ⟨_, rfl, rfl, _, rfl, iteF ⟨_, rfl, k ys e H1 p s1 np hp⟩⟩
end
end Lw_nnum

namespace Lw_walk
open PySem PySem.Spec PyProof.Rows L2 Lr
def top (i : Nat) : Stmt := PySem.Challenge.pw_leastredo_k12_whole_least_redo_of_great.main.body.getD i (.Pass ⟨0, 0, 0, 0⟩)
abbrev s_walked : Stmt := top 32
abbrev N_walked : List Str := ["log", "stands", "numbers", "rows", "number", "reads", "writes", "found", "page"]
theorem sc_walked : FnScope ["log", "stands", "numbers", "rows", "number", "reads", "writes", "found", "page"] ["log", "stands", "numbers"] (defScope s_walked) := ⟨rfl, rfl, rfl, by decide +kernel, rfl, by decide +kernel, by decide +kernel⟩
structure Txt (K : PySem.W.Frag) (mg : Str → Option Value) (Cl : Addr) : Prop where
  b : Bl mg
  cl_Log : Cls K Cl
  nN : NoAttr K Cl "names"
  nR : NoAttr K Cl "rows"
  nD : NoAttr K Cl "needs"
section
variable {P : Program} {w : World} {K : PySem.W.Frag} {mg : Str → Option Value} {base : Heap} {Cl : Addr}
theorem ok_walked (T : Txt K mg Cl) (F : FD K mg "walked" s_walked ["log", "stands", "numbers"]) : Okf P w K mg base CX0 1 "walked" ["log", "stands", "numbers"] (spWalked Cl) := by
  refine F.ok sc_walked (fun vs H Q E h => ?_) (fun f0 cdv A outer s H vs Q E hr h => ?_)
  · obtain ⟨G, C, x, a, b, L, f, ks, rfl, _⟩ := h
    rfl
  · obtain ⟨G, C, x, a, b, L, f, ks, rfl, W, A9, hb, hks, lks, k⟩ := h
    have hu := hu_of hr
    refine ⟨_, (pss_cons (ps_set (i := 3) sc_walked.nd rfl (Or.inl rfl) (pe_lst pa_nil))
    (pss_cons (ps_for PassesOwn.never rfl (pi_seq (K := K) (pv 2)) (pg_name (i := 4) sc_walked.nd rfl (Or.inl rfl))
    (pss_cons (ps_asg (pe_ix (xix (K := K)) (xfld (K := K) (pv 0) rfl) (pe_op op_sub (pv 4) pe_int) (fun _ _ => rfl)) (xtup (K := K) (n := 2) rfl (pgs_cons (pg_name (i := 5) sc_walked.nd rfl (Or.inl rfl)) (pgs_cons (pg_name (i := 6) sc_walked.nd rfl (Or.inl rfl)) pgs_nil))))
    (pss_cons (ps_set (i := 7) sc_walked.nd rfl (Or.inl rfl) (pe_callTy (call_tupleA (K := K)) (by rfl) T.b.tuple (by decide +kernel) (pa_cons (pe_lc (own := [("page", 8)]) (g := gName 8) (tt := tYes) rfl sc_walked.nd (pi_seq (K := K) (pv 5)) (blkOk_by (N := N_walked) (sc := defScope s_walked) (by decide +kernel)) (fun _ _ _ _ _ => (pg_name (i := 8) sc_walked.nd rfl (Or.inl rfl))) (fun _ _ _ _ _ => pts_nil) (fun _ _ _ _ _ => (pe_tup (pa_cons (pv 8) (pa_cons (pe_dget hu (pv 1) (pv 8) (fun _ _ => rfl)) pa_nil))))) pa_nil)))
    (pss_cons (ps_expr (xbm (K := K) PySem.F.plainAttrs_list PySem.F.slot_list_append PySem.F.type_list_append mt_append (pv 3) (pa_cons (pe_tup (pa_cons (pv 4) (pa_cons (pv 7) pa_nil))) pa_nil)))
    (pss_one (ps_for PassesOwn.never rfl (pi_seq (K := K) (pv 6)) (pg_name (i := 8) sc_walked.nd rfl (Or.inl rfl))
    (pss_one (ps_dput hu (pv 1) (pv 8) (pe_ifExp (pt_cmpR (op_eqA (K := K) hr.units) (pv 7) (pe_ix (xix (K := K)) (xfld (K := K) (pv 0) rfl) (pe_op op_sub (pv 4) pe_int) (fun _ _ => rfl)) (nomark _)) (pv 4) pe_non) rfl))))))))
    (pss_cons (ps_expr (xbm (K := K) PySem.F.plainAttrs_list PySem.F.slot_list_append PySem.F.type_list_append mt_append (pv 3) (pa_cons (pe_tup (pa_cons (pe_op (op_addA (K := K)) (pe_callB (call_lenA (K := K)) (by rfl) T.b.len (by decide +kernel) (pa_cons (xfld (K := K) (pv 0) rfl) pa_nil)) pe_int) (pa_cons (pe_callTy (call_tupleA (K := K)) (by rfl) T.b.tuple (by decide +kernel) (pa_cons (pe_lc (own := [("page", 8)]) (g := gName 8) (tt := tYes) rfl sc_walked.nd (pi_seq (K := K) (xfld (K := K) (pv 0) rfl)) (blkOk_by (N := N_walked) (sc := defScope s_walked) (by decide +kernel)) (fun _ _ _ _ _ => (pg_name (i := 8) sc_walked.nd rfl (Or.inl rfl))) (fun _ _ _ _ _ => pts_nil) (fun _ _ _ _ _ => (pe_tup (pa_cons (pv 8) (pa_cons (pe_dget hu (pv 1) (pv 8) (fun _ _ => rfl)) pa_nil))))) pa_nil)) pa_nil))) pa_nil)))
    (pss_one (ps_ret (pv 3)))))), ?_⟩
    obtain ⟨dx, an, ar, aw, ad, rvs, nvs, fa, h1, h2, h3, h4, h5, h6, h7, h8⟩ := A9.ex
    have lr := h4.length
    rw [List.length_map] at lr
    have n12 := A9.nn.2
    have l60 := A9.rl
    refine tseq ⟨Nat.zero_le _, fun p np => ?_⟩
    have W1 := W.new (o := .lst []) np
    refine tnx (tseq ?_)
    refine for_seq (xs := ks.map V.int) (k := true) (fun R r => ⟨_, rfl, r⟩) (SqK.lst (hb.cons.cons.at W1)) (fun i σ H' => ∃ (G' : Hp) (us : List V) (y4 y5 y6 y7 y8 : Option V), Same G G' ∧ WF G' ((p, .lst us) :: (a, .dK (dkL L.names (walkL L (ks.take i) f).2)) :: C) H' ∧ Reps G' (walkL L (ks.take i) f).1 us ∧ us.length = i ∧ σ = [some (.ref x), some (.ref a), some (.ref b), some (.ref p), y4, y5, y6, y7, y8]) ⟨G, [], _, _, _, _, _, Same.refl G, W1, .nil, rfl, rfl⟩ (fun i σ H' _ q => ?_) ?_ ?_
    · obtain ⟨G', us, _, _, _, _, _, s, w, _⟩ := q
      exact SqK.lst ((hb.mono s).cons.cons.at w)
    · rintro i v σ H' hv ⟨G', us, y4, y5, y6, y7, y8, s, w, ru, lu, rfl⟩
      obtain ⟨kz, hkz, rfl⟩ := map_get hv
      obtain ⟨k1, k2⟩ := hks kz (List.mem_of_getElem? hkz)
      obtain ⟨kn, rfl⟩ : ∃ kn : Nat, kz = kn := ⟨kz.toNat, by omega⟩
      have hkn : kn - 1 < L.rows.length := by omega
      have e1 : ((kn : Nat) : Int) - 1 = ((kn - 1 : Nat) : Int) := by omega
      have hi := (List.getElem?_eq_some_iff.mp hkz).1
      obtain ⟨v', hv'⟩ : ∃ v', rvs[kn - 1]? = some v' := ⟨_, List.getElem?_eq_getElem (by omega)⟩
      obtain ⟨r, hr1, rep⟩ := recs_get (h4.mono s) hv'
      have er : rowAt L kn = r := by
        unfold rowAt
        rw [hr1]
        rfl
      obtain ⟨bt, q, t, rfl, gb, gq, gt⟩ := rec_at rep
      obtain ⟨o1, o2, o3, o4, o5, _, _⟩ := A9.rok r (List.mem_of_getElem? hr1)
      have lr1 := nodup_len o4 o2
      have lr2 := nodup_len o5 o3
      obtain ⟨g, eg⟩ : ∃ g, g = (walkL L (ks.take i) f).2 := ⟨_, rfl⟩
      rw [← eg] at w
      have ew : walkL L (ks.take (i + 1)) f = ((walkL L (ks.take i) f).1 ++ [.tuple [.int kn, foundD r.1 g]], stepF L kn g) := by
        rw [take_more hkz, walkL_snoc, ← eg]
        show (_ ++ [PyData.tuple [.int (kn : Int), foundD (rowAt L kn).1 g]], stepF L kn g) = _
        rw [er]
      refine tseq (tasg ?_)
      refine ⟨_, rfl, x, Cl, dx, _, _, rfl, w.getG (s _ _ h1), T.cl_Log, T.nR, lk_rows _ _ _, _, rfl, _, _, rfl, rfl, rIx.lst (w.getG (s _ _ h3)) (by rw [e1]; exact atI_nat hv') ⟨bt, _, rfl, SqT.of (w.getG gb), rfl, gc2 ?_⟩⟩
      refine tnx (tseq (tasg ?_))
      refine tcb1 ?_
      refine lc_seq (xs := r.1.map V.str) (k := false) (fun R r => ⟨_, rfl, r⟩) (SqK.tup (w.getG gq)) fun D nD => ⟨fun j H2 => ∃ (G2 : Hp) (us2 : List V), Same G' G2 ∧ WF G2 ((D, .lst us2) :: (p, .lst us) :: (a, .dK (dkL L.names g)) :: C) H2 ∧ Reps G2 ((r.1.take j).map fun n => PyData.tuple [.str n, optD (g n)]) us2, ⟨G', [], Same.refl _, w.new nD, .nil⟩, fun j H2 _ ⟨G2, us2, s2, w2, _⟩ => SqK.tup (w2.getG (s2 _ _ gq)), ?_, ?_⟩
      · rintro j v2 H2 hv2 ⟨G2, us2, s2, w2, r2⟩
        obtain ⟨n, hn, rfl⟩ := map_get hv2
        have hj := (List.getElem?_eq_some_iff.mp hn).1
        have l2 := r2.length
        rw [List.length_map, List.length_take] at l2
        have ga := w2.get (List.mem_cons_of_mem _ (List.mem_cons_of_mem _ List.mem_cons_self))
        have dg : DGet H2 a (.str n) (some (vD (g n))) := by
          have := DGet.k (k := Sum.inr n) ga
          rw [dkL_get (o2 n (List.mem_of_getElem? hn))] at this
          exact this
        refine ⟨rfl, ?_⟩
        refine ⟨_, rfl, _, rfl, _, rfl, a, _, rfl, dg, by show 2 ≤ sizeLine; decide, fun t1 nt1 => ?_⟩
        have w3 := w2.newG (o := .tup [.str n, vD (g n)]) nt1
        have s3 := w2.leG (o := .tup [.str n, vD (g n)]) nt1
        refine ⟨us2, w3.hd, sz_lt (by omega), _, us2 ++ [.ref t1], s2.trans s3, w3.set, ?_⟩
        rw [take_more hn, List.map_append]
        exact (r2.mono s3).app (.cons (.tup upd_same (.cons (.str n) (.cons (optD_rep _) .nil))) .nil)
      rintro H2 ⟨G2, us2, s2, w2, r2⟩
      rw [List.length_map, List.take_length] at r2
      refine ⟨D, us2, rfl, .inl ⟨SqL.of w2.hd, fun tf ntf => ?_⟩⟩
      have w3 := (w2.newG (o := .tup us2) ntf).drop
      have s3 := w2.leG (o := .tup us2) ntf
      have rf : Rep (upd G2 tf (.tup us2)) (foundD r.1 g) (.ref tf) := .tup upd_same (r2.mono s3)
      have s23 := s2.trans s3
      generalize upd G2 tf (.tup us2) = G3 at w3 rf s23
      generalize upd H2 tf (.tup us2) = H3 at w3
      refine tnx (tseq (tdrop ?_))
      refine ⟨_, rfl, .inl ⟨rfl, _, SqL.of w3.hd⟩, _, rfl, _, rfl, by show 2 ≤ sizeLine; decide, fun t2 nt2 => ?_⟩
      have w4 := w3.newG (o := .tup [.int kn, .ref tf]) nt2
      have s4 := w3.leG (o := .tup [.int kn, .ref tf]) nt2
      have r4 : Rep (upd G3 t2 (.tup [.int kn, .ref tf])) (.tuple [.int kn, foundD r.1 g]) (.ref t2) := .tup upd_same (.cons (.int _) (.cons (rf.mono s4) .nil))
      refine ⟨p, us, _, rfl, rfl, w4.hd, sz_lt (by omega), ?_⟩
      have w5 := w4.set (u := .lst (us ++ [.ref t2]))
      have ru5 := (ru.mono (s23.trans s4)).app (.cons r4 .nil)
      have rf5 := rf.mono s4
      have s5 := s.trans (s23.trans s4)
      have gt5 := (s23.trans s4) _ _ gt
      generalize upd G3 t2 (.tup [.int kn, .ref tf]) = G5 at w5 ru5 rf5 s5 gt5
      generalize upd (upd H3 t2 (.tup [.int kn, .ref tf])) p (.lst (us ++ [.ref t2])) = H5 at w5
      refine tnx ?_
      obtain ⟨c, ec⟩ : ∃ c : Option Int, c = if ∀ n ∈ r.1, g n = needAt L kn n then some (kn : Int) else none := ⟨_, rfl⟩
      obtain ⟨nv, hnv⟩ : ∃ nv, nvs[kn - 1]? = some nv := by
        have := h8.length
        have hl : L.needs.length = L.rows.length + 1 := by
          unfold LogM.needs
          rw [List.length_append, List.length_map, List.length_range]
          rfl
        exact ⟨_, List.getElem?_eq_getElem (show kn - 1 < nvs.length by omega)⟩
      obtain ⟨nd, hnd, rnd⟩ := h8.get hnv
      rw [needs_at hkn, hr1] at hnd
      have end' : needD (L.rows.take (kn - 1)) r.1 = nd := Option.some.inj hnd
      subst end'
      rw [needD_found] at rnd
      have nb1 : ∀ n ∈ r.1, nameB n = true := fun n hn => A9.nb n (o2 n hn)
      have g1 : Same G G5 := s5
      have step : ∀ j n, r.2[j]? = some n → ∀ m, (if m ∈ r.2.take (j + 1) then c else g m) = if m = n then c else if m ∈ r.2.take j then c else g m := fun j n hn m => by
        have e := take_more hn
        by_cases h : m = n
        · subst h
          rw [if_pos rfl, if_pos (by rw [e]; simp)]
        · rw [if_neg h]
          have : (m ∈ r.2.take (j + 1)) ↔ (m ∈ r.2.take j) := by
            rw [e, List.mem_append, List.mem_singleton]
            exact ⟨fun z => z.elim id fun y => absurd y h, .inl⟩
          by_cases hm : m ∈ r.2.take j
          · rw [if_pos hm, if_pos (this.mpr hm)]
          · rw [if_neg hm, if_neg (fun z => hm (this.mp z))]
      refine for_seq (xs := r.2.map V.str) (k := false) (fun R r => ⟨_, rfl, r⟩) (SqK.tup (w5.getG gt5)) (fun j σ H' => ∃ (G6 : Hp) (y8 : Option V), Same G5 G6 ∧ WF G6 ((p, .lst (us ++ [.ref t2])) :: (a, .dK (dkL L.names fun m => if m ∈ r.2.take j then c else g m)) :: C) H' ∧ σ = [some (.ref x), some (.ref a), some (.ref b), some (.ref p), some (.int kn), some (.ref q), some (.ref t), some (.ref tf), y8]) ⟨G5, _, Same.refl _, ?_, rfl⟩ (fun j σ H' _ ⟨G6, y8, s6, w6, _⟩ => SqK.tup (w6.getG (s6 _ _ gt5))) ?_ ?_
      · rw [dkL_congr (g := g) fun n _ => by simp]
        exact w5
      · rintro j v3 σ H6 hv3 ⟨G6, y8, s6, w6, rfl⟩
        obtain ⟨n, hn, rfl⟩ := map_get hv3
        have hmem := o3 n (List.mem_of_getElem? hn)
        have sH : Same G H6 := (g1.trans s6).trans w6.sub
        have lk : (dkL L.names fun m => if m ∈ r.2.take j then c else g m).length < sizeLine := by
          unfold dkL
          rw [List.length_map]
          exact sz_lt (by omega)
        have put : ∀ o : Option Int, o = c → DPut H6 a (.str n) (vD o) (upd H6 a (.dK (dkL L.names fun m => if m ∈ r.2.take (j + 1) then c else g m))) := fun o eo => by
          have h := DPut.k (k := Sum.inr n) (v := vD o) (w6.swap.hd) lk
          rw [dkL_put hmem, eo] at h
          rw [dkL_congr (g := fun m => if m = n then c else if m ∈ r.2.take j then c else g m) (fun m _ => step j n hn m), eo]
          exact h
        have rd1 := (rf5.mono (s6.trans w6.sub)).dp (K := K) (found_plain r.1 g (by omega))
        have rd2 := (rnd.mono sH).dp (K := K) (found_plain r.1 (fun n => some (ver (L.rows.take (kn - 1)) n)) (by omega))
        refine ⟨_, rfl, _, rfl, x, Cl, dx, _, _, rfl, sH _ _ h1, T.cl_Log, T.nD, lk_needs _ _ _ _ _, _, rfl, _, _, rfl, rfl, rIx.lst (sH _ _ h7) (by rw [e1]; exact atI_nat hnv) (rEqA.dat rd1 rd2 (found_shaped nb1 g) (found_shaped nb1 (fun n => some (ver (L.rows.take (kn - 1)) n))) ⟨_, rfl, ?_⟩)⟩
        rw [eqv_found]
        refine ite2 (fun h => ?_) (fun h => ?_)
        · have h' : ∀ n ∈ r.1, g n = needAt L kn n := of_decide_eq_true h
          refine ⟨_, rfl, _, rfl, _, rfl, a, _, rfl, put (some (kn : Int)) (by rw [ec, if_pos h']), ?_⟩
          exact ⟨G6, _, s6, (w6.swap.set).swap, rfl⟩
        · have h' : ¬ ∀ n ∈ r.1, g n = needAt L kn n := fun z => h (decide_eq_true z)
          refine ⟨_, rfl, _, rfl, a, _, rfl, put none (by rw [ec, if_neg h']), ?_⟩
          exact ⟨G6, _, s6, (w6.swap.set).swap, rfl⟩
      · rintro σ H6 ⟨G6, y8, s6, w6, rfl⟩
        rw [List.length_map, List.take_length] at w6
        rw [ew]
        refine ⟨G6, us ++ [.ref t2], _, _, _, _, _, s5.trans s6, ?_, ru5.mono s6, by rw [List.length_append, lu]; rfl, rfl⟩
        have : dkL L.names (stepF L kn g) = dkL L.names fun m => if m ∈ r.2 then c else g m := dkL_congr fun m _ => by
          unfold stepF
          rw [er, ← ec]
        rw [this]
        exact w6
    · rintro σ H' ⟨G', us, y4, y5, y6, y7, y8, s, w, ru, lu, rfl⟩
      rw [List.length_map, List.take_length] at w ru
      have lu2 : us.length ≤ 100000 := by
        rw [lu, List.length_map]
        exact lks
      obtain ⟨g, eg⟩ : ∃ g, g = (walkL L ks f).2 := ⟨_, rfl⟩
      rw [← eg] at w
      refine tnx (tseq (tdrop ?_))
      refine ⟨_, rfl, .inl ⟨rfl, _, SqL.of w.hd⟩, ?_⟩
      refine ⟨_, rfl, x, Cl, dx, _, _, rfl, w.getG (s _ _ h1), T.cl_Log, T.nR, lk_rows _ _ _, rLenA.v (n := L.rows.length) (.inl ⟨_, SqL.of (w.getG (s _ _ h3)), lr⟩) (rAddA.int ?_)⟩
      refine tc1 ?_
      refine tcb1 ?_
      refine lc_seq (xs := L.names.map V.str) (k := false) (fun R r => ⟨_, rfl, x, Cl, dx, _, _, rfl, w.getG (s _ _ h1), T.cl_Log, T.nN, lk_names _ _, r⟩) (SqK.tup (w.getG (s _ _ h2))) fun D nD => ⟨fun j H2 => ∃ (G2 : Hp) (us2 : List V), Same G' G2 ∧ WF G2 ((D, .lst us2) :: (p, .lst us) :: (a, .dK (dkL L.names g)) :: C) H2 ∧ Reps G2 ((L.names.take j).map fun n => PyData.tuple [.str n, optD (g n)]) us2, ⟨G', [], Same.refl _, w.new nD, .nil⟩, fun j H2 _ ⟨G2, us2, s2, w2, _⟩ => SqK.tup (w2.getG (s2 _ _ (s _ _ h2))), ?_, ?_⟩
      · rintro j v2 H2 hv2 ⟨G2, us2, s2, w2, r2⟩
        obtain ⟨n, hn, rfl⟩ := map_get hv2
        have hj := (List.getElem?_eq_some_iff.mp hn).1
        have l2 := r2.length
        rw [List.length_map, List.length_take] at l2
        have ga := w2.get (List.mem_cons_of_mem _ (List.mem_cons_of_mem _ List.mem_cons_self))
        have dg : DGet H2 a (.str n) (some (vD (g n))) := by
          have := DGet.k (k := Sum.inr n) ga
          rw [dkL_get (List.mem_of_getElem? hn)] at this
          exact this
        refine ⟨rfl, ?_⟩
        refine ⟨_, rfl, _, rfl, _, rfl, a, _, rfl, dg, by show 2 ≤ sizeLine; decide, fun t1 nt1 => ?_⟩
        have w3 := w2.newG (o := .tup [.str n, vD (g n)]) nt1
        have s3 := w2.leG (o := .tup [.str n, vD (g n)]) nt1
        refine ⟨us2, w3.hd, sz_lt (by omega), _, us2 ++ [.ref t1], s2.trans s3, w3.set, ?_⟩
        rw [take_more hn, List.map_append]
        exact (r2.mono s3).app (.cons (.tup upd_same (.cons (.str n) (.cons (optD_rep _) .nil))) .nil)
      rintro H2 ⟨G2, us2, s2, w2, r2⟩
      rw [List.length_map, List.take_length] at r2
      refine ⟨D, us2, rfl, .inl ⟨SqL.of w2.hd, fun tf ntf => ?_⟩⟩
      have w3 := (w2.newG (o := .tup us2) ntf).drop
      have s3 := w2.leG (o := .tup us2) ntf
      have rf : Rep (upd G2 tf (.tup us2)) (foundD L.names g) (.ref tf) := .tup upd_same (r2.mono s3)
      refine ⟨by show 2 ≤ sizeLine; decide, fun t2 nt2 => ?_⟩
      have w4 := w3.newG (o := .tup [.int ((L.rows.length : Int) + 1), .ref tf]) nt2
      have s4 := w3.leG (o := .tup [.int ((L.rows.length : Int) + 1), .ref tf]) nt2
      have r4 : Rep (upd (upd G2 tf (.tup us2)) t2 (.tup [.int ((L.rows.length : Int) + 1), .ref tf])) (.tuple [.int ((L.rows.length : Int) + 1), foundD L.names g]) (.ref t2) := .tup upd_same (.cons (.int _) (.cons (rf.mono s4) .nil))
      refine ⟨p, us, _, rfl, rfl, w4.hd, sz_lt (by omega), ?_⟩
      have w5 := w4.set (u := .lst (us ++ [.ref t2]))
      refine ⟨_, rfl, k _ _ p (us ++ [.ref t2]) (s.trans (s2.trans (s3.trans s4))) (by rw [← eg]; exact w5) ?_⟩
      unfold walkD
      rw [← eg]
      exact (ru.mono (s2.trans (s3.trans s4))).app (.cons r4 .nil)
end
end Lw_walk

namespace Lw_finds
open PySem PySem.Spec PyProof.Rows L2 Lr
def top (i : Nat) : Stmt := PySem.Challenge.pw_leastredo_k12_whole_least_redo_of_great.main.body.getD i (.Pass ⟨0, 0, 0, 0⟩)
abbrev s_finds : Stmt := top 33
abbrev N_finds : List Str := ["log", "disk", "numbers"]
theorem sc_finds : FnScope ["log", "disk", "numbers"] ["log", "disk", "numbers"] (defScope s_finds) := ⟨rfl, rfl, rfl, by decide +kernel, rfl, by decide +kernel, by decide +kernel⟩
structure Txt (mg : Str → Option Value) : Prop where
  b : Bl mg
section
variable {P : Program} {w : World} {K : PySem.W.Frag} {mg : Str → Option Value} {base : Heap} {Cl BL BD BN : Addr}
theorem ok_finds (T : Txt mg) (F : FD K mg "finds" s_finds ["log", "disk", "numbers"]) (G_need_log : Okf P w K mg base (L2.CX P w) 1 "need_log" ["log"] (spNeedLog Cl BL)) (G_need_disk : Okf P w K mg base (L2.CX P w) 4 "need_disk" ["log", "disk"] (spNeedDisk Cl BD))
    (G_need_numbers : Okf P w K mg base (L2.CX P w) 3 "need_numbers" ["log", "numbers"] (spNeedNumbers Cl BN)) (G_walked : Okf P w K mg base CX0 1 "walked" ["log", "stands", "numbers"] (spWalked Cl)) : Okf P w K mg base (L2.CX P w) 5 "finds" ["log", "disk", "numbers"] (spFinds Cl) := by
  refine F.okX sc_finds (fun vs H Q E h => ?_) (fun f cdv A outer s H vs Q E hr h => ?_)
  · obtain ⟨G, C, x, L, es, dn, vd, vn, ks, rfl, _⟩ := h
    rfl
  · obtain ⟨G, C, x, L, es, dn, vd, vn, ks, rfl, W, A9, rd, rn, hf, ln, hn, k⟩ := h
    refine ⟨_, (pss_cons (ps_expr (pcx G_need_log hr (pa_cons (pv 0) pa_nil) (takes_of rfl rfl rfl rfl)))
    (pss_one (ps_ret (pc G_walked hr (pa_cons (pv 0) (pa_cons (pcx G_need_disk hr (pa_cons (pv 0) (pa_cons (pv 1) pa_nil)) (takes_of rfl rfl rfl rfl)) (pa_cons (pcx G_need_numbers hr (pa_cons (pv 0) (pa_cons (pv 2) pa_nil)) (takes_of rfl rfl rfl rfl)) pa_nil))))))), ?_⟩
    obtain ⟨o1, o2⟩ := numsD_ok hn ln
    refine tseq (tdrop (tcall1 ⟨_, rfl, ?_⟩))
    refine .inl ⟨G, x, L, rfl, A9, W.sub, ?_⟩
    refine tnx (tret (tcall3 ⟨_, rfl, ?_⟩))
    refine ⟨_, rfl, _, rfl, G, x, L, .dict es, vd, rfl, A9, W.sub, rd.at W, (fun z => by rw [hf] at z; cases z), fun es' ee _ H1 p1 s1 np1 hp1 => ?_⟩
    cases ee
    have W1 := W.addC s1 np1 hp1
    refine ⟨_, rfl, _, rfl, G, x, L, dn, vn, rfl, A9, W1.sub, (rn.at W).mono s1, ln, (fun z => by rw [hn] at z; cases z), fun ys ey H2 p2 s2 np2 hp2 => ?_⟩
    rw [hn] at ey
    cases ey
    have W2 := W1.add s2 np2 hp2
    have s3 : Same G (upd G p2 (.lst (ks.map V.int))) := same_new (W1.gnone np2)
    refine ⟨_, C, x, p1, p2, L, dkOf es, ks, rfl, W2, A9.mono s3, .inl upd_same, o1, o2, fun G' H' p us s4 w4 r4 => ?_⟩
    exact k G' H' p us (s3.trans s4) (w4.swap.drop) r4
end
end Lw_finds

namespace Lw_upto
open PySem PySem.Spec PyProof.Rows L2 Lr
def top (i : Nat) : Stmt := PySem.Challenge.pw_leastredo_k12_whole_least_redo_of_great.main.body.getD i (.Pass ⟨0, 0, 0, 0⟩)
abbrev s_up_to : Stmt := top 53
abbrev N_up_to : List Str := ["versions", "moment", "version"]
theorem sc_up_to : FnScope ["versions", "moment", "version"] ["versions", "moment"] (defScope s_up_to) := ⟨rfl, rfl, rfl, by decide +kernel, rfl, by decide +kernel, by decide +kernel⟩
structure Txt (mg : Str → Option Value) : Prop where
  b : Bl mg
section
variable {P : Program} {w : World} {K : PySem.W.Frag} {mg : Str → Option Value} {base : Heap}
theorem ok_up_to (T : Txt mg) (F : FD K mg "_law_up_to" s_up_to ["versions", "moment"]) : Okf P w K mg base CX0 1 "_law_up_to" ["versions", "moment"] spUpTo := by
  refine F.ok sc_up_to (fun vs H Q E h => ?_) (fun f cdv A outer s H vs Q E hr h => ?_)
  · obtain ⟨G, C, a, xs, m, z, rfl, _⟩ := h
    rfl
  · obtain ⟨G, C, a, xs, m, z, rfl, W, ha, lx, hz, k⟩ := h
    refine ⟨_, (pss_one (ps_ret (pe_ix (xix (K := K)) (pe_lc (own := [("version", 2)]) (g := gName 2) rfl sc_up_to.nd (pi_seq (K := K) (pv 0)) (blkOk_by (N := N_up_to) (sc := defScope s_up_to) (by decide +kernel)) (fun _ _ _ _ _ => (pg_name (i := 2) sc_up_to.nd rfl (Or.inl rfl))) (fun _ _ _ _ _ => (pts_one (pt_cmpR op_le (pv 2) (pv 1) (nomark _)))) (fun _ _ _ _ _ => (pv 2))) (pe_un un_neg pe_int) (fun _ _ => rfl)))), ?_⟩
    refine tret (top_ ?_)
    refine lc_seq (xs := xs.map V.int) (k := true) (fun R r => ⟨_, rfl, r⟩) (SqK.lst (ha.at W)) fun D nD => ⟨fun j H2 => WF G ((D, .lst (((xs.take j).filter fun v => decide (v ≤ m)).map V.int)) :: C) H2, W.new nD, fun j H2 _ w2 => SqK.lst (ha.cons.at w2), ?_, ?_⟩
    · rintro j v H2 hv w2
      obtain ⟨u, hu, rfl⟩ := map_get hv
      have e := filter_take (fun v => decide (v ≤ m)) hu
      refine ⟨rfl, ?_⟩
      refine ⟨_, rfl, _, rfl, _, _, rfl, rfl, ⟨_, rfl, ite2 (fun h => ?_) (fun h => ?_)⟩⟩
      · rw [if_pos h] at e
        refine ⟨_, rfl, _, w2.hd, sz_lt ?_, ?_⟩
        · rw [List.length_map]
          refine Nat.le_trans (List.length_filter_le _ _) ?_
          rw [List.length_take]
          omega
        · show WF G ((D, .lst (((xs.take (j + 1)).filter fun v => decide (v ≤ m)).map V.int)) :: C) _
          rw [e, List.map_append]
          exact w2.set
      · rw [if_neg h, List.append_nil] at e
        show WF G ((D, .lst (((xs.take (j + 1)).filter fun v => decide (v ≤ m)).map V.int)) :: C) _
        rw [e]
        exact w2
    · rintro H2 w2
      rw [List.length_map, List.take_length] at w2
      refine ⟨1, rfl, rIx.lst w2.hd (last_atI (v := .int z) ?_) (k _ w2.drop)⟩
      rw [List.getLast?_map, hz]
      rfl
end
end Lw_upto

namespace Lw_lvers
open PySem PySem.Spec PyProof.Rows L2 Lr
def top (i : Nat) : Stmt := PySem.Challenge.pw_leastredo_k12_whole_least_redo_of_great.main.body.getD i (.Pass ⟨0, 0, 0, 0⟩)
abbrev s_versions : Stmt := top 51
abbrev N_versions : List Str := ["log", "found", "index", "row", "page"]
theorem sc_versions : FnScope ["log", "found", "index", "row", "page"] ["log"] (defScope s_versions) := ⟨rfl, rfl, rfl, by decide +kernel, rfl, by decide +kernel, by decide +kernel⟩
structure Txt (mg : Str → Option Value) : Prop where
  b : Bl mg
section
variable {P : Program} {w : World} {K : PySem.W.Frag} {mg : Str → Option Value} {base : Heap}
theorem ok_versions (T : Txt mg) (F : FD K mg "_law_versions" s_versions ["log"]) : Okf P w K mg base CX0 1 "_law_versions" ["log"] spVersions := by
  refine F.ok sc_versions (fun vs H Q E h => ?_) (fun f0 cdv A outer s H vs Q E hr h => ?_)
  · obtain ⟨G, C, a, L, rfl, _⟩ := h
    rfl
  · obtain ⟨G, C, a, L, rfl, W0, V9, k⟩ := h
    have hu := hu_of hr
    refine ⟨_, (pss_cons (ps_set (i := 1) sc_versions.nd rfl (Or.inl rfl) (pe_callTy (call_dictP rfl) (by rfl) T.b.dict (by decide +kernel) (pa_cons (pe_lc (own := [("page", 4)]) (g := gName 4) (tt := tYes) rfl sc_versions.nd (pi_seq (K := K) (pe_ix (xix (K := K)) (pv 0) pe_int (fun _ _ => rfl))) (blkOk_by (N := N_versions) (sc := defScope s_versions) (by decide +kernel)) (fun _ _ _ _ _ => (pg_name (i := 4) sc_versions.nd rfl (Or.inl rfl))) (fun _ _ _ _ _ => pts_nil) (fun _ _ _ _ _ => (pe_tup (pa_cons (pv 4) (pa_cons (pe_lst (pa_cons pe_int pa_nil)) pa_nil))))) pa_nil)))
    (pss_cons (ps_for PassesOwn.never rfl (pi_enumA (K := K) rfl T.b.enumerate (pa_cons (pe_ix (xix (K := K)) (pv 0) pe_int (fun _ _ => rfl)) pa_nil)) (xtup (K := K) (n := 2) rfl (pgs_cons (pg_name (i := 2) sc_versions.nd rfl (Or.inl rfl)) (pgs_cons (pg_name (i := 3) sc_versions.nd rfl (Or.inl rfl)) pgs_nil)))
    (pss_one (ps_for PassesOwn.never rfl (pi_seq (K := K) (pe_ix (xix (K := K)) (pv 3) pe_int (fun _ _ => rfl))) (pg_name (i := 4) sc_versions.nd rfl (Or.inl rfl))
    (pss_one (ps_expr (xbm (K := K) PySem.F.plainAttrs_list PySem.F.slot_list_append PySem.F.type_list_append mt_append (pe_dget hu (pv 1) (pv 4) (fun _ _ => rfl)) (pa_cons (pe_op (op_addA (K := K)) (pv 2) pe_int) pa_nil)))))))
    (pss_one (ps_ret (pv 1))))), ?_⟩
    obtain ⟨pn, pr, rvs, h1, h2, h3, h4⟩ := V9.ex
    have lr := h4.length
    rw [List.length_map] at lr
    have l60 := V9.rl
    have n12 := V9.nn.2
    refine tseq (tcb1 ?_)
    refine lc_seq (xs := L.names.map V.str) (k := true) (fun R r => ⟨_, rfl, rIx.lst (W0.getG h1) (atI_nat (j := 0) rfl) r⟩) (SqK.lst (W0.getG h2)) fun D nD => ⟨fun j H2 => ∃ (G2 : Hp) (nas : List (Str × Addr)) (ts : List Addr), Same G G2 ∧ nas.map (·.1) = L.names.take j ∧ WF G2 ((D, .lst (ts.map V.ref)) :: (wcells nas (fun _ => [0]) ++ C)) H2 ∧ Paired (fun t q => G2 t = some (.tup [.str q.1, .ref q.2])) ts nas, ⟨G, [], [], Same.refl _, rfl, W0.new nD, .nil⟩, fun j H2 _ ⟨G2, nas, ts, s2, _, w2, _⟩ => SqK.lst (w2.getG (s2 _ _ h2)), ?_, ?_⟩
    · rintro j v H2 hv2 ⟨G2, nas, ts, s2, en, w2, prd⟩
      obtain ⟨n, hn, rfl⟩ := map_get hv2
      have lt := prd.length
      have ln : nas.length = (L.names.take j).length := by rw [← en, List.length_map]
      rw [List.length_take] at ln
      refine ⟨rfl, ?_⟩
      refine ⟨_, rfl, ⟨by show 1 ≤ sizeLine; decide, fun l nl => ⟨by show 2 ≤ sizeLine; decide, fun t nt => ?_⟩⟩⟩
      have w3 := w2.new (o := .lst [.int 0]) nl
      have w4 := w3.newG (o := .tup [.str n, .ref l]) nt
      have s4 := w3.leG (o := .tup [.str n, .ref l]) nt
      refine ⟨_, w4.swap.hd, sz_lt (by rw [List.length_map]; omega), _, nas ++ [(n, l)], ts ++ [t], s2.trans s4, by rw [List.map_append, en, take_more hn]; rfl, ?_, ?_⟩
      · rw [List.map_append, wcells_app]
        refine (w4.swap.set).perm (List.Perm.cons _ ?_)
        show ((l, HO.lst [.int 0]) :: (wcells nas (fun _ => [0]) ++ _)).Perm ((wcells nas (fun _ => [0]) ++ [(l, HO.lst [.int 0])]) ++ _)
        rw [List.append_assoc]
        exact List.perm_middle.symm
      · exact (Paired.mono (fun b m e => s4 _ _ e) prd).snoc upd_same
    · rintro H2 ⟨G2, nas, ts, s2, en, w2, prd⟩
      rw [List.length_map, List.take_length] at en
      have pm : ∀ {l1 : List Addr} {l2 : List (Str × Addr)}, Paired (fun t q => G2 t = some (.tup [.str q.1, .ref q.2])) l1 l2 → Paired (fun p kv => SqT K H2 p [kV kv.1, kv.2]) l1 (wdict l2) := by
        intro l1 l2 h
        induction h with
        | nil => exact .nil
        | cons h t ih => exact .cons (SqT.of (w2.getG h)) ih
      have nd1 : ((wdict nas).map Prod.fst).Nodup := by
        have := nodup_inr (ns := nas.map (·.1)) (by rw [en]; exact V9.nd) (fun _ => .non)
        rw [List.map_map, List.map_map] at this
        unfold wdict
        rw [List.map_map]
        exact this
      refine ⟨D, ts, _, rfl, SqL.of w2.hd, pm prd, fun p np => ?_⟩
      rw [merge_new _ _ nd1 (fun q hq z => by cases z), List.nil_append]
      have W1 := w2.drop.new (o := .dK (wdict nas)) np
      have W2 := W1.perm (List.Perm.symm (List.perm_middle (l₁ := wcells nas (fun _ => [0]))))
      generalize upd H2 p (.dK (wdict nas)) = H3 at W2
      clear w2 W1
      have inD : ∀ (gw : Str → List Int), (p, HO.dK (wdict nas)) ∈ wcells nas gw ++ (p, .dK (wdict nas)) :: C := fun gw => List.mem_append_right _ List.mem_cons_self
      refine tnx (tseq ?_)
      refine ⟨_, rfl, rIx.lst (W2.getG (s2 _ _ h1)) (atI_nat (j := 1) rfl) ⟨true, pr, rvs, rfl, SqK.lst (W2.getG (s2 _ _ h3)), for_enumE (xs := rvs) (c := 0) (fun i σ H' => ∃ (G3 : Hp) (y2 y3 y4 : Option V), Same G2 G3 ∧ WF G3 (wcells nas (fun n => 0 :: wr (L.rows.take i) n) ++ (p, .dK (wdict nas)) :: C) H' ∧ σ = [some (.ref a), some (.ref p), y2, y3, y4]) ⟨G2, _, _, _, Same.refl _, W2, rfl⟩ (fun i σ H' _ ⟨G3, _, _, _, s3, w3, _⟩ => SqK.lst (w3.getG (s3 _ _ (s2 _ _ h3)))) ?_ ?_⟩⟩
      · rintro i v Tq σ H4 hv4 ⟨G3, y2, y3, y4, s3, w3, rfl⟩ nT
        obtain ⟨r, hrr, ri⟩ := recs_get (h4.mono (s2.trans s3)) hv4
        have hi := (List.getElem?_eq_some_iff.mp hrr).1
        obtain ⟨b, q, t, rfl, gb, gq, gt⟩ := rec_at ri
        obtain ⟨o1, o2, o3, o4, o5, _, _⟩ := V9.rok r (List.mem_of_getElem? hrr)
        have w4 := w3.newG (o := .tup [.int (0 + ((i : Nat) : Int)), .ref b]) nT
        have s4 := w3.leG (o := .tup [.int (0 + ((i : Nat) : Int)), .ref b]) nT
        refine ⟨Tq, _, rfl, SqT.of upd_same, rfl, gc2 ?_⟩
        refine for_seq (xs := r.2.map V.str) (k := false) (fun R r => ⟨_, rfl, rIx.tup (w4.getG (s4 _ _ gb)) (atI_nat (j := 1) rfl) r⟩) (SqK.tup (w4.getG (s4 _ _ gt))) (fun j σ H' => ∃ (y4 : Option V), WF (upd G3 Tq (.tup [.int (0 + ((i : Nat) : Int)), .ref b])) (wcells nas (fun n => 0 :: wrJ (L.rows.take i) (r.2.take j) n) ++ (p, .dK (wdict nas)) :: C) H' ∧ σ = [some (.ref a), some (.ref p), some (.int (0 + ((i : Nat) : Int))), some (.ref b), y4]) ⟨_, ?_, rfl⟩ (fun j σ H' _ ⟨_, w5, _⟩ => SqK.tup (w5.getG (s4 _ _ gt))) ?_ ?_
        · rw [wcells_congr (g' := fun n => 0 :: wr (L.rows.take i) n) (fun p _ => by unfold wrJ; simp)]
          exact w4
        · rintro j v2 σ H5 hv5 ⟨y4, w5, rfl⟩
          obtain ⟨n, hn, rfl⟩ := map_get hv5
          have hm : n ∈ nas.map (·.1) := by
            rw [en]
            exact o3 n (List.mem_of_getElem? hn)
          obtain ⟨pp, hp, rfl⟩ := List.mem_map.mp hm
          have dg : DGet H5 p (.str pp.1) (some (.ref pp.2)) := by
            have := DGet.k (k := Sum.inr pp.1) (w5.get (inD _))
            rw [wdict_get (by rw [en]; exact V9.nd) hp] at this
            exact this
          obtain ⟨A1, B1, c1, c2⟩ := wcells_split hp (by rw [en]; exact V9.nd) (fun n => 0 :: wrJ (L.rows.take i) (r.2.take j) n) ((0 :: wrJ (L.rows.take i) (r.2.take j) pp.1) ++ [0 + ((i : Nat) : Int) + 1])
          rw [c1, List.append_assoc] at w5
          have lw := wrJ_len (L.rows.take i) (r.2.take j) pp.1
          rw [List.length_take] at lw
          refine ⟨_, rfl, _, rfl, p, _, rfl, dg, .inl ⟨rfl, _, SqL.of w5.getApp⟩, _, rfl, rAddA.int ?_⟩
          refine ⟨_, _, _, rfl, rfl, w5.getApp, sz_lt (by rw [List.length_map, List.length_cons]; omega), _, ?_, rfl⟩
          have w6 := w5.setApp (u := .lst (((0 :: wrJ (L.rows.take i) (r.2.take j) pp.1) ++ [0 + ((i : Nat) : Int) + 1]).map V.int))
          have c3 : wcells nas (fun n => 0 :: wrJ (L.rows.take i) (r.2.take (j + 1)) n) = A1 ++ (pp.2, HO.lst (((0 :: wrJ (L.rows.take i) (r.2.take j) pp.1) ++ [0 + ((i : Nat) : Int) + 1]).map V.int)) :: B1 := by
            rw [← c2]
            refine wcells_congr fun p' _ => ?_
            show 0 :: wrJ (L.rows.take i) (r.2.take (j + 1)) p'.1 = _
            rw [wrJ_step hn o5]
            have e5 : (((L.rows.take i).length : Nat) : Int) + 1 = 0 + ((i : Nat) : Int) + 1 := by
              rw [List.length_take, Nat.min_eq_left (by omega)]
              omega
            rw [e5]
            by_cases h : p'.1 = pp.1
            · rw [if_pos h, if_pos h]
              rfl
            · rw [if_neg h, if_neg h]
          show WF _ (wcells nas (fun n => 0 :: wrJ (L.rows.take i) (r.2.take (j + 1)) n) ++ _) _
          rw [c3, List.append_assoc, List.map_append]
          rw [List.map_append] at w6
          exact w6
        · rintro σ H5 ⟨y4, w5, rfl⟩
          rw [List.length_map, List.take_length, wcells_congr (g' := fun n => 0 :: wr (L.rows.take (i + 1)) n) (fun p _ => by rw [take_more hrr]; show 0 :: wrJ _ r.2 _ = _; rw [wrJ_all])] at w5
          exact ⟨_, _, _, _, s3.trans s4, w5, rfl⟩
      · rintro σ H4 ⟨G3, y2, y3, y4, s3, w3, rfl⟩
        rw [← lr, List.take_length] at w3
        have w4 : WF G3 ((wcells nas (fun n => 0 :: wr L.rows n) ++ [(p, .dK (wdict nas))]) ++ C) H4 := by
          rw [List.append_assoc]
          exact w3
        obtain ⟨G4, w5, s4, all⟩ := w4.frzAll
        obtain ⟨fA, hfA⟩ := addr_of nas (by rw [en]; exact V9.nd)
        refine ⟨_, rfl, k p G4 H4 (s2.trans (s3.trans s4)) w5 ⟨⟨fA, ?_, fun n hn => ?_⟩⟩⟩
        · rw [all (p, .dK (wdict nas)) (by simp)]
          show some (HO.dK (wdict nas)) = some (HO.dK _)
          congr 2
          rw [← en, List.map_map]
          refine List.map_congr_left fun q hq => ?_
          show (Sum.inr q.1, V.ref q.2) = (Sum.inr q.1, V.ref (fA q.1))
          rw [hfA q hq]
        · rw [← en] at hn
          obtain ⟨q, hq, rfl⟩ := List.mem_map.mp hn
          rw [hfA q hq]
          exact all (q.2, _) (List.mem_append_left _ (List.mem_map.mpr ⟨q, hq, rfl⟩))
end
end Lw_lvers

namespace Lw_lneeds
open PySem PySem.Spec PyProof.Rows L2 Lr
def top (i : Nat) : Stmt := PySem.Challenge.pw_leastredo_k12_whole_least_redo_of_great.main.body.getD i (.Pass ⟨0, 0, 0, 0⟩)
abbrev s_needs : Stmt := top 52
abbrev N_needs : List Str := ["log", "now", "found", "index", "row", "page"]
theorem sc_needs : FnScope ["log", "now", "found", "index", "row", "page"] ["log"] (defScope s_needs) := ⟨rfl, rfl, rfl, by decide +kernel, rfl, by decide +kernel, by decide +kernel⟩
structure Txt (mg : Str → Option Value) : Prop where
  b : Bl mg
section
variable {P : Program} {w : World} {K : PySem.W.Frag} {mg : Str → Option Value} {base : Heap}
theorem ok_needs (T : Txt mg) (F : FD K mg "_law_needs" s_needs ["log"]) : Okf P w K mg base CX0 1 "_law_needs" ["log"] spNeeds := by
  refine F.ok sc_needs (fun vs H Q E h => ?_) (fun f0 cdv A outer s H vs Q E hr h => ?_)
  · obtain ⟨G, C, a, L, rfl, _⟩ := h
    rfl
  · obtain ⟨G, C, a, L, rfl, W0, V9, k⟩ := h
    have hu := hu_of hr
    refine ⟨_, (pss_cons (ps_set (i := 1) sc_needs.nd rfl (Or.inr rfl) (pe_callTy (call_dictP rfl) (by rfl) T.b.dict (by decide +kernel) (pa_cons (pe_lc (own := [("page", 5)]) (g := gName 5) (tt := tYes) rfl sc_needs.nd (pi_seq (K := K) (pe_ix (xix (K := K)) (pv 0) pe_int (fun _ _ => rfl))) (blkOk_by (N := N_needs) (sc := defScope s_needs) (by decide +kernel)) (fun _ _ _ _ _ => (pg_name (i := 5) sc_needs.nd rfl (Or.inl rfl))) (fun _ _ _ _ _ => pts_nil) (fun _ _ _ _ _ => (pe_tup (pa_cons (pv 5) (pa_cons pe_int pa_nil))))) pa_nil)))
    (pss_cons (ps_set (i := 2) sc_needs.nd rfl (Or.inl rfl) (pe_lst pa_nil))
    (pss_cons (ps_for PassesOwn.never rfl (pi_enumA (K := K) rfl T.b.enumerate (pa_cons (pe_ix (xix (K := K)) (pv 0) pe_int (fun _ _ => rfl)) pa_nil)) (xtup (K := K) (n := 2) rfl (pgs_cons (pg_name (i := 3) sc_needs.nd rfl (Or.inl rfl)) (pgs_cons (pg_name (i := 4) sc_needs.nd rfl (Or.inl rfl)) pgs_nil)))
    (pss_cons (ps_expr (xbm (K := K) PySem.F.plainAttrs_list PySem.F.slot_list_append PySem.F.type_list_append mt_append (pv 2) (pa_cons (pe_lc (own := [("page", 5)]) (g := gName 5) (tt := tYes) rfl sc_needs.nd (pi_seq (K := K) (pe_ix (xix (K := K)) (pv 4) pe_int (fun _ _ => rfl))) (blkOk_by (N := N_needs) (sc := defScope s_needs) (by decide +kernel)) (fun _ _ _ _ _ => (pg_name (i := 5) sc_needs.nd rfl (Or.inl rfl))) (fun _ _ _ _ _ => pts_nil) (fun _ _ _ _ _ => (pe_tup (pa_cons (pv 5) (pa_cons (pe_dget hu (pv 1) (pv 5) (fun _ _ => rfl)) pa_nil))))) pa_nil)))
    (pss_one (ps_for PassesOwn.never rfl (pi_seq (K := K) (pe_ix (xix (K := K)) (pv 4) pe_int (fun _ _ => rfl))) (pg_name (i := 5) sc_needs.nd rfl (Or.inl rfl))
    (pss_one (ps_dput hu (pv 1) (pv 5) (pe_op (op_addA (K := K)) (pv 3) pe_int) rfl))))))
    (pss_cons (ps_expr (xbm (K := K) PySem.F.plainAttrs_list PySem.F.slot_list_append PySem.F.type_list_append mt_append (pv 2) (pa_cons (pe_lc (own := [("page", 5)]) (g := gName 5) (tt := tYes) rfl sc_needs.nd (pi_seq (K := K) (pe_ix (xix (K := K)) (pv 0) pe_int (fun _ _ => rfl))) (blkOk_by (N := N_needs) (sc := defScope s_needs) (by decide +kernel)) (fun _ _ _ _ _ => (pg_name (i := 5) sc_needs.nd rfl (Or.inl rfl))) (fun _ _ _ _ _ => pts_nil) (fun _ _ _ _ _ => (pe_tup (pa_cons (pv 5) (pa_cons (pe_dget hu (pv 1) (pv 5) (fun _ _ => rfl)) pa_nil))))) pa_nil)))
    (pss_one (ps_ret (pv 2))))))), ?_⟩
    obtain ⟨pn, pr, rvs, h1, h2, h3, h4⟩ := V9.ex
    have lr := h4.length
    rw [List.length_map] at lr
    have l60 := V9.rl
    have n12 := V9.nn.2
    refine tseq (dict_lc (K := K) (a := pn) (kd := true) W0 V9.nd (by omega) (fun n => .int 0) (fun R r => ⟨_, rfl, rIx.lst (W0.getG h1) (atI_nat (j := 0) rfl) r⟩) (fun C' G' H' s w => SqK.lst (w.getG (s _ _ h2))) (fun _ => rfl) (fun _ => rfl) (fun n hn C' G' H' R s w r => r) fun G1 H1 d s1 W1 => ?_)
    have W1 : WF G1 ((d, .dK (dkL L.names fun n => some (ver (L.rows.take 0) n))) :: C) H1 := W1
    refine tnx (tseq ⟨Nat.zero_le _, fun p np => ?_⟩)
    have W2 := W1.new (o := .lst []) np
    refine tnx (tseq ?_)
    refine ⟨_, rfl, rIx.lst (W2.getG (s1 _ _ h1)) (atI_nat (j := 1) rfl) ⟨true, pr, rvs, rfl, SqK.lst (W2.getG (s1 _ _ h3)), for_enumE (xs := rvs) (c := 0) (fun i σ H' => ∃ (G3 : Hp) (us : List V) (y3 y4 y5 : Option V), Same G1 G3 ∧ WF G3 ((p, .lst us) :: (d, .dK (dkL L.names fun n => some (ver (L.rows.take i) n))) :: C) H' ∧ Reps G3 ((List.range i).map fun k => lnD L (k + 1)) us ∧ σ = [some (.ref a), some (.ref d), some (.ref p), y3, y4, y5]) ⟨G1, [], _, _, _, Same.refl _, W2, .nil, rfl⟩ (fun i σ H' _ ⟨G3, _, _, _, _, s3, w3, _⟩ => SqK.lst (w3.getG (s3 _ _ (s1 _ _ h3)))) ?_ ?_⟩⟩
    · rintro i v Tq σ H4 hv4 ⟨G3, us, y3, y4, y5, s3, w3, ru, rfl⟩ nT
      obtain ⟨r, hrr, ri⟩ := recs_get (h4.mono (s1.trans s3)) hv4
      have hi := (List.getElem?_eq_some_iff.mp hrr).1
      obtain ⟨b, q, t, rfl, gb, gq, gt⟩ := rec_at ri
      obtain ⟨o1, o2, o3, o4, o5, _, _⟩ := V9.rok r (List.mem_of_getElem? hrr)
      have lr1 := nodup_len o4 o2
      have w4 := w3.newG (o := .tup [.int (0 + ((i : Nat) : Int)), .ref b]) nT
      have s4 := w3.leG (o := .tup [.int (0 + ((i : Nat) : Int)), .ref b]) nT
      refine ⟨Tq, _, rfl, SqT.of upd_same, rfl, gc2 ?_⟩
      generalize upd G3 Tq (.tup [.int (0 + ((i : Nat) : Int)), .ref b]) = G4 at w4 s4
      have lu := ru.length
      rw [List.length_map, List.length_range] at lu
      refine tseq (tdrop ?_)
      refine ⟨_, rfl, .inl ⟨rfl, _, SqL.of w4.hd⟩, ?_⟩
      refine pairs_lc (K := K) (a := q) (kd := false) (ms := r.1) w4 (by omega) (fun n => some (ver (L.rows.take i) n)) (fun R rr => ⟨_, rfl, rIx.tup (w4.getG (s4 _ _ gb)) (atI_nat (j := 0) rfl) rr⟩) (fun C' G' H' s w => SqK.tup (w.getG (s _ _ (s4 _ _ gq)))) (fun _ => rfl) (fun _ => rfl) (fun n hn C' G' H' R s w rr => ⟨_, rfl, _, rfl, d, _, rfl, dkget (w.get (List.mem_append_right _ (List.mem_cons_of_mem _ List.mem_cons_self))) (o2 n hn), rr⟩) fun G5 H5 D ds s5 w5 r5 => ?_
      refine ⟨p, us, _, rfl, rfl, w5.swap.hd, sz_lt (by omega), ?_⟩
      have w6 := (w5.swap.set (u := .lst (us ++ [.ref D]))).swap.frz
      have s6 := w5.leF
      have r6 : Rep (upd G5 D (.lst ds)) (lnD L (i + 1)) (.ref D) := by
        rw [lnD_row hrr]
        exact .lst upd_same (r5.mono s6)
      have s46 := s4.trans (s5.trans s6)
      have gt6 := s46 _ _ gt
      have gb6 := s46 _ _ gb
      have ru6 := (ru.mono s46).app (.cons r6 .nil)
      generalize upd G5 D (.lst ds) = G6 at w6 s6 r6 s46 gt6 gb6 ru6
      generalize upd H5 p (.lst (us ++ [.ref D])) = H6 at w6
      have step : ∀ j n, r.2[j]? = some n → ∀ m, (if m ∈ r.2.take (j + 1) then some ((i : Int) + 1) else some (ver (L.rows.take i) m)) = if m = n then some ((i : Int) + 1) else if m ∈ r.2.take j then some ((i : Int) + 1) else some (ver (L.rows.take i) m) := fun j n hn m => by
        have e := take_more hn
        by_cases h : m = n
        · subst h
          rw [if_pos rfl, if_pos (by rw [e]; simp)]
        · rw [if_neg h]
          have : (m ∈ r.2.take (j + 1)) ↔ (m ∈ r.2.take j) := by
            rw [e, List.mem_append, List.mem_singleton]
            exact ⟨fun z => z.elim id fun y => absurd y h, .inl⟩
          by_cases hm : m ∈ r.2.take j
          · rw [if_pos hm, if_pos (this.mpr hm)]
          · rw [if_neg hm, if_neg (fun z => hm (this.mp z))]
      refine tnx ?_
      refine for_seq (xs := r.2.map V.str) (k := false) (fun R rr => ⟨_, rfl, rIx.tup (w6.getG gb6) (atI_nat (j := 1) rfl) rr⟩) (SqK.tup (w6.getG gt6)) (fun j σ H' => ∃ (y5 : Option V), WF G6 ((p, .lst (us ++ [.ref D])) :: (d, .dK (dkL L.names fun m => if m ∈ r.2.take j then some ((i : Int) + 1) else some (ver (L.rows.take i) m))) :: C) H' ∧ σ = [some (.ref a), some (.ref d), some (.ref p), some (.int (0 + ((i : Nat) : Int))), some (.ref b), y5]) ⟨_, ?_, rfl⟩ (fun j σ H' _ ⟨_, w7, _⟩ => SqK.tup (w7.getG gt6)) ?_ ?_
      · rw [dkL_congr (g := fun n => some (ver (L.rows.take i) n)) fun n _ => by simp]
        exact w6
      · rintro j v2 σ H7 hv7 ⟨y5, w7, rfl⟩
        obtain ⟨n, hn, rfl⟩ := map_get hv7
        have hp := dkput (o := some ((i : Int) + 1)) (w7.swap.hd) (o3 n (List.mem_of_getElem? hn)) (by omega)
        have e9 : (0 : Int) + ((i : Nat) : Int) + 1 = (i : Int) + 1 := by omega
        have hp2 : DPut H7 d (.str n) (.int (0 + ((i : Nat) : Int) + 1)) (upd H7 d (.dK (dkL L.names fun m => if m = n then some ((i : Int) + 1) else if m ∈ r.2.take j then some ((i : Int) + 1) else some (ver (L.rows.take i) m)))) := by
          rw [e9]
          exact hp
        refine ⟨_, rfl, rAddA.int ⟨_, rfl, _, rfl, d, _, rfl, hp2, ?_⟩⟩
        refine ⟨_, ?_, rfl⟩
        rw [dkL_congr fun m _ => step j n hn m]
        exact (w7.swap.set).swap
      · rintro σ H7 ⟨y5, w7, rfl⟩
        rw [List.length_map, List.take_length] at w7
        refine ⟨G6, us ++ [.ref D], _, _, _, s3.trans s46, ?_, ?_, rfl⟩
        · rw [dkL_congr (g := fun m => if m ∈ r.2 then some ((i : Int) + 1) else some (ver (L.rows.take i) m)) fun m _ => by
            rw [take_more hrr, ver_snoc, List.length_take, Nat.min_eq_left (by omega)]
            by_cases h : m ∈ r.2
            · rw [if_pos h, if_pos h]
            · rw [if_neg h, if_neg h]]
          exact w7
        · rw [List.range_succ, List.map_append]
          exact ru6
    · rintro σ H4 ⟨G3, us, y3, y4, y5, s3, w3, ru, rfl⟩
      have lu := ru.length
      rw [List.length_map, List.length_range] at lu
      rw [← lr] at ru w3
      rw [List.take_length] at w3
      refine tnx (tseq (tdrop ?_))
      refine ⟨_, rfl, .inl ⟨rfl, _, SqL.of w3.hd⟩, ?_⟩
      have s13 := s1.trans s3
      refine pairs_lc (K := K) (a := pn) (kd := true) (ms := L.names) w3 (by omega) (fun n => some (ver L.rows n)) (fun R rr => ⟨_, rfl, rIx.lst (w3.getG (s13 _ _ h1)) (atI_nat (j := 0) rfl) rr⟩) (fun C' G' H' s w => SqK.lst (w.getG (s _ _ (s13 _ _ h2)))) (fun _ => rfl) (fun _ => rfl) (fun n hn C' G' H' R s w rr => ⟨_, rfl, _, rfl, d, _, rfl, dkget (w.get (List.mem_append_right _ (List.mem_cons_of_mem _ List.mem_cons_self))) hn, rr⟩) fun G5 H5 D ds s5 w5 r5 => ?_
      refine ⟨p, us, _, rfl, rfl, w5.swap.hd, sz_lt (by omega), ?_⟩
      have w6 := (w5.swap.set (u := .lst (us ++ [.ref D]))).swap.frz
      have s6 := w5.leF
      have r6 : Rep (upd G5 D (.lst ds)) (lnD L (L.rows.length + 1)) (.ref D) := by
        rw [lnD_end]
        exact .lst upd_same (r5.mono s6)
      have w7 := w6.frz
      have s7 := w6.leF
      refine ⟨_, rfl, k p _ _ _ (s13.trans (s5.trans (s6.trans s7))) w7.drop upd_same ?_⟩
      unfold lnsD
      rw [List.range_succ, List.map_append]
      exact (ru.mono (s5.trans (s6.trans s7))).app (.cons (r6.mono s7) .nil)
end
end Lw_lneeds

namespace Lw_lrep
open PySem PySem.Spec PyProof.Rows L2 Lr
def top (i : Nat) : Stmt := PySem.Challenge.pw_leastredo_k12_whole_least_redo_of_great.main.body.getD i (.Pass ⟨0, 0, 0, 0⟩)
abbrev s_replay : Stmt := top 58
abbrev N_replay : List Str := ["log", "needs", "disk", "numbers", "stands", "rows", "number", "found", "page"]
theorem sc_replay : FnScope ["log", "needs", "disk", "numbers", "stands", "rows", "number", "found", "page"] ["log", "needs", "disk", "numbers"] (defScope s_replay) := ⟨rfl, rfl, rfl, by decide +kernel, rfl, by decide +kernel, by decide +kernel⟩
abbrev s_ends : Stmt := top 59
abbrev N_ends : List Str := ["log", "needs", "disk", "numbers"]
theorem sc_ends : FnScope ["log", "needs", "disk", "numbers"] ["log", "needs", "disk", "numbers"] (defScope s_ends) := ⟨rfl, rfl, rfl, by decide +kernel, rfl, by decide +kernel, by decide +kernel⟩
structure Txt (mg : Str → Option Value) : Prop where
  b : Bl mg
section
variable {P : Program} {w : World} {K : PySem.W.Frag} {mg : Str → Option Value} {base : Heap}
theorem ok_replay (T : Txt mg) (F : FD K mg "_law_replay" s_replay ["log", "needs", "disk", "numbers"]) : Okf P w K mg base CX0 1 "_law_replay" ["log", "needs", "disk", "numbers"] spReplay := by
  refine F.ok sc_replay (fun vs H Q E h => ?_) (fun f0 cdv A outer s H vs Q E hr h => ?_)
  · obtain ⟨G, C, a, nd, dk, b, L, nus, kvs, f, ks, rfl, _⟩ := h
    rfl
  · obtain ⟨G, C, a, nd, dk, b, L, nus, kvs, f, ks, rfl, W0, V9, hnd, rnd, hdk, hkv, hb, hks, lks, k⟩ := h
    have hu := hu_of hr
    refine ⟨_, (pss_cons (ps_set (i := 4) sc_replay.nd rfl (Or.inr rfl) (pe_callTy (call_dictP rfl) (by rfl) T.b.dict (by decide +kernel) (pa_cons (pe_lc (own := [("page", 8)]) (g := gName 8) (tt := tYes) rfl sc_replay.nd (pi_seq (K := K) (pe_ix (xix (K := K)) (pv 0) pe_int (fun _ _ => rfl))) (blkOk_by (N := N_replay) (sc := defScope s_replay) (by decide +kernel)) (fun _ _ _ _ _ => (pg_name (i := 8) sc_replay.nd rfl (Or.inl rfl))) (fun _ _ _ _ _ => pts_nil) (fun _ _ _ _ _ => (pe_tup (pa_cons (pv 8) (pa_cons (pe_dget hu (pv 2) (pv 8) (fun _ _ => rfl)) pa_nil))))) pa_nil)))
    (pss_cons (ps_set (i := 5) sc_replay.nd rfl (Or.inl rfl) (pe_lst pa_nil))
    (pss_cons (ps_for PassesOwn.never rfl (pi_seq (K := K) (pv 3)) (pg_name (i := 6) sc_replay.nd rfl (Or.inl rfl))
    (pss_cons (ps_setLc (i := 7) (own := [("page", 8)]) (g := gName 8) (tt := tYes) rfl sc_replay.nd rfl rfl (sw_true rfl rfl rfl (by decide +kernel)) (pi_seq (K := K) (pe_ix (xix (K := K)) (pe_ix (xix (K := K)) (pe_ix (xix (K := K)) (pv 0) pe_int (fun _ _ => rfl)) (pe_op op_sub (pv 6) pe_int) (fun _ _ => rfl)) pe_int (fun _ _ => rfl))) (blkOk_by (N := N_replay) (sc := defScope s_replay) (by decide +kernel)) (fun _ _ _ _ _ => (pg_name (i := 8) sc_replay.nd rfl (Or.inl rfl))) (fun _ _ _ _ _ => pts_nil) (fun _ _ _ _ _ => (pe_tup (pa_cons (pv 8) (pa_cons (pe_dget hu (pv 4) (pv 8) (fun _ _ => rfl)) pa_nil)))))
    (pss_cons (ps_expr (xbm (K := K) PySem.F.plainAttrs_list PySem.F.slot_list_append PySem.F.type_list_append mt_append (pv 5) (pa_cons (pe_tup (pa_cons (pv 6) (pa_cons (pe_callTy (call_tupleA (K := K)) (by rfl) T.b.tuple (by decide +kernel) (pa_cons (pv 7) pa_nil)) pa_nil))) pa_nil)))
    (pss_one (ps_for PassesOwn.never rfl (pi_seq (K := K) (pe_ix (xix (K := K)) (pe_ix (xix (K := K)) (pe_ix (xix (K := K)) (pv 0) pe_int (fun _ _ => rfl)) (pe_op op_sub (pv 6) pe_int) (fun _ _ => rfl)) pe_int (fun _ _ => rfl))) (pg_name (i := 8) sc_replay.nd rfl (Or.inl rfl))
    (pss_one (ps_dput hu (pv 4) (pv 8) (pe_ifExp (pt_cmpR (op_eqA (K := K) hr.units) (pv 7) (pe_ix (xix (K := K)) (pv 1) (pe_op op_sub (pv 6) pe_int) (fun _ _ => rfl)) (nomark _)) (pv 6) pe_non) rfl)))))))
    (pss_cons (ps_expr (xbm (K := K) PySem.F.plainAttrs_list PySem.F.slot_list_append PySem.F.type_list_append mt_append (pv 5) (pa_cons (pe_tup (pa_cons (pe_op (op_addA (K := K)) (pe_callB (call_lenA (K := K)) (by rfl) T.b.len (by decide +kernel) (pa_cons (pe_ix (xix (K := K)) (pv 0) pe_int (fun _ _ => rfl)) pa_nil)) pe_int) (pa_cons (pe_callTy (call_tupleA (K := K)) (by rfl) T.b.tuple (by decide +kernel) (pa_cons (pe_lc (own := [("page", 8)]) (g := gName 8) (tt := tYes) rfl sc_replay.nd (pi_seq (K := K) (pe_ix (xix (K := K)) (pv 0) pe_int (fun _ _ => rfl))) (blkOk_by (N := N_replay) (sc := defScope s_replay) (by decide +kernel)) (fun _ _ _ _ _ => (pg_name (i := 8) sc_replay.nd rfl (Or.inl rfl))) (fun _ _ _ _ _ => pts_nil) (fun _ _ _ _ _ => (pe_tup (pa_cons (pv 8) (pa_cons (pe_dget hu (pv 4) (pv 8) (fun _ _ => rfl)) pa_nil))))) pa_nil)) pa_nil))) pa_nil)))
    (pss_one (ps_ret (pe_tup (pa_cons (pv 5) (pa_cons (pv 4) pa_nil))))))))), ?_⟩
    obtain ⟨pn, pr, rvs, h1, h2, h3, h4⟩ := V9.ex
    have lr := h4.length
    rw [List.length_map] at lr
    have l60 := V9.rl
    have n12 := V9.nn.2
    refine tseq (dict_lc (K := K) (a := pn) (kd := true) W0 V9.nd (by omega) (fun n => vD (f n)) (fun R r => ⟨_, rfl, rIx.lst (W0.getG h1) (atI_nat (j := 0) rfl) r⟩) (fun C' G' H' s w => SqK.lst (w.getG (s _ _ h2))) (fun _ => rfl) (fun _ => rfl) (fun n hn C' G' H' R s w r => ⟨_, rfl, _, rfl, dk, _, rfl, dgv ((hdk.mono s).at w.dropL) (hkv n hn), r⟩) fun G1 H1 d s1 W1 => ?_)
    have W1 : WF G1 ((d, .dK (dkL L.names f)) :: C) H1 := W1
    refine tnx (tseq ⟨Nat.zero_le _, fun p np => ?_⟩)
    have W2 := W1.new (o := .lst []) np
    refine tnx (tseq ?_)
    refine for_seq (xs := ks.map V.int) (k := true) (fun R r => ⟨_, rfl, r⟩) (SqK.lst ((hb.mono s1).cons.cons.at W2)) (fun i σ H' => ∃ (G' : Hp) (us : List V) (y6 y7 y8 : Option V), Same G1 G' ∧ WF G' ((p, .lst us) :: (d, .dK (dkL L.names (walkL L (ks.take i) f).2)) :: C) H' ∧ Reps G' (walkL L (ks.take i) f).1 us ∧ us.length = i ∧ σ = [some (.ref a), some (.ref nd), some (.ref dk), some (.ref b), some (.ref d), some (.ref p), y6, y7, y8]) ⟨G1, [], _, _, _, Same.refl _, W2, .nil, rfl, rfl⟩ (fun i σ H' _ ⟨G', us, _, _, _, s, w, _⟩ => SqK.lst (((hb.mono s1).mono s).cons.cons.at w)) ?_ ?_
    · rintro i v σ H' hv ⟨G', us, y6, y7, y8, s, w, ru, lu, rfl⟩
      obtain ⟨kz, hkz, rfl⟩ := map_get hv
      obtain ⟨k1, k2⟩ := hks kz (List.mem_of_getElem? hkz)
      obtain ⟨kn, rfl⟩ : ∃ kn : Nat, kz = kn := ⟨kz.toNat, by omega⟩
      have hkn : kn - 1 < L.rows.length := by omega
      have e1 : ((kn : Nat) : Int) - 1 = ((kn - 1 : Nat) : Int) := by omega
      have hi := (List.getElem?_eq_some_iff.mp hkz).1
      obtain ⟨v', hv'⟩ : ∃ v', rvs[kn - 1]? = some v' := ⟨_, List.getElem?_eq_getElem (by omega)⟩
      have s1s := s1.trans s
      obtain ⟨r, hr1, rep⟩ := recs_get (h4.mono s1s) hv'
      have er : rowAt L kn = r := by
        unfold rowAt
        rw [hr1]
        rfl
      obtain ⟨bt, q, t, rfl, gb, gq, gt⟩ := rec_at rep
      obtain ⟨o1, o2, o3, o4, o5, _, _⟩ := V9.rok r (List.mem_of_getElem? hr1)
      have lr1 := nodup_len o4 o2
      obtain ⟨g, eg⟩ : ∃ g, g = (walkL L (ks.take i) f).2 := ⟨_, rfl⟩
      rw [← eg] at w
      have ew : walkL L (ks.take (i + 1)) f = ((walkL L (ks.take i) f).1 ++ [.tuple [.int kn, foundD r.1 g]], stepF L kn g) := by
        rw [take_more hkz, walkL_snoc, ← eg]
        show (_ ++ [PyData.tuple [.int (kn : Int), foundD (rowAt L kn).1 g]], stepF L kn g) = _
        rw [er]
      refine tseq (tasg (pairs_lc (K := K) (a := q) (kd := false) (ms := r.1) w (by omega) g (fun R rr => ⟨_, rfl, rIx.lst (w.getG (s1s _ _ h1)) (atI_nat (j := 1) rfl) ⟨_, rfl, _, _, rfl, rfl, rIx.lst (w.getG (s1s _ _ h3)) (by rw [e1]; exact atI_nat hv') (rIx.tup (w.getG gb) (atI_nat (j := 0) rfl) rr)⟩⟩) (fun C' G' H' s w => SqK.tup (w.getG (s _ _ gq))) (fun _ => rfl) (fun _ => rfl) (fun n hn C' G' H' R s w rr => ⟨_, rfl, _, rfl, d, _, rfl, dkget (w.get (List.mem_append_right _ (List.mem_cons_of_mem _ List.mem_cons_self))) (o2 n hn), rr⟩) fun G2 H2 D us2 s2 w2 r2 => ?_))
      refine tnx (tseq (tdrop ?_))
      refine ⟨_, rfl, .inl ⟨rfl, _, SqL.of w2.swap.hd⟩, _, rfl, tc1 (tcb1 ⟨_, rfl, D, us2, rfl, .inl ⟨SqL.of w2.hd, fun tf ntf => ?_⟩⟩)⟩
      have w3 := w2.frz
      have s3 := w2.leF
      have w4 := w3.newG (o := .tup us2) ntf
      have s4 := w3.leG (o := .tup us2) ntf
      have rl4 : Rep (upd (upd G2 D (.lst us2)) tf (.tup us2)) (foundLD r.1 g) (.ref D) := Rep.mono s4 (.lst upd_same (r2.mono s3))
      have rt4 : Rep (upd (upd G2 D (.lst us2)) tf (.tup us2)) (foundD r.1 g) (.ref tf) := .tup upd_same ((r2.mono s3).mono s4)
      refine ⟨by show 2 ≤ sizeLine; decide, fun t2 nt2 => ?_⟩
      have w5 := w4.newG (o := .tup [.int kn, .ref tf]) nt2
      have s5 := w4.leG (o := .tup [.int kn, .ref tf]) nt2
      have r5 : Rep (upd (upd (upd G2 D (.lst us2)) tf (.tup us2)) t2 (.tup [.int kn, .ref tf])) (.tuple [.int kn, foundD r.1 g]) (.ref t2) := .tup upd_same (.cons (.int _) (.cons (rt4.mono s5) .nil))
      refine ⟨p, us, _, rfl, rfl, w5.hd, sz_lt (by rw [lu]; omega), ?_⟩
      have w6 := w5.set (u := .lst (us ++ [.ref t2]))
      have s26 := s2.trans (s3.trans (s4.trans s5))
      have ru6 := (ru.mono s26).app (.cons r5 .nil)
      have rl6 := rl4.mono s5
      have gt6 := s26 _ _ gt
      have gb6 := s26 _ _ gb
      generalize upd (upd (upd G2 D (.lst us2)) tf (.tup us2)) t2 (.tup [.int kn, .ref tf]) = G6 at w6 s26 ru6 rl6 gt6 gb6
      generalize upd (upd (upd H2 tf (.tup us2)) t2 (.tup [.int kn, .ref tf])) p (.lst (us ++ [.ref t2])) = H6 at w6
      clear w2 w3 w4 w5 s3 s4 s5 rl4 rt4 r5
      have sG6 := s1s.trans s26
      obtain ⟨c, ec⟩ : ∃ c : Option Int, c = if ∀ n ∈ r.1, g n = needAt L kn n then some (kn : Int) else none := ⟨_, rfl⟩
      obtain ⟨nv, hnv, rnv⟩ := lns_get (i := kn - 1) (rnd.mono sG6) (by omega)
      rw [lnD_row hr1] at rnv
      have nb1 : ∀ n ∈ r.1, nameB n = true := fun n hn => V9.nb n (o2 n hn)
      have step : ∀ j n, r.2[j]? = some n → ∀ m, (if m ∈ r.2.take (j + 1) then c else g m) = if m = n then c else if m ∈ r.2.take j then c else g m := fun j n hn m => by
        have e := take_more hn
        by_cases h : m = n
        · subst h
          rw [if_pos rfl, if_pos (by rw [e]; simp)]
        · rw [if_neg h]
          have : (m ∈ r.2.take (j + 1)) ↔ (m ∈ r.2.take j) := by
            rw [e, List.mem_append, List.mem_singleton]
            exact ⟨fun z => z.elim id fun y => absurd y h, .inl⟩
          by_cases hm : m ∈ r.2.take j
          · rw [if_pos hm, if_pos (this.mpr hm)]
          · rw [if_neg hm, if_neg (fun z => hm (this.mp z))]
      refine tnx ?_
      refine for_seq (xs := r.2.map V.str) (k := false) (fun R rr => ⟨_, rfl, rIx.lst (w6.getG (sG6 _ _ h1)) (atI_nat (j := 1) rfl) ⟨_, rfl, _, _, rfl, rfl, rIx.lst (w6.getG (sG6 _ _ h3)) (by rw [e1]; exact atI_nat hv') (rIx.tup (w6.getG gb6) (atI_nat (j := 1) rfl) rr)⟩⟩) (SqK.tup (w6.getG gt6)) (fun j σ H' => ∃ (y8 : Option V), WF G6 ((p, .lst (us ++ [.ref t2])) :: (d, .dK (dkL L.names fun m => if m ∈ r.2.take j then c else g m)) :: C) H' ∧ σ = [some (.ref a), some (.ref nd), some (.ref dk), some (.ref b), some (.ref d), some (.ref p), some (.int kn), some (.ref D), y8]) ⟨_, ?_, rfl⟩ (fun j σ H' _ ⟨_, w7, _⟩ => SqK.tup (w7.getG gt6)) ?_ ?_
      · rw [dkL_congr (g := g) fun n _ => by simp]
        exact w6
      · rintro j v2 σ H7 hv7 ⟨y8, w7, rfl⟩
        obtain ⟨n, hn, rfl⟩ := map_get hv7
        have hmem := o3 n (List.mem_of_getElem? hn)
        have put : ∀ o : Option Int, o = c → DPut H7 d (.str n) (vD o) (upd H7 d (.dK (dkL L.names fun m => if m ∈ r.2.take (j + 1) then c else g m))) := fun o eo => by
          have h := dkput (o := o) w7.swap.hd hmem (by omega)
          rw [dkL_congr (g := fun m => if m = n then c else if m ∈ r.2.take j then c else g m) (fun m _ => step j n hn m), ← eo]
          rw [← eo] at h
          exact h
        have rd1 := (rl6.mono w7.sub).dp (K := K) (foundL_plain r.1 g (by omega))
        have rd2 := (rnv.mono w7.sub).dp (K := K) (foundL_plain r.1 (fun n => some (ver (L.rows.take (kn - 1)) n)) (by omega))
        refine ⟨_, rfl, _, rfl, _, rfl, _, _, rfl, rfl, rIx.lst (w7.getG (sG6 _ _ hnd)) (by rw [e1]; exact atI_nat hnv) (rEqA.dat rd1 rd2 (foundL_shaped nb1 g) (foundL_shaped nb1 (fun n => some (ver (L.rows.take (kn - 1)) n))) ⟨_, rfl, ?_⟩)⟩
        rw [show PyData.eqv (foundLD r.1 g) (PyData.list (r.1.map fun n => .tuple [.str n, optD (some (ver (L.rows.take (kn - 1)) n))])) = decide (∀ n ∈ r.1, g n = needAt L kn n) from eqv_foundL g (fun n => some (ver (L.rows.take (kn - 1)) n)) r.1]
        refine ite2 (fun h => ?_) (fun h => ?_)
        · have h' : ∀ n ∈ r.1, g n = needAt L kn n := of_decide_eq_true h
          refine ⟨_, rfl, _, rfl, _, rfl, d, _, rfl, put (some (kn : Int)) (by rw [ec, if_pos h']), ?_⟩
          exact ⟨_, (w7.swap.set).swap, rfl⟩
        · have h' : ¬ ∀ n ∈ r.1, g n = needAt L kn n := fun z => h (decide_eq_true z)
          refine ⟨_, rfl, _, rfl, d, _, rfl, put none (by rw [ec, if_neg h']), ?_⟩
          exact ⟨_, (w7.swap.set).swap, rfl⟩
      · rintro σ H7 ⟨y8, w7, rfl⟩
        rw [List.length_map, List.take_length] at w7
        rw [ew]
        refine ⟨G6, us ++ [.ref t2], _, _, _, s.trans s26, ?_, ru6, by rw [List.length_append, lu]; rfl, rfl⟩
        have : dkL L.names (stepF L kn g) = dkL L.names fun m => if m ∈ r.2 then c else g m := dkL_congr fun m _ => by
          unfold stepF
          rw [er, ← ec]
        rw [this]
        exact w7
    · rintro σ H' ⟨G', us, y6, y7, y8, s, w, ru, lu, rfl⟩
      rw [List.length_map, List.take_length] at w ru
      have lu2 : us.length ≤ 100000 := by
        rw [lu, List.length_map]
        exact lks
      obtain ⟨g, eg⟩ : ∃ g, g = (walkL L ks f).2 := ⟨_, rfl⟩
      rw [← eg] at w
      have s1s := s1.trans s
      refine tnx (tseq (tdrop ?_))
      refine ⟨_, rfl, .inl ⟨rfl, _, SqL.of w.hd⟩, ?_⟩
      refine ⟨_, rfl, rIx.lst (w.getG (s1s _ _ h1)) (atI_nat (j := 1) rfl) (rLenA.v (n := L.rows.length) (.inl ⟨_, SqL.of (w.getG (s1s _ _ h3)), lr⟩) (rAddA.int ?_))⟩
      refine tc1 (tcb1 ?_)
      refine pairs_lc (K := K) (a := pn) (kd := true) (ms := L.names) w (by omega) g (fun R rr => ⟨_, rfl, rIx.lst (w.getG (s1s _ _ h1)) (atI_nat (j := 0) rfl) rr⟩) (fun C' G' H' s w => SqK.lst (w.getG (s _ _ (s1s _ _ h2)))) (fun _ => rfl) (fun _ => rfl) (fun n hn C' G' H' R s w rr => ⟨_, rfl, _, rfl, d, _, rfl, dkget (w.get (List.mem_append_right _ (List.mem_cons_of_mem _ List.mem_cons_self))) hn, rr⟩) fun G2 H2 D us2 s2 w2 r2 => ?_
      refine ⟨D, us2, rfl, .inl ⟨SqL.of w2.hd, fun tf ntf => ?_⟩⟩
      have w3 := w2.drop.newG (o := .tup us2) ntf
      have s3 := w2.drop.leG (o := .tup us2) ntf
      have rt3 : Rep (upd G2 tf (.tup us2)) (foundD L.names g) (.ref tf) := .tup upd_same (r2.mono s3)
      refine ⟨by show 2 ≤ sizeLine; decide, fun t2 nt2 => ?_⟩
      have w5 := w3.newG (o := .tup [.int ((L.rows.length : Int) + 1), .ref tf]) nt2
      have s5 := w3.leG (o := .tup [.int ((L.rows.length : Int) + 1), .ref tf]) nt2
      have r5 : Rep (upd (upd G2 tf (.tup us2)) t2 (.tup [.int ((L.rows.length : Int) + 1), .ref tf])) (.tuple [.int ((L.rows.length : Int) + 1), foundD L.names g]) (.ref t2) := .tup upd_same (.cons (.int _) (.cons (rt3.mono s5) .nil))
      refine ⟨p, us, _, rfl, rfl, w5.hd, sz_lt (by omega), ?_⟩
      have w6 := w5.set (u := .lst (us ++ [.ref t2]))
      have s25 := s2.trans (s3.trans s5)
      have ru6 := (ru.mono s25).app (.cons r5 .nil)
      refine tnx (tret ⟨_, rfl, _, rfl, by show 2 ≤ sizeLine; decide, fun t nt => ?_⟩)
      have w7 := w6.frz
      have s7 := w6.leF
      have w8 := w7.newG (o := .tup [.ref p, .ref d]) nt
      have s8 := w7.leG (o := .tup [.ref p, .ref d]) nt
      refine k _ _ t p d _ (s1s.trans (s25.trans (s7.trans s8))) w8.drop upd_same (s8 _ _ upd_same) ?_
      unfold walkD
      rw [← eg]
      exact (ru6.mono s7).mono s8
theorem ok_ends (T : Txt mg) (F : FD K mg "_law_ends" s_ends ["log", "needs", "disk", "numbers"]) (G_replay : Okf P w K mg base CX0 1 "_law_replay" ["log", "needs", "disk", "numbers"] spReplay) : Okf P w K mg base CX0 2 "_law_ends" ["log", "needs", "disk", "numbers"] spEnds := by
  refine F.ok sc_ends (fun vs H Q E h => ?_) (fun f0 cdv A outer s H vs Q E hr h => ?_)
  · obtain ⟨G, C, a, nd, dk, b, L, nus, kvs, f, ks, rfl, _⟩ := h
    rfl
  · obtain ⟨G, C, a, nd, dk, b, L, nus, kvs, f, ks, rfl, W0, V9, hnd, rnd, hdk, hkv, hb, hks, lks, k⟩ := h
    refine ⟨_, (pss_one (ps_ret (pe_cmpR (op_eqA (K := K) hr.units) (pe_callTy (call_listA (K := K) rfl) (by rfl) T.b.list (by decide +kernel) (pa_cons (pe_ix (xix (K := K)) (pe_ix (xix (K := K)) (pe_ix (xix (K := K)) (pc G_replay hr (pa_cons (pv 0) (pa_cons (pv 1) (pa_cons (pv 2) (pa_cons (pv 3) pa_nil))))) pe_int (fun _ _ => rfl)) (pe_un un_neg pe_int) (fun _ _ => rfl)) pe_int (fun _ _ => rfl)) pa_nil)) (pe_ix (xix (K := K)) (pv 1) (pe_un un_neg pe_int) (fun _ _ => rfl)) (nomark _)))), ?_⟩
    have n12 := V9.nn.2
    refine tret ?_
    refine tcb1 ?_
    refine top_ (top_ (top_ ?_))
    refine tcall4 ⟨_, rfl, _, rfl, _, rfl, _, rfl, G, C, a, nd, dk, b, L, nus, kvs, f, ks, rfl, W0, V9, hnd, rnd, hdk, hkv, hb, hks, lks, fun G' H' t rw st us s w ht hrw r => ?_⟩
    obtain ⟨v, ev, rv⟩ := reps_last r
    obtain ⟨v2, ev2, rv2⟩ := lns_get (i := L.rows.length) (rnd.mono s) (Nat.le_refl _)
    have ll : nus.length = L.rows.length + 1 := by
      have := rnd.length
      unfold lnsD at this
      rw [List.length_map, List.length_range] at this
      exact this.symm
    have ev3 : nus.getLast? = some v2 := by
      rw [List.getLast?_eq_getElem?, ll]
      exact ev2
    rw [lnD_end] at rv2
    cases rv with
    | tup gt rs =>
      cases rs with
      | cons ri rs =>
        cases rs with
        | cons rf rs =>
          cases rs
          cases rf with
          | tup gf rfs =>
            rename_i tf fus
            refine rIx.tup (w.getG ht) (atI_nat (j := 0) rfl) ⟨1, rfl, rIx.lst (w.getG hrw) (last_atI ev) (rIx.tup (w.getG gt) (atI_nat (j := 1) rfl) ?_)⟩
            refine rListA.sq (.inr (SqT.of (w.getG gf))) fun l nl => ?_
            have w2 := w.newG (o := .lst fus) nl
            have s2 := w.leG (o := .lst fus) nl
            refine ⟨_, rfl, 1, rfl, rIx.lst (w2.getG (s2 _ _ (s _ _ hnd))) (last_atI ev3) ?_⟩
            have r1 : Rep (upd G' l (.lst fus)) (foundLD L.names (walkL L ks f).2) (.ref l) := .lst upd_same (rfs.mono s2)
            have rd1 := (r1.mono w2.sub).dp (K := K) (foundL_plain L.names _ (by omega))
            have rd2 := ((rv2.mono s2).mono w2.sub).dp (K := K) (foundL_plain L.names (fun n => some (ver L.rows n)) (by omega))
            refine rEqA.dat rd1 rd2 (foundL_shaped V9.nb _) (foundL_shaped V9.nb (fun n => some (ver L.rows n))) ?_
            rw [show PyData.eqv (foundLD L.names (walkL L ks f).2) (PyData.list (L.names.map fun n => .tuple [.str n, optD (some (ver L.rows n))])) = endsB L ks f from eqv_foundL _ (fun n => some (ver L.rows n)) L.names]
            exact k _ _ (s.trans s2) w2
end
end Lw_lrep

namespace Lw_ldisk
open PySem PySem.Spec PyProof.Rows L2 Lr
def top (i : Nat) : Stmt := PySem.Challenge.pw_leastredo_k12_whole_least_redo_of_great.main.body.getD i (.Pass ⟨0, 0, 0, 0⟩)
abbrev s_disk : Stmt := top 54
abbrev N_disk : List Str := ["stream", "log", "versions", "kind", "moment", "found", "page", "some", "version"]
theorem sc_disk : FnScope ["stream", "log", "versions", "kind", "moment", "found", "page", "some", "version"] ["stream", "log"] (defScope s_disk) := ⟨rfl, rfl, rfl, by decide +kernel, rfl, by decide +kernel, by decide +kernel⟩
structure Txt (mg : Str → Option Value) : Prop where
  b : Bl mg
section
variable {P : Program} {w : World} {K : PySem.W.Frag} {mg : Str → Option Value} {base : Heap}
theorem ok_disk (T : Txt mg) (F : FD K mg "_law_disk" s_disk ["stream", "log"]) (G_versions : Okf P w K mg base CX0 1 "_law_versions" ["log"] spVersions) (G_below : Okf P w K mg base CX0 1 "_law_below" ["stream", "many"] spBelow) (G_chance : Okf P w K mg base CX0 2 "_law_chance" ["stream", "many"] spChance)
    (G_pick : Okf P w K mg base CX0 2 "_law_pick" ["stream", "some"] spPick) (G_up_to : Okf P w K mg base CX0 1 "_law_up_to" ["versions", "moment"] spUpTo) : Okf P w K mg base CX0 3 "_law_disk" ["stream", "log"] spDisk := by
  refine F.ok sc_disk (fun vs H Q E h => ?_) (fun f0 cdv A outer s H vs Q E hr h => ?_)
  · obtain ⟨G, st, cs, n, C, a, L, rfl, _⟩ := h
    rfl
  · obtain ⟨G, st, cs, n, C, a, L, rfl, V9, n40, W0, k⟩ := h
    have hu := hu_of hr
    refine ⟨_, (pss_cons (ps_set (i := 2) sc_disk.nd rfl (Or.inl rfl) (pc G_versions hr (pa_cons (pv 1) pa_nil)))
    (pss_cons (ps_set (i := 3) sc_disk.nd rfl (Or.inl rfl) (pc G_below hr (pa_cons (pv 0) (pa_cons pe_int pa_nil))))
    (pss_cons (ps_set (i := 4) sc_disk.nd rfl (Or.inl rfl) (pc G_below hr (pa_cons (pv 0) (pa_cons (pe_op (op_addA (K := K)) (pe_callB (call_lenA (K := K)) (by rfl) T.b.len (by decide +kernel) (pa_cons (pe_ix (xix (K := K)) (pv 1) pe_int (fun _ _ => rfl)) pa_nil)) pe_int) pa_nil))))
    (pss_cons (ps_set (i := 5) sc_disk.nd rfl (Or.inl rfl) pe_dnewK)
    (pss_cons (ps_for PassesOwn.never rfl (pi_seq (K := K) (pe_ix (xix (K := K)) (pv 1) pe_int (fun _ _ => rfl))) (pg_name (i := 6) sc_disk.nd rfl (Or.inl rfl))
    (pss_cons (ps_set (i := 7) sc_disk.nd rfl (Or.inl rfl) (pe_dget hu (pv 2) (pv 6) (fun _ _ => rfl)))
    (pss_cons (ps_set (i := 8) sc_disk.nd rfl (Or.inl rfl) (pe_ix (xix (K := K)) (pv 7) (pe_un un_neg pe_int) (fun _ _ => rfl)))
    (pss_cons (ps_if (PW.pt (pw_or (pt_cmpR op_lt (pv 3) pe_int (nomark _)) (pw_or1 (PW.pt (pw_and (pt_cmpR (op_eqA (K := K) hr.units) (pv 3) pe_int (nomark _)) (pw_and1 (pt_val (pc G_chance hr (pa_cons (pv 0) (pa_cons pe_int pa_nil))))))))))
    (pss_one (ps_set (i := 8) sc_disk.nd rfl (Or.inl rfl) (pc G_pick hr (pa_cons (pv 0) (pa_cons (pv 7) pa_nil)))))
    pss_nil)
    (pss_cons (ps_if (pt_cmpR (op_eqA (K := K) hr.units) (pv 3) pe_int (nomark _))
    (pss_one (ps_set (i := 8) sc_disk.nd rfl (Or.inl rfl) pe_int))
    pss_nil)
    (pss_cons (ps_if (pt_cmpR (op_eqA (K := K) hr.units) (pv 3) pe_int (nomark _))
    (pss_one (ps_set (i := 8) sc_disk.nd rfl (Or.inl rfl) (pc G_up_to hr (pa_cons (pv 7) (pa_cons (pc G_below hr (pa_cons (pv 0) (pa_cons (pe_op (op_addA (K := K)) (pe_callB (call_lenA (K := K)) (by rfl) T.b.len (by decide +kernel) (pa_cons (pe_ix (xix (K := K)) (pv 1) pe_int (fun _ _ => rfl)) pa_nil)) pe_int) pa_nil))) pa_nil)))))
    pss_nil)
    (pss_cons (ps_if (PW.pt (pw_or (pt_cmpR (op_eqA (K := K) hr.units) (pv 3) pe_int (nomark _)) (pw_or1 (PW.pt (pw_and (pt_cmpR (op_eqA (K := K) hr.units) (pv 3) pe_int (nomark _)) (pw_and1 (pt_val (pc G_chance hr (pa_cons (pv 0) (pa_cons pe_int pa_nil))))))))))
    (pss_one (ps_set (i := 8) sc_disk.nd rfl (Or.inl rfl) (pc G_up_to hr (pa_cons (pv 7) (pa_cons (pv 4) pa_nil)))))
    pss_nil)
    (pss_cons (ps_if (PW.pt (pw_and (pt_cmpR (op_inA (K := K)) (pv 3) (pe_tup (pa_cons pe_int (pa_cons pe_int (pa_cons pe_int pa_nil)))) (by rfl)) (pw_and1 (pt_val (pc G_chance hr (pa_cons (pv 0) (pa_cons pe_int pa_nil)))))))
    (pss_one (ps_set (i := 8) sc_disk.nd rfl (Or.inl rfl) pe_non))
    pss_nil)
    (pss_one (ps_dput hu (pv 5) (pv 6) (pv 8) rfl))))))))))
    (pss_one (ps_ret (pv 5)))))))), ?_⟩
    obtain ⟨pn, pr, rvs, h1, h2, h3, h4⟩ := V9.ex
    have lr := h4.length
    rw [List.length_map] at lr
    have l60 := V9.rl
    have n12 := V9.nn.2
    obtain ⟨l0, a0, b0, c0, w0, hh0⟩ := W0
    refine tseq (tcall1 ⟨_, rfl, G, _, a, L, rfl, w0, V9, fun p G1 H1 s1 w1 A1 => ?_⟩)
    have W1 : SW G1 st cs n C H1 := ⟨l0, a0, b0, c0, w1, hh0⟩
    refine tnx (tseq (tcall2 ⟨_, rfl, G1, st, cs, n, C, 8, rfl, by decide, by decide, by omega, W1, fun d H2 hd W2 => ?_⟩))
    have g1 := s1 _ _ h1
    have g3 := s1 _ _ h3
    refine tnx (tseq (tcall2 ⟨_, rfl, _, rfl, rIx.lst (W2.getG g1) (atI_nat (j := 1) rfl) (rLenA.v (n := L.rows.length) (.inl ⟨_, SqL.of (W2.getG g3), lr⟩) (rAddA.int ⟨G1, st, cs, n + 1, C, (L.rows.length : Int) + 1, rfl, by omega, by omega, by omega, W2, fun mo H3 hm W3 => ?_⟩))⟩))
    refine tnx (tseq fun fd nfd => ?_)
    have W4 := W3.new (o := .dK []) nfd
    refine tnx (tseq ?_)
    refine for_seq (xs := L.names.map V.str) (k := true) (fun R r => ⟨_, rfl, rIx.lst (W4.getG g1) (atI_nat (j := 0) rfl) r⟩) (SqK.lst (W4.getG (s1 _ _ h2))) (fun i σ H' => ∃ (f : Str → Option Int) (y6 y7 y8 : Option V), SW G1 st cs (n + 2 + 8 * i) ((fd, .dK (dkL (L.names.take i) f)) :: C) H' ∧ (∀ m ∈ L.names.take i, okV L.rows m (f m)) ∧ σ = [some (.ref st), some (.ref a), some (.ref p), some (.int d), some (.int mo), some (.ref fd), y6, y7, y8]) ⟨fun _ => none, _, _, _, W4, (fun m hm => by cases hm), rfl⟩ (fun i σ H' _ ⟨_, _, _, _, w, _⟩ => SqK.lst (w.getG (s1 _ _ h2))) ?_ ?_
    · rintro i v σ H' hv ⟨f, y6, y7, y8, w, okf, rfl⟩
      obtain ⟨nm, hn, rfl⟩ := map_get hv
      have hi := (List.getElem?_eq_some_iff.mp hn).1
      obtain ⟨q, dgq, gq⟩ := A1.get (List.mem_of_getElem? hn)
      obtain ⟨xs, exs⟩ : ∃ xs, xs = 0 :: wr L.rows nm := ⟨_, rfl⟩
      rw [← exs] at gq
      have lxs : 1 ≤ xs.length ∧ xs.length ≤ 61 := by
        rw [exs, List.length_cons]
        have := wr_len L.rows nm
        omega
      have okx : ∀ z ∈ xs, okV L.rows nm (some z) := fun z hz => .inr ⟨z, exs ▸ hz, rfl⟩
      refine tseq ⟨_, rfl, _, rfl, p, _, rfl, dgq _ w.sub, ?_⟩
      obtain ⟨lz, hlz⟩ : ∃ lz, xs.getLast? = some lz := by
        cases e : xs.getLast? with
        | none => rw [List.getLast?_eq_none_iff.mp e] at lxs; exact absurd lxs.1 (by decide)
        | some z => exact ⟨z, rfl⟩
      refine tnx (tseq ⟨_, rfl, 1, rfl, rIx.lst (w.getG gq) (last_atI (v := .int lz) (by rw [List.getLast?_map, hlz]; rfl)) ?_⟩)
      have ok0 : okV L.rows nm (some lz) := okx lz (List.mem_of_getLast? hlz)
      refine tnx ?_
      obtain ⟨Pj, ePj⟩ : ∃ Pj : Nat → L2.St → Hp → Prop, Pj = fun c σ' H' => ∃ (o : Option Int), σ' = [some (.ref st), some (.ref a), some (.ref p), some (.int d), some (.int mo), some (.ref fd), some (.str nm), some (.ref q), some (vD o)] ∧ okV L.rows nm o ∧ SW G1 st cs (n + 2 + 8 * i + c) ((fd, .dK (dkL (L.names.take i) f)) :: C) H' := ⟨_, rfl⟩
      have st0 : Pj 0 [some (.ref st), some (.ref a), some (.ref p), some (.int d), some (.int mo), some (.ref fd), some (.str nm), some (.ref q), some (.int lz)] H' := by
        rw [ePj]
        exact ⟨some lz, rfl, ok0, w⟩
      refine tjoin (Pj 2) ?_ (fun tail => ?_)
      rotate_left
      · have pkd : ∀ (c : Nat) (H5 : Hp), c ≤ 1 → SW G1 st cs (n + 2 + 8 * i + c) ((fd, .dK (dkL (L.names.take i) f)) :: C) H5 → spPick [.ref st, .ref q] H5 (fun v H6 => Pj 2 [some (.ref st), some (.ref a), some (.ref p), some (.int d), some (.int mo), some (.ref fd), some (.str nm), some (.ref q), some v] H6) E0 := by
          intro c H5 hc w5
          refine ⟨G1, st, cs, _, _, q, xs.map V.int, rfl, by rw [List.length_map]; omega, by rw [List.length_map]; omega, by omega, w5, .gl gq, fun j v H6 hv w6 => ?_⟩
          obtain ⟨z, hz, rfl⟩ := map_get hv
          rw [ePj]
          exact ⟨some z, rfl, okx z (List.mem_of_getElem? hz), w6.mono (by omega)⟩
        have keep : ∀ (c : Nat) (H5 : Hp), c ≤ 2 → SW G1 st cs (n + 2 + 8 * i + c) ((fd, .dK (dkL (L.names.take i) f)) :: C) H5 → Pj 2 [some (.ref st), some (.ref a), some (.ref p), some (.int d), some (.int mo), some (.ref fd), some (.str nm), some (.ref q), some (.int lz)] H5 := by
          intro c H5 hc w5
          rw [ePj]
          exact ⟨some lz, rfl, ok0, w5.mono (by omega)⟩
        refine ⟨_, rfl, _, _, rfl, rfl, ⟨_, rfl, ite2 (fun h => ?_) (fun h => ?_)⟩⟩
        · refine tcall2 ⟨_, rfl, _, rfl, ?_⟩
          obtain ⟨x1, x2, x3, x4, x5, x6, x7, x8, x9, x10, x11, x12, x13, kk⟩ := pkd 0 H' (by omega) w
          exact ⟨x1, x2, x3, x4, x5, x6, x7, x8, x9, x10, x11, x12, x13, fun j v H6 hv w6 => tail _ _ (kk j v H6 hv w6)⟩
        · refine ⟨_, rfl, rEqA.int ⟨_, rfl, ite2 (fun h2 => ?_) (fun h2 => ?_)⟩⟩
          · refine tcall2 ⟨_, rfl, G1, st, cs, _, _, 3, rfl, by decide, by decide, by omega, w, fun bb H5 w5 => ⟨bb, rfl, ite2 (fun h3 => ?_) (fun h3 => ?_)⟩⟩
            · refine tcall2 ⟨_, rfl, _, rfl, ?_⟩
              obtain ⟨x1, x2, x3, x4, x5, x6, x7, x8, x9, x10, x11, x12, x13, kk⟩ := pkd 1 H5 (by omega) w5
              exact ⟨x1, x2, x3, x4, x5, x6, x7, x8, x9, x10, x11, x12, x13, fun j v H6 hv w6 => tail _ _ (kk j v H6 hv w6)⟩
            · exact tail _ _ (keep 1 H5 (by omega) w5)
          · exact tail _ _ (keep 0 H' (by omega) w)
      rintro σ5 H5 p5
      rw [ePj] at p5
      obtain ⟨o5, rfl, ok5, w5⟩ := p5
      refine tjoin (Pj 2) ?_ (fun tail => ?_)
      rotate_left
      · refine ⟨_, rfl, rEqA.int ⟨_, rfl, ite2 (fun h => tail _ _ ?_) (fun h => tail _ _ ?_)⟩⟩
        · rw [ePj]
          exact ⟨some 0, rfl, okx 0 (by rw [exs]; exact List.mem_cons_self), w5⟩
        · rw [ePj]
          exact ⟨o5, rfl, ok5, w5⟩
      clear ok5 w5 o5
      rintro σ6 H6 p6
      rw [ePj] at p6
      obtain ⟨o6, rfl, ok6, w6⟩ := p6
      refine tjoin (Pj 3) ?_ (fun tail => ?_)
      rotate_left
      · refine ⟨_, rfl, rEqA.int ⟨_, rfl, ite2 (fun h => ?_) (fun h => tail _ _ ?_)⟩⟩
        · refine tcall2 ⟨_, rfl, tcall2 ⟨_, rfl, _, rfl, rIx.lst (w6.getG g1) (atI_nat (j := 1) rfl) (rLenA.v (n := L.rows.length) (.inl ⟨_, SqL.of (w6.getG g3), lr⟩) (rAddA.int ⟨G1, st, cs, _, _, (L.rows.length : Int) + 1, rfl, by omega, by omega, by omega, w6, fun dd H7 hdd w7 => ?_⟩))⟩⟩
          obtain ⟨z, hz, hz2⟩ := upto_some (xs := wr L.rows nm) (m := (dd : Int)) (by omega)
          rw [← exs] at hz hz2
          exact w7.upTo gq (by omega) hz fun H8 w8 => tail _ _ (by rw [ePj]; exact ⟨some z, rfl, okx z hz2, w8⟩)
        · rw [ePj]
          exact ⟨o6, rfl, ok6, w6.mono (by omega)⟩
      clear ok6 w6 o6
      rintro σ7 H7 p7
      rw [ePj] at p7
      obtain ⟨o7, rfl, ok7, w7⟩ := p7
      refine tjoin (Pj 4) ?_ (fun tail => ?_)
      rotate_left
      · obtain ⟨z, hz, hz2⟩ := upto_some (xs := wr L.rows nm) (m := (mo : Int)) (by omega)
        rw [← exs] at hz hz2
        refine ⟨_, rfl, rEqA.int ⟨_, rfl, ite2 (fun h => ?_) (fun h => ?_)⟩⟩
        · refine tcall2 ⟨_, rfl, _, rfl, ?_⟩
          exact w7.upTo gq (by omega) hz fun H8 w8 => tail _ _ (by rw [ePj]; exact ⟨some z, rfl, okx z hz2, w8.mono (by omega)⟩)
        · refine ⟨_, rfl, rEqA.int ⟨_, rfl, ite2 (fun h2 => ?_) (fun h2 => tail _ _ ?_)⟩⟩
          · refine tcall2 ⟨_, rfl, G1, st, cs, _, _, 2, rfl, by decide, by decide, by omega, w7, fun bb H8 w8 => ⟨bb, rfl, ite2 (fun h3 => ?_) (fun h3 => tail _ _ ?_)⟩⟩
            · refine tcall2 ⟨_, rfl, _, rfl, ?_⟩
              exact w8.upTo gq (by omega) hz fun H9 w9 => tail _ _ (by rw [ePj]; exact ⟨some z, rfl, okx z hz2, w9.mono (by omega)⟩)
            · rw [ePj]
              exact ⟨o7, rfl, ok7, w8.mono (by omega)⟩
          · rw [ePj]
            exact ⟨o7, rfl, ok7, w7.mono (by omega)⟩
      clear ok7 w7 o7
      rintro σ8 H8 p8
      rw [ePj] at p8
      obtain ⟨o8, rfl, ok8, w8⟩ := p8
      refine tjoin (Pj 5) ?_ (fun tail => ?_)
      rotate_left
      · refine ⟨_, rfl, by show 3 ≤ sizeLine; decide, fun tt ntt => ?_⟩
        have w9 := w8.same (same_new (o := .tup [.int 0, .int 2, .int 4]) ntt)
        refine rInA.ints (xs := [0, 2, 4]) (.inr (SqT.of upd_same)) ⟨_, rfl, ite2 (fun h => ?_) (fun h => tail _ _ ?_)⟩
        · refine tcall2 ⟨_, rfl, G1, st, cs, _, _, 10, rfl, by decide, by decide, by omega, w9, fun bb H9 w10 => ⟨bb, rfl, ite2 (fun h3 => tail _ _ ?_) (fun h3 => tail _ _ ?_)⟩⟩
          · rw [ePj]
            exact ⟨none, rfl, .inl rfl, w10.mono (by omega)⟩
          · rw [ePj]
            exact ⟨o8, rfl, ok8, w10.mono (by omega)⟩
        · rw [ePj]
          exact ⟨o8, rfl, ok8, w9.mono (by omega)⟩
      clear ok8 w8 o8
      rintro σ9 H9 p9
      rw [ePj] at p9
      obtain ⟨o9, rfl, ok9, w9⟩ := p9
      have dp : DPut H9 fd (.str nm) (vD o9) (upd H9 fd (.dK (dkL (L.names.take (i + 1)) fun m => if m = nm then o9 else f m))) := by
        have := DPut.k (k := Sum.inr nm) (v := vD o9) w9.hd (by unfold dkL; rw [List.length_map, List.length_take]; exact sz_lt (by omega))
        rw [dkL_more hn V9.nd] at this
        exact this
      refine ⟨_, rfl, _, rfl, _, rfl, fd, _, rfl, dp, ?_⟩
      refine ⟨_, _, _, _, (w9.set).mono (by omega), fun m hm => ?_, rfl⟩
      by_cases e : m = nm
      · subst e
        show okV L.rows m (if m = m then o9 else f m)
        rw [if_pos rfl]
        exact ok9
      · show okV L.rows m (if m = nm then o9 else f m)
        rw [if_neg e]
        rw [take_more hn] at hm
        rcases List.mem_append.mp hm with hm | hm
        · exact okf m hm
        · exact absurd (List.mem_singleton.mp hm) e
    · rintro σ H' ⟨f, y6, y7, y8, w, okf, rfl⟩
      rw [List.length_map, List.take_length] at w okf
      exact ⟨_, rfl, k f fd G1 H' okf s1 (w.mono (by omega))⟩
end
end Lw_ldisk

namespace Lw_gone
open PySem PySem.Spec PyProof.Rows L2 Lr
def top (i : Nat) : Stmt := PySem.Challenge.pw_leastredo_k12_whole_least_redo_of_great.main.body.getD i (.Pass ⟨0, 0, 0, 0⟩)
abbrev s_need_gone : Stmt := top 25
abbrev N_need_gone : List Str := ["log", "gone", "most", "limit"]
theorem sc_need_gone : FnScope ["log", "gone", "most", "limit"] ["log", "gone", "most"] (defScope s_need_gone) := ⟨rfl, rfl, rfl, by decide +kernel, rfl, by decide +kernel, by decide +kernel⟩
structure Txt (K : PySem.W.Frag) (mg : Str → Option Value) (Cl CB fB : Addr) : Prop where
  b : Bl mg
  cl_Log : Cls K Cl
  nR : NoAttr K Cl "rows"
  x_BadGone : PySem.Exthing.Txtthing "BadGone" "BadGone.__init__" K mg CB fB
section
variable {P : Program} {w : World} {K : PySem.W.Frag} {mg : Str → Option Value} {base : Heap} {Cl CB fB : Addr}
theorem ok_need_gone (T : Txt K mg Cl CB fB) (F : FDD K mg "need_gone" s_need_gone ["log", "gone", "most"] [.non] [.non]) (G_is_between : Okf P w K mg base CX0 1 "is_between" ["thing", "low", "high"] spBetween) : Okd P w K mg base (L2.CX P w) 2 "need_gone" ["log", "gone", "most"] [.non] (spNeedGone Cl CB) := by
  refine F.okX sc_need_gone (fun vs H Q E h => ?_) (fun f cdv A outer s H vs Q E hr h => ?_)
  · obtain ⟨G, x, L, d, v, rfl, _⟩ := h
    rfl
  · obtain ⟨G, x, L, d, v, rfl, A9, sm, ty, hi, kE, k⟩ := h
    refine ⟨_, (pss_cons (ps_set (i := 3) sc_need_gone.nd rfl (Or.inl rfl) (pe_ifExp (pt_cmpR op_isN (pv 2) pe_non (nomark _)) (pe_callB (call_lenA (K := K)) (by rfl) T.b.len (by decide +kernel) (pa_cons (xfld (K := K) (pv 0) rfl) pa_nil)) (pv 2)))
    (pss_one (ps_if (pt_not (pt_val (pc G_is_between hr (pa_cons (pv 1) (pa_cons pe_int (pa_cons (pv 3) pa_nil))))))
    (pss_one (ps_raiseLow_thing rfl T.x_BadGone hr (takes_of rfl rfl rfl rfl) (pa_cons (pv 1) pa_nil)))
    pss_nil))), ?_⟩
    obtain ⟨dx, an, ar, aw, ad, rvs, nvs, fa, h1, h2, h3, h4, _⟩ := A9.ex
    have lr := h4.length
    rw [List.length_map] at lr
    refine tseq ⟨_, rfl, rfl, _, rfl, iteT ?_⟩
    refine tcb1 ⟨_, rfl, x, Cl, dx, _, _, rfl, sm _ _ h1, T.cl_Log, T.nR, lk_rows _ _ _, rLenA.v (n := L.rows.length) (.inl ⟨_, SqL.of (sm _ _ h3), lr⟩) ?_⟩
    refine tnx (tifnb (tcall3 ⟨_, rfl, _, rfl, d, v, 0, (L.rows.length : Int), rfl, ty, hi, ⟨_, rfl, ?_⟩⟩))
    cases hb : betB d 0 (L.rows.length : Int) with
    | true => exact iteF (k hb)
    | false => exact iteT ⟨_, rfl, _, rfl, fun q nq => kE hb q nq⟩
end
end Lw_gone

namespace Lw_rnd
open PySem PySem.Spec PyProof.Rows L2 Lr
def top (i : Nat) : Stmt := PySem.Challenge.pw_leastredo_k12_whole_least_redo_of_great.main.body.getD i (.Pass ⟨0, 0, 0, 0⟩)
abbrev s_round_of : Stmt := top 27
abbrev N_round_of : List Str := ["log", "disk", "gone", "readers", "least", "rows", "news", "reader", "page", "version", "has"]
theorem sc_round_of : FnScope ["log", "disk", "gone", "readers", "least", "rows", "news", "reader", "page", "version", "has"] ["log", "disk", "gone", "readers", "least", "rows"] (defScope s_round_of) := ⟨rfl, rfl, rfl, by decide +kernel, rfl, by decide +kernel, by decide +kernel⟩
structure Txt (K : PySem.W.Frag) (mg : Str → Option Value) (Cl : Addr) : Prop where
  b : Bl mg
  cl_Log : Cls K Cl
  nD : NoAttr K Cl "needs"
section
variable {P : Program} {w : World} {K : PySem.W.Frag} {mg : Str → Option Value} {base : Heap} {Cl : Addr}
theorem ok_round_of (T : Txt K mg Cl) (F : FD K mg "round_of" s_round_of ["log", "disk", "gone", "readers", "least", "rows"]) : Okf P w K mg base CX0 1 "round_of" ["log", "disk", "gone", "readers", "least", "rows"] (spRoundOf Cl) := by
  refine F.ok sc_round_of (fun vs H Q E h => ?_) (fun f0 cdv A outer s H vs Q E hr h => ?_)
  · obtain ⟨G, C, x, dk, rl, ls, rw, L, f, g, S, R, lv, kvs, rfl, _⟩ := h
    rfl
  · obtain ⟨G, C, x, dk, rl, ls, rw, L, f, g, S, R, lv, kvs, rfl, W0, A9, hdk, hrl, hls, hrw, hkS, hR, lR, hlv, kN, kS⟩ := h
    have hu := hu_of hr
    refine ⟨_, (pss_cons (ps_set (i := 6) sc_round_of.nd rfl (Or.inl rfl) pe_dnewK)
    (pss_cons (ps_for PassesOwn.never rfl (pi_seq (K := K) (pv 3)) (pg_name (i := 7) sc_round_of.nd rfl (Or.inl rfl))
    (pss_one (ps_for PassesOwn.never rfl (pi_seq (K := K) (pe_ix (xix (K := K)) (xfld (K := K) (pv 0) rfl) (pe_op op_sub (pv 7) pe_int) (fun _ _ => rfl))) (xtup (K := K) (n := 2) rfl (pgs_cons (pg_name (i := 8) sc_round_of.nd rfl (Or.inl rfl)) (pgs_cons (pg_name (i := 9) sc_round_of.nd rfl (Or.inl rfl)) pgs_nil)))
    (pss_cons (ps_set (i := 10) sc_round_of.nd rfl (Or.inl rfl) (pe_cmpR (op_eqA (K := K) hr.units) (pe_dget hu (pv 1) (pv 8) (fun _ _ => rfl)) (pv 9) (nomark _)))
    (pss_cons (ps_if (PW.pt (pw_or (pt_cmp (pc_din hu (pv 9) (pv 5))) (pw_or (pt_cmp (pc_din hu (pv 9) (pv 6))) (pw_or1 (PW.pt (pw_and (pt_val (pv 10)) (pw_and1 (pt_cmpR op_ge (pe_dget hu (pv 4) (pv 8) (fun _ _ => rfl)) (pv 9) (nomark _)))))))))
    (pss_one ps_continue)
    pss_nil)
    (pss_cons (ps_if (pt_cmpR op_le (pv 9) (pv 2) (nomark _))
    (pss_one (ps_ret (pe_tup (pa_cons (pv 6) (pa_cons (pe_tup (pa_cons (pv 7) (pa_cons (pv 8) (pa_cons pe_non pa_nil)))) pa_nil)))))
    pss_nil)
    (pss_one (ps_dput hu (pv 6) (pv 9) (pe_tup (pa_cons (pv 7) (pa_cons (pv 8) (pa_cons (pe_ifExp (pt_val (pv 10)) (pe_dget hu (pv 4) (pv 8) (fun _ _ => rfl)) pe_non) pa_nil)))) rfl))))))))
    (pss_one (ps_ret (pe_tup (pa_cons (pv 6) (pa_cons pe_non pa_nil))))))), ?_⟩
    obtain ⟨dx, an, ar, aw, ad, rvs, nvs, fa, h1, h2, h3, h4, h5, h6, h7, h8⟩ := A9.ex
    have l60 := A9.rl
    have n12 := A9.nn.2
    have rp : ∀ r ∈ L.rows, ∀ n ∈ r.1, n ∈ L.names := fun r hr => (A9.rok r hr).2.1
    have r12 : ∀ rd, (needsP L rd).length ≤ 12 := fun rd => needs_len n12 fun r hr => by
      obtain ⟨_, o2, _, o4, _⟩ := A9.rok r hr
      have := nodup_len o4 o2
      omega
    refine tseq fun nd nnd => ?_
    have W1 := W0.new (o := .dK []) nnd
    refine tnx (tseq ?_)
    refine for_seq (xs := R.map V.int) (k := true) (fun R r => ⟨_, rfl, r⟩) (SqK.lst (hrl.cons.at W1)) (fun i σ H' => ∃ (G' : Hp) (nl : List Int) (kv : List (Key × V)) (y7 y8 y9 y10 : Option V), Same G G' ∧ WF G' ((nd, .dK kv) :: C) H' ∧ kv.map Prod.fst = nl.map Sum.inl ∧ (R.take i).foldl (rdR L f S g) (some []) = some nl ∧ nl.length ≤ 12 * i ∧
      σ = [some (.ref x), some (.ref dk), some (.int g), some (.ref rl), some (.ref ls), some (.ref rw), some (.ref nd), y7, y8, y9, y10]) ⟨G, [], [], _, _, _, _, Same.refl _, W1, rfl, rfl, Nat.le_refl _, rfl⟩ (fun i σ H' _ ⟨G', _, _, _, _, _, _, s, w, _⟩ => SqK.lst ((hrl.mono s).cons.at w)) ?_ ?_
    · rintro i v σ H' hv ⟨G', nl, kv, y7, y8, y9, y10, s, w, hk, enl, lnl, rfl⟩
      obtain ⟨rd, hrd, rfl⟩ := map_get hv
      have hi := (List.getElem?_eq_some_iff.mp hrd).1
      obtain ⟨k1, k2⟩ := hR rd (List.mem_of_getElem? hrd)
      obtain ⟨nv, hnv⟩ : ∃ nv, nvs[rd.toNat - 1]? = some nv := by
        have := h8.length
        have hnl : L.needs.length = L.rows.length + 1 := by
          unfold LogM.needs
          rw [List.length_append, List.length_map, List.length_range]
          rfl
        exact ⟨_, List.getElem?_eq_getElem (show rd.toNat - 1 < nvs.length by omega)⟩
      obtain ⟨nd0, hnd, rnd⟩ := h8.get hnv
      rw [needs_rd k1 k2] at hnd
      cases hnd
      cases rnd with
      | tup gn rn =>
        rename_i na nws
        have ln := rn.length
        rw [List.length_map] at ln
        have l12 := r12 rd
        refine for_seq (xs := nws) (k := false) (fun R r => ⟨_, rfl, x, Cl, dx, _, _, rfl, w.getG (s _ _ h1), T.cl_Log, T.nD, lk_needs _ _ _ _ _, _, rfl, _, _, rfl, rfl, rIx.lst (w.getG (s _ _ h7)) (by rw [show rd - 1 = ((rd.toNat - 1 : Nat) : Int) by omega]; exact atI_nat hnv) r⟩) (SqK.tup (w.getG (s _ _ gn))) (fun j σ H' => ∃ (G2 : Hp) (nl2 : List Int) (kv2 : List (Key × V)) (y8 y9 y10 : Option V), Same G G2 ∧ WF G2 ((nd, .dK kv2) :: C) H' ∧ kv2.map Prod.fst = nl2.map Sum.inl ∧ ((needsP L rd).take j).foldl (rdP L f S g) (some nl) = some nl2 ∧ nl2.length ≤ 12 * i + j ∧
          σ = [some (.ref x), some (.ref dk), some (.int g), some (.ref rl), some (.ref ls), some (.ref rw), some (.ref nd), some (.int rd), y8, y9, y10]) ⟨G', nl, kv, _, _, _, s, w, hk, rfl, lnl, rfl⟩ (fun j σ H' _ ⟨G2, _, _, _, _, _, s2, w2, _⟩ => SqK.tup (w2.getG (s2 _ _ gn))) ?_ ?_
        · rintro j v2 σ H6 hv2 ⟨G2, nl2, kv2, y8, y9, y10, s2, w2, hk2, e2, l2, rfl⟩
          obtain ⟨d2, hd2, rd2⟩ := rn.get hv2
          rw [List.getElem?_map] at hd2
          obtain ⟨⟨n, vv⟩, hq, rfl⟩ := Option.map_eq_some_iff.mp hd2
          have hj := (List.getElem?_eq_some_iff.mp hq).1
          obtain ⟨ga, rfl, gga⟩ := pv_at rd2
          have hmem : n ∈ L.names := needs_pages rp rd (n, vv) (List.mem_of_getElem? hq)
          have hbd : 0 ≤ vv ∧ vv ≤ L.rows.length := ⟨(needs_bd (List.mem_of_getElem? hq)).1, (needs_bd (List.mem_of_getElem? hq)).2.1⟩
          have hok : decide (vv ≤ lv n) = decide (okL L S n vv) := decide_eq_decide.mpr (hlv n hmem vv hbd.1 hbd.2)
          have mo : ((needsP L rd).take (j + 1)).foldl (rdP L f S g) (some nl) = if vv ∈ S ∨ vv ∈ nl2 ∨ (f n = some vv ∧ okL L S n vv) then some nl2 else if vv ≤ g then none else some (nl2 ++ [vv]) := by
            rw [take_more hq, List.foldl_append, e2]
            rfl
          have lk2 : kv2.length = nl2.length := by
            have := congrArg List.length hk2
            rwa [List.length_map, List.length_map] at this
          refine ⟨ga, _, rfl, SqT.of (w2.getG (s2 _ _ gga)), rfl, gc2 ?_⟩
          have hs : scal (vD (f n)) (.int vv) = true := by cases f n <;> rfl
          have eh : decide (vD (f n) = V.int vv) = decide (f n = some vv) := by
            cases f n with
            | none => rfl
            | some i =>
              show decide (V.int i = V.int vv) = _
              rw [Lr.dec_int]
              by_cases h : i = vv
              · subst h
                simp
              · rw [decide_eq_false h, decide_eq_false (fun z => h (Option.some.inj z))]
          by_cases hf : f n = some vv
          · rw [show decide (f n = some vv) = true from decide_eq_true hf] at eh
            refine tseq ⟨_, rfl, _, rfl, dk, _, rfl, dkget ((hdk.mono s2).cons.at w2) hmem, _, rfl, rEqA.sc hs eh ?_⟩
            refine tnx (tseq ⟨_, rfl, _, rfl, rw, _, rfl, dgi ((hrw.mono s2).cons.at w2) vv, ⟨_, rfl, ?_⟩⟩)
            rw [key_some hkS]
            refine ite2 (fun h => ?_) (fun h => ?_)
            · rw [if_pos (.inl (of_decide_eq_true h))] at mo
              exact ⟨G2, nl2, kv2, _, _, _, s2, w2, hk2, mo, by omega, rfl⟩
            have c1 : vv ∉ S := fun z => h (decide_eq_true z)
            refine ⟨_, rfl, _, rfl, nd, _, rfl, dgi w2.hd vv, ⟨_, rfl, ?_⟩⟩
            rw [key_some hk2]
            refine ite2 (fun h => ?_) (fun h => ?_)
            · rw [if_pos (.inr (.inl (of_decide_eq_true h)))] at mo
              exact ⟨G2, nl2, kv2, _, _, _, s2, w2, hk2, mo, by omega, rfl⟩
            have c2 : vv ∉ nl2 := fun z => h (decide_eq_true z)
            refine ⟨_, rfl, true, rfl, iteT ?_⟩
            refine ⟨_, rfl, _, rfl, ls, _, rfl, dkget ((hls.mono s2).cons.at w2) hmem, _, rfl, _, _, rfl, rfl, ⟨_, rfl, ite2 (fun h => ?_) (fun h => ?_)⟩⟩
            · have c3 : okL L S n vv := (hlv n hmem vv hbd.1 hbd.2).mp (by simpa using h)
              rw [if_pos (.inr (.inr ⟨hf, c3⟩))] at mo
              exact ⟨G2, nl2, kv2, _, _, _, s2, w2, hk2, mo, by omega, rfl⟩
            have c3 : ¬ okL L S n vv := fun z => h (by simpa using (hlv n hmem vv hbd.1 hbd.2).mpr z)
            have c4 : ¬ (vv ∈ S ∨ vv ∈ nl2 ∨ (f n = some vv ∧ okL L S n vv)) := fun z => z.elim c1 fun z => z.elim c2 fun z => c3 z.2
            rw [if_neg c4] at mo
            refine tnx (tseq ⟨_, rfl, _, rfl, _, _, rfl, rfl, ⟨_, rfl, ite2 (fun h => ?_) (fun h => ?_)⟩⟩)
            · have c5 : vv ≤ g := of_decide_eq_true h
              rw [if_pos c5] at mo
              refine ⟨_, rfl, _, rfl, _, rfl, by show 3 ≤ sizeLine; decide, fun t1 nt1 => ⟨by show 2 ≤ sizeLine; decide, fun t2 nt2 => ?_⟩⟩
              have w3 := (w2.newG (o := .tup [.int rd, .str n, .non]) nt1).newG (o := .tup [.ref nd, .ref t1]) nt2
              have s3 := (w2.leG (o := .tup [.int rd, .str n, .non]) nt1).trans ((w2.newG (o := .tup [.int rd, .str n, .non]) nt1).leG (o := .tup [.ref nd, .ref t1]) nt2)
              exact kN (rdL_lost hrd enl mo) _ _ t2 nd t1 (s2.trans s3) w3.drop upd_same
            have c5 : ¬ vv ≤ g := fun z => h (decide_eq_true z)
            rw [if_neg c5] at mo
            refine tnx ⟨_, rfl, _, rfl, _, rfl, true, rfl, iteT ⟨_, rfl, _, rfl, ls, _, rfl, dkget ((hls.mono s2).cons.at w2) hmem, by show 3 ≤ sizeLine; decide, fun t1 nt1 => ?_⟩⟩
            have w3 := w2.newG (o := .tup [.int rd, .str n, .int (lv n)]) nt1
            have s3 := w2.leG (o := .tup [.int rd, .str n, .int (lv n)]) nt1
            obtain ⟨p1, p2⟩ := key_put (u := .ref t1) hk2 c2
            refine ⟨_, rfl, _, rfl, nd, _, rfl, dpi w3.hd (by omega), ?_⟩
            rw [p1]
            exact ⟨_, nl2 ++ [vv], _, _, _, _, s2.trans s3, w3.set, p2, mo, by rw [List.length_append]; show _ + 1 ≤ _; omega, rfl⟩
          · rw [show decide (f n = some vv) = false from decide_eq_false hf] at eh
            refine tseq ⟨_, rfl, _, rfl, dk, _, rfl, dkget ((hdk.mono s2).cons.at w2) hmem, _, rfl, rEqA.sc hs eh ?_⟩
            refine tnx (tseq ⟨_, rfl, _, rfl, rw, _, rfl, dgi ((hrw.mono s2).cons.at w2) vv, ⟨_, rfl, ?_⟩⟩)
            rw [key_some hkS]
            refine ite2 (fun h => ?_) (fun h => ?_)
            · rw [if_pos (.inl (of_decide_eq_true h))] at mo
              exact ⟨G2, nl2, kv2, _, _, _, s2, w2, hk2, mo, by omega, rfl⟩
            have c1 : vv ∉ S := fun z => h (decide_eq_true z)
            refine ⟨_, rfl, _, rfl, nd, _, rfl, dgi w2.hd vv, ⟨_, rfl, ?_⟩⟩
            rw [key_some hk2]
            refine ite2 (fun h => ?_) (fun h => ?_)
            · rw [if_pos (.inr (.inl (of_decide_eq_true h)))] at mo
              exact ⟨G2, nl2, kv2, _, _, _, s2, w2, hk2, mo, by omega, rfl⟩
            have c2 : vv ∉ nl2 := fun z => h (decide_eq_true z)
            refine ⟨_, rfl, false, rfl, iteF ?_⟩
            have c4 : ¬ (vv ∈ S ∨ vv ∈ nl2 ∨ (f n = some vv ∧ okL L S n vv)) := fun z => z.elim c1 fun z => z.elim c2 fun z => hf z.1
            rw [if_neg c4] at mo
            refine tnx (tseq ⟨_, rfl, _, rfl, _, _, rfl, rfl, ⟨_, rfl, ite2 (fun h => ?_) (fun h => ?_)⟩⟩)
            · have c5 : vv ≤ g := of_decide_eq_true h
              rw [if_pos c5] at mo
              refine ⟨_, rfl, _, rfl, _, rfl, by show 3 ≤ sizeLine; decide, fun t1 nt1 => ⟨by show 2 ≤ sizeLine; decide, fun t2 nt2 => ?_⟩⟩
              have w3 := (w2.newG (o := .tup [.int rd, .str n, .non]) nt1).newG (o := .tup [.ref nd, .ref t1]) nt2
              have s3 := (w2.leG (o := .tup [.int rd, .str n, .non]) nt1).trans ((w2.newG (o := .tup [.int rd, .str n, .non]) nt1).leG (o := .tup [.ref nd, .ref t1]) nt2)
              exact kN (rdL_lost hrd enl mo) _ _ t2 nd t1 (s2.trans s3) w3.drop upd_same
            have c5 : ¬ vv ≤ g := fun z => h (decide_eq_true z)
            rw [if_neg c5] at mo
            refine tnx ⟨_, rfl, _, rfl, _, rfl, false, rfl, iteF ⟨by show 3 ≤ sizeLine; decide, fun t1 nt1 => ?_⟩⟩
            have w3 := w2.newG (o := .tup [.int rd, .str n, .non]) nt1
            have s3 := w2.leG (o := .tup [.int rd, .str n, .non]) nt1
            obtain ⟨p1, p2⟩ := key_put (u := .ref t1) hk2 c2
            refine ⟨_, rfl, _, rfl, nd, _, rfl, dpi w3.hd (by omega), ?_⟩
            rw [p1]
            exact ⟨_, nl2 ++ [vv], _, _, _, _, s2.trans s3, w3.set, p2, mo, by rw [List.length_append]; show _ + 1 ≤ _; omega, rfl⟩
        · rintro σ H6 ⟨G2, nl2, kv2, y8, y9, y10, s2, w2, hk2, e2, l2, rfl⟩
          rw [← ln, List.take_length] at e2
          refine ⟨G2, nl2, kv2, _, _, _, _, s2, w2, hk2, ?_, by omega, rfl⟩
          rw [take_more hrd, List.foldl_append, enl]
          exact e2
    · rintro σ H' ⟨G', nl, kv, y7, y8, y9, y10, s, w, hk, enl, lnl, rfl⟩
      rw [List.length_map, List.take_length] at enl
      refine tnx (tret ⟨_, rfl, by show 2 ≤ sizeLine; decide, fun t nt => ?_⟩)
      exact kS nl enl _ _ t nd kv (s.trans (w.leG nt)) (w.newG nt) hk upd_same
end
end Lw_rnd

namespace Lw_dem
open PySem PySem.Spec PyProof.Rows L2 Lr
def top (i : Nat) : Stmt := PySem.Challenge.pw_leastredo_k12_whole_least_redo_of_great.main.body.getD i (.Pass ⟨0, 0, 0, 0⟩)
abbrev s_demands : Stmt := top 28
abbrev N_demands : List Str := ["log", "disk", "gone", "end", "ranked", "rows", "least", "readers", "rank", "news", "lost", "number", "page"]
theorem sc_demands : FnScope ["log", "disk", "gone", "end", "ranked", "rows", "least", "readers", "rank", "news", "lost", "number", "page"] ["log", "disk", "gone"] (defScope s_demands) := ⟨rfl, rfl, rfl, by decide +kernel, rfl, by decide +kernel, by decide +kernel⟩
abbrev s_demanded : Stmt := top 29
abbrev N_demanded : List Str := ["log", "disk", "gone", "ranked", "rows", "lost"]
theorem sc_demanded : FnScope ["log", "disk", "gone", "ranked", "rows", "lost"] ["log", "disk", "gone"] (defScope s_demanded) := ⟨rfl, rfl, rfl, by decide +kernel, rfl, by decide +kernel, by decide +kernel⟩
structure Txt (K : PySem.W.Frag) (mg : Str → Option Value) (Cl : Addr) : Prop where
  b : Bl mg
  cl_Log : Cls K Cl
  nN : NoAttr K Cl "names"
  nR : NoAttr K Cl "rows"
section
variable {P : Program} {w : World} {K : PySem.W.Frag} {mg : Str → Option Value} {base : Heap} {Cl : Addr}
theorem ok_demands (T : Txt K mg Cl) (F : FD K mg "demands" s_demands ["log", "disk", "gone"]) (G_round_of : Okf P w K mg base CX0 1 "round_of" ["log", "disk", "gone", "readers", "least", "rows"] (spRoundOf Cl)) : Okf P w K mg base CX0 2 "demands" ["log", "disk", "gone"] (spDemands Cl) := by
  refine F.ok sc_demands (fun vs H Q E h => ?_) (fun f0 cdv A outer s H vs Q E hr h => ?_)
  · obtain ⟨G, C, x, dk, L, f, g, rfl, _⟩ := h
    rfl
  · obtain ⟨G, C, x, dk, L, f, g, rfl, W0, A9, hdk, g0, kN, kS⟩ := h
    have hu := hu_of hr
    refine ⟨_, (pss_cons (ps_set (i := 3) sc_demands.nd rfl (Or.inr rfl) (pe_op (op_addA (K := K)) (pe_callB (call_lenA (K := K)) (by rfl) T.b.len (by decide +kernel) (pa_cons (xfld (K := K) (pv 0) rfl) pa_nil)) pe_int))
    (pss_cons (ps_par (i := 4) (j := 5) (by rfl) sc_demands.nd rfl rfl (by decide) rfl rfl (pa_cons pe_dnewK (pa_cons pe_dnewK pa_nil)) (by rfl))
    (pss_cons (ps_setDc (i := 6) (own := [("page", 12)]) (g := gName 12) (tt := tYes) rfl sc_demands.nd rfl rfl (sw_trueD rfl rfl rfl (by decide +kernel)) (pi_seq (K := K) (xfld (K := K) (pv 0) rfl)) (blkOk_by (N := N_demands) (sc := defScope s_demands) (by decide +kernel)) (fun _ _ _ _ _ => (pg_name (i := 12) sc_demands.nd rfl (Or.inl rfl))) (fun _ _ _ _ _ => pts_nil) (fun _ _ _ _ _ => (pv 12)) (fun _ _ _ _ _ => (pv 3)))
    (pss_cons (ps_par (i := 7) (j := 8) (by rfl) sc_demands.nd rfl rfl (by decide) rfl rfl (pa_cons (pe_lst (pa_cons (pv 3) pa_nil)) (pa_cons pe_int pa_nil)) (by rfl))
    (pss_one (ps_while PassesOwn.never (pt_val pe_bl)
    (pss_cons (ps_asg (pc G_round_of hr (pa_cons (pv 0) (pa_cons (pv 1) (pa_cons (pv 2) (pa_cons (pv 7) (pa_cons (pv 6) (pa_cons (pv 5) pa_nil))))))) (xtup (K := K) (n := 2) rfl (pgs_cons (pg_name (i := 9) sc_demands.nd rfl (Or.inl rfl)) (pgs_cons (pg_name (i := 10) sc_demands.nd rfl (Or.inl rfl)) pgs_nil))))
    (pss_cons (ps_if (PW.pt (pw_or (pt_cmpR op_notN (pv 10) pe_non (nomark _)) (pw_or1 (pt_not (xtruth (K := K) (pv 9) (by intro _; rfl))))))
    (pss_one (ps_ret (pe_tup (pa_cons (pv 4) (pa_cons (pv 5) (pa_cons (pv 10) pa_nil))))))
    pss_nil)
    (pss_cons (ps_aug (i := 8) sc_demands.nd rfl (.inl rfl) pe_int ip_add)
    (pss_one (ps_for PassesOwn.never rfl (pi_seq (K := K) (pe_callB (call_sortedDI rfl) (by rfl) T.b.sorted (by decide +kernel) (pa_cons (pv 9) pa_nil))) (pg_name (i := 11) sc_demands.nd rfl (Or.inl rfl))
    (pss_cons (ps_dput hu (pv 4) (pv 11) (pv 8) rfl)
    (pss_cons (ps_dput hu (pv 5) (pv 11) (pe_dget hu (pv 9) (pv 11) (fun _ _ => rfl)) rfl)
    (pss_cons (ps_expr (xbm (K := K) PySem.F.plainAttrs_list PySem.F.slot_list_append PySem.F.type_list_append mt_append (pv 7) (pa_cons (pv 11) pa_nil)))
    (pss_one (ps_for PassesOwn.never rfl (pi_seq (K := K) (pe_ix (xix (K := K)) (pe_ix (xix (K := K)) (xfld (K := K) (pv 0) rfl) (pe_op op_sub (pv 11) pe_int) (fun _ _ => rfl)) pe_int (fun _ _ => rfl))) (pg_name (i := 12) sc_demands.nd rfl (Or.inl rfl))
    (pss_one (ps_dput hu (pv 6) (pv 12) (pe_callB (call_min2 rfl) (by rfl) T.b.min (by decide +kernel) (pa_cons (pe_dget hu (pv 6) (pv 12) (fun _ _ => rfl)) (pa_cons (pv 11) pa_nil))) rfl)))))))))))))))))), ?_⟩
    obtain ⟨dx, an, ar, aw, ad, rvs, nvs, fa, h1, h2, h3, h4, h5, h6, h7, h8⟩ := A9.ex
    have lr := h4.length
    rw [List.length_map] at lr
    have l60 := A9.rl
    have n12 := A9.nn.2
    refine tseq (top_ (tcb1 ⟨_, rfl, x, Cl, dx, _, _, rfl, W0.getG h1, T.cl_Log, T.nR, lk_rows _ _ _, rLenA.v (n := L.rows.length) (.inl ⟨_, SqL.of (W0.getG h3), lr⟩) (rAddA.int ?_)⟩))
    refine tnx (tseq fun rk nrk => fun rw nrw => ⟨_, _, rfl, ?_⟩)
    have W1 := W0.new (o := .dK []) nrk
    have W2 := W1.new (o := .dK []) nrw
    refine tnx (tseq (tasg ?_))
    refine dc_seq (xs := L.names.map V.str) (k := false) (fun R r => ⟨_, rfl, x, Cl, dx, _, _, rfl, W2.getG h1, T.cl_Log, T.nN, lk_names _ _, r⟩) (SqK.tup (W2.getG h2)) fun ls nls => ⟨fun j H2 => WF G ((ls, .dK (dkL (L.names.take j) fun _ => some (endN L))) :: (rw, .dK []) :: (rk, .dK []) :: C) H2, W2.new nls, fun j H2 _ w2 => SqK.tup (w2.getG h2), ?_, ?_⟩
    · rintro j v2 H2 hv2 w2
      obtain ⟨n, hn, rfl⟩ := map_get hv2
      have hj := (List.getElem?_eq_some_iff.mp hn).1
      refine ⟨rfl, ?_⟩
      refine ⟨_, rfl, _, rfl, _, Sum.inr n, rfl, w2.hd, sz_lt (by unfold dkL; rw [List.length_map, List.length_take]; omega), ?_⟩
      have e := dkL_more (f := fun _ => some (endN L)) (o := some (endN L)) hn A9.nd
      have e2 : dkL (L.names.take (j + 1)) (fun _ => some (endN L)) = dkL (L.names.take (j + 1)) fun m => if m = n then some (endN L) else some (endN L) := dkL_congr fun m _ => by
        by_cases c : m = n
        · rw [if_pos c]
        · rw [if_neg c]
      show WF G ((ls, .dK (dkL (L.names.take (j + 1)) fun _ => some (endN L))) :: (rw, .dK []) :: (rk, .dK []) :: C) _
      rw [e2, ← e]
      exact w2.set
    rintro H3 W3
    rw [List.length_map, List.take_length] at W3
    refine tnx (tseq ⟨_, rfl, by show 1 ≤ sizeLine; decide, fun rl nrl => ⟨_, _, rfl, ?_⟩⟩)
    have W4 := W3.new (o := .lst [.int (endN L)]) nrl
    refine tnx ?_
    refine ⟨fun m σ H' => ∃ (G' : Hp) (S : List Int) (lv : Str → Int) (rkv wkv : List (Key × V)) (r8 : Int) (y9 y10 y11 y12 : Option V), m = L.rows.length - S.length ∧ Same G G' ∧ WF G' ((rl, .lst ((endN L :: S).map V.int)) :: (ls, .dK (dkL L.names fun n => some (lv n))) :: (rw, .dK wkv) :: (rk, .dK rkv) :: C) H' ∧ DemS L f g S ∧ lvOk L S lv ∧ rkv.map Prod.fst = S.map Sum.inl ∧ wkv.map Prod.fst = S.map Sum.inl ∧
      σ = [some (.ref x), some (.ref dk), some (.int g), some (.int (endN L)), some (.ref rk), some (.ref rw), some (.ref ls), some (.ref rl), some (.int r8), y9, y10, y11, y12], ⟨_, G, [], fun _ => endN L, [], [], 0, _, _, _, _, rfl, Same.refl _, W4, DemS.nil L f g, lv_nil (by unfold endN; omega), rfl, rfl, rfl⟩, ?_⟩
    rintro m σ H5 ⟨G5, S, lv, rkv, wkv, r8, y9, y10, y11, y12, rfl, s5, W5, dS, hlv, hrk, hwk, rfl⟩
    have lS := bd_len dS.nd fun v hv => (dS.bd v hv).2
    refine ⟨true, rfl, ?_⟩
    refine iteT ⟨_, fun σ' H' h => h, ?_⟩
    refine tseq (tasg (tcall6 ⟨_, rfl, _, rfl, _, rfl, _, rfl, _, rfl, _, rfl, ?_⟩))
    refine ⟨G5, demC rl ls rw rk L S lv wkv rkv C, x, dk, rl, ls, rw, L, f, g, S, endN L :: S, lv, wkv, rfl, W5, A9.mono s5, ((hdk.mono s5).cons.cons.cons.cons), .inr List.mem_cons_self, .inr (List.mem_cons_of_mem _ List.mem_cons_self), .inr (List.mem_cons_of_mem _ (List.mem_cons_of_mem _ List.mem_cons_self)), hwk, endS_bd dS, by rw [List.length_cons]; omega, hlv, fun e G6 H6 t nd row s6 w6 gt => ?_, fun nl e G6 H6 t nd kv s6 w6 hkv gt => ?_⟩
    · refine ⟨t, _, rfl, SqT.of (w6.getG gt), rfl, gc2 ?_⟩
      refine tnx (tseq ⟨_, rfl, rfl, _, rfl, iteT ?_⟩)
      refine ⟨_, rfl, _, rfl, _, rfl, by show 3 ≤ sizeLine; decide, fun t2 nt2 => ?_⟩
      have w7 := w6.newG (o := .tup [.ref rk, .ref rw, .ref row]) nt2
      have s7 := w6.leG (o := .tup [.ref rk, .ref rw, .ref row]) nt2
      exact kN (dS.lost (fun r => mem_end) e) _ _ t2 rk rw row (s5.trans (s6.trans s7)) w7.drop.drop.drop.drop upd_same
    · refine ⟨t, _, rfl, SqT.of (w6.getG gt), rfl, gc2 ?_⟩
      refine tnx (tseq ⟨_, rfl, rfl, _, rfl, iteF ?_⟩)
      refine ⟨_, rfl, (!kv.isEmpty), .inr (.inr ⟨kv, w6.hd, rfl⟩), ?_⟩
      cases hnl : nl with
      | nil =>
        subst hnl
        have ek : kv = [] := List.map_eq_nil_iff.mp (by rw [hkv]; rfl)
        subst ek
        refine iteT ?_
        refine ⟨_, rfl, _, rfl, _, rfl, by show 3 ≤ sizeLine; decide, fun t2 nt2 => ?_⟩
        have w7 := w6.drop.drop.drop.drop.frz
        have s7 := w6.drop.drop.drop.drop.leF
        have w8 := w7.newG (o := .tup [.ref rk, .ref rw, .non]) nt2
        have s8 := w7.leG (o := .tup [.ref rk, .ref rw, .non]) nt2
        exact kS S (dS.done (fun r => mem_end) e (List.Perm.refl _)) _ _ t2 rk rw rkv (s5.trans (s6.trans (s7.trans s8))) w8 upd_same (s8 _ _ upd_same) hrk
      | cons n0 nr =>
        have hne : nl ≠ [] := by rw [hnl]; exact List.cons_ne_nil _ _
        have ek : kv.isEmpty = false := by
          cases kv with
          | nil =>
            rw [hnl] at hkv
            cases hkv
          | cons _ _ => rfl
        rw [ek]
        refine iteF ?_
        clear hnl n0 nr
        refine tnx (tseq ⟨_, rfl, r8, 1, rfl, rfl, ?_⟩)
        obtain ⟨_, dn1, dn2⟩ := dS.round g0 (fun r => mem_end) e (List.Perm.refl _)
        have lnl := bd_len dn1 fun v hv => (dn2 v hv).2.2
        refine tnx ?_
        refine .inl (tcb1 ⟨_, rfl, nd, kv, nl, rfl, .inl w6.hd, hkv, by omega, fun ml sl hperm hsrt nsl => ⟨sl, rfl, ⟨_, SqL.of upd_same⟩, ?_⟩⟩)
        obtain ⟨dS', _, _⟩ := dS.round g0 (fun r => mem_end) e hperm
        have w7 := w6.newG (o := .lst (ml.map V.int)) nsl
        have s7 := w6.leG (o := .lst (ml.map V.int)) nsl
        have gsl : (upd G6 sl (.lst (ml.map V.int))) sl = some (.lst (ml.map V.int)) := upd_same
        generalize upd G6 sl (.lst (ml.map V.int)) = G7 at w7 s7 gsl
        generalize upd H6 sl (.lst (ml.map V.int)) = H7 at w7
        have ndm := hperm.nodup_iff.mpr dn1
        have lml := hperm.length_eq
        have dm : ∀ v ∈ ml, v ∉ S ∧ g < v ∧ 1 ≤ v ∧ v ≤ L.rows.length := fun v hv => dn2 v (hperm.mem_iff.mp hv)
        have s57 := s5.trans (s6.trans s7)
        refine for_list (K := K) (a := sl) (xs := ml.map V.int) (fun i σ H' => ∃ (G' : Hp) (lv2 : Str → Int) (rkv2 wkv2 : List (Key × V)) (y11 y12 : Option V), Same G7 G' ∧ WF G' ((nd, .dK kv) :: demC rl ls rw rk L (S ++ ml.take i) lv2 wkv2 rkv2 C) H' ∧ lvOk L (S ++ ml.take i) lv2 ∧ rkv2.map Prod.fst = (S ++ ml.take i).map Sum.inl ∧ wkv2.map Prod.fst = (S ++ ml.take i).map Sum.inl ∧
          σ = [some (.ref x), some (.ref dk), some (.int g), some (.int (endN L)), some (.ref rk), some (.ref rw), some (.ref ls), some (.ref rl), some (.int (r8 + 1)), some (.ref nd), some .non, y11, y12]) ⟨G7, lv, rkv, wkv, _, _, Same.refl _, by rw [List.take_zero, List.append_nil]; exact w7, by rw [List.take_zero, List.append_nil]; exact hlv, by rw [List.take_zero, List.append_nil]; exact hrk, by rw [List.take_zero, List.append_nil]; exact hwk, rfl⟩ (fun i σ H' _ ⟨G', _, _, _, _, _, s, w, _⟩ => SqL.of (w.getG (s _ _ gsl))) ?_ ?_
        · rintro i v σ H8 hv ⟨G8, lv2, rkv2, wkv2, y11, y12, s8, w8, hlv2, hrk2, hwk2, rfl⟩
          obtain ⟨z, hz, rfl⟩ := map_get hv
          have hi := (List.getElem?_eq_some_iff.mp hz).1
          have zm := List.mem_of_getElem? hz
          obtain ⟨d1, d2, d3, d4⟩ := dm z zm
          have znew : z ∉ S ++ ml.take i := fun q => by
            rcases List.mem_append.mp q with q | q
            · exact d1 q
            · have nd' : (ml.take (i + 1)).Nodup := ndm.sublist (List.take_sublist _ _)
              rw [take_more hz] at nd'
              exact (List.nodup_append.mp nd').2.2 z q z (by simp) rfl
          have ltk : (ml.take i).length ≤ 60 := by
            rw [List.length_take]
            omega
          have lrk : rkv2.length ≤ 1000 := by
            have := congrArg List.length hrk2
            rw [List.length_map, List.length_map, List.length_append] at this
            omega
          have lwk : wkv2.length ≤ 1000 := by
            have := congrArg List.length hwk2
            rw [List.length_map, List.length_map, List.length_append] at this
            omega
          obtain ⟨p1, p2⟩ := key_put (u := .int (r8 + 1)) hrk2 znew
          refine tseq ⟨_, rfl, _, rfl, _, rfl, rk, _, rfl, dpi (WF.getApp (A := [_, _, _, _]) w8) (by omega), ?_⟩
          rw [p1]
          have w9 := WF.setApp (A := [_, _, _, _]) (u := .dK (rkv2 ++ [((Sum.inl z : Key), .int (r8 + 1))])) w8
          have w9 : WF G8 ((nd, .dK kv) :: (rl, .lst ((endN L :: (S ++ ml.take i)).map V.int)) :: (ls, .dK (dkL L.names fun n => some (lv2 n))) :: (rw, .dK wkv2) :: (rk, .dK (rkv2 ++ [((Sum.inl z : Key), .int (r8 + 1))])) :: C) _ := w9
          generalize upd H8 rk (.dK (rkv2 ++ [((Sum.inl z : Key), .int (r8 + 1))])) = H9 at w9
          obtain ⟨u, hu1⟩ := key_get hkv (hperm.mem_iff.mp zm)
          have dgn := dgi w9.hd z
          rw [hu1] at dgn
          obtain ⟨q1, q2⟩ := key_put (u := u) hwk2 znew
          refine tnx (tseq ⟨_, rfl, _, rfl, nd, _, rfl, dgn, _, rfl, _, rfl, rw, _, rfl, dpi (WF.getApp (A := [_, _, _]) w9) (by omega), ?_⟩)
          rw [q1]
          have w10 := WF.setApp (A := [_, _, _]) (u := .dK (wkv2 ++ [((Sum.inl z : Key), u)])) w9
          have w10 : WF G8 ((nd, .dK kv) :: (rl, .lst ((endN L :: (S ++ ml.take i)).map V.int)) :: (ls, .dK (dkL L.names fun n => some (lv2 n))) :: (rw, .dK (wkv2 ++ [((Sum.inl z : Key), u)])) :: (rk, .dK (rkv2 ++ [((Sum.inl z : Key), .int (r8 + 1))])) :: C) _ := w10
          generalize upd H9 rw (.dK (wkv2 ++ [((Sum.inl z : Key), u)])) = H10 at w10
          refine tnx (tseq (tdrop ⟨_, rfl, .inl ⟨rfl, _, SqL.of w10.swap.hd⟩, _, rfl, ?_⟩))
          refine ⟨rl, _, _, rfl, rfl, w10.swap.hd, sz_lt (by rw [List.length_map, List.length_cons, List.length_append]; omega), ?_⟩
          have w11 := WF.setApp (A := [_]) (u := .lst ((endN L :: (S ++ ml.take (i + 1))).map V.int)) w10
          have w11 : WF G8 ((nd, .dK kv) :: (rl, .lst ((endN L :: (S ++ ml.take (i + 1))).map V.int)) :: (ls, .dK (dkL L.names fun n => some (lv2 n))) :: (rw, .dK (wkv2 ++ [((Sum.inl z : Key), u)])) :: (rk, .dK (rkv2 ++ [((Sum.inl z : Key), .int (r8 + 1))])) :: C) _ := w11
          have el : (endN L :: (S ++ ml.take i)).map V.int ++ [V.int z] = (endN L :: (S ++ ml.take (i + 1))).map V.int := by
            rw [take_more hz, ← List.append_assoc]
            simp
          rw [el]
          generalize upd H10 rl (.lst ((endN L :: (S ++ ml.take (i + 1))).map V.int)) = H11 at w11
          obtain ⟨v', hv'⟩ : ∃ v', rvs[z.toNat - 1]? = some v' := ⟨_, List.getElem?_eq_getElem (by omega)⟩
          have sG8 := s57.trans s8
          obtain ⟨r, hr1, rep⟩ := recs_get (h4.mono sG8) hv'
          have er : rowAt L z.toNat = r := by
            unfold rowAt
            rw [hr1]
            rfl
          obtain ⟨bt, q, t3, rfl, gbt, gq, gt3⟩ := rec_at rep
          obtain ⟨_, _, o3, _, o5, _, _⟩ := A9.rok r (List.mem_of_getElem? hr1)
          refine tnx ?_
          refine for_seq (xs := r.2.map V.str) (k := false) (fun R rr => ⟨_, rfl, x, Cl, dx, _, _, rfl, w11.getG (sG8 _ _ h1), T.cl_Log, T.nR, lk_rows _ _ _, _, rfl, _, _, rfl, rfl, rIx.lst (w11.getG (sG8 _ _ h3)) (by rw [show z - 1 = ((z.toNat - 1 : Nat) : Int) by omega]; exact atI_nat hv') (rIx.tup (w11.getG gbt) (atI_nat (j := 1) rfl) rr)⟩) (SqK.tup (w11.getG gt3)) (fun j σ H' => ∃ (y12 : Option V), WF G8 ((nd, .dK kv) :: (rl, .lst ((endN L :: (S ++ ml.take (i + 1))).map V.int)) :: (ls, .dK (dkL L.names fun n => some (if n ∈ r.2.take j then mnI (lv2 n) z else lv2 n))) :: (rw, .dK (wkv2 ++ [((Sum.inl z : Key), u)])) :: (rk, .dK (rkv2 ++ [((Sum.inl z : Key), .int (r8 + 1))])) :: C) H' ∧
            σ = [some (.ref x), some (.ref dk), some (.int g), some (.int (endN L)), some (.ref rk), some (.ref rw), some (.ref ls), some (.ref rl), some (.int (r8 + 1)), some (.ref nd), some .non, some (.int z), y12]) ⟨_, ?_, rfl⟩ (fun j σ H' _ ⟨_, w12, _⟩ => SqK.tup (w12.getG gt3)) ?_ ?_
          · rw [dkL_congr (g := fun n => some (lv2 n)) fun n _ => by simp]
            exact w11
          · rintro j v3 σ H12 hv3 ⟨y12, w12, rfl⟩
            obtain ⟨n, hn, rfl⟩ := map_get hv3
            have hmem := o3 n (List.mem_of_getElem? hn)
            have nin : n ∉ r.2.take j := fun q => by
              have nd' : (r.2.take (j + 1)).Nodup := o5.sublist (List.take_sublist _ _)
              rw [take_more hn] at nd'
              exact (List.nodup_append.mp nd').2.2 n q n (by simp) rfl
            have hls := WF.getApp (A := [_, _]) w12
            have dg := dkget hls hmem
            rw [if_neg nin] at dg
            have dp := dkput (o := some (mnI (lv2 n) z)) hls hmem (by omega)
            have ec : dkL L.names (fun m => if m = n then some (mnI (lv2 n) z) else some (if m ∈ r.2.take j then mnI (lv2 m) z else lv2 m)) = dkL L.names fun m => some (if m ∈ r.2.take (j + 1) then mnI (lv2 m) z else lv2 m) := dkL_congr fun m _ => by
              have e := take_more hn
              by_cases h : m = n
              · subst h
                rw [if_pos rfl, if_pos (by rw [e]; simp)]
              · rw [if_neg h]
                have : (m ∈ r.2.take (j + 1)) ↔ (m ∈ r.2.take j) := by
                  rw [e, List.mem_append, List.mem_singleton]
                  exact ⟨fun z => z.elim id fun y => absurd y h, .inl⟩
                by_cases hm : m ∈ r.2.take j
                · rw [if_pos hm, if_pos (this.mpr hm)]
                · rw [if_neg hm, if_neg (fun z => hm (this.mp z))]
            rw [ec] at dp
            have dp : DPut H12 ls (.str n) (.int (if z < lv2 n then z else lv2 n)) (upd H12 ls (.dK (dkL L.names fun m => some (if m ∈ r.2.take (j + 1) then mnI (lv2 m) z else lv2 m)))) := dp
            refine ⟨_, rfl, _, rfl, ls, _, rfl, dg, _, rfl, _, _, rfl, _, rfl, _, rfl, ls, _, rfl, dp, ?_⟩
            exact ⟨_, WF.setApp (A := [_, _]) w12, rfl⟩
          · rintro σ H12 ⟨y12, w12, rfl⟩
            rw [List.length_map, List.take_length] at w12
            refine ⟨G8, _, _, _, _, _, s8, w12, ?_, ?_, ?_, rfl⟩
            · rw [take_more hz, ← List.append_assoc]
              have := lv_step (w := z) hlv2
              rw [er] at this
              exact this
            · rw [take_more hz, ← List.append_assoc]
              exact p2
            · rw [take_more hz, ← List.append_assoc]
              exact q2
        · rintro σ H8 ⟨G8, lv2, rkv2, wkv2, y11, y12, s8, w8, hlv2, hrk2, hwk2, rfl⟩
          rw [List.length_map, List.take_length] at w8 hlv2 hrk2 hwk2
          have lS2 := bd_len dS'.nd fun v hv => (dS'.bd v hv).2
          refine ⟨_, ?_, G8, S ++ ml, lv2, rkv2, wkv2, _, _, _, _, _, rfl, s57.trans s8, w8.drop, dS', hlv2, hrk2, hwk2, rfl⟩
          rw [List.length_append] at lS2 ⊢
          have : 0 < ml.length := by
            rw [lml]
            exact List.length_pos_iff.mpr hne
          omega
theorem ok_demanded (T : Txt K mg Cl) (F : FD K mg "demanded" s_demanded ["log", "disk", "gone"]) (G_demands : Okf P w K mg base CX0 2 "demands" ["log", "disk", "gone"] (spDemands Cl)) : Okf P w K mg base CX0 3 "demanded" ["log", "disk", "gone"] (spDemanded Cl) := by
  refine F.ok sc_demanded (fun vs H Q E h => ?_) (fun f0 cdv A outer s H vs Q E hr h => ?_)
  · obtain ⟨G, C, x, dk, L, f, g, rfl, _⟩ := h
    rfl
  · obtain ⟨G, C, x, dk, L, f, g, rfl, W0, A9, hdk, g0, kN, kS⟩ := h
    refine ⟨_, (pss_cons (ps_asg (pc G_demands hr (pa_cons (pv 0) (pa_cons (pv 1) (pa_cons (pv 2) pa_nil)))) (xtup (K := K) (n := 3) rfl (pgs_cons (pg_name (i := 3) sc_demanded.nd rfl (Or.inl rfl)) (pgs_cons (pg_name (i := 4) sc_demanded.nd rfl (Or.inl rfl)) (pgs_cons (pg_name (i := 5) sc_demanded.nd rfl (Or.inl rfl)) pgs_nil)))))
    (pss_one (ps_ret (pe_ifExp (pt_cmpR op_isN (pv 5) pe_non (nomark _)) (pe_callB (call_sortedDI rfl) (by rfl) T.b.sorted (by decide +kernel) (pa_cons (pv 3) pa_nil)) pe_non)))), ?_⟩
    have l60 := A9.rl
    refine tseq (tasg (tcall3 ⟨_, rfl, _, rfl, _, rfl, G, C, x, dk, L, f, g, rfl, W0, A9, hdk, g0, fun hd G' H' t a b c s w gt => ?_, fun S hd G' H' t a b kv s w gt ga hk => ?_⟩))
    · refine ⟨t, _, rfl, SqT.of (w.getG gt), rfl, gc3 ?_⟩
      exact tnx (tret ⟨_, rfl, rfl, _, rfl, iteF (kN hd G' H' s w)⟩)
    · refine ⟨t, _, rfl, SqT.of (w.getG gt), rfl, gc3 ?_⟩
      refine tnx (tret ⟨_, rfl, rfl, _, rfl, iteT ?_⟩)
      have lS := bd_len hd.2.2.1 fun v hv => (hd.2.1 v hv).2
      refine tcb1 ⟨_, rfl, a, kv, S, rfl, .inl (w.getG ga), hk, by omega, fun ys p hp hs np => ?_⟩
      have nd := hp.nodup_iff.mpr hd.2.2.1
      have hd2 : DemOk L f g (some ys) := ⟨fun rd hrd q hq => by
        have hrd' : rd ∈ endN L :: S := by
          rcases List.mem_cons.mp hrd with rfl | z
          · exact List.mem_cons_self
          · exact List.mem_cons_of_mem _ (hp.mem_iff.mp z)
        rcases hd.1 rd hrd' q hq with z | ⟨a, b⟩
        · exact .inl (hp.mem_iff.mpr z)
        · exact .inr ⟨a, okL_anti (fun w hw => hp.mem_iff.mp hw) b⟩, fun v hv => hd.2.1 v (hp.mem_iff.mp hv), nd, fun T hT v hv => hd.2.2.2 T hT v (hp.mem_iff.mp hv)⟩
      exact kS ys hd2 (pw_lt hs nd) G' _ p s (w.new np)
end
end Lw_dem

namespace Lw_least
open PySem PySem.Spec PyProof.Rows L2 Lr
def top (i : Nat) : Stmt := PySem.Challenge.pw_leastredo_k12_whole_least_redo_of_great.main.body.getD i (.Pass ⟨0, 0, 0, 0⟩)
abbrev s_least_redo : Stmt := top 30
abbrev N_least_redo : List Str := ["log", "disk", "gone", "held"]
theorem sc_least_redo : FnScope ["log", "disk", "gone", "held"] ["log", "disk", "gone"] (defScope s_least_redo) := ⟨rfl, rfl, rfl, by decide +kernel, rfl, by decide +kernel, by decide +kernel⟩
structure Txt (mg : Str → Option Value) : Prop where
  b : Bl mg
section
variable {P : Program} {w : World} {K : PySem.W.Frag} {mg : Str → Option Value} {base : Heap} {Cl BL BD BG : Addr}
theorem ok_least_redo {av : List V} (T : Txt mg) (F : FDD K mg "least_redo" s_least_redo ["log", "disk", "gone"] [.int 0] av) (G_need_log : Okf P w K mg base (L2.CX P w) 1 "need_log" ["log"] (spNeedLog Cl BL)) (G_need_disk : Okf P w K mg base (L2.CX P w) 4 "need_disk" ["log", "disk"] (spNeedDisk Cl BD))
    (Gd2_need_gone : Okd P w K mg base (L2.CX P w) 2 "need_gone" ["log", "gone", "most"] [.non] (spNeedGone Cl BG)) (G_demanded : Okf P w K mg base CX0 3 "demanded" ["log", "disk", "gone"] (spDemanded Cl)) : Okd P w K mg base (L2.CX P w) 5 "least_redo" ["log", "disk", "gone"] av (spLeast Cl) := by
  refine F.okX sc_least_redo (fun vs H Q E h => ?_) (fun f cdv A outer s H vs Q E hr h => ?_)
  · obtain ⟨G, C, x, L, es, vd, g, rfl, _⟩ := h
    rfl
  · obtain ⟨G, C, x, L, es, vd, g, rfl, W0, A9, rd, hf, g0, g1, kN, kS⟩ := h
    refine ⟨_, (pss_cons (ps_expr (pcx G_need_log hr (pa_cons (pv 0) pa_nil) (takes_of rfl rfl rfl rfl)))
    (pss_cons (ps_set (i := 3) sc_least_redo.nd rfl (Or.inl rfl) (pcx G_need_disk hr (pa_cons (pv 0) (pa_cons (pv 1) pa_nil)) (takes_of rfl rfl rfl rfl)))
    (pss_cons (ps_expr (pcxd Gd2_need_gone hr (pa_cons (pv 0) (pa_cons (pv 2) pa_nil)) (takes_of rfl rfl rfl rfl)))
    (pss_one (ps_ret (pc G_demanded hr (pa_cons (pv 0) (pa_cons (pv 3) (pa_cons (pv 2) pa_nil))))))))), ?_⟩
    refine tseq (tdrop (tcall1 ⟨_, rfl, ?_⟩))
    refine .inl ⟨G, x, L, rfl, A9, W0.sub, ?_⟩
    refine tnx (tseq (tcall2 ⟨_, rfl, _, rfl, G, x, L, .dict es, vd, rfl, A9, W0.sub, rd.at W0, (fun z => by rw [hf] at z; cases z), fun es' ee _ H1 p1 s1 np1 hp1 => ?_⟩))
    cases ee
    have W1 := W0.addC s1 np1 hp1
    have hb : betB (.int g) 0 (L.rows.length : Int) = true := decide_eq_true ⟨g0, g1⟩
    refine tnx (tseq (tdrop (tcall2d ⟨_, rfl, _, rfl, G, x, L, .int g, .int g, rfl, A9, W1.sub, Rep.tyd (.int g), (fun i e => by cases e; rfl), (fun z => by rw [hb] at z; cases z), fun _ => ?_⟩)))
    refine tnx (tret (tcall3 ⟨_, rfl, _, rfl, _, rfl, G, _, x, p1, L, dkOf es, g, rfl, W1, A9, .inr List.mem_cons_self, g0, fun hd G' H' s' w' => kN hd G' H' s' w'.drop, fun ys hd hy G' H' p s' w' => kS ys hd hy G' H' p s' w'.swap.drop⟩))
end
end Lw_least

namespace Lw_wrong
open PySem PySem.Spec PyProof.Rows L2 Lr
def top (i : Nat) : Stmt := PySem.Challenge.pw_leastredo_k12_whole_least_redo_of_great.main.body.getD i (.Pass ⟨0, 0, 0, 0⟩)
abbrev s_wrong_in : Stmt := top 34
abbrev N_wrong_in : List Str := ["log", "rows", "reader", "found", "pair", "needed"]
theorem sc_wrong_in : FnScope ["log", "rows", "reader", "found", "pair", "needed"] ["log", "rows"] (defScope s_wrong_in) := ⟨rfl, rfl, rfl, by decide +kernel, rfl, by decide +kernel, by decide +kernel⟩
abbrev s_first_wrong : Stmt := top 35
abbrev N_first_wrong : List Str := ["log", "disk", "numbers"]
theorem sc_first_wrong : FnScope ["log", "disk", "numbers"] ["log", "disk", "numbers"] (defScope s_first_wrong) := ⟨rfl, rfl, rfl, by decide +kernel, rfl, by decide +kernel, by decide +kernel⟩
structure Txt (K : PySem.W.Frag) (mg : Str → Option Value) (Cl : Addr) : Prop where
  b : Bl mg
  cl_Log : Cls K Cl
  nD : NoAttr K Cl "needs"
section
variable {P : Program} {w : World} {K : PySem.W.Frag} {mg : Str → Option Value} {base : Heap} {Cl : Addr}
theorem ok_wrong_in (T : Txt K mg Cl) (F : FD K mg "wrong_in" s_wrong_in ["log", "rows"]) : Okf P w K mg base CX0 1 "wrong_in" ["log", "rows"] (spWrongIn Cl) := by
  refine F.ok sc_wrong_in (fun vs H Q E h => ?_) (fun f0 cdv A outer s H vs Q E hr h => ?_)
  · obtain ⟨G, C, x, p, L, ds, us, rfl, _⟩ := h
    rfl
  · obtain ⟨G, C, x, p, L, ds, us, rfl, W0, A9, hp, rds, hds, k⟩ := h
    refine ⟨_, (pss_cons (ps_for PassesOwn.never rfl (pi_seq (K := K) (pv 1)) (xtup (K := K) (n := 2) rfl (pgs_cons (pg_name (i := 2) sc_wrong_in.nd rfl (Or.inl rfl)) (pgs_cons (pg_name (i := 3) sc_wrong_in.nd rfl (Or.inl rfl)) pgs_nil)))
    (pss_one (ps_for PassesOwn.never rfl (xzip (K := K) (by rfl) T.b.zip (pa_cons (pv 3) (pa_cons (pe_ix (xix (K := K)) (xfld (K := K) (pv 0) rfl) (pe_op op_sub (pv 2) pe_int) (fun _ _ => rfl)) pa_nil))) (xtup (K := K) (n := 2) rfl (pgs_cons (pg_name (i := 4) sc_wrong_in.nd rfl (Or.inl rfl)) (pgs_cons (pg_name (i := 5) sc_wrong_in.nd rfl (Or.inl rfl)) pgs_nil)))
    (pss_one (ps_if (pt_cmpR (op_neA (K := K) hr.units) (pv 4) (pv 5) (nomark _))
    (pss_one (ps_ret (pe_tup (pa_cons (pv 2) (pa_cons (pe_ix (xix (K := K)) (pv 4) pe_int (fun _ _ => rfl)) pa_nil)))))
    pss_nil)))))
    (pss_one (ps_ret pe_non))), ?_⟩
    obtain ⟨dx, an, ar, aw, ad, rvs, nvs, fa, h1, h2, h3, h4, h5, h6, h7, h8⟩ := A9.ex
    have rp : ∀ r ∈ L.rows, ∀ n ∈ r.1, n ∈ L.names := fun r hr => (A9.rok r hr).2.1
    refine tseq ?_
    refine for_seq (xs := us) (k := true) (fun R r => ⟨_, rfl, r⟩) (SqK.lst (hp.at W0)) (fun i σ H' => ∃ (G' : Hp) (y2 y3 y4 y5 : Option V), Same G G' ∧ WF G' C H' ∧ σ = [some (.ref x), some (.ref p), y2, y3, y4, y5]) ⟨G, _, _, _, _, Same.refl _, W0, rfl⟩ (fun i σ H' _ ⟨G', _, _, _, _, s, w, _⟩ => SqK.lst ((hp.mono s).at w)) ?_ ?_
    · rintro i v σ H' hv ⟨G', y2, y3, y4, y5, s, w, rfl⟩
      obtain ⟨d, hd, rd0⟩ := rds.get hv
      obtain ⟨rd, k1, k2, rfl⟩ := hds d (List.mem_of_getElem? hd)
      obtain ⟨a, b, ws, rfl, ga, gb, rws⟩ := row_at rd0
      obtain ⟨nv, hnv⟩ : ∃ nv, nvs[rd.toNat - 1]? = some nv := by
        have := h8.length
        have hnl : L.needs.length = L.rows.length + 1 := by
          unfold LogM.needs
          rw [List.length_append, List.length_map, List.length_range]
          rfl
        exact ⟨_, List.getElem?_eq_getElem (show rd.toNat - 1 < nvs.length by omega)⟩
      obtain ⟨nd0, hnd, rnd⟩ := h8.get hnv
      rw [needs_rd k1 k2] at hnd
      cases hnd
      cases rnd with
      | tup gn rn =>
        rename_i na nws
        have ln := rn.length
        have lw := rws.length
        refine ⟨a, _, rfl, SqT.of (w.getG (s _ _ ga)), rfl, gc2 ?_⟩
        refine for_zip (K := K) (a := b) (b := na) (xs := ws) (ys := nws) (k := false) (fun R r => ⟨_, rfl, _, rfl, x, Cl, dx, _, _, rfl, w.getG (s _ _ h1), T.cl_Log, T.nD, lk_needs _ _ _ _ _, _, rfl, _, _, rfl, rfl, rIx.lst (w.getG (s _ _ h7)) (by rw [show rd - 1 = ((rd.toNat - 1 : Nat) : Int) by omega]; exact atI_nat hnv) r⟩) (by omega) (SqK.tup (w.getG (s _ _ gb))) (SqK.tup (w.getG (s _ _ gn))) (fun j σ H' => ∃ (G2 : Hp) (y4 y5 : Option V), Same G G2 ∧ WF G2 C H' ∧ σ = [some (.ref x), some (.ref p), some (.int rd), some (.ref b), y4, y5]) ⟨G', _, _, s, w, rfl⟩ (fun j σ' H' _ ⟨G2, _, _, s2, w2, _⟩ => ⟨SqK.tup (w2.getG (s2 _ _ gb)), SqK.tup (w2.getG (s2 _ _ gn))⟩) ?_ ?_
        · rintro j v1 v2 Tz σ H6 hv1 hv2 ⟨G2, y4, y5, s2, w2, rfl⟩ nT
          obtain ⟨d1, hd1, r1⟩ := rws.get hv1
          obtain ⟨d2, hd2, r2⟩ := rn.get hv2
          rw [List.getElem?_map] at hd1 hd2
          obtain ⟨q, hq, rfl⟩ := Option.map_eq_some_iff.mp hd1
          rw [hq] at hd2
          cases hd2
          have hmem : q.1 ∈ L.names := needs_pages rp rd q (List.mem_of_getElem? hq)
          have w3 := w2.newG (o := .tup [v1, v2]) nT
          have s3 := s2.trans (w2.leG (o := .tup [v1, v2]) nT)
          refine ⟨Tz, _, rfl, SqT.of upd_same, rfl, gc2 ?_⟩
          have e1 := (r1.mono (s3.trans w3.sub)).dp (K := K) (pv_plain q)
          have e2 := (r2.mono (s3.trans w3.sub)).dp (K := K) (pv_plain q)
          refine ⟨_, rfl, _, rfl, rNeA.dat e1 e2 (pv_shaped (A9.nb _ hmem)) (pv_shaped (A9.nb _ hmem)) ⟨_, rfl, ?_⟩⟩
          rw [eqv_self]
          exact iteF ⟨_, _, _, s3, w3, rfl⟩
        · rintro σ H6 ⟨G2, y4, y5, s2, w2, rfl⟩
          exact ⟨G2, _, _, _, _, s2, w2, rfl⟩
    · rintro σ H' ⟨G', y2, y3, y4, y5, s, w, rfl⟩
      exact k G' H' s w
theorem ok_first_wrong (T : Txt K mg Cl) (F : FD K mg "first_wrong" s_first_wrong ["log", "disk", "numbers"]) (G_finds : Okf P w K mg base (L2.CX P w) 5 "finds" ["log", "disk", "numbers"] (spFinds Cl)) (G_wrong_in : Okf P w K mg base CX0 1 "wrong_in" ["log", "rows"] (spWrongIn Cl)) : Okf P w K mg base (L2.CX P w) 6 "first_wrong" ["log", "disk", "numbers"] (spFirstWrong Cl) := by
  refine F.okX sc_first_wrong (fun vs H Q E h => ?_) (fun f0 cdv A outer s H vs Q E hr h => ?_)
  · obtain ⟨G, C, x, L, es, dn, vd, vn, ks, rfl, _⟩ := h
    rfl
  · obtain ⟨G, C, x, L, es, dn, vd, vn, ks, rfl, W0, A9, rd, rn, hf, ln, hn, lo, hc, k⟩ := h
    refine ⟨_, (pss_one (ps_ret (pc G_wrong_in hr (pa_cons (pv 0) (pa_cons (pcx G_finds hr (pa_cons (pv 0) (pa_cons (pv 1) (pa_cons (pv 2) pa_nil))) (takes_of rfl rfl rfl rfl)) pa_nil))))), ?_⟩
    refine tret (tcall2 ⟨_, rfl, tcall3 ⟨_, rfl, _, rfl, _, rfl, G, C, x, L, es, dn, vd, vn, ks, rfl, W0, A9, rd, rn, hf, ln, hn, fun G' H' p us s' w' r' => ?_⟩⟩)
    refine ⟨G', _, x, p, L, _, us, rfl, w', A9.mono s', .inr List.mem_cons_self, r', fun d hd => ?_, fun G2 H2 s2 w2 => k G2 H2 (s'.trans s2) w2.drop⟩
    obtain ⟨r, hr, e⟩ := clean_rows lo hc d hd
    have := endS_lot lo r hr
    exact ⟨r, this.1, this.2, e⟩
end
end Lw_wrong

namespace Lw_small
open PySem PySem.Spec PyProof.Rows L2 Lr
def top (i : Nat) : Stmt := PySem.Challenge.pw_leastredo_k12_whole_least_redo_of_great.main.body.getD i (.Pass ⟨0, 0, 0, 0⟩)
abbrev s_turned : Stmt := top 45
abbrev N_turned : List Str := ["stream", "given"]
theorem sc_turned : FnScope ["stream", "given"] ["stream", "given"] (defScope s_turned) := ⟨rfl, rfl, rfl, by decide +kernel, rfl, by decide +kernel, by decide +kernel⟩
abbrev s_gone : Stmt := top 55
abbrev N_gone : List Str := ["stream", "log"]
theorem sc_gone : FnScope ["stream", "log"] ["stream", "log"] (defScope s_gone) := ⟨rfl, rfl, rfl, by decide +kernel, rfl, by decide +kernel, by decide +kernel⟩
abbrev s_ais_clean : Stmt := top 60
abbrev N_ais_clean : List Str := ["log", "needs", "disk", "numbers", "reader", "found"]
theorem sc_ais_clean : FnScope ["log", "needs", "disk", "numbers", "reader", "found"] ["log", "needs", "disk", "numbers"] (defScope s_ais_clean) := ⟨rfl, rfl, rfl, by decide +kernel, rfl, by decide +kernel, by decide +kernel⟩
structure Txt (mg : Str → Option Value) : Prop where
  b : Bl mg
section
variable {P : Program} {w : World} {K : PySem.W.Frag} {mg : Str → Option Value} {base : Heap}
theorem ok_turned (T : Txt mg) (F : FD K mg "_law_turned" s_turned ["stream", "given"]) (G_mixed : Okf P w K mg base CX0 2 "_law_mixed" ["stream", "some"] spMixed) : Okf P w K mg base CX0 3 "_law_turned" ["stream", "given"] spTurned := by
  refine F.ok sc_turned (fun vs H Q E h => ?_) (fun f0 cdv A outer s H vs Q E hr h => ?_)
  · obtain ⟨G, st, cs, n, C, a, ns, f, rfl, _⟩ := h
    rfl
  · obtain ⟨G, st, cs, n, C, a, ns, f, rfl, ga, nd, ln, n40, W0, k⟩ := h
    refine ⟨_, (pss_one (ps_ret (pe_callTy (call_dictP rfl) (by rfl) T.b.dict (by decide +kernel) (pa_cons (pc G_mixed hr (pa_cons (pv 0) (pa_cons (LiI.pe_listItems rfl (pv 1) (by rfl) T.b.list (by decide +kernel)) pa_nil))) pa_nil)))), ?_⟩
    refine tret (tcb1 (tcall2 ⟨_, rfl, _, rfl, a, _, rfl, W0.getG ga, fun H1 l ts s1 nl nts _ hl pr => ?_⟩))
    obtain ⟨G1, sg, W1, gl, pr1⟩ := W0.itemsG s1 nl nts hl pr
    have lt := pr1.length
    unfold dkL at lt
    rw [List.length_map] at lt
    refine ⟨G1, st, cs, n, C, l, ts.map V.ref, rfl, by rw [List.length_map]; omega, by rw [List.length_map]; omega, W1, .gl gl, fun ys p H2 hpm np W2 => ?_⟩
    obtain ⟨us, hu, rfl⟩ := perm_refs hpm
    have pr2 : Paired (fun (t : Addr) (m : Str) => G1 t = some (.tup [.str m, vD (f m)])) ts ns := by
      have : ∀ {l1 : List Addr} {l2 : List Str}, Paired (fun (t : Addr) (q : Key × V) => G1 t = some (.tup [kV q.1, q.2])) l1 (dkL l2 f) → Paired (fun (t : Addr) (m : Str) => G1 t = some (.tup [.str m, vD (f m)])) l1 l2 := by
        intro l1 l2
        induction l2 generalizing l1 with
        | nil =>
          intro h
          cases h
          exact .nil
        | cons m r ih =>
          intro h
          cases h with
          | cons h t => exact .cons h (ih t)
      exact this pr1
    obtain ⟨ms, hm, pr3⟩ := paired_perm hu pr2
    have pm : ∀ {l1 : List Addr} {l2 : List Str}, Paired (fun (t : Addr) (m : Str) => G1 t = some (.tup [.str m, vD (f m)])) l1 l2 → Paired (fun p kv => SqT K H2 p [kV kv.1, kv.2]) l1 (dkL l2 f) := by
      intro l1 l2 h
      induction h with
      | nil => exact .nil
      | cons h t ih => exact .cons (SqT.of (W2.getG h)) ih
    have ndm := hm.nodup_iff.mpr nd
    refine ⟨p, us, dkL ms f, rfl, SqL.of W2.hd, pm pr3, fun d nd2 => ?_⟩
    rw [show mergeK [] (dkL ms f) = dkL ms f from by rw [merge_new (dkL ms f) [] (nodup_inr ndm fun m => vD (f m)) (fun q hq z => by cases z), List.nil_append]]
    rw [List.length_map] at W2
    exact k ms d G1 _ hm sg ((W2.drop.new nd2).mono (by omega))
theorem ok_gone (T : Txt mg) (F : FD K mg "_law_gone" s_gone ["stream", "log"]) (G_below : Okf P w K mg base CX0 1 "_law_below" ["stream", "many"] spBelow) (G_chance : Okf P w K mg base CX0 2 "_law_chance" ["stream", "many"] spChance) : Okf P w K mg base CX0 3 "_law_gone" ["stream", "log"] spGone := by
  refine F.ok sc_gone (fun vs H Q E h => ?_) (fun f0 cdv A outer s H vs Q E hr h => ?_)
  · obtain ⟨G, st, cs, n, C, a, L, rfl, _⟩ := h
    rfl
  · obtain ⟨G, st, cs, n, C, a, L, rfl, V0, n40, W0, k⟩ := h
    refine ⟨_, (pss_one (ps_ret (pe_ifExp (pt_val (pc G_chance hr (pa_cons (pv 0) (pa_cons pe_int pa_nil)))) (pc G_below hr (pa_cons (pv 0) (pa_cons (pe_op (op_addA (K := K)) (pe_callB (call_lenA (K := K)) (by rfl) T.b.len (by decide +kernel) (pa_cons (pe_ix (xix (K := K)) (pv 1) pe_int (fun _ _ => rfl)) pa_nil)) pe_int) pa_nil))) pe_int))), ?_⟩
    obtain ⟨pn, pr, rvs, h1, h2, h3, h4⟩ := V0.ex
    have lr := h4.length
    rw [List.length_map] at lr
    have l60 := V0.rl
    refine tret ⟨_, rfl, G, st, cs, n, C, 3, rfl, by decide, by decide, by omega, W0, fun b H1 W1 => ⟨b, rfl, ite2 (fun h => ?_) (fun h => ?_)⟩⟩
    · refine ⟨_, rfl, _, rfl, rIx.lst (W1.getG h1) (atI_nat (j := 1) rfl) (rLenA.v (n := L.rows.length) (.inl ⟨_, SqL.of (W1.getG h3), lr⟩) (rAddA.int ⟨G, st, cs, _, C, (L.rows.length : Int) + 1, rfl, by omega, by omega, by omega, W1, fun d H2 hd W2 => ?_⟩))⟩
      exact k d H2 (by omega) W2
    · exact k 0 H1 (Nat.zero_le _) (W1.mono (by omega))
theorem ok_ais_clean (T : Txt mg) (F : FD K mg "_law_ais_clean" s_ais_clean ["log", "needs", "disk", "numbers"]) (G_replay : Okf P w K mg base CX0 1 "_law_replay" ["log", "needs", "disk", "numbers"] spReplay) : Okf P w K mg base CX0 2 "_law_ais_clean" ["log", "needs", "disk", "numbers"] spAisClean := by
  refine F.ok sc_ais_clean (fun vs H Q E h => ?_) (fun f0 cdv A outer s H vs Q E hr h => ?_)
  · obtain ⟨G, C, a, nd, dk, b, L, nus, kvs, f, ks, rfl, _⟩ := h
    rfl
  · obtain ⟨G, C, a, nd, dk, b, L, nus, kvs, f, ks, rfl, W0, V0, gnd, rnd, hdk, hkv, hb, lo, lks, hc, k⟩ := h
    refine ⟨_, (pss_one (ps_ret (pe_callB (cr_allA (K := K) rfl) (by rfl) T.b.all (by decide +kernel) (pa_cons (pe_lc (own := [("reader", 4), ("found", 5)]) (tt := tYes) rfl sc_ais_clean.nd (pi_seq (K := K) (pe_ix (xix (K := K)) (pc G_replay hr (pa_cons (pv 0) (pa_cons (pv 1) (pa_cons (pv 2) (pa_cons (pv 3) pa_nil))))) pe_int (fun _ _ => rfl))) (blkOk_by (N := N_ais_clean) (sc := defScope s_ais_clean) (by decide +kernel)) (fun _ _ _ _ _ => (xtup (K := K) (n := 2) rfl (pgs_cons (pg_name (i := 4) sc_ais_clean.nd rfl (Or.inl rfl)) (pgs_cons (pg_name (i := 5) sc_ais_clean.nd rfl (Or.inl rfl)) pgs_nil)))) (fun _ _ _ _ _ => pts_nil) (fun _ _ _ _ _ => (pe_cmpR (op_eqA (K := K) hr.units) (pe_callTy (call_listA (K := K) rfl) (by rfl) T.b.list (by decide +kernel) (pa_cons (pv 5) pa_nil)) (pe_ix (xix (K := K)) (pv 1) (pe_op op_sub (pv 4) pe_int) (fun _ _ => rfl)) (nomark _)))) pa_nil)))), ?_⟩
    have rp : ∀ r ∈ L.rows, ∀ n ∈ r.1, n ∈ L.names := fun r hr => (V0.rok r hr).2.1
    refine tret (tcb1 ?_)
    refine .inl (top_ (tcall4 ⟨_, rfl, _, rfl, _, rfl, _, rfl, G, C, a, nd, dk, b, L, nus, kvs, f, ks, rfl, W0, V0, gnd, rnd, hdk, hkv, hb, lo.bd, lks, fun G1 H1 t rw st us s1 W1 gt grw rus => ?_⟩))
    refine rIx.tup (W1.getG gt) (atI_nat (j := 0) rfl) ⟨rw, rfl, ⟨_, SqL.of (W1.getG grw)⟩, fun D nD => ?_⟩
    have V1 := V0.mono s1
    have gnd1 := s1 _ _ gnd
    have rnd1 := rnd.mono s1
    have lus := rus.length
    refine lc_list (K := K) (a := rw) (xs := us) (fun j H2 => ∃ G2, Same G1 G2 ∧ WF G2 ((D, .lst (List.replicate j (.bl true))) :: C) H2) ⟨G1, Same.refl _, W1.new nD⟩ (fun j H2 _ ⟨G2, s2, w2⟩ => SqL.of (w2.getG (s2 _ _ grw))) ?_ ?_
    · rintro j v H2 hv ⟨G2, s2, w2⟩
      have hj := (List.getElem?_eq_some_iff.mp hv).1
      obtain ⟨d, hd, rd0⟩ := rus.get hv
      obtain ⟨rd, hrd, rfl⟩ := clean_rows lo hc d (List.mem_of_getElem? hd)
      obtain ⟨k1, k2⟩ := endS_lot lo rd hrd
      obtain ⟨ta, tb, ws, rfl, gta, gtb, rws⟩ := row_at (rd0.mono s2)
      refine ⟨ta, _, rfl, SqT.of (w2.getG gta), rfl, gc2 ⟨rfl, ?_⟩⟩
      refine ⟨_, rfl, rListA.sq (.inr (SqT.of (w2.getG gtb))) fun l nl => ?_⟩
      have w3 := w2.newG (o := .lst ws) nl
      have s3 := w2.leG (o := .lst ws) nl
      obtain ⟨nv, hnv, rnv⟩ := lns_get (i := rd.toNat - 1) (rnd1.mono (s2.trans s3)) (by omega)
      have e4 : ((rd.toNat - 1 + 1 : Nat) : Int) = rd := by omega
      unfold lnD at rnv
      rw [e4, needs_foundL] at rnv
      have r1 : Rep (upd G2 l (.lst ws)) (.list ((needsP L rd).map pvD)) (.ref l) := .lst upd_same (rws.mono s3)
      rw [needs_foundL] at r1
      have lr12 : (readsAt L rd).length ≤ 100000 := by
        have h1 := (rws.length)
        have h2 : (needsP L rd).length ≤ 12 := needs_len V0.nn.2 fun r hr => by
          obtain ⟨_, o2, _, o4, _⟩ := V0.rok r hr
          have := nodup_len o4 o2
          have := V0.nn.2
          omega
        unfold needsP at h2
        rw [List.length_map] at h2
        omega
      have nb : ∀ n ∈ readsAt L rd, nameB n = true := fun n hn => V0.nb n (reads_in rp n hn)
      have e1 := (r1.mono w3.sub).dp (K := K) (foundL_plain _ _ lr12)
      have e2 := (rnv.mono w3.sub).dp (K := K) (foundL_plain _ _ lr12)
      refine ⟨_, rfl, _, rfl, _, _, rfl, rfl, rIx.lst (w3.getG ((s2.trans s3) _ _ gnd1)) (by rw [show rd - 1 = ((rd.toNat - 1 : Nat) : Int) by omega]; exact atI_nat hnv) (rEqA.dat e1 e2 (foundL_shaped nb _) (foundL_shaped nb _) ?_)⟩
      rw [eqv_foundL, decide_eq_true (fun n _ => rfl)]
      refine ⟨_, w3.hd, sz_lt ?_, _, s2.trans s3, ?_⟩
      · rw [List.length_replicate]
        have hw : (walkD L ks f).length = ks.length + 1 := by
          have : ∀ (ks : List Int) (f : Str → Option Int), (walkL L ks f).1.length = ks.length := fun ks => by
            induction ks with
            | nil => exact fun _ => rfl
            | cons k r ih =>
              intro f
              show (walkL L r _).1.length + 1 = _
              rw [ih]
              rfl
          unfold walkD
          rw [List.length_append, this]
          rfl
        omega
      · rw [List.replicate_succ']
        exact w3.set
    · rintro H2 ⟨G2, s2, w2⟩
      exact cr_all1 w2.hd (k G2 H2 (s1.trans s2) w2.drop)
end
end Lw_small

namespace Lw_lrnd
open PySem PySem.Spec PyProof.Rows L2 Lr
def top (i : Nat) : Stmt := PySem.Challenge.pw_leastredo_k12_whole_least_redo_of_great.main.body.getD i (.Pass ⟨0, 0, 0, 0⟩)
abbrev s_rounds : Stmt := top 56
abbrev N_rounds : List Str := ["log", "disk", "gone", "needs", "readers", "rounds", "seen", "least", "turn", "news", "reader", "page", "version", "number"]
theorem sc_rounds : FnScope ["log", "disk", "gone", "needs", "readers", "rounds", "seen", "least", "turn", "news", "reader", "page", "version", "number"] ["log", "disk", "gone"] (defScope s_rounds) := ⟨rfl, rfl, rfl, by decide +kernel, rfl, by decide +kernel, by decide +kernel⟩
abbrev s_law_demands : Stmt := top 57
abbrev N_law_demands : List Str := ["log", "disk", "gone", "rounds", "found", "numbers"]
theorem sc_law_demands : FnScope ["log", "disk", "gone", "rounds", "found", "numbers"] ["log", "disk", "gone"] (defScope s_law_demands) := ⟨rfl, rfl, rfl, by decide +kernel, rfl, by decide +kernel, by decide +kernel⟩
structure Txt (mg : Str → Option Value) : Prop where
  b : Bl mg
section
variable {P : Program} {w : World} {K : PySem.W.Frag} {mg : Str → Option Value} {base : Heap}
theorem ok_rounds (T : Txt mg) (F : FD K mg "_law_rounds" s_rounds ["log", "disk", "gone"]) (G_needs : Okf P w K mg base CX0 1 "_law_needs" ["log"] spNeeds) : Okf P w K mg base CX0 2 "_law_rounds" ["log", "disk", "gone"] spRounds := by
  refine F.ok sc_rounds (fun vs H Q E h => ?_) (fun f0 cdv A outer s H vs Q E hr h => ?_)
  · obtain ⟨G, C, a, dk, L, f, g, rfl, _⟩ := h
    rfl
  · obtain ⟨G, C, a, dk, L, f, g, rfl, W0, V0, hdk, g0, kN, kS⟩ := h
    have hu := hu_of hr
    refine ⟨_, (pss_cons (ps_set (i := 3) sc_rounds.nd rfl (Or.inl rfl) (pc G_needs hr (pa_cons (pv 0) pa_nil)))
    (pss_cons (ps_par3 (i := 4) (j := 5) (l := 6) (by rfl) sc_rounds.nd rfl rfl rfl (by decide) (by decide) (by decide) rfl rfl rfl (pa_cons (pe_lst (pa_cons (pe_op (op_addA (K := K)) (pe_callB (call_lenA (K := K)) (by rfl) T.b.len (by decide +kernel) (pa_cons (pe_ix (xix (K := K)) (pv 0) pe_int (fun _ _ => rfl)) pa_nil)) pe_int) pa_nil)) (pa_cons (pe_lst pa_nil) (pa_cons pe_dnewK pa_nil))) (by rfl))
    (pss_cons (ps_set (i := 7) sc_rounds.nd rfl (Or.inl rfl) (pe_callTy (call_dictP rfl) (by rfl) T.b.dict (by decide +kernel) (pa_cons (pe_lc (own := [("page", 11)]) (g := gName 11) (tt := tYes) rfl sc_rounds.nd (pi_seq (K := K) (pe_ix (xix (K := K)) (pv 0) pe_int (fun _ _ => rfl))) (blkOk_by (N := N_rounds) (sc := defScope s_rounds) (by decide +kernel)) (fun _ _ _ _ _ => (pg_name (i := 11) sc_rounds.nd rfl (Or.inl rfl))) (fun _ _ _ _ _ => pts_nil) (fun _ _ _ _ _ => (pe_tup (pa_cons (pv 11) (pa_cons pe_int pa_nil))))) pa_nil)))
    (pss_cons (ps_for PassesOwn.never rfl (pi_range1 rfl T.b.range (pa_cons (pe_op (op_addA (K := K)) (pe_callB (call_lenA (K := K)) (by rfl) T.b.len (by decide +kernel) (pa_cons (pe_ix (xix (K := K)) (pv 0) pe_int (fun _ _ => rfl)) pa_nil)) pe_int) pa_nil)) (pg_name (i := 8) sc_rounds.nd rfl (Or.inl rfl))
    (pss_cons (ps_set (i := 9) sc_rounds.nd rfl (Or.inl rfl) (pe_lst pa_nil))
    (pss_cons (ps_for PassesOwn.never rfl (pi_seq (K := K) (pv 4)) (pg_name (i := 10) sc_rounds.nd rfl (Or.inl rfl))
    (pss_one (ps_for PassesOwn.never rfl (pi_seq (K := K) (pe_ix (xix (K := K)) (pv 3) (pe_op op_sub (pv 10) pe_int) (fun _ _ => rfl))) (xtup (K := K) (n := 2) rfl (pgs_cons (pg_name (i := 11) sc_rounds.nd rfl (Or.inl rfl)) (pgs_cons (pg_name (i := 12) sc_rounds.nd rfl (Or.inl rfl)) pgs_nil)))
    (pss_cons (ps_if (PW.pt (pw_or (pt_cmp (pc_din hu (pv 12) (pv 6))) (pw_or1 (PW.pt (pw_and (pt_cmpR (op_eqA (K := K) hr.units) (pe_dget hu (pv 1) (pv 11) (fun _ _ => rfl)) (pv 12) (nomark _)) (pw_and1 (pt_cmpR op_ge (pe_dget hu (pv 7) (pv 11) (fun _ _ => rfl)) (pv 12) (nomark _))))))))
    (pss_one ps_continue)
    pss_nil)
    (pss_cons (ps_if (pt_cmpR op_le (pv 12) (pv 2) (nomark _))
    (pss_one (ps_ret pe_non))
    pss_nil)
    (pss_cons (ps_dput hu (pv 6) (pv 12) (pv 8) rfl)
    (pss_one (ps_expr (xbm (K := K) PySem.F.plainAttrs_list PySem.F.slot_list_append PySem.F.type_list_append mt_append (pv 9) (pa_cons (pv 12) pa_nil))))))))))
    (pss_cons (ps_if (pt_cmpR (op_eqA (K := K) hr.units) (pv 9) (pe_lst pa_nil) (nomark _))
    (pss_one ps_break)
    pss_nil)
    (pss_cons (ps_for PassesOwn.never rfl (pi_seq (K := K) (pv 9)) (pg_name (i := 13) sc_rounds.nd rfl (Or.inl rfl))
    (pss_one (ps_for PassesOwn.never rfl (pi_seq (K := K) (pe_ix (xix (K := K)) (pe_ix (xix (K := K)) (pe_ix (xix (K := K)) (pv 0) pe_int (fun _ _ => rfl)) (pe_op op_sub (pv 13) pe_int) (fun _ _ => rfl)) pe_int (fun _ _ => rfl))) (pg_name (i := 11) sc_rounds.nd rfl (Or.inl rfl))
    (pss_one (ps_dput hu (pv 7) (pv 11) (pe_callB (call_min2 rfl) (by rfl) T.b.min (by decide +kernel) (pa_cons (pe_dget hu (pv 7) (pv 11) (fun _ _ => rfl)) (pa_cons (pv 13) pa_nil))) rfl)))))
    (pss_cons (ps_set (i := 4) sc_rounds.nd rfl (Or.inl rfl) (pe_op (op_addA (K := K)) (pv 4) (pv 9)))
    (pss_one (ps_expr (xbm (K := K) PySem.F.plainAttrs_list PySem.F.slot_list_append PySem.F.type_list_append mt_append (pv 5) (pa_cons (pe_callB cr_sorted (by rfl) T.b.sorted (by decide +kernel) (pa_cons (pv 9) pa_nil)) pa_nil))))))))))
    (pss_one (ps_ret (pv 5))))))), ?_⟩
    have l60 := V0.rl
    have n12 := V0.nn.2
    have rp : ∀ r ∈ L.rows, ∀ n ∈ r.1, n ∈ L.names := fun r hr => (V0.rok r hr).2.1
    have r12 : ∀ rd, (needsP L rd).length ≤ 12 := fun rd => needs_len n12 fun r hr => by
      obtain ⟨_, o2, _, o4, _⟩ := V0.rok r hr
      have := nodup_len o4 o2
      omega
    refine tseq (tcall1 ⟨_, rfl, G, C, a, L, rfl, W0, V0, fun nd G1 H1 nus s1 W1 gnd rnd => ?_⟩)
    have V1 := V0.mono s1
    obtain ⟨pn, pr, rvs, h1, h2, h3, h4⟩ := V1.ex
    have lr := h4.length
    rw [List.length_map] at lr
    refine tnx (tseq ?_)
    refine ⟨_, rfl, rIx.lst (W1.getG h1) (atI_nat (j := 1) rfl) (rLenA.v (n := L.rows.length) (.inl ⟨_, SqL.of (W1.getG h3), lr⟩) (rAddA.int ⟨by show 1 ≤ sizeLine; decide, fun rl nrl => ⟨Nat.zero_le _, fun rd nrd => fun sn nsn => ⟨_, _, _, rfl, ?_⟩⟩⟩))⟩
    have W2 := W1.new (o := .lst [.int (endN L)]) nrl
    have W3 := W2.new (o := .lst []) nrd
    have W5 := W3.new (o := .dK []) nsn
    have s5 := Same.refl G1
    refine tnx (tseq (dict_lc (K := K) (a := pn) (kd := true) W5 V1.nd (by omega) (fun n => .int 99) (fun R r => ⟨_, rfl, rIx.lst (W5.getG (s5 _ _ h1)) (atI_nat (j := 0) rfl) r⟩) (fun C' G' H' s w => SqK.lst (w.getG (s _ _ (s5 _ _ h2)))) (fun _ => rfl) (fun _ => rfl) (fun n hn C' G' H' R s w r => r) fun G6 H6 ls s6 W6 => ?_))
    have W6 : WF G6 ((ls, .dK (dkL L.names fun n => some 99)) :: (sn, .dK []) :: (rd, .lst []) :: (rl, .lst [.int (endN L)]) :: C) H6 := W6
    have s16 := s5.trans s6
    have h1' := s16 _ _ h1
    have h3' := s16 _ _ h3
    have h4' := h4.mono s16
    have gnd' := s16 _ _ gnd
    have rnd' := rnd.mono s16
    have hdk' := hdk.mono (s1.trans s16)
    have s06 := s1.trans s16
    clear W1 W2 W3 W5 gnd rnd h1 h2 h3 h4 s5 s6 nrl nrd nsn
    refine tnx (tseq ?_)
    refine ⟨_, rfl, rIx.lst (W6.getG h1') (atI_nat (j := 1) rfl) (rLenA.v (n := L.rows.length) (.inl ⟨_, SqL.of (W6.getG h3'), lr⟩) (rAddA.int ⟨(L.rows.length : Int) + 1, rfl, by omega, by omega, ?_⟩))⟩
    refine for_range (n := ((L.rows.length : Int) + 1).toNat) (fun i σ H' => ∃ (G' : Hp) (S : List Int) (lv : Str → Int) (skv : List (Key × V)) (rs : List (List Int)) (rus : List V) (rl : Addr) (y8 y9 y10 y11 y12 y13 : Option V), i ≤ S.length ∧ Same G6 G' ∧ WF G' ((rl, .lst ((endN L :: S).map V.int)) :: (ls, .dK (dkL L.names fun n => some (lv n))) :: (sn, .dK skv) :: (rd, .lst rus) :: C) H' ∧ DemS L f g S ∧ lvOk L S lv ∧ skv.map Prod.fst = S.map Sum.inl ∧ S.Perm rs.flatten ∧ Reps G' (rs.map fun r => PyData.list (r.map .int)) rus ∧ rs.length = i ∧
      σ = [some (.ref a), some (.ref dk), some (.int g), some (.ref nd), some (.ref rl), some (.ref rd), some (.ref sn), some (.ref ls), y8, y9, y10, y11, y12, y13]) ⟨G6, [], fun _ => 99, [], [], [], rl, _, _, _, _, _, _, Nat.le_refl _, Same.refl _, ?_, DemS.nil L f g, lv_nil (by omega), rfl, List.Perm.refl _, .nil, rfl, rfl⟩ ?_ ?_
    · exact W6.perm ((List.Perm.cons _ ((List.Perm.cons _ (List.Perm.swap _ _ _)).trans (List.Perm.swap _ _ _))).trans (List.Perm.swap _ _ _))
    · rintro i σ H7 hi ⟨G7, S, lv, skv, rs, rus, rl, y8, y9, y10, y11, y12, y13, hiS, s7, W7, dS, hlv, hsk, hrs, rrs, lrs, rfl⟩
      have lS := bd_len dS.nd fun v hv => (dS.bd v hv).2
      have sg7 := s06.trans s7
      have h1 := s7 _ _ h1'
      have h3 := s7 _ _ h3'
      have h4 := h4'.mono s7
      have gnd := s7 _ _ gnd'
      have rnd := rnd'.mono s7
      have hdk := hdk'.mono s7
      obtain ⟨tn, etn⟩ : ∃ tn : Int, tn = (0 : Int) + ((i : Nat) : Int) := ⟨_, rfl⟩
      rw [← etn]
      refine tseq ⟨Nat.zero_le _, fun nw nnw => ?_⟩
      have W8 := W7.new (o := .lst []) nnw
      refine tnx (tseq ?_)
      refine for_seq (xs := (endN L :: S).map V.int) (k := true) (fun R r => ⟨_, rfl, r⟩) (SqK.lst W8.swap.hd) (fun i2 σ H' => ∃ (nl : List Int) (skv2 : List (Key × V)) (y10 y11 y12 : Option V), WF G7 ((nw, .lst (nl.map V.int)) :: (rl, .lst ((endN L :: S).map V.int)) :: (ls, .dK (dkL L.names fun n => some (lv n))) :: (sn, .dK skv2) :: (rd, .lst rus) :: C) H' ∧ skv2.map Prod.fst = (S ++ nl).map Sum.inl ∧ ((endN L :: S).take i2).foldl (rdR L f S g) (some []) = some nl ∧ nl.length ≤ 12 * i2 ∧
        σ = [some (.ref a), some (.ref dk), some (.int g), some (.ref nd), some (.ref rl), some (.ref rd), some (.ref sn), some (.ref ls), some (.int tn), some (.ref nw), y10, y11, y12, y13]) ⟨[], skv, _, _, _, W8, by rw [List.append_nil]; exact hsk, rfl, Nat.le_refl _, rfl⟩ (fun i2 σ H' _ ⟨_, _, _, _, _, w, _⟩ => SqK.lst w.swap.hd) ?_ ?_
      · rintro i2 v σ H8 hv ⟨nl, skv2, y10, y11, y12, w8, hsk2, enl, lnl, rfl⟩
        obtain ⟨re, hre, rfl⟩ := map_get hv
        have hi2 := (List.getElem?_eq_some_iff.mp hre).1
        rw [List.length_cons] at hi2
        obtain ⟨k1, k2⟩ := endS_bd dS re (List.mem_of_getElem? hre)
        obtain ⟨nv, hnv, rnv⟩ := lns_get (i := re.toNat - 1) rnd (by omega)
        have e4 : ((re.toNat - 1 + 1 : Nat) : Int) = re := by omega
        unfold lnD at rnv
        rw [e4] at rnv
        cases rnv with
        | lst gn rn =>
          rename_i na nws
          have ln := rn.length
          rw [List.length_map] at ln
          have l12 := r12 re
          refine for_seq (xs := nws) (k := true) (fun R r => ⟨_, rfl, _, rfl, _, _, rfl, rfl, rIx.lst (w8.getG gnd) (by rw [show re - 1 = ((re.toNat - 1 : Nat) : Int) by omega]; exact atI_nat hnv) r⟩) (SqK.lst (w8.getG gn)) (fun j σ H' => ∃ (nl2 : List Int) (skv3 : List (Key × V)) (y11 y12 : Option V), WF G7 ((nw, .lst (nl2.map V.int)) :: (rl, .lst ((endN L :: S).map V.int)) :: (ls, .dK (dkL L.names fun n => some (lv n))) :: (sn, .dK skv3) :: (rd, .lst rus) :: C) H' ∧ skv3.map Prod.fst = (S ++ nl2).map Sum.inl ∧ ((needsP L re).take j).foldl (rdP L f S g) (some nl) = some nl2 ∧ nl2.length ≤ 12 * i2 + j ∧
            σ = [some (.ref a), some (.ref dk), some (.int g), some (.ref nd), some (.ref rl), some (.ref rd), some (.ref sn), some (.ref ls), some (.int tn), some (.ref nw), some (.int re), y11, y12, y13]) ⟨nl, skv2, _, _, w8, hsk2, rfl, lnl, rfl⟩ (fun j σ H' _ ⟨_, _, _, _, w2, _⟩ => SqK.lst (w2.getG gn)) ?_ ?_
          · rintro j v2 σ H9 hv2 ⟨nl2, skv3, y11, y12, w9, hsk3, e2, l2, rfl⟩
            obtain ⟨d2, hd2, rd2⟩ := rn.get hv2
            rw [List.getElem?_map] at hd2
            obtain ⟨⟨n, vv⟩, hq, rfl⟩ := Option.map_eq_some_iff.mp hd2
            have hj := (List.getElem?_eq_some_iff.mp hq).1
            obtain ⟨ga, rfl, gga⟩ := pv_at rd2
            have hmem : n ∈ L.names := needs_pages rp re (n, vv) (List.mem_of_getElem? hq)
            have hbd : 0 ≤ vv ∧ vv ≤ L.rows.length := ⟨(needs_bd (List.mem_of_getElem? hq)).1, (needs_bd (List.mem_of_getElem? hq)).2.1⟩
            have mo : ((needsP L re).take (j + 1)).foldl (rdP L f S g) (some nl) = if vv ∈ S ∨ vv ∈ nl2 ∨ (f n = some vv ∧ okL L S n vv) then some nl2 else if vv ≤ g then none else some (nl2 ++ [vv]) := by
              rw [take_more hq, List.foldl_append, e2]
              rfl
            have lk3 : skv3.length = (S ++ nl2).length := by
              have := congrArg List.length hsk3
              rwa [List.length_map, List.length_map] at this
            rw [List.length_append] at lk3
            refine ⟨ga, _, rfl, SqT.of (w9.getG gga), rfl, gc2 ?_⟩
            have hs : scal (vD (f n)) (.int vv) = true := by cases f n <;> rfl
            have eh : decide (vD (f n) = V.int vv) = decide (f n = some vv) := by
              cases f n with
              | none => rfl
              | some i =>
                show decide (V.int i = V.int vv) = _
                rw [Lr.dec_int]
                by_cases h : i = vv
                · subst h
                  simp
                · rw [decide_eq_false h, decide_eq_false (fun z => h (Option.some.inj z))]
            have fin : ¬ (vv ∈ S ∨ vv ∈ nl2 ∨ (f n = some vv ∧ okL L S n vv)) → vv ∉ S ++ nl2 → ∀ (Z : Prop), (vv ≤ g → ((needsP L re).take (j + 1)).foldl (rdP L f S g) (some nl) = none → Z) → (¬ vv ≤ g → ((needsP L re).take (j + 1)).foldl (rdP L f S g) (some nl) = some (nl2 ++ [vv]) → Z) → Z := by
              intro c4 _ Z z1 z2
              rw [if_neg c4] at mo
              by_cases c5 : vv ≤ g
              · rw [if_pos c5] at mo
                exact z1 c5 mo
              · rw [if_neg c5] at mo
                exact z2 c5 mo
            refine tjoin (fun σ' H' => H' = H9 ∧ vv ∉ S ++ nl2 ∧ ¬ (vv ∈ S ∨ vv ∈ nl2 ∨ (f n = some vv ∧ okL L S n vv)) ∧ σ' = [some (.ref a), some (.ref dk), some (.int g), some (.ref nd), some (.ref rl), some (.ref rd), some (.ref sn), some (.ref ls), some (.int tn), some (.ref nw), some (.int re), some (.str n), some (.int vv), y13]) ?_ (fun tail => ?_)
            rotate_left
            · refine ⟨_, rfl, _, rfl, sn, _, rfl, dgi (WF.getApp (A := [_, _, _]) w9) vv, ⟨_, rfl, ?_⟩⟩
              rw [key_some hsk3]
              refine ite2 (fun h => ?_) (fun h => ?_)
              · have h' : vv ∈ S ++ nl2 := of_decide_eq_true h
                have c : vv ∈ S ∨ vv ∈ nl2 ∨ (f n = some vv ∧ okL L S n vv) := (List.mem_append.mp h').elim .inl fun z => .inr (.inl z)
                rw [if_pos c] at mo
                exact ⟨nl2, skv3, _, _, w9, hsk3, mo, by omega, rfl⟩
              have c1 : vv ∉ S ++ nl2 := fun z => h (decide_eq_true z)
              have c2 : vv ∉ S := fun z => c1 (List.mem_append_left _ z)
              have c3 : vv ∉ nl2 := fun z => c1 (List.mem_append_right _ z)
              refine ⟨_, rfl, _, rfl, dk, _, rfl, dkget ((hdk.cons.cons.cons.cons.cons).at w9) hmem, _, rfl, rEqA.sc hs eh ⟨_, rfl, ite2 (fun h => ?_) (fun h => ?_)⟩⟩
              · have hf : f n = some vv := of_decide_eq_true h
                refine ⟨_, rfl, _, rfl, ls, _, rfl, dkget (WF.getApp (A := [_, _]) w9) hmem, _, rfl, _, _, rfl, rfl, ⟨_, rfl, ite2 (fun h => ?_) (fun h => ?_)⟩⟩
                · have c4 : okL L S n vv := (hlv n hmem vv hbd.1 hbd.2).mp (by simpa using h)
                  rw [if_pos (.inr (.inr ⟨hf, c4⟩))] at mo
                  exact ⟨nl2, skv3, _, _, w9, hsk3, mo, by omega, rfl⟩
                · have c4 : ¬ okL L S n vv := fun z => h (by simpa using (hlv n hmem vv hbd.1 hbd.2).mpr z)
                  exact tail _ _ ⟨rfl, c1, fun z => z.elim c2 fun z => z.elim c3 fun z => c4 z.2, rfl⟩
              · exact tail _ _ ⟨rfl, c1, fun z => z.elim c2 fun z => z.elim c3 fun z => h (decide_eq_true z.1), rfl⟩
            rintro σ' H' ⟨rfl, c1, c4, rfl⟩
            refine tseq ⟨_, rfl, _, rfl, _, _, rfl, rfl, ⟨_, rfl, ite2 (fun h => ?_) (fun h => ?_)⟩⟩
            · have c5 : vv ≤ g := of_decide_eq_true h
              rw [if_neg c4, if_pos c5] at mo
              have el : rdL L f S g (endN L :: S) = none := rdL_lost hre enl mo
              exact kN (dS.lost (fun r => mem_end) el) G7 _ sg7 w9.drop.drop.drop.drop.drop
            have c5 : ¬ vv ≤ g := fun z => h (decide_eq_true z)
            rw [if_neg c4, if_neg c5] at mo
            obtain ⟨p1, p2⟩ := key_put (u := .int tn) hsk3 c1
            refine tnx (tseq ⟨_, rfl, _, rfl, _, rfl, sn, _, rfl, dpi (WF.getApp (A := [_, _, _]) w9) (by omega), ?_⟩)
            rw [p1]
            have w10 := WF.setApp (A := [_, _, _]) (u := .dK (skv3 ++ [((Sum.inl vv : Key), .int tn)])) w9
            have w10 : WF G7 ((nw, .lst (nl2.map V.int)) :: (rl, .lst ((endN L :: S).map V.int)) :: (ls, .dK (dkL L.names fun n => some (lv n))) :: (sn, .dK (skv3 ++ [((Sum.inl vv : Key), .int tn)])) :: (rd, .lst rus) :: C) _ := w10
            refine tnx (tdrop ⟨_, rfl, .inl ⟨rfl, _, SqL.of w10.hd⟩, _, rfl, ?_⟩)
            refine ⟨nw, _, _, rfl, rfl, w10.hd, sz_lt (by rw [List.length_map]; omega), ?_⟩
            refine ⟨nl2 ++ [vv], _, _, _, ?_, by rw [← List.append_assoc]; exact p2, mo, by rw [List.length_append]; show _ + 1 ≤ _; omega, rfl⟩
            rw [List.map_append]
            exact w10.set
          · rintro σ H9 ⟨nl2, skv3, y11, y12, w9, hsk3, e2, l2, rfl⟩
            rw [← ln, List.take_length] at e2
            refine ⟨nl2, skv3, _, _, _, w9, hsk3, ?_, by omega, rfl⟩
            rw [take_more hre, List.foldl_append, enl]
            exact e2
      · rintro σ H8 ⟨nl, skv2, y10, y11, y12, w8, hsk2, enl, lnl, rfl⟩
        rw [List.length_map, List.take_length] at enl
        have e : rdL L f S g (endN L :: S) = some nl := enl
        obtain ⟨dS', dn1, dn2⟩ := dS.round g0 (fun r => mem_end) e (List.Perm.refl _)
        have lnl2 := bd_len dn1 fun v hv => (dn2 v hv).2.2
        refine tnx (tseq ⟨_, rfl, Nat.zero_le _, fun e0 ne0 => rEqA.dat (.lst (SqL.of (same_new ne0 _ _ w8.hd)) (dpInts _ _ nl)) (.lst (SqL.of upd_same) .nil) (shInts nl) rfl ⟨_, rfl, ?_⟩⟩)
        have w9 := w8.same (same_new (o := .lst []) ne0)
        generalize upd H8 e0 (.lst []) = H9 at w9
        rw [eqv_ints_nil]
        refine ite2 (fun h => ?_) (fun h => ?_)
        · have hnl : nl = [] := of_decide_eq_true h
          subst hnl
          have w10 := (WF.perm (D := (rd, .lst rus) :: C) w9.drop.drop.drop.drop (List.Perm.refl _)).frz
          have s10 := (WF.perm (D := (rd, .lst rus) :: C) w9.drop.drop.drop.drop (List.Perm.refl _)).leF
          have dd := dS.done (fun r => mem_end) e hrs.symm
          exact ⟨_, rfl, kS rs dd (by omega) _ _ rd rus (sg7.trans s10) w10 upd_same (rrs.mono s10)⟩
        have hne : nl ≠ [] := fun z => h (decide_eq_true z)
        refine tnx (tseq ?_)
        refine for_seq (xs := nl.map V.int) (k := true) (fun R r => ⟨_, rfl, r⟩) (SqK.lst w9.hd) (fun i2 σ H' => ∃ (lv2 : Str → Int) (y11 y13 : Option V), WF G7 ((nw, .lst (nl.map V.int)) :: (rl, .lst ((endN L :: S).map V.int)) :: (ls, .dK (dkL L.names fun n => some (lv2 n))) :: (sn, .dK skv2) :: (rd, .lst rus) :: C) H' ∧ lvOk L (S ++ nl.take i2) lv2 ∧
          σ = [some (.ref a), some (.ref dk), some (.int g), some (.ref nd), some (.ref rl), some (.ref rd), some (.ref sn), some (.ref ls), some (.int tn), some (.ref nw), y10, y11, y12, y13]) ⟨lv, _, _, w9, by rw [List.take_zero, List.append_nil]; exact hlv, rfl⟩ (fun i2 σ H' _ ⟨_, _, _, w, _⟩ => SqK.lst w.hd) ?_ ?_
        · rintro i2 v σ H10 hv ⟨lv2, z11, z13, w10, hlv2, rfl⟩
          obtain ⟨z, hz, rfl⟩ := map_get hv
          obtain ⟨d1, d2, d3, d4⟩ := dn2 z (List.mem_of_getElem? hz)
          obtain ⟨v', hv'⟩ : ∃ v', rvs[z.toNat - 1]? = some v' := ⟨_, List.getElem?_eq_getElem (by omega)⟩
          obtain ⟨r, hr1, rep⟩ := recs_get h4 hv'
          have er : rowAt L z.toNat = r := by
            unfold rowAt
            rw [hr1]
            rfl
          obtain ⟨bt, q, t3, rfl, gbt, gq, gt3⟩ := rec_at rep
          obtain ⟨_, _, o3, _, o5, _, _⟩ := V0.rok r (List.mem_of_getElem? hr1)
          refine for_seq (xs := r.2.map V.str) (k := false) (fun R rr => ⟨_, rfl, rIx.lst (w10.getG h1) (atI_nat (j := 1) rfl) ⟨_, rfl, _, _, rfl, rfl, rIx.lst (w10.getG h3) (by rw [show z - 1 = ((z.toNat - 1 : Nat) : Int) by omega]; exact atI_nat hv') (rIx.tup (w10.getG gbt) (atI_nat (j := 1) rfl) rr)⟩⟩) (SqK.tup (w10.getG gt3)) (fun j σ H' => ∃ (y11 : Option V), WF G7 ((nw, .lst (nl.map V.int)) :: (rl, .lst ((endN L :: S).map V.int)) :: (ls, .dK (dkL L.names fun n => some (if n ∈ r.2.take j then mnI (lv2 n) z else lv2 n))) :: (sn, .dK skv2) :: (rd, .lst rus) :: C) H' ∧
            σ = [some (.ref a), some (.ref dk), some (.int g), some (.ref nd), some (.ref rl), some (.ref rd), some (.ref sn), some (.ref ls), some (.int tn), some (.ref nw), y10, y11, y12, some (.int z)]) ⟨_, ?_, rfl⟩ (fun j σ H' _ ⟨_, w12, _⟩ => SqK.tup (w12.getG gt3)) ?_ ?_
          · rw [dkL_congr (g := fun n => some (lv2 n)) fun n _ => by simp]
            exact w10
          · rintro j v3 σ H12 hv3 ⟨x11, w12, rfl⟩
            obtain ⟨n, hn, rfl⟩ := map_get hv3
            have hmem := o3 n (List.mem_of_getElem? hn)
            have nin : n ∉ r.2.take j := fun q => by
              have nd' : (r.2.take (j + 1)).Nodup := o5.sublist (List.take_sublist _ _)
              rw [take_more hn] at nd'
              exact (List.nodup_append.mp nd').2.2 n q n (by simp) rfl
            have hls := WF.getApp (A := [_, _]) w12
            have dg := dkget hls hmem
            rw [if_neg nin] at dg
            have dp := dkput (o := some (mnI (lv2 n) z)) hls hmem (by omega)
            have ec : dkL L.names (fun m => if m = n then some (mnI (lv2 n) z) else some (if m ∈ r.2.take j then mnI (lv2 m) z else lv2 m)) = dkL L.names fun m => some (if m ∈ r.2.take (j + 1) then mnI (lv2 m) z else lv2 m) := dkL_congr fun m _ => by
              have e := take_more hn
              by_cases h : m = n
              · subst h
                rw [if_pos rfl, if_pos (by rw [e]; simp)]
              · rw [if_neg h]
                have : (m ∈ r.2.take (j + 1)) ↔ (m ∈ r.2.take j) := by
                  rw [e, List.mem_append, List.mem_singleton]
                  exact ⟨fun z => z.elim id fun y => absurd y h, .inl⟩
                by_cases hm : m ∈ r.2.take j
                · rw [if_pos hm, if_pos (this.mpr hm)]
                · rw [if_neg hm, if_neg (fun z => hm (this.mp z))]
            rw [ec] at dp
            have dp : DPut H12 ls (.str n) (.int (if z < lv2 n then z else lv2 n)) (upd H12 ls (.dK (dkL L.names fun m => some (if m ∈ r.2.take (j + 1) then mnI (lv2 m) z else lv2 m)))) := dp
            refine ⟨_, rfl, _, rfl, ls, _, rfl, dg, _, rfl, _, _, rfl, _, rfl, _, rfl, ls, _, rfl, dp, ?_⟩
            exact ⟨_, WF.setApp (A := [_, _]) w12, rfl⟩
          · rintro σ H12 ⟨x11, w12, rfl⟩
            rw [List.length_map, List.take_length] at w12
            refine ⟨_, _, _, w12, ?_, rfl⟩
            rw [take_more hz, ← List.append_assoc]
            have := lv_step (w := z) hlv2
            rw [er] at this
            exact this
        · rintro σ H10 ⟨lv2, z11, z13, w10, hlv2, rfl⟩
          rw [List.length_map, List.take_length] at hlv2
          refine tnx (tseq (top_ ⟨_, rfl, _, rfl, rAddA.lst w10.swap.hd w10.hd (by rw [List.length_map, List.length_map, List.length_cons]; omega) fun r2 nr2 => ?_⟩))
          have el : (endN L :: S).map V.int ++ nl.map V.int = (endN L :: (S ++ nl)).map V.int := by simp
          rw [el]
          have w11 := w10.new (o := .lst ((endN L :: (S ++ nl)).map V.int)) nr2
          refine tnx (tdrop ⟨_, rfl, .inl ⟨rfl, _, SqL.of (WF.getApp (A := [_, _, _, _, _]) w11)⟩, ?_⟩)
          refine tcb1 ⟨_, rfl, nw, nl, rfl, SqL.of w11.swap.hd, by omega, fun ml p hperm hsrt np => ?_⟩
          have w12 := w11.newG (o := .lst (ml.map V.int)) np
          have s12 := w11.leG (o := .lst (ml.map V.int)) np
          have lrr := rrs.length
          rw [List.length_map] at lrr
          refine ⟨rd, rus, _, rfl, rfl, WF.getApp (A := [_, _, _, _, _]) w12, sz_lt (by omega), ?_⟩
          have w13 := WF.setApp (A := [_, _, _, _, _]) (u := .lst (rus ++ [.ref p])) w12
          have w13 : WF (upd G7 p (.lst (ml.map V.int))) ((r2, .lst ((endN L :: (S ++ nl)).map V.int)) :: (nw, .lst (nl.map V.int)) :: (rl, .lst ((endN L :: S).map V.int)) :: (ls, .dK (dkL L.names fun n => some (lv2 n))) :: (sn, .dK skv2) :: (rd, .lst (rus ++ [.ref p])) :: C) _ := w13
          refine ⟨_, S ++ nl, lv2, skv2, rs ++ [ml], rus ++ [.ref p], r2, _, _, _, _, _, _, ?_, s7.trans s12, (w13.swap.drop).swap.drop, dS', hlv2, hsk2, ?_, ?_, by rw [List.length_append, lrs]; rfl, rfl⟩
          · rw [List.length_append]
            have := List.length_pos_iff.mpr hne
            omega
          · rw [List.flatten_append]
            refine hrs.append ?_
            simpa using hperm.symm
          · rw [List.map_append]
            exact (rrs.mono s12).app (.cons (.lst upd_same (Reps.ints _ _)) .nil)
    · rintro σ H7 ⟨G7, S, lv, skv, rs, rus, rl, y8, y9, y10, y11, y12, y13, hiS, s7, W7, dS, hlv, hsk, hrs, rrs, lrs, rfl⟩
      have lS := bd_len dS.nd fun v hv => (dS.bd v hv).2
      omega
theorem ok_law_demands (T : Txt mg) (F : FD K mg "_law_demands" s_law_demands ["log", "disk", "gone"]) (G_rounds : Okf P w K mg base CX0 2 "_law_rounds" ["log", "disk", "gone"] spRounds) : Okf P w K mg base CX0 3 "_law_demands" ["log", "disk", "gone"] spLawDemands := by
  refine F.ok sc_law_demands (fun vs H Q E h => ?_) (fun f0 cdv A outer s H vs Q E hr h => ?_)
  · obtain ⟨G, C, a, dk, L, f, g, rfl, _⟩ := h
    rfl
  · obtain ⟨G, C, a, dk, L, f, g, rfl, W0, V0, hdk, g0, kN, kS⟩ := h
    refine ⟨_, (pss_cons (ps_set (i := 3) sc_law_demands.nd rfl (Or.inl rfl) (pc G_rounds hr (pa_cons (pv 0) (pa_cons (pv 1) (pa_cons (pv 2) pa_nil)))))
    (pss_cons (ps_if (pt_cmpR op_isN (pv 3) pe_non (nomark _))
    (pss_one (ps_ret pe_non))
    pss_nil)
    (pss_cons (ps_set (i := 4) sc_law_demands.nd rfl (Or.inl rfl) (pe_lst pa_nil))
    (pss_cons (ps_for PassesOwn.never rfl (pi_seq (K := K) (pv 3)) (pg_name (i := 5) sc_law_demands.nd rfl (Or.inl rfl))
    (pss_one (ps_set (i := 4) sc_law_demands.nd rfl (Or.inl rfl) (pe_op (op_addA (K := K)) (pv 4) (pv 5)))))
    (pss_one (ps_ret (pe_callB cr_sorted (by rfl) T.b.sorted (by decide +kernel) (pa_cons (pv 4) pa_nil)))))))), ?_⟩
    have l60 := V0.rl
    refine tseq (tcall3 ⟨_, rfl, _, rfl, _, rfl, G, C, a, dk, L, f, g, rfl, W0, V0, hdk, g0, fun hd G1 H1 s1 W1 => ?_, fun rs hd lrs G1 H1 p us s1 W1 gp rus => ?_⟩)
    · exact tnx (tseq ⟨_, rfl, rfl, _, rfl, iteT (kN hd G1 H1 s1 W1)⟩)
    · refine tnx (tseq ⟨_, rfl, rfl, _, rfl, iteF ?_⟩)
      refine tnx (tseq ⟨Nat.zero_le _, fun q nq => ?_⟩)
      have W2 := W1.new (o := .lst []) nq
      have lS := bd_len hd.2.2.1 fun v hv => (hd.2.1 v hv).2
      have lus := rus.length
      rw [List.length_map] at lus
      refine tnx (tseq ?_)
      refine for_seq (xs := us) (k := true) (fun R r => ⟨_, rfl, r⟩) (SqK.lst (W2.getG gp)) (fun i σ H' => ∃ (q : Addr) (y5 : Option V), WF G1 ((q, .lst ((rs.take i).flatten.map V.int)) :: C) H' ∧ σ = [some (.ref a), some (.ref dk), some (.int g), some (.ref p), some (.ref q), y5]) ⟨q, _, W2, rfl⟩ (fun i σ H' _ ⟨_, _, w, _⟩ => SqK.lst (w.getG gp)) ?_ ?_
      · rintro i v σ H3 hv ⟨q, y5, w3, rfl⟩
        obtain ⟨d, hd3, rd3⟩ := rus.get hv
        rw [List.getElem?_map] at hd3
        obtain ⟨r, hr3, rfl⟩ := Option.map_eq_some_iff.mp hd3
        have pre : ∀ i, ((rs.take i).flatten).length ≤ rs.flatten.length := fun i => by
          conv => rhs; rw [← List.take_append_drop i rs]
          rw [List.flatten_append, List.length_append]
          omega
        have e3 : (rs.take (i + 1)).flatten = (rs.take i).flatten ++ r := by
          rw [take_more hr3, List.flatten_append]
          simp
        have h3 := pre (i + 1)
        rw [e3, List.length_append] at h3
        cases rd3 with
        | lst gr rr =>
          rename_i ra rv
          have eI : rv = r.map V.int := by
            have aux1 : ∀ {ks : List Int} {vs : List V}, Reps G1 (ks.map PyData.int) vs → vs = ks.map V.int := by
              intro ks
              induction ks with
              | nil => intro vs h; cases h; rfl
              | cons k r ih =>
                intro vs h
                cases h with
                | cons a t =>
                  cases a
                  rw [ih t]
                  rfl
            exact aux1 rr
          subst eI
          refine top_ ⟨_, rfl, _, rfl, rAddA.lst w3.hd (w3.getG gr) (by rw [List.length_map, List.length_map]; omega) fun q2 nq2 => ?_⟩
          have w4 := (w3.new (o := .lst ((rs.take i).flatten.map V.int ++ r.map V.int)) nq2).swap.drop
          refine ⟨q2, _, ?_, rfl⟩
          show WF G1 ((q2, .lst ((rs.take (i + 1)).flatten.map V.int)) :: C) _
          rw [e3, List.map_append]
          exact w4
      · rintro σ H3 ⟨q, y5, w3, rfl⟩
        rw [← lus, List.take_length] at w3
        refine tnx (tret (tcb1 ⟨_, rfl, q, rs.flatten, rfl, SqL.of w3.hd, by omega, fun ys z hp hs nz => ?_⟩))
        exact kS ys (hd.perm hp) (pw_lt hs (hp.nodup_iff.mpr hd.2.2.1)) G1 _ z s1 (w3.drop.new nz)
end
end Lw_lrnd

namespace Lw_lleast
open PySem PySem.Spec PyProof.Rows L2 Lr
def top (i : Nat) : Stmt := PySem.Challenge.pw_leastredo_k12_whole_least_redo_of_great.main.body.getD i (.Pass ⟨0, 0, 0, 0⟩)
abbrev s_ais_least : Stmt := top 61
abbrev N_ais_least : List Str := ["stream", "log", "made", "needs", "disk", "gone", "due", "passed", "told", "turn", "out", "some", "page", "number"]
theorem sc_ais_least : FnScope ["stream", "log", "made", "needs", "disk", "gone", "due", "passed", "told", "turn", "out", "some", "page", "number"] ["stream", "log", "made", "needs", "disk", "gone"] (defScope s_ais_least) := ⟨rfl, rfl, rfl, by decide +kernel, rfl, by decide +kernel, by decide +kernel⟩
structure Txt (mg : Str → Option Value) : Prop where
  b : Bl mg
section
variable {P : Program} {w : World} {K : PySem.W.Frag} {mg : Str → Option Value} {base : Heap} {Cl : Addr}
theorem ok_ais_least (T : Txt mg) (F : FD K mg "_law_ais_least" s_ais_least ["stream", "log", "made", "needs", "disk", "gone"]) (G_law_demands : Okf P w K mg base CX0 3 "_law_demands" ["log", "disk", "gone"] spLawDemands) (G_turned : Okf P w K mg base CX0 3 "_law_turned" ["stream", "given"] spTurned)
    (G_least_redo : Okf P w K mg base (L2.CX P w) 5 "least_redo" ["log", "disk", "gone"] (spLeast Cl)) (G_same : Okf P w K mg base CX0 5 "_law_same" ["found", "due"] (spSame 5)) (G_ais_clean : Okf P w K mg base CX0 2 "_law_ais_clean" ["log", "needs", "disk", "numbers"] spAisClean)
    (G_first_wrong : Okf P w K mg base (L2.CX P w) 6 "first_wrong" ["log", "disk", "numbers"] (spFirstWrong Cl)) (G_pick : Okf P w K mg base CX0 2 "_law_pick" ["stream", "some"] spPick) (G_below : Okf P w K mg base CX0 1 "_law_below" ["stream", "many"] spBelow)
    (G_ends : Okf P w K mg base CX0 2 "_law_ends" ["log", "needs", "disk", "numbers"] spEnds) : Okf P w K mg base CX0 7 "_law_ais_least" ["stream", "log", "made", "needs", "disk", "gone"] (spAisLeast Cl) := by
  refine F.ok sc_ais_least (fun vs H Q E h => ?_) (fun f0 cdv A outer s H vs Q E hr h => ?_)
  · obtain ⟨G, st, cs, n, C, a, x, nd, dk, L, nus, f, g, rfl, _⟩ := h
    rfl
  · obtain ⟨G, st, cs, n, C, a, x, nd, dk, L, nus, f, g, rfl, V0, A0, gnd, rnd, ⟨gdk, okf⟩, hg, n40, W0, k⟩ := h
    have hu := hu_of hr
    refine ⟨_, (pss_cons (ps_set (i := 6) sc_ais_least.nd rfl (Or.inl rfl) (pc G_law_demands hr (pa_cons (pv 1) (pa_cons (pv 4) (pa_cons (pv 5) pa_nil)))))
    (pss_cons (ps_set (i := 7) sc_ais_least.nd rfl (Or.inl rfl) (pc G_turned hr (pa_cons (pv 0) (pa_cons (pv 4) pa_nil))))
    (pss_cons (ps_set (i := 8) sc_ais_least.nd rfl (Or.inl rfl) (pcq G_least_redo hr (pa_cons (pv 2) (pa_cons (pv 7) (pa_cons (pv 5) pa_nil)))))
    (pss_cons (ps_if (PW.pt (pw_or (pt_not (pt_val (pc G_same hr (pa_cons (pv 8) (pa_cons (pv 6) pa_nil))))) (pw_or1 (pt_not (pt_val (pc G_same hr (pa_cons (pv 7) (pa_cons (pe_callTy (call_dictP rfl) (by rfl) T.b.dict (by decide +kernel) (pa_cons (pe_lock (pe_lc (own := [("page", 12)]) (g := gName 12) (tt := tYes) rfl sc_ais_least.nd (pi_keys (pv 7)) (blkOk_by (N := N_ais_least) (sc := defScope s_ais_least) (by decide +kernel)) (fun _ _ _ _ _ => (pg_name (i := 12) sc_ais_least.nd rfl (Or.inl rfl))) (fun _ _ _ _ _ => pts_nil) (fun _ _ _ _ _ => (pe_tup (pa_cons (pv 12) (pa_cons (pe_dget hu (pv 4) (pv 12) (fun _ _ => rfl)) pa_nil)))))) pa_nil)) pa_nil))))))))
    (pss_one (ps_ret pe_bl))
    pss_nil)
    (pss_cons (ps_if (pt_cmpR op_isN (pv 6) pe_non (nomark _))
    (pss_one (ps_ret pe_bl))
    pss_nil)
    (pss_cons (ps_if (PW.pt (pw_or (pt_not (pt_val (pc G_ais_clean hr (pa_cons (pv 1) (pa_cons (pv 3) (pa_cons (pv 4) (pa_cons (pv 6) pa_nil))))))) (pw_or1 (pt_not (pt_val (pc G_same hr (pa_cons (pcq G_first_wrong hr (pa_cons (pv 2) (pa_cons (pe_callTy call_dictD (by rfl) T.b.dict (by decide +kernel) (pa_cons (pv 4) pa_nil)) (pa_cons (pv 8) pa_nil)))) (pa_cons pe_non pa_nil))))))))
    (pss_one (ps_ret pe_bl))
    pss_nil)
    (pss_cons (ps_for PassesOwn.never rfl (pi_range1 rfl T.b.range (pa_cons (pe_callB (call_min2 rfl) (by rfl) T.b.min (by decide +kernel) (pa_cons (pe_callB (call_lenA (K := K)) (by rfl) T.b.len (by decide +kernel) (pa_cons (pv 6) pa_nil)) (pa_cons pe_int pa_nil))) pa_nil)) (pg_name (i := 9) sc_ais_least.nd rfl (Or.inl rfl))
    (pss_cons (ps_set (i := 10) sc_ais_least.nd rfl (Or.inr rfl) (pc G_pick hr (pa_cons (pv 0) (pa_cons (pv 6) pa_nil))))
    (pss_one (ps_if (pt_val (pc G_ends hr (pa_cons (pv 1) (pa_cons (pv 3) (pa_cons (pv 4) (pa_cons (pe_lc (own := [("number", 13)]) (g := gName 13) rfl sc_ais_least.nd (pi_seq (K := K) (pv 6)) (blkOk_by (N := N_ais_least) (sc := defScope s_ais_least) (by decide +kernel)) (fun _ _ _ _ _ => (pg_name (i := 13) sc_ais_least.nd rfl (Or.inl rfl))) (fun _ _ _ _ _ => (pts_one (pt_cmpR (op_neA (K := K) hr.units) (pv 13) (pv 10) (nomark _)))) (fun _ _ _ _ _ => (pv 13))) pa_nil))))))
    (pss_one (ps_ret pe_bl))
    pss_nil))))
    (pss_cons (ps_set (i := 11) sc_ais_least.nd rfl (Or.inr rfl) (pe_lc (own := [("number", 13)]) (g := gName 13) rfl sc_ais_least.nd (pi_range2 rfl T.b.range (pa_cons (pe_op (op_addA (K := K)) (pv 5) pe_int) (pa_cons (pe_op (op_addA (K := K)) (pe_callB (call_lenA (K := K)) (by rfl) T.b.len (by decide +kernel) (pa_cons (pe_ix (xix (K := K)) (pv 1) pe_int (fun _ _ => rfl)) pa_nil)) pe_int) pa_nil))) (blkOk_by (N := N_ais_least) (sc := defScope s_ais_least) (by decide +kernel)) (fun _ _ _ _ _ => (pg_name (i := 13) sc_ais_least.nd rfl (Or.inl rfl))) (fun _ _ _ _ _ => (pts_one (pt_cmpR op_gt (pc G_below hr (pa_cons (pv 0) (pa_cons pe_int pa_nil))) pe_int (nomark _)))) (fun _ _ _ _ _ => (pv 13))))
    (pss_one (ps_ret (pe_or (pe_not (pc G_ends hr (pa_cons (pv 1) (pa_cons (pv 3) (pa_cons (pv 4) (pa_cons (pv 11) pa_nil)))))) (pe_one (pe_callB (cr_allA (K := K) rfl) (by rfl) T.b.all (by decide +kernel) (pa_cons (pe_lc (own := [("number", 13)]) (g := gName 13) (tt := tYes) rfl sc_ais_least.nd (pi_seq (K := K) (pv 6)) (blkOk_by (N := N_ais_least) (sc := defScope s_ais_least) (by decide +kernel)) (fun _ _ _ _ _ => (pg_name (i := 13) sc_ais_least.nd rfl (Or.inl rfl))) (fun _ _ _ _ _ => pts_nil) (fun _ _ _ _ _ => (pe_cmpR (op_inA (K := K)) (pv 13) (pv 11) (by rfl)))) pa_nil)))))))))))))), ?_⟩
    have l60 := V0.rl
    have hgl : g ≤ 60 := Nat.le_trans hg l60
    have n12 := V0.nn.2
    obtain ⟨Fd, eFd⟩ : ∃ Fd, Fd = dkOf (esL L.names f) := ⟨_, rfl⟩
    have hFd : dkL L.names f = dkL L.names Fd := dkL_congr fun m hm => by rw [eFd, esL_dk hm]
    have hdkF : ∀ m ∈ L.names, f m = Fd m := fun m hm => by rw [eFd, esL_dk hm]
    refine tjoin (fun σ' H' => ∃ (G' : Hp) (r : Option (List Int)) (dv : V), Same G G' ∧ SW G' st cs n C H' ∧ DemA L Fd g r ∧ Rep G' (ddD r) dv ∧ σ' = [some (.ref st), some (.ref a), some (.ref x), some (.ref nd), some (.ref dk), some (.int g), some dv, none, none, none, none, none, none, none]) ?_ (fun tail => ?_)
    rotate_left
    · obtain ⟨c0, w0, b0, d0⟩ := W0.wrap2
      refine tcall3 ⟨_, rfl, _, rfl, _, rfl, G, _, a, dk, L, Fd, g, rfl, w0, V0, .inl (by rw [← hFd]; exact gdk), by omega, fun hd G1 H1 s1 w1 => ?_, fun ys hd hy G1 H1 p s1 w1 => ?_⟩
      · exact tail _ _ ⟨G1, none, .non, s1, b0 _ _ _ w1, ⟨hd, fun ys e => by cases e⟩, .non, rfl⟩
      · have W1 := d0 _ _ _ _ w1
        exact tail _ _ ⟨_, some ys, .ref p, s1.trans W1.leF, W1.frz, ⟨hd, fun zs e => by cases e; exact hy⟩, .lst upd_same (Reps.ints _ _), rfl⟩
    rintro σ1 H1 ⟨G1, r, dv, s1, W1, hA, rdv, rfl⟩
    refine tseq (tcall2 ⟨_, rfl, _, rfl, G1, st, cs, n, C, dk, L.names, f, rfl, s1 _ _ gdk, V0.nd, n12, by omega, W1, fun ms pp G2 H2 hms s2 W2 => ?_⟩)
    have s12 := s1.trans s2
    have lms := hms.length_eq
    have mfits : fitsB L (.dict (esL ms f)) = true := esL_fits2 lms (fun n hn => hms.mem_iff.mpr hn) okf
    have mdk : dkOf (esL ms f) = Fd := by rw [eFd]; exact esL_perm fun n => hms.mem_iff
    have V2 := V0.mono s12
    have A2 := A0.mono s12
    have rdv2 := rdv.mono s2
    have gdk2 := s12 _ _ gdk
    refine tnx ?_
    refine tjoin (fun σ' H' => ∃ (G' : Hp) (tv : V), Same G2 G' ∧ SW G' st cs (n + 12) ((pp, .dK (dkL ms f)) :: C) H' ∧ Rep G' (ddD r) tv ∧ σ' = [some (.ref st), some (.ref a), some (.ref x), some (.ref nd), some (.ref dk), some (.int g), some dv, some (.ref pp), some tv, none, none, none, none, none]) ?_ (fun tail => ?_)
    rotate_left
    · obtain ⟨c2, w2, b2, d2⟩ := W2.wrap2
      refine tcall3 ⟨_, rfl, _, rfl, _, rfl, G2, _, x, L, esL ms f, .ref pp, g, rfl, w2, A2, ?_, mfits, by omega, by omega, fun hd G3 H3 s3 w3 => ?_, fun ys hd hy G3 H3 p s3 w3 => ?_⟩
      · exact RepC.ownD (List.mem_append_right _ List.mem_cons_self) (W2.noG List.mem_cons_self)
      · rw [mdk] at hd
        have e := hA.one (b := none) ⟨hd, fun ys e => by cases e⟩
        exact tail _ _ ⟨G3, .non, s3, b2 _ _ _ w3, by rw [e]; exact .non, rfl⟩
      · rw [mdk] at hd
        have e := hA.one (b := some ys) ⟨hd, fun zs e => by cases e; exact hy⟩
        have W3 := d2 _ _ _ _ w3
        exact tail _ _ ⟨_, .ref p, s3.trans W3.leF, W3.frz, by rw [e]; exact .lst upd_same (Reps.ints _ _), rfl⟩
    clear hg
    rintro σ3 H3 ⟨G3, tv, s3, W3, rtv, rfl⟩
    have rdv3 := rdv2.mono s3
    have s13 := s12.trans s3
    have gdk3 := s3 _ _ gdk2
    obtain ⟨eq1, eq2⟩ := ddD_eqa (hA.len l60)
    refine tseq ?_
    refine tcall2 ⟨_, rfl, _, rfl, ddD r, tv, dv, rfl, rtv.mono W3.sub, rdv3.mono W3.sub, eq1, eq2, fun H4 s4 => ⟨_, rfl, iteF ?_⟩⟩
    have W4 := W3.same s4
    refine tcall2 ⟨_, rfl, ?_⟩
    refine tcb1 ⟨pp, _, W4.hd, trivial, fun od => ?_⟩
    have W5 := W4.set (u := .frz od (.dK (dkL ms f)))
    have lmn : ms.length = L.names.length := lms
    refine lc_keys (fun R r => ⟨_, rfl, r⟩) W5.hd fun D nD => ⟨fun j H2 => ∃ (G' : Hp) (ts : List Addr), Same G3 G' ∧ SW G' st cs (n + 12) ((D, .lst (ts.map V.ref)) :: (pp, .frz od (.dK (dkL ms f))) :: C) H2 ∧ Paired (fun t m => G' t = some (.tup [.str m, vD (f m)])) ts (ms.take j), ⟨G3, [], Same.refl _, W5.new nD, .nil⟩, fun j H2 _ ⟨_, _, _, w2, _⟩ => w2.swap.hd, ?_, ?_⟩
    · rintro j kk vv H6 hkv ⟨G6, ts, s6, W6, prd⟩
      unfold dkL at hkv
      obtain ⟨m, hm, e0⟩ := map_get hkv
      cases e0
      have hmem : m ∈ L.names := hms.mem_iff.mp (List.mem_of_getElem? hm)
      have lt := prd.length
      rw [List.length_take] at lt
      refine ⟨rfl, ?_⟩
      refine ⟨_, rfl, _, rfl, _, rfl, dk, _, rfl, dkget (W6.getG (s6 _ _ gdk3)) hmem, by show 2 ≤ sizeLine; decide, fun t nt => ?_⟩
      have W7 := W6.newG (o := .tup [.str m, vD (f m)]) nt
      have s7 := W6.leG (o := .tup [.str m, vD (f m)]) nt
      refine ⟨_, W7.hd, sz_lt (by rw [List.length_map]; omega), _, ts ++ [t], s6.trans s7, ?_, ?_⟩
      · rw [List.map_append]
        exact W7.set
      · rw [take_more hm]
        exact (Paired.mono (fun b m e => s7 _ _ e) prd).snoc upd_same
    rintro H6 ⟨G6, ts, s6, W6, prd⟩
    rw [show (dkL ms f).length = ms.length by unfold dkL; rw [List.length_map], List.take_length] at prd
    have W7 := W6.swap.set (u := .dK (dkL ms f))
    have ndm := hms.nodup_iff.mpr V0.nd
    have pm : ∀ {l1 : List Addr} {l2 : List Str}, Paired (fun (t : Addr) (m : Str) => G6 t = some (.tup [.str m, vD (f m)])) l1 l2 → Paired (fun p kv => SqT K (upd H6 pp (.dK (dkL ms f))) p [kV kv.1, kv.2]) l1 (dkL l2 f) := by
      intro l1 l2 h
      induction h with
      | nil => exact .nil
      | cons h t ih => exact .cons (SqT.of (W7.getG h)) ih
    refine ⟨W6.swap.hd, D, ts, dkL ms f, rfl, SqL.of W7.swap.hd, pm prd, fun d nd2 => ?_⟩
    rw [show mergeK [] (dkL ms f) = dkL ms f from by rw [merge_new (dkL ms f) [] (nodup_inr ndm fun m => vD (f m)) (fun q hq z => by cases z), List.nil_append]]
    have W8 := W7.new (o := .dK (dkL ms f)) nd2
    refine ⟨.dict (esL ms f), _, _, rfl, .dic W8.swap.hd (esL_rep f ms), .dic W8.hd (esL_rep f ms), ⟨esL_eqa f ms, by unfold esL; rw [List.length_map]; omega⟩, by show dpSK (esL ms f) + 3 < 5; rw [esL_dp]; decide, fun H9 s9 => ⟨_, rfl, iteF ?_⟩⟩
    have W9 := (W8.same s9).drop.drop.drop
    have s16 := s13.trans s6
    have V6 := V0.mono s16
    have A6 := A0.mono s16
    have gdk6 := s6 _ _ gdk3
    have gnd6 := s16 _ _ gnd
    have rnd6 := rnd.mono s16
    have rdv6 := rdv3.mono s6
    have rtv6 := rtv.mono s6
    clear W8 W7 W6 W5 W4 W3 W2 W1 s9 nd2 prd pm nD s6 s4 V2 A2 rdv2 gdk2 gdk3 rdv3 rtv rdv gnd rnd
    refine tnx (tseq ?_)
    cases r with
    | none =>
      cases rdv6
      exact ⟨_, rfl, rfl, _, rfl, iteT (k G6 H9 s16 (W9.mono (by omega)))⟩
    | some ys =>
      have lo := hA.lot
      have ylen := hA.len l60 ys rfl
      obtain ⟨dp, rfl, gdp⟩ := ints_at rdv6
      obtain ⟨tp, rfl, gtp⟩ := ints_at rtv6
      have gdkF : G6 dk = some (.dK (dkL L.names Fd)) := by rw [← hFd]; exact gdk6
      have cl := fun rd hr => closed_clean lo hA.1.1 rd.toNat rd (Nat.le_refl _) hr
      refine ⟨_, rfl, rfl, _, rfl, iteF ?_⟩
      refine tnx (tseq ?_)
      obtain ⟨c9, w9, b9⟩ := W9.wrap
      refine tcall4 ⟨_, rfl, _, rfl, _, rfl, _, rfl, G6, _, a, nd, dk, dp, L, nus, dkL L.names Fd, Fd, ys, rfl, w9, V6, gnd6, rnd6, .inl gdkF, (fun m hm => dkL_get hm), .inl gdp, lo, by omega, cl, fun G10 H10 s10 w10 => ⟨_, rfl, iteF ?_⟩⟩
      have W10 := b9 _ _ _ w10
      refine tcall2 ?_
      refine tcall3 ⟨_, rfl, tcb1 ⟨_, rfl, dk, _, rfl, .inl (W10.getG (s10 _ _ gdk6)), fun od nod => ⟨_, rfl, ?_⟩⟩⟩
      have W11 := W10.newG (o := .dK (dkL L.names f)) nod
      have s11 := W10.leG (o := .dK (dkL L.names f)) nod
      have s611 := s10.trans s11
      have rd : Rep (upd G10 od (.dK (dkL L.names f))) (.dict (esL L.names f)) (.ref od) := .dic upd_same (dkL_rep f _)
      have rl : Rep (upd G10 od (.dK (dkL L.names f))) (.list (ys.map PyData.int)) (.ref tp) := .lst (s611 _ _ gtp) (Reps.ints _ _)
      obtain ⟨c11, w11, b11⟩ := W11.wrap
      refine ⟨_, _, x, L, esL L.names f, _, _, _, ys, rfl, w11, A6.mono s611, .of rd, .of rl, esL_fits okf, (items_ints (by omega)).1, lo.numsL, lo, by rw [← eFd]; exact cl, fun G12 H12 s12 w12 => ?_⟩
      have W12 := b11 _ _ _ w12
      refine ⟨.none, _, _, rfl, .non, .non, trivial, by show 0 < 5; decide, fun H13 s13 => ⟨_, rfl, iteF ?_⟩⟩
      have W13 := W12.same s13
      have s612 := s611.trans s12
      have V12 := V6.mono s612
      have gdp12 := s612 _ _ gdp
      have gdk12 := s612 _ _ gdkF
      have gnd12 := s612 _ _ gnd6
      have rnd12 := rnd6.mono s612
      have s012 := s16.trans s612
      clear W12 W11 W10 W9 s13 nod rd rl s611 s612 s11 s10 V6 A6 gdp gtp gdk6 gdkF gnd6 rnd6 rdv6 rtv6 w9 w10 w11 w12 b9 b11 s16
      refine tnx (tseq ?_)
      refine ⟨_, rfl, rLenA.v (n := ys.length) (.inl ⟨_, SqL.of (W13.getG gdp12), by rw [List.length_map]⟩) ⟨_, _, rfl, ?_⟩⟩
      obtain ⟨tn, etn⟩ : ∃ tn : Nat, (if (4 : Int) < (ys.length : Int) then (4 : Int) else (ys.length : Int)) = tn ∧ tn ≤ 4 ∧ tn ≤ ys.length := by
        by_cases c : (4 : Int) < (ys.length : Int)
        · exact ⟨4, by rw [if_pos c]; rfl, by omega, by omega⟩
        · exact ⟨ys.length, by rw [if_neg c], by omega, by omega⟩
      refine ⟨(tn : Int), by rw [etn.1], by omega, by omega, for_range (n := ((tn : Nat) : Int).toNat) (fun i σ H' => ∃ (G' : Hp) (y9 y10 : Option V), Same G12 G' ∧ SW G' st cs (n + 12 + i) C H' ∧ σ = [some (.ref st), some (.ref a), some (.ref x), some (.ref nd), some (.ref dk), some (.int g), some (.ref dp), some (.ref pp), some (.ref tp), y9, y10, none, none, none]) ⟨G12, _, _, Same.refl _, W13, rfl⟩ ?_ ?_⟩
      · rintro i σ H14 hi ⟨G14, y9, y10, s14, W14, rfl⟩
        have hi' : i < ys.length := by omega
        have gdp14 := s14 _ _ gdp12
        refine tseq (tcall2 ⟨_, rfl, _, rfl, G14, st, cs, _, C, dp, ys.map V.int, rfl, by rw [List.length_map]; omega, by rw [List.length_map]; omega, by omega, W14, .inl (.inl gdp14), fun t v H15 hv W15 => ?_⟩)
        obtain ⟨o, ho, rfl⟩ := map_get hv
        have ho' : o ∈ ys := List.mem_of_getElem? ho
        refine tnx ?_
        refine tcall4 ⟨_, rfl, _, rfl, _, rfl, ?_⟩
        refine lc_seq (xs := ys.map V.int) (k := true) (fun R r => ⟨_, rfl, r⟩) (SqK.lst (W15.getG gdp14)) fun D nD => ⟨fun j H2 => SW G14 st cs (n + 12 + i + 1) ((D, .lst (((ys.take j).filter fun k => !decide (k = o)).map V.int)) :: C) H2, W15.new nD, fun j H2 _ w2 => SqK.lst (w2.getG gdp14), ?_, ?_⟩
        · rintro j v H16 hv2 W16
          obtain ⟨y, hy, rfl⟩ := map_get hv2
          have hj := (List.getElem?_eq_some_iff.mp hy).1
          refine ⟨rfl, _, rfl, _, rfl, rNeA.int ⟨_, rfl, ?_⟩⟩
          have ef : (ys.take (j + 1)).filter (fun k => !decide (k = o)) = (ys.take j).filter (fun k => !decide (k = o)) ++ [y].filter (fun k => !decide (k = o)) := by rw [take_more hy, List.filter_append]
          have ll : ((ys.take j).filter fun k => !decide (k = o)).length ≤ 60 := by
            have := List.length_filter_le (fun k => !decide (k = o)) (ys.take j)
            rw [List.length_take] at this
            omega
          refine ite2 (fun h => ?_) (fun h => ?_)
          · rw [List.filter_cons_of_pos (by exact h), List.filter_nil] at ef
            refine ⟨_, rfl, _, W16.hd, sz_lt (by rw [List.length_map]; omega), ?_⟩
            show SW G14 st cs _ ((D, .lst (((ys.take (j + 1)).filter fun k => !decide (k = o)).map V.int)) :: C) _
            rw [ef, List.map_append]
            exact W16.set
          · rw [List.filter_cons_of_neg (by exact h), List.filter_nil, List.append_nil] at ef
            show SW G14 st cs _ ((D, .lst (((ys.take (j + 1)).filter fun k => !decide (k = o)).map V.int)) :: C) _
            rw [ef]
            exact W16
        · rintro H16 W16
          rw [List.length_map, List.take_length] at W16
          obtain ⟨c16, w16, b16⟩ := W16.wrap
          have ll : (ys.filter fun k => !decide (k = o)).length ≤ 60 := by
            have := List.length_filter_le (fun k => !decide (k = o)) ys
            omega
          have lo2 := lo.filter fun k => !decide (k = o)
          refine ⟨G14, _, a, nd, dk, D, L, nus, dkL L.names Fd, Fd, _, rfl, w16, V12.mono s14, s14 _ _ gnd12, rnd12.mono s14, .inl (s14 _ _ gdk12), (fun m hm => dkL_get hm), .inr (List.mem_append_right _ List.mem_cons_self), lo2.bd, by omega, fun G17 H17 s17 w17 => ⟨_, rfl, ?_⟩⟩
          have W17 := b16 _ _ _ w17
          have en : endsB L (ys.filter fun k => !decide (k = o)) Fd = false := by
            cases hE : endsB L (ys.filter fun k => !decide (k = o)) Fd with
            | false => rfl
            | true =>
              obtain ⟨S, e, h⟩ := least_in hA.1 lo2 (fun k hk => (hA.1.2.1 k (List.mem_filter.mp hk).1).1) hE
              cases e
              have := (List.mem_filter.mp (h o ho')).2
              simp at this
          rw [en]
          refine iteF ?_
          exact ⟨G17, _, _, s14.trans s17, W17.drop, rfl⟩
      · rintro σ H14 ⟨G14, y9, y10, s14, W14, rfl⟩
        have V14 := V12.mono s14
        have gdp14 := s14 _ _ gdp12
        have gdk14 := s14 _ _ gdk12
        have gnd14 := s14 _ _ gnd12
        have rnd14 := rnd12.mono s14
        have s014 := s012.trans s14
        clear V12 gdp12 gdk12 gnd12 rnd12 s012 s14
        obtain ⟨pn, pr, rvs, h1, h2, h3, h4⟩ := V14.ex
        have lus := h4.length
        rw [List.length_map] at lus
        obtain ⟨m, em⟩ : ∃ m, m = n + 16 := ⟨_, rfl⟩
        have W14 : SW G14 st cs m C H14 := W14.mono (by omega)
        refine tnx (tseq (tasg ?_))
        refine ⟨_, rfl, rAddA.int ⟨_, rfl, rIx.lst (W14.getG h1) (atI_nat (j := 1) rfl) (rLenA.v (n := L.rows.length) (.inl ⟨_, SqL.of (W14.getG h3), lus⟩) (rAddA.int ⟨(g : Int) + 1, (L.rows.length : Int) + 1, rfl, by omega, fun D2 nD2 => ?_⟩))⟩⟩
        refine lc_range (lo := (g : Int) + 1) (n := ((L.rows.length : Int) + 1 - ((g : Int) + 1)).toNat) (fun i H' => ∃ zs : List Int, zs.Pairwise (· < ·) ∧ zs.length ≤ i ∧ (∀ z ∈ zs, (g : Int) + 1 ≤ z ∧ z < (g : Int) + 1 + i) ∧ SW G14 st cs (m + i) ((D2, .lst (zs.map V.int)) :: C) H') ⟨[], .nil, Nat.le_refl _, (fun z hz => by cases hz), W14.new nD2⟩ ?_ ?_
        · rintro i H15 hi ⟨zs, z1, zl, z2, W15⟩
          have hi' : i < 61 := by omega
          refine ⟨rfl, _, rfl, G14, st, cs, m + i, _, 3, rfl, by decide, by decide, by omega, W15, fun d H16 hd W16 => ⟨_, _, rfl, rfl, _, rfl, ?_⟩⟩
          refine ite2 (fun _ => ?_) (fun _ => ?_)
          · refine ⟨_, rfl, _, W16.hd, sz_lt (by rw [List.length_map]; omega), zs ++ [(g : Int) + 1 + i], ?_, by rw [List.length_append]; simp; omega, ?_, ?_⟩
            · rw [List.pairwise_append]
              exact ⟨z1, by simp, fun a ha b hb => by rw [List.mem_singleton.mp hb]; exact (z2 a ha).2⟩
            · intro z hz
              rcases List.mem_append.mp hz with hz | hz
              · have := z2 z hz
                omega
              · rw [List.mem_singleton.mp hz]
                omega
            · rw [List.map_append]
              exact W16.set
          · exact ⟨zs, z1, by omega, fun z hz => (by have := z2 z hz; omega), W16⟩
        · rintro H15 ⟨zs, z1, zl, z2, W15⟩
          have lo2 : Lot L zs := ⟨z1, fun z hz => (by have := z2 z hz; omega)⟩
          have zg : ∀ z ∈ zs, (g : Int) < z := fun z hz => (by have := z2 z hz; omega)
          have W15 := W15.mono (m := m + 61) (by omega)
          refine tnx ?_
          obtain ⟨c15, w15, b15⟩ := W15.wrap
          refine tcall4 ⟨_, rfl, _, rfl, _, rfl, _, rfl, G14, _, a, nd, dk, D2, L, nus, dkL L.names Fd, Fd, zs, rfl, w15, V14, gnd14, rnd14, .inl gdk14, (fun m hm => dkL_get hm), .inr (List.mem_append_right _ List.mem_cons_self), lo2.bd, by omega, fun G16 H16 s16 w16 => ⟨_, rfl, ?_⟩⟩
          have W16 := b15 _ _ _ w16
          refine ⟨_, rfl, ite2 (fun _ => k G16 H16 (s014.trans s16) (W16.drop.mono (by omega))) (fun h => ?_)⟩
          have hE : endsB L zs Fd = true := by simpa using h
          obtain ⟨S, e, hS⟩ := least_in hA.1 lo2 zg hE
          cases e
          refine tcb1 ?_
          have gdp16 := s16 _ _ gdp14
          refine lc_seq (xs := ys.map V.int) (k := true) (fun R r => ⟨_, rfl, r⟩) (SqK.lst (W16.getG gdp16)) fun D nD => ⟨fun j H2 => SW G16 st cs (m + 61) ((D, .lst (List.replicate j (.bl true))) :: (D2, .lst (zs.map V.int)) :: C) H2, W16.new nD, fun j H2 _ w2 => SqK.lst (w2.getG gdp16), ?_, ?_⟩
          · rintro j v H17 hv2 W17
            obtain ⟨y, hy, rfl⟩ := map_get hv2
            have hj := (List.getElem?_eq_some_iff.mp hy).1
            refine ⟨rfl, _, rfl, _, rfl, rInA.ints (xs := zs) (.inl (SqL.of W17.swap.hd)) ?_⟩
            rw [if_neg (by decide), decide_eq_true (hS y (List.mem_of_getElem? hy))]
            refine ⟨_, W17.hd, sz_lt (by rw [List.length_replicate]; omega), ?_⟩
            show SW G16 st cs _ ((D, .lst (List.replicate (j + 1) (.bl true))) :: _) _
            rw [List.replicate_succ']
            exact W17.set
          · rintro H17 W17
            exact cr_all1 W17.hd (k G16 H17 (s014.trans s16) (W17.drop.drop.mono (by omega)))
end
end Lw_lleast

namespace Lw_lchain
open PySem PySem.Spec PyProof.Rows L2 Lr
def top (i : Nat) : Stmt := PySem.Challenge.pw_leastredo_k12_whole_least_redo_of_great.main.body.getD i (.Pass ⟨0, 0, 0, 0⟩)
abbrev s_achain : Stmt := top 62
abbrev N_achain : List Str := ["stream", "pages", "order", "many", "rows", "index", "one", "other", "log", "last", "first", "near", "back", "begun", "page"]
theorem sc_achain : FnScope ["stream", "pages", "order", "many", "rows", "index", "one", "other", "log", "last", "first", "near", "back", "begun", "page"] ["stream"] (defScope s_achain) := ⟨rfl, rfl, rfl, by decide +kernel, rfl, by decide +kernel, by decide +kernel⟩
structure Txt (mg : Str → Option Value) : Prop where
  b : Bl mg
section
variable {P : Program} {w : World} {K : PySem.W.Frag} {mg : Str → Option Value} {base : Heap} {Cl : Addr}
theorem ok_chain (T : Txt mg) (F : FD K mg "_law_achain" s_achain ["stream"]) (G_needs : Okf P w K mg base CX0 1 "_law_needs" ["log"] spNeeds)
    (G_names : Okf P w K mg base CX0 4 "_law_names" ["stream", "many"] spNames) (G_mixed : Okf P w K mg base CX0 2 "_law_mixed" ["stream", "some"] spMixed) (G_below : Okf P w K mg base CX0 1 "_law_below" ["stream", "many"] spBelow)
    (G_pick : Okf P w K mg base CX0 2 "_law_pick" ["stream", "some"] spPick) : Okf P w K mg base CX0 8 "_law_achain" ["stream"] spChain := by
  refine F.ok sc_achain (fun vs H Q E h => ?_) (fun f0 cdv A outer s H vs Q E hr h => ?_)
  · obtain ⟨G, st, cs, n, C, rfl, _⟩ := h
    rfl
  · obtain ⟨G, st, cs, n, C, rfl, n40, W0, k⟩ := h
    have hu := hu_of hr
    refine ⟨_, (pss_cons (ps_set (i := 1) sc_achain.nd rfl (Or.inl rfl) (pc G_names hr (pa_cons (pv 0) (pa_cons (pe_op (op_addA (K := K)) pe_int (pc G_below hr (pa_cons (pv 0) (pa_cons pe_int pa_nil)))) pa_nil))))
    (pss_cons (ps_set (i := 2) sc_achain.nd rfl (Or.inl rfl) (pc G_mixed hr (pa_cons (pv 0) (pa_cons (pv 1) pa_nil))))
    (pss_cons (ps_set (i := 3) sc_achain.nd rfl (Or.inl rfl) (pc G_pick hr (pa_cons (pv 0) (pa_cons (pe_lst (pa_cons pe_int (pa_cons pe_int (pa_cons pe_int (pa_cons pe_int pa_nil))))) pa_nil))))
    (pss_cons (ps_set (i := 4) sc_achain.nd rfl (Or.inl rfl) (pe_lst pa_nil))
    (pss_cons (ps_for PassesOwn.never rfl (pi_range1 rfl T.b.range (pa_cons (pv 3) pa_nil)) (pg_name (i := 5) sc_achain.nd rfl (Or.inl rfl))
    (pss_cons (ps_par (i := 6) (j := 7) (by rfl) sc_achain.nd rfl rfl (by decide) rfl rfl (pa_cons (pe_ix (xix (K := K)) (pv 2) (pe_op op_mod (pv 5) (pe_callB (call_lenA (K := K)) (by rfl) T.b.len (by decide +kernel) (pa_cons (pv 2) pa_nil))) (fun _ _ => rfl)) (pa_cons (pe_ix (xix (K := K)) (pv 2) (pe_op op_mod (pe_op (op_addA (K := K)) (pv 5) pe_int) (pe_callB (call_lenA (K := K)) (by rfl) T.b.len (by decide +kernel) (pa_cons (pv 2) pa_nil))) (fun _ _ => rfl)) pa_nil)) (by rfl))
    (pss_one (ps_expr (xbm (K := K) PySem.F.plainAttrs_list PySem.F.slot_list_append PySem.F.type_list_append mt_append (pv 4) (pa_cons (pe_tup (pa_cons (pe_tup (pa_cons (pv 6) pa_nil)) (pa_cons (pe_tup (pa_cons (pv 7) pa_nil)) pa_nil))) pa_nil))))))
    (pss_cons (ps_set (i := 8) sc_achain.nd rfl (Or.inl rfl) (pe_lst (pa_cons (pv 1) (pa_cons (pv 4) pa_nil))))
    (pss_cons (ps_set (i := 9) sc_achain.nd rfl (Or.inl rfl) (pe_callTy (call_dictP rfl) (by rfl) T.b.dict (by decide +kernel) (pa_cons (pe_ix (xix (K := K)) (pc G_needs hr (pa_cons (pv 8) pa_nil)) (pe_un un_neg pe_int) (fun _ _ => rfl)) pa_nil)))
    (pss_cons (ps_set (i := 10) sc_achain.nd rfl (Or.inl rfl) (pe_callTy (call_dictP rfl) (by rfl) T.b.dict (by decide +kernel) (pa_cons (pe_lc (own := [("page", 14)]) (g := gName 14) (tt := tYes) rfl sc_achain.nd (pi_seq (K := K) (pv 1)) (blkOk_by (N := N_achain) (sc := defScope s_achain) (by decide +kernel)) (fun _ _ _ _ _ => (pg_name (i := 14) sc_achain.nd rfl (Or.inl rfl))) (fun _ _ _ _ _ => pts_nil) (fun _ _ _ _ _ => (pe_tup (pa_cons (pv 14) (pa_cons pe_int pa_nil))))) pa_nil)))
    (pss_cons (ps_set (i := 11) sc_achain.nd rfl (Or.inl rfl) (pe_callTy call_dictD (by rfl) T.b.dict (by decide +kernel) (pa_cons (pv 9) pa_nil)))
    (pss_cons (ps_dput hu (pv 11) (pe_ix (xix (K := K)) (pv 2) (pe_op op_mod (pv 3) (pe_callB (call_lenA (K := K)) (by rfl) T.b.len (by decide +kernel) (pa_cons (pv 2) pa_nil))) (fun _ _ => rfl)) pe_non rfl)
    (pss_cons (ps_set (i := 12) sc_achain.nd rfl (Or.inl rfl) (pe_callTy call_dictD (by rfl) T.b.dict (by decide +kernel) (pa_cons (pv 10) pa_nil)))
    (pss_cons (ps_dput hu (pv 12) (pe_ix (xix (K := K)) (pv 2) pe_int (fun _ _ => rfl)) (pc G_pick hr (pa_cons (pv 0) (pa_cons (pe_lst (pa_cons pe_int (pa_cons pe_non pa_nil))) pa_nil))) rfl)
    (pss_cons (ps_set (i := 13) sc_achain.nd rfl (Or.inl rfl) (pe_callTy call_dictD (by rfl) T.b.dict (by decide +kernel) (pa_cons (pv 10) pa_nil)))
    (pss_cons (ps_dput hu (pv 13) (pe_ix (xix (K := K)) (pv 2) pe_int (fun _ _ => rfl)) pe_int rfl)
    (pss_one (ps_ret (pe_tup (pa_cons (pv 8) (pa_cons (pe_lst (pa_cons (pv 10) (pa_cons (pv 9) (pa_cons (pv 11) (pa_cons (pv 12) (pa_cons (pv 13) pa_nil)))))) pa_nil))))))))))))))))))), ?_⟩
    refine tseq (tasg (tcall2 ⟨_, rfl, tcall2 ⟨_, rfl, G, st, cs, n, C, 11, rfl, by decide, by decide, by omega, W0, fun d H1 hd W1 => rAddA.int ?_⟩⟩))
    rw [show (2 : Int) + (d : Int) = ((d + 2 : Nat) : Int) by omega]
    refine ⟨G, st, cs, _, _, d + 2, rfl, by omega, by omega, W1, fun ns pn H2 ln nd srt nb W2 => ?_⟩
    refine tnx (tseq (tasg (tcall2 ⟨_, rfl, _, rfl, G, st, cs, _, _, pn, ns.map V.str, rfl, by rw [List.length_map]; omega, by rw [List.length_map]; omega, W2, Seq.hd, fun ys pm H3 hpm npm W3 => ?_⟩)))
    obtain ⟨os, rfl, ho⟩ := perm_strs hpm
    have lo := ho.length_eq
    have W4 := W3.frz.frz
    have s4 := W3.leF.trans W3.frz.leF
    have gpm : (upd (upd G pm (.lst (os.map V.str))) pn (.lst (ns.map V.str))) pm = some (.lst (os.map V.str)) := W3.frz.leF _ _ upd_same
    have gpn : (upd (upd G pm (.lst (os.map V.str))) pn (.lst (ns.map V.str))) pn = some (.lst (ns.map V.str)) := upd_same
    generalize upd (upd G pm (.lst (os.map V.str))) pn (.lst (ns.map V.str)) = G4 at W4 s4 gpm gpn
    have W4 := W4.mono (m := n + 200) (by rw [List.length_map]; omega)
    clear W1 W2 W3 npm hpm
    refine tnx (tseq (tasg (tcall2 ⟨_, rfl, by show 4 ≤ sizeLine; decide, fun q nq => ⟨G4, st, cs, _, _, q, [20, 40, 59, 60].map V.int, rfl, by decide, by decide, by omega, W4.new nq, Seq.hd, fun j v H5 hv W5 => ?_⟩⟩)))
    obtain ⟨z, hz, rfl⟩ := map_get hv
    obtain ⟨N, rfl, hN1, hN2⟩ : ∃ N : Nat, z = (N : Int) ∧ 20 ≤ N ∧ N ≤ 60 := by
      have := List.mem_of_getElem? hz
      simp at this
      exact ⟨z.toNat, by omega, by omega, by omega⟩
    have W5 := W5.drop
    refine tnx (tseq (tasg ⟨Nat.zero_le _, fun rw nrw => ?_⟩))
    have W6 := W5.new (o := .lst []) nrw
    have hos : os ≠ [] := fun e => by rw [e] at lo; simp at lo; omega
    refine tnx (tseq ?_)
    refine ⟨_, rfl, N, rfl, by omega, by omega, for_range (n := ((N : Nat) : Int).toNat) (fun i σ H' => ∃ (G' : Hp) (us : List V) (y5 y6 y7 : Option V), Same G4 G' ∧ SW G' st cs (n + 201) ((rw, .lst us) :: C) H' ∧ Reps G' ((cRows os i).map recD) us ∧
      σ = [some (.ref st), some (.ref pn), some (.ref pm), some (.int N), some (.ref rw), y5, y6, y7, none, none, none, none, none, none, none]) ⟨G4, [], _, _, _, Same.refl _, W6, .nil, rfl⟩ ?_ ?_⟩
    · rintro i σ H7 hi ⟨G7, us, y5, y6, y7, s7, W7, ru, rfl⟩
      have lus := ru.length
      rw [List.length_map, cRows_len] at lus
      have gpm7 := s7 _ _ gpm
      have ix : ∀ i : Nat, atI (os.map V.str) (((i : Nat) : Int) % ((os.length : Nat) : Int)) = some (.str (cPg os i)) := fun i => by
        rw [show ((i : Nat) : Int) % ((os.length : Nat) : Int) = ((i % os.length : Nat) : Int) by omega]
        exact atI_nat (by rw [List.getElem?_map, cPg_get hos]; rfl)
      refine tseq ?_
      refine ⟨_, rfl, _, rfl, _, rfl, rLenA.v (n := os.length) (.inl ⟨_, SqL.of (W7.getG gpm7), by rw [List.length_map]⟩) ?_⟩
      have e5 : (0 : Int) + ((i : Nat) : Int) = ((i : Nat) : Int) := by omega
      have pos : 0 < os.length := List.length_pos_iff.mpr hos
      refine ⟨_, _, rfl, rfl, by omega, rIx.lst (W7.getG gpm7) (by rw [e5]; exact ix i) ?_⟩
      refine ⟨_, rfl, _, rfl, rAddA.int ⟨_, rfl, rLenA.v (n := os.length) (.inl ⟨_, SqL.of (W7.getG gpm7), by rw [List.length_map]⟩) ⟨_, _, rfl, rfl, by omega, rIx.lst (W7.getG gpm7) (by rw [show (0 : Int) + ((i : Nat) : Int) + 1 = ((i + 1 : Nat) : Int) by omega]; exact ix (i + 1)) ?_⟩⟩⟩
      refine ⟨_, _, rfl, ?_⟩
      refine tnx (tdrop ⟨_, rfl, .inl ⟨rfl, _, SqL.of W7.hd⟩, _, rfl, by show 1 ≤ sizeLine; decide, fun p np => ⟨_, rfl, by show 1 ≤ sizeLine; decide, fun q nq => ⟨by show 2 ≤ sizeLine; decide, fun t nt => ?_⟩⟩⟩)
      obtain ⟨G8, s8, W8, r8⟩ := W7.recG (a := [cPg os i]) (b := [cPg os (i + 1)]) np nq nt
      refine ⟨rw, us, _, rfl, rfl, W8.hd, sz_lt (by omega), ?_⟩
      refine ⟨G8, us ++ [.ref t], _, _, _, s7.trans s8, W8.set, ?_, rfl⟩
      rw [cRows_succ, List.map_append]
      exact (ru.mono s8).app (.cons r8 .nil)
    · rintro σ H7 ⟨G7, us, y5, y6, y7, s7, W7, ru, rfl⟩
      rw [Int.toNat_natCast] at ru
      have rok : ∀ r ∈ cRows os N, RowOk ns r := fun r hr => by
        unfold cRows at hr
        obtain ⟨i, _, rfl⟩ := List.mem_map.mp hr
        exact RowOk.one nd srt (.inr ⟨_, ho.mem_iff.mp (cPg_mem hos i), rfl⟩) (ho.mem_iff.mp (cPg_mem hos (i + 1)))
      have chn : Chn ⟨ns, cRows os N⟩ := chn_rows (by omega) ho hos
      obtain ⟨L, eL⟩ : ∃ L : LogM, L = ⟨ns, cRows os N⟩ := ⟨_, rfl⟩
      have eLn : L.names = ns := by rw [eL]
      have eLr : L.rows = cRows os N := by rw [eL]
      have lN : L.rows.length = N := by rw [eLr, cRows_len]
      have v1 : okV L.rows (cPg os 1) (some 1) := by
        refine .inr ⟨1, List.mem_cons_of_mem _ ?_, rfl⟩
        have := (wr_take (L := L) (m := N) (n := cPg os 1) (w := 1)).mpr ⟨Int.le_refl _, by omega, by omega, by
          show cPg os 1 ∈ (rowAt L 1).2
          rw [eL, cRows_at (Nat.le_refl _) (by omega)]
          exact List.mem_singleton.mpr rfl⟩
        rw [List.take_of_length_le (by omega)] at this
        exact this
      rw [← eL] at chn
      rw [← eLr] at ru rok
      rw [← eLn] at nd srt nb ln rok ho lo gpn
      clear eL eLr eLn
      have W8 := W7.frz
      have s8 := W7.leF
      refine tnx (tseq (tasg ⟨_, rfl, _, rfl, by show 2 ≤ sizeLine; decide, fun lg nlg => ?_⟩))
      have W9 := W8.newG (o := .lst [.ref pn, .ref rw]) nlg
      have s9 := W8.leG (o := .lst [.ref pn, .ref rw]) nlg
      have grw : (upd (upd G7 rw (.lst us)) lg (.lst [.ref pn, .ref rw])) rw = some (.lst us) := s9 _ _ upd_same
      have glg : (upd (upd G7 rw (.lst us)) lg (.lst [.ref pn, .ref rw])) lg = some (.lst [.ref pn, .ref rw]) := upd_same
      have s79 := s8.trans s9
      generalize upd (upd G7 rw (.lst us)) lg (.lst [.ref pn, .ref rw]) = G9 at W9 s9 s79 grw glg
      generalize upd H7 lg (.lst [.ref pn, .ref rw]) = H9 at W9
      have gpm9 := s79 _ _ (s7 _ _ gpm)
      have gpn9 := s79 _ _ (s7 _ _ gpn)
      have V9 : LogV G9 lg L := ⟨⟨pn, rw, us, glg, s79 _ _ (s7 _ _ gpn), grw, ru.mono s79⟩, by omega, nd, srt, nb, by omega, rok⟩
      have s09 := s4.trans (s7.trans s79)
      have n12 := V9.nn.2
      clear W8 s8 s9 ru gpm gpn grw glg W7 s7 s4 s79 W6 W4 W5
      refine tnx (tseq (tasg ?_))
      obtain ⟨c9, w9, b9, d9⟩ := W9.wrap2
      refine tcb1 ?_
      refine tcall1 ⟨_, rfl, G9, _, lg, L, rfl, w9, V9, fun nd' G10 H10 nus s10 w10 gnd rnd => ⟨_, rfl, ?_⟩⟩
      obtain ⟨bl, tsl, hat, gbl, prl⟩ := needs_last_at rnd
      have W10 := b9 _ _ _ w10
      have prl2 : ∀ {l1 : List Addr} {l2 : List (Key × V)}, Paired (fun (t : Addr) (kv : Key × V) => G10 t = some (.tup [kV kv.1, kv.2])) l1 l2 → Paired (fun p kv => SqT K H10 p [kV kv.1, kv.2]) l1 l2 := by
        intro l1 l2 h
        induction h with
        | nil => exact .nil
        | cons h t ih => exact .cons (SqT.of (W10.getG h)) ih
      refine rIx.lst (W10.getG gnd) (by exact hat) ⟨bl, tsl, dkL L.names fun n => some (ver L.rows n), rfl, SqL.of (W10.getG gbl), prl2 prl, fun la nla => ?_⟩
      obtain ⟨fl, efl⟩ : ∃ fl : Str → Option Int, fl = fun n => some (ver L.rows n) := ⟨_, rfl⟩
      rw [← efl]
      have nk : ((dkL L.names fl).map (·.1)).Nodup := nodup_inr nd fun m => vD (fl m)
      rw [show mergeK [] (dkL L.names fl) = dkL L.names fl from by rw [merge_new (dkL L.names fl) [] nk (fun q hq z => by cases z), List.nil_append]]
      have W11 := W10.newG (o := .dK (dkL L.names fl)) nla
      have s11 := W10.leG (o := .dK (dkL L.names fl)) nla
      have gla : (upd G10 la (.dK (dkL L.names fl))) la = some (.dK (dkL L.names fl)) := upd_same
      generalize upd G10 la (.dK (dkL L.names fl)) = G11 at W11 s11 gla
      generalize upd H10 la (.dK (dkL L.names fl)) = H11 at W11
      have s911 := s10.trans s11
      have V11 := V9.mono s911
      have gpm11 := s911 _ _ gpm9
      have gpn11 := s911 _ _ gpn9
      have s011 := s09.trans s911
      clear w9 b9 d9 w10 W10 s10 s11 prl2 prl hat gbl gnd rnd V9 gpm9 gpn9 s09 s911 W9 nla
      refine tnx (tseq (tasg ?_))
      obtain ⟨c11, w11, b11, d11⟩ := W11.wrap2
      refine dict_lc (ns := L.names) (kd := true) w11 nd (by omega) (fun _ => V.int 0) (fun R r => ⟨_, rfl, r⟩) (fun C' G' H' s w => SqK.lst (w.getG (s _ _ gpn11))) (fun _ => rfl) (fun _ => rfl) (fun n hn C' G' H' R s w r => r) fun G12 H12 fi s12 w12 => ?_
      have W12 := d11 _ _ _ _ w12
      have W12 : SW G12 st cs (n + 201) ((fi, .dK (dkL L.names fun _ => some 0)) :: C) H12 := W12
      have W13 := W12.frz
      have s13 := s12.trans W12.leF
      have gfi : (upd G12 fi (.dK (dkL L.names fun _ => some 0))) fi = some (.dK (dkL L.names fun _ => some 0)) := upd_same
      generalize upd G12 fi (.dK (dkL L.names fun _ => some 0)) = G13 at W13 s13 gfi
      have V13 := V11.mono s13
      have gpm13 := s13 _ _ gpm11
      have gla13 := s13 _ _ gla
      have s013 := s011.trans s13
      clear w11 b11 d11 w12 W12 s12 s13 V11 gpm11 gla s011 W11 gpn11
      have ix : ∀ i : Nat, atI (os.map V.str) (((i % os.length : Nat) : Int)) = some (.str (cPg os i)) := fun i => atI_nat (by rw [List.getElem?_map, cPg_get hos]; rfl)
      have ix0 : atI (os.map V.str) 0 = some (.str (cPg os 0)) := ix 0
      have l2 : 2 ≤ os.length := by have := ho.length_eq; omega
      have ix1 : atI (os.map V.str) 1 = some (.str (cPg os 1)) := by
        have := ix 1
        rw [Nat.mod_eq_of_lt (by omega)] at this
        exact this
      have inn : ∀ i, cPg os i ∈ L.names := fun i => ho.mem_iff.mp (cPg_mem hos i)
      have okl : ∀ m ∈ L.names, okV L.rows m (fl m) := fun m _ => by rw [efl]; exact ver_okV
      have ok0 : ∀ m ∈ L.names, okV L.rows m (some 0) := fun m _ => .inr ⟨0, List.mem_cons_self, rfl⟩
      have okp : ∀ (f : Str → Option Int) (x : Str) (o : Option Int), (∀ m ∈ L.names, okV L.rows m (f m)) → okV L.rows x o → ∀ m ∈ L.names, okV L.rows m ((fun m => if m = x then o else f m) m) := fun f x o hf hx m hm => by
        show okV L.rows m (if m = x then o else f m)
        by_cases c : m = x
        · rw [if_pos c, c]; exact hx
        · rw [if_neg c]; exact hf m hm
      refine tnx (tseq (tasg (tcb1 ⟨_, rfl, la, _, rfl, .inl (W13.getG gla13), fun ne nne => ?_⟩)))
      have W14 := W13.new (o := .dK (dkL L.names fl)) nne
      refine tnx (tseq ?_)
      refine ⟨_, rfl, _, rfl, _, rfl, _, rfl, rLenA.v (n := os.length) (.inl ⟨_, SqL.of (W14.getG gpm13), by rw [List.length_map]⟩) ⟨_, _, rfl, rfl, by omega, rIx.lst (W14.getG gpm13) (by rw [show ((N : Nat) : Int) % ((os.length : Nat) : Int) = ((N % os.length : Nat) : Int) by omega]; exact ix N) ⟨ne, _, rfl, dkput (o := none) W14.hd (inn N) (by omega), ?_⟩⟩⟩
      have W15 := W14.set (u := .dK (dkL L.names fun m => if m = cPg os N then none else fl m))
      obtain ⟨fn, efn⟩ : ∃ fn : Str → Option Int, fn = fun m => if m = cPg os N then none else fl m := ⟨_, rfl⟩
      have okn : ∀ m ∈ L.names, okV L.rows m (fn m) := by rw [efn]; exact okp fl _ none okl (.inl rfl)
      rw [← efn] at W15 ⊢
      have W16 := W15.frz
      have s16 := W15.leF
      have gne : (upd G13 ne (.dK (dkL L.names fn))) ne = some (.dK (dkL L.names fn)) := upd_same
      generalize upd G13 ne (.dK (dkL L.names fn)) = G16 at W16 s16 gne
      generalize upd (upd H12 ne (.dK (dkL L.names fl))) ne (.dK (dkL L.names fn)) = H16 at W16
      have V16 := V13.mono s16
      have gpm16 := s16 _ _ gpm13
      have gla16 := s16 _ _ gla13
      have gfi16 := s16 _ _ gfi
      have s016 := s013.trans s16
      clear W13 W14 W15 s16 V13 gpm13 gla13 gfi s013 nne
      refine tnx (tseq (tasg (tcb1 ⟨_, rfl, fi, _, rfl, .inl (W16.getG gfi16), fun ba nba => ?_⟩)))
      have W17 := W16.new (o := .dK (dkL L.names fun _ => some 0)) nba
      refine tnx (tseq ?_)
      refine tcall2 ⟨_, rfl, by show 2 ≤ sizeLine; decide, fun q nq => ⟨G16, st, cs, _, _, q, [V.int 0, V.non], rfl, by decide, by decide, by omega, W17.new nq, Seq.hd, fun j v H18 hv W18 => ?_⟩⟩
      obtain ⟨o, rfl, oko⟩ : ∃ o : Option Int, v = vD o ∧ okV L.rows (cPg os 0) o := by
        have := List.mem_of_getElem? hv
        simp at this
        rcases this with rfl | rfl
        · exact ⟨some 0, rfl, .inr ⟨0, List.mem_cons_self, rfl⟩⟩
        · exact ⟨none, rfl, .inl rfl⟩
      have W18 := W18.drop
      refine ⟨_, rfl, _, rfl, rIx.lst (W18.getG gpm16) ix0 ⟨ba, _, rfl, dkput (o := o) W18.hd (inn 0) (by omega), ?_⟩⟩
      have W19 := W18.set (u := .dK (dkL L.names fun m => if m = cPg os 0 then o else some 0))
      obtain ⟨fb, efb⟩ : ∃ fb : Str → Option Int, fb = fun m => if m = cPg os 0 then o else some 0 := ⟨_, rfl⟩
      have okb : ∀ m ∈ L.names, okV L.rows m (fb m) := by rw [efb]; exact okp (fun _ => some 0) _ o ok0 oko
      rw [← efb] at W19 ⊢
      have W20 := W19.frz
      have s20 := W19.leF
      have gba : (upd G16 ba (.dK (dkL L.names fb))) ba = some (.dK (dkL L.names fb)) := upd_same
      generalize upd G16 ba (.dK (dkL L.names fb)) = G20 at W20 s20 gba
      generalize upd H18 ba (.dK (dkL L.names fb)) = H20 at W20
      have V20 := V16.mono s20
      have gpm20 := s20 _ _ gpm16
      have gla20 := s20 _ _ gla16
      have gfi20 := s20 _ _ gfi16
      have gne20 := s20 _ _ gne
      have s020 := s016.trans s20
      clear W16 W17 W18 W19 s20 V16 gpm16 gla16 gfi16 gne s016 nba nq
      refine tnx (tseq (tasg (tcb1 ⟨_, rfl, fi, _, rfl, .inl (W20.getG gfi20), fun be nbe => ?_⟩)))
      have W21 := W20.new (o := .dK (dkL L.names fun _ => some 0)) nbe
      refine tnx (tseq ?_)
      refine ⟨_, rfl, _, rfl, rIx.lst (W21.getG gpm20) ix1 ⟨be, _, rfl, dkput (o := some 1) W21.hd (inn 1) (by omega), ?_⟩⟩
      have W22 := W21.set (u := .dK (dkL L.names fun m => if m = cPg os 1 then some 1 else some 0))
      obtain ⟨fg, efg⟩ : ∃ fg : Str → Option Int, fg = fun m => if m = cPg os 1 then some 1 else some 0 := ⟨_, rfl⟩
      have okg : ∀ m ∈ L.names, okV L.rows m (fg m) := by rw [efg]; exact okp (fun _ => some 0) _ (some 1) ok0 v1
      rw [← efg] at W22 ⊢
      have W23 := W22.frz
      have s23 := W22.leF
      have gbe : (upd G20 be (.dK (dkL L.names fg))) be = some (.dK (dkL L.names fg)) := upd_same
      generalize upd G20 be (.dK (dkL L.names fg)) = G23 at W23 s23 gbe
      generalize upd (upd H20 be (.dK (dkL L.names fun _ => some 0))) be (.dK (dkL L.names fg)) = H23 at W23
      refine tnx ?_
      refine ⟨_, rfl, _, rfl, _, rfl, _, rfl, _, rfl, _, rfl, by show 5 ≤ sizeLine; decide, fun dl ndl => ⟨by show 2 ≤ sizeLine; decide, fun t nt => ?_⟩⟩
      have W24 := W23.newG (o := .lst [.ref fi, .ref la, .ref ne, .ref ba, .ref be]) ndl
      have s24 := W23.leG (o := .lst [.ref fi, .ref la, .ref ne, .ref ba, .ref be]) ndl
      have W25 := W24.newG (o := .tup [.ref lg, .ref dl]) nt
      have s25 := W24.leG (o := .tup [.ref lg, .ref dl]) nt
      have s2025 := s23.trans (s24.trans s25)
      have D0 := show DiskAt _ L fi (fun _ => some 0) from ⟨s2025 _ _ gfi20, ok0⟩
      have D1 := show DiskAt _ L la fl from ⟨s2025 _ _ gla20, okl⟩
      have D2 := show DiskAt _ L ne fn from ⟨s2025 _ _ gne20, okn⟩
      have D3 := show DiskAt _ L ba fb from ⟨s2025 _ _ gba, okb⟩
      have D4 := show DiskAt _ L be fg from ⟨s25 _ _ (s24 _ _ gbe), okg⟩
      refine k L lg dl t [fi, la, ne, ba, be] fi la _ _ (V20.mono s2025) chn upd_same (s25 _ _ upd_same) rfl rfl rfl ?_ D0 (by rw [← efl]; exact D1) (s020.trans s2025) (W25.mono (by omega))
      intro q hq
      simp at hq
      rcases hq with rfl | rfl | rfl | rfl | rfl
      · exact ⟨_, D0⟩
      · exact ⟨_, D1⟩
      · exact ⟨_, D2⟩
      · exact ⟨_, D3⟩
      · exact ⟨_, D4⟩
end
end Lw_lchain

namespace Lw_law
open PySem PySem.Spec PyProof.Rows L2 Lr
def top (i : Nat) : Stmt := PySem.Challenge.pw_leastredo_k12_whole_least_redo_of_great.main.body.getD i (.Pass ⟨0, 0, 0, 0⟩)
abbrev s_law : Stmt := top 63
abbrev N_law : List Str := ["script", "stream", "size", "log", "made", "needs", "turn", "disks", "disk"]
theorem sc_law : FnScope ["script", "stream", "size", "log", "made", "needs", "turn", "disks", "disk"] ["script"] (defScope s_law) := ⟨rfl, rfl, rfl, by decide +kernel, rfl, by decide +kernel, by decide +kernel⟩
structure Txt (mg : Str → Option Value) : Prop where
  b : Bl mg
section
variable {P : Program} {w : World} {K : PySem.W.Frag} {mg : Str → Option Value} {base : Heap} {Cl : Addr}
theorem ok_law {f : Addr} {fd : FuncData} (T : Txt mg) (F : Fun K "law" "law" s_law f fd) (G_start : Okf P w K mg base CX0 1 "_law_start" ["script"] (spStart K)) (G_log : Okf P w K mg base CX0 5 "_law_log" ["stream", "size"] spLog)
    (G_made : Okf P w K mg base CX0 7 "_law_made" ["stream", "log"] (spMade Cl)) (G_needs : Okf P w K mg base CX0 1 "_law_needs" ["log"] spNeeds) (G_disk : Okf P w K mg base CX0 3 "_law_disk" ["stream", "log"] spDisk) (G_gone : Okf P w K mg base CX0 3 "_law_gone" ["stream", "log"] spGone)
    (G_ais_least : Okf P w K mg base CX0 7 "_law_ais_least" ["stream", "log", "made", "needs", "disk", "gone"] (spAisLeast Cl)) (G_achain : Okf P w K mg base CX0 8 "_law_achain" ["stream"] spChain)
    (G_same : Okf P w K mg base CX0 5 "_law_same" ["found", "due"] (spSame 5)) (G_least_redo : Okf P w K mg base (L2.CX P w) 5 "least_redo" ["log", "disk", "gone"] (spLeast Cl)) (Gd2_least_redo : Okd P w K mg base (L2.CX P w) 5 "least_redo" ["log", "disk", "gone"] [.int 0] (spLeast Cl)) : FnOk P w K mg base CX0 9 f fd ["script"] (spLaw K) := by
  refine F.ok sc_law (fun vs H Q E h => ?_) (fun cdv A outer s H vs Q E hr h => ?_)
  · obtain ⟨a, ns, rfl, _⟩ := h
    rfl
  · obtain ⟨a0, ns0, rfl, S0, _, k⟩ := h
    refine ⟨_, (pss_cons (ps_set (i := 1) sc_law.nd rfl (Or.inl rfl) (pc G_start hr (pa_cons (pv 0) pa_nil)))
    (pss_cons (ps_for PassesOwn.never rfl (pi_seq (K := K) (pe_lst (pa_cons pe_int (pa_cons pe_int (pa_cons pe_int pa_nil))))) (pg_name (i := 2) sc_law.nd rfl (Or.inl rfl))
    (pss_cons (ps_set (i := 3) sc_law.nd rfl (Or.inl rfl) (pc G_log hr (pa_cons (pv 1) (pa_cons (pv 2) pa_nil))))
    (pss_cons (ps_par (i := 4) (j := 5) (by rfl) sc_law.nd rfl rfl (by decide) rfl rfl (pa_cons (pc G_made hr (pa_cons (pv 1) (pa_cons (pv 3) pa_nil))) (pa_cons (pc G_needs hr (pa_cons (pv 3) pa_nil)) pa_nil)) (by rfl))
    (pss_one (ps_for PassesOwn.never rfl (pi_range1 rfl T.b.range (pa_cons pe_int pa_nil)) (pg_name (i := 6) sc_law.nd rfl (Or.inl rfl))
    (pss_one (ps_if (pt_not (pt_val (pc G_ais_least hr (pa_cons (pv 1) (pa_cons (pv 3) (pa_cons (pv 4) (pa_cons (pv 5) (pa_cons (pc G_disk hr (pa_cons (pv 1) (pa_cons (pv 3) pa_nil))) (pa_cons (pc G_gone hr (pa_cons (pv 1) (pa_cons (pv 3) pa_nil))) pa_nil)))))))))
    (pss_one (ps_ret pe_bl))
    pss_nil)))))))
    (pss_cons (ps_asg (pc G_achain hr (pa_cons (pv 1) pa_nil)) (xtup (K := K) (n := 2) rfl (pgs_cons (pg_name (i := 3) sc_law.nd rfl (Or.inl rfl)) (pgs_cons (pg_name (i := 7) sc_law.nd rfl (Or.inl rfl)) pgs_nil))))
    (pss_cons (ps_par (i := 4) (j := 5) (by rfl) sc_law.nd rfl rfl (by decide) rfl rfl (pa_cons (pc G_made hr (pa_cons (pv 1) (pa_cons (pv 3) pa_nil))) (pa_cons (pc G_needs hr (pa_cons (pv 3) pa_nil)) pa_nil)) (by rfl))
    (pss_cons (ps_for PassesOwn.never rfl (pi_seq (K := K) (pv 7)) (pg_name (i := 8) sc_law.nd rfl (Or.inl rfl))
    (pss_one (ps_if (pt_not (pt_val (pc G_ais_least hr (pa_cons (pv 1) (pa_cons (pv 3) (pa_cons (pv 4) (pa_cons (pv 5) (pa_cons (pv 8) (pa_cons pe_int pa_nil)))))))))
    (pss_one (ps_ret pe_bl))
    pss_nil)))
    (pss_cons (ps_if (pt_not (pt_val (pc G_same hr (pa_cons (pcqd Gd2_least_redo hr (pa_cons (pv 4) (pa_cons (pe_ix (xix (K := K)) (pv 7) pe_int (fun _ _ => rfl)) pa_nil))) (pa_cons (pe_listRg rfl (by rfl) T.b.list (prg_2 (by rfl) T.b.range pe_int (pe_op (op_addA (K := K)) (pe_callB (call_lenA (K := K)) (by rfl) T.b.len (by decide +kernel) (pa_cons (pe_ix (xix (K := K)) (pv 3) pe_int (fun _ _ => rfl)) pa_nil)) pe_int))) pa_nil)))))
    (pss_one (ps_ret pe_bl))
    pss_nil)
    (pss_cons (ps_if (pt_not (pt_val (pc G_same hr (pa_cons (pe_lst (pa_cons (pcqd Gd2_least_redo hr (pa_cons (pv 4) (pa_cons (pe_ix (xix (K := K)) (pv 7) pe_int (fun _ _ => rfl)) pa_nil))) (pa_cons (pcq G_least_redo hr (pa_cons (pv 4) (pa_cons (pe_ix (xix (K := K)) (pv 7) pe_int (fun _ _ => rfl)) (pa_cons (pe_callB (call_lenA (K := K)) (by rfl) T.b.len (by decide +kernel) (pa_cons (pe_ix (xix (K := K)) (pv 3) pe_int (fun _ _ => rfl)) pa_nil)) pa_nil)))) pa_nil))) (pa_cons (pe_lst (pa_cons (pe_lst pa_nil) (pa_cons (pe_lst pa_nil) pa_nil))) pa_nil)))))
    (pss_one (ps_ret pe_bl))
    pss_nil)
    (pss_one (ps_ret (pc G_same hr (pa_cons (pcq G_least_redo hr (pa_cons (pv 4) (pa_cons (pe_ix (xix (K := K)) (pv 7) pe_int (fun _ _ => rfl)) (pa_cons pe_int pa_nil)))) (pa_cons pe_non pa_nil)))))))))))), ?_⟩
    have W00 : WF H [] H := ⟨Same.refl H, (fun c hc => by cases hc), List.nodup_nil⟩
    refine tseq (tasg ?_)
    refine ⟨_, rfl, H, [], a0, ns0, rfl, W00, S0, fun st cs H1 W1 => ?_⟩
    refine tnx (tseq ?_)
    refine .inl ⟨by show 3 ≤ sizeLine; decide, fun l nl => ?_⟩
    have W3 := W1.newG (o := .lst [.int 1, .int 2, .int 2]) nl
    have gl : (upd H l (.lst [.int 1, .int 2, .int 2])) l = some (.lst [.int 1, .int 2, .int 2]) := upd_same
    generalize upd H l (.lst [.int 1, .int 2, .int 2]) = G1 at W3 gl
    refine ⟨l, rfl, ⟨_, SqL.of upd_same⟩, for_list (K := K) (a := l) (xs := [.int 1, .int 2, .int 2]) (fun i σ H' => ∃ (G' : Hp) (y2 y3 y4 y5 y6 : Option V), Same G1 G' ∧ SW G' st cs (0 + 8000 * i) [] H' ∧ σ = [some (.ref a0), some (.ref st), y2, y3, y4, y5, y6, none, none]) ⟨G1, _, _, _, _, _, Same.refl _, W3, rfl⟩ ?_ ?_ ?_⟩
    · rintro i σ H' _ ⟨G', _, _, _, _, _, s, w, _⟩
      exact SqL.of (w.getG (s _ _ gl))
    · rintro i v σ H4 hv ⟨G2, y2, y3, y4, y5, y6, s2, W4, rfl⟩
      have hi : i < 3 := (List.getElem?_eq_some_iff.mp hv).1
      obtain ⟨z, z2, rfl⟩ : ∃ z : Nat, z ≤ 2 ∧ v = .int z := by
        have hm := List.mem_of_getElem? hv
        simp only [List.mem_cons, List.not_mem_nil, or_false] at hm
        rcases hm with rfl | rfl | rfl
        · exact ⟨1, by decide, rfl⟩
        · exact ⟨2, by decide, rfl⟩
        · exact ⟨2, by decide, rfl⟩
      refine tseq (tasg (tcall2 ⟨_, rfl, _, rfl, G2, st, cs, _, [], z, rfl, z2, by omega, W4, fun L a G3 H5 V3 s3 W5 => ?_⟩))
      refine tnx (tseq (tc2 (tcall2 ⟨_, rfl, _, rfl, G3, st, cs, _, [], a, L, rfl, V3, by omega, W5, fun x G4 H6 s4 A4 W6 => ?_⟩)))
      obtain ⟨c6, w6, b6⟩ := W6.wrap
      refine tcall1 ⟨_, rfl, G4, _, a, L, rfl, w6, V3.mono s4, fun nd G5 H7 nus s5 w7 gnd rnd => ⟨_, _, rfl, ?_⟩⟩
      have W7 := b6 _ _ _ w7
      have V5 := V3.mono (s4.trans s5)
      have A5 := A4.mono s5
      have s05 := s2.trans (s3.trans (s4.trans s5))
      refine tnx ?_
      refine ⟨3, rfl, by decide, by decide, for_range (n := (3 : Int).toNat) (fun j σ H' => ∃ (G' : Hp) (y6 : Option V), Same G5 G' ∧ SW G' st cs (0 + 8000 * i + 3000 + 3000 + 400 * j) [] H' ∧ σ = [some (.ref a0), some (.ref st), some (.int z), some (.ref a), some (.ref x), some (.ref nd), y6, none, none]) ⟨G5, _, Same.refl _, W7, rfl⟩ ?_ ?_⟩
      · rintro j σ H8 hj ⟨G6, y6, s6, W8, rfl⟩
        have hj' : j < 3 := hj
        refine tifnb (tcall6 ⟨_, rfl, _, rfl, _, rfl, _, rfl, tcall2 ⟨_, rfl, _, rfl, G6, st, cs, _, [], a, L, rfl, V5.mono s6, by omega, W8, fun f dk G7 H9 okf s7 W9 => ?_⟩⟩)
        have W10 := W9.frz
        have s8 := W9.leF
        have gdk : (upd G7 dk (.dK (dkL L.names f))) dk = some (.dK (dkL L.names f)) := upd_same
        have s68 := s6.trans (s7.trans s8)
        refine tcall2 ⟨_, rfl, _, rfl, _, st, cs, _, [], a, L, rfl, V5.mono s68, by omega, W10, fun g H10 hg W11 => ?_⟩
        refine ⟨_, st, cs, _, [], a, x, nd, dk, L, nus, f, g, rfl, V5.mono s68, A5.mono s68, s68 _ _ gnd, rnd.mono s68, ⟨gdk, okf⟩, hg, by omega, W11, fun G8 H11 s9 W12 => ⟨_, rfl, iteF ?_⟩⟩
        exact ⟨G8, _, s68.trans s9, W12.mono (by omega), rfl⟩
      · rintro σ H8 ⟨G6, y6, s6, W8, rfl⟩
        exact ⟨G6, _, _, _, _, _, s05.trans s6, W8.mono (by have : (3 : Int).toNat = 3 := rfl; omega), rfl⟩
    · rintro σ H4 ⟨G2, y2, y3, y4, y5, y6, s2, W4, rfl⟩
      have W4 : SW G2 st cs 24000 [] H4 := W4
      refine tnx (tseq ?_)
      refine tasg (tcall1 ⟨_, rfl, G2, st, cs, _, [], rfl, by omega, W4, fun L a d t ps p0 p1 G3 H5 V3 chn gt gd lps hp0 hp1 dps D0 D1 s3 W5 => ?_⟩)
      refine ⟨t, _, rfl, SqT.of (W5.getG gt), rfl, gc2 ?_⟩
      refine tnx (tseq (tc2 (tcall2 ⟨_, rfl, _, rfl, G3, st, cs, _, [], a, L, rfl, V3, by omega, W5, fun x G4 H6 s4 A4 W6 => ?_⟩)))
      obtain ⟨c6, w6, b6⟩ := W6.wrap
      refine tcall1 ⟨_, rfl, G4, _, a, L, rfl, w6, V3.mono s4, fun nd G5 H7 nus s5 w7 gnd rnd => ⟨_, _, rfl, ?_⟩⟩
      have W7 := b6 _ _ _ w7
      have s35 := s4.trans s5
      have V5 := V3.mono s35
      have A5 := A4.mono s5
      have gd5 := s35 _ _ gd
      have D05 := D0.mono s35
      have D15 := D1.mono s35
      have dps5 : ∀ q ∈ ps, ∃ f, DiskAt G5 L q f := fun q hq => by
        obtain ⟨f, h⟩ := dps q hq
        exact ⟨f, h.mono s35⟩
      clear s4 W6 w6 b6 w7 V3 A4 D0 D1 dps gt gd s35 s3 W5
      refine tnx (tseq ?_)
      refine .inl ⟨_, rfl, d, rfl, ⟨_, SqL.of (W7.getG gd5)⟩, for_list (K := K) (a := d) (xs := ps.map V.ref) (fun i σ H' => ∃ (G' : Hp) (y8 : Option V), Same G5 G' ∧ SW G' st cs (24000 + 4000 + 3000 + 100 * i) [] H' ∧ σ = [some (.ref a0), some (.ref st), y2, some (.ref a), some (.ref x), some (.ref nd), y6, some (.ref d), y8]) ⟨G5, _, Same.refl _, W7, rfl⟩ (fun i σ H' _ ⟨G', _, s, w, _⟩ => SqL.of (w.getG (s _ _ gd5))) ?_ ?_⟩
      · rintro i v σ H8 hv ⟨G6, y8, s6, W8, rfl⟩
        obtain ⟨dk, hdk, rfl⟩ := map_get hv
        have hi : i < 5 := by
          have := (List.getElem?_eq_some_iff.mp hdk).1
          omega
        obtain ⟨f, hf⟩ := dps5 dk (List.mem_of_getElem? hdk)
        refine tifnb (tcall6 ⟨_, rfl, _, rfl, _, rfl, _, rfl, _, rfl, G6, st, cs, _, [], a, x, nd, dk, L, nus, f, 0, rfl, V5.mono s6, A5.mono s6, s6 _ _ gnd, rnd.mono s6, hf.mono s6, Nat.zero_le _, by omega, W8, fun G8 H11 s9 W12 => ⟨_, rfl, iteF ?_⟩⟩)
        exact ⟨G8, _, s6.trans s9, W12.mono (by omega), rfl⟩
      · rintro σ H8 ⟨G6, y8, s6, W8, rfl⟩
        have W8 : SW G6 st cs 40000 [] H8 := W8.mono (by rw [List.length_map]; omega)
        have V6 := V5.mono s6
        have A6 := A5.mono s6
        have gd6 := s6 _ _ gd5
        have D06 := D05.mono s6
        have D16 := D15.mono s6
        clear W7 V5 A5 gd5 D05 D15 s6 gnd rnd dps5
        have l60 := V6.rl
        have rp : ∀ r ∈ L.rows, ∀ n ∈ r.1, n ∈ L.names := fun r hr => (V6.rok r hr).2.1
        obtain ⟨f0, ef0⟩ : ∃ f0 : Str → Option Int, f0 = fun _ => some 0 := ⟨_, rfl⟩
        obtain ⟨f1, ef1⟩ : ∃ f1 : Str → Option Int, f1 = fun n => some (ver L.rows n) := ⟨_, rfl⟩
        rw [← ef0] at D06
        rw [← ef1] at D16
        have df0 : ∀ n ∈ L.names, dkOf (esL L.names f0) n = some 0 := fun n hn => by rw [esL_dk hn, ef0]
        have df1 : ∀ n ∈ L.names, dkOf (esL L.names f1) n = some (ver L.rows n) := fun n hn => by rw [esL_dk hn, ef1]
        have m0 : ∀ (p q : Addr), atI (ps.map V.ref) 0 = some (.ref p0) := fun _ _ => atI_nat (j := 0) (by rw [List.getElem?_map, hp0]; rfl)
        have m1 : atI (ps.map V.ref) 1 = some (.ref p1) := atI_nat (j := 1) (by rw [List.getElem?_map, hp1]; rfl)
        obtain ⟨pn, pr, rvs, h1, h2, h3, h4⟩ := V6.ex
        have lus := h4.length
        rw [List.length_map] at lus
        -- the first disk: all records
        refine tnx (tseq ?_)
        refine tifnb (tcall2 ?_)
        obtain ⟨c8, w8, b8, d8⟩ := W8.wrap2
        refine tcall2d ⟨_, rfl, _, rfl, rIx.lst (W8.getG gd6) (m0 0 0) ?_⟩
        refine ⟨G6, _, x, L, esL L.names f0, .ref p0, 0, rfl, w8, A6, .of (.dic D06.1 (esL_rep f0 _)), esL_fits D06.2, Int.le_refl _, by omega, fun hd G7 H9 s7 w9 => ?_, fun ys hd hy G7 H9 p s7 w9 => ?_⟩
        · have := (chn.first df0 rp).1 ⟨hd, fun ys e => by cases e⟩
          cases this
        have ey := (chn.first df0 rp).1 ⟨hd, fun zs e => by cases e; exact hy⟩
        cases ey
        have W9 := (d8 _ _ _ _ w9).frz
        have s8 := s7.trans (d8 _ _ _ _ w9).leF
        have gp : (upd G7 p (.lst ((numsAll L.rows.length).map V.int))) p = some (.lst ((numsAll L.rows.length).map V.int)) := upd_same
        generalize upd G7 p (.lst ((numsAll L.rows.length).map V.int)) = G9 at W9 s8 gp
        refine ⟨_, rfl, rIx.lst (W9.getG (s8 _ _ h1)) (atI_nat (j := 1) rfl) (rLenA.v (n := L.rows.length) (.inl ⟨_, SqL.of (W9.getG (s8 _ _ h3)), lus⟩) (rAddA.int ⟨1, (L.rows.length : Int) + 1, rfl, rfl, RgOk.of_le (by omega) (by omega) (by omega) (by omega), fun nb nnb => ?_⟩))⟩
        rw [rgV_all]
        have W10 := W9.newG (o := .lst ((numsAll L.rows.length).map V.int)) nnb
        have s10 := W9.leG (o := .lst ((numsAll L.rows.length).map V.int)) nnb
        obtain ⟨eq1, eq2⟩ := ddD_eqa (r := some (numsAll L.rows.length)) (fun ys e => by cases e; rw [numsAll_len]; exact l60)
        have r1 : Rep (upd G9 nb (.lst ((numsAll L.rows.length).map V.int))) (ddD (some (numsAll L.rows.length))) (.ref p) := .lst (s10 _ _ gp) (Reps.ints _ _)
        have r2 : Rep (upd G9 nb (.lst ((numsAll L.rows.length).map V.int))) (ddD (some (numsAll L.rows.length))) (.ref nb) := .lst upd_same (Reps.ints _ _)
        refine ⟨_, _, _, rfl, r1.mono W10.sub, r2.mono W10.sub, eq1, eq2, fun H11 s11 => ⟨_, rfl, iteF ?_⟩⟩
        have W11 := W10.same s11
        have s610 := s8.trans s10
        generalize upd G9 nb (.lst ((numsAll L.rows.length).map V.int)) = G11 at W11 s610
        have A11 := A6.mono s610
        have gd11 := s610 _ _ gd6
        have D011 := D06.mono s610
        have D111 := D16.mono s610
        have h111 := s610 _ _ h1
        have h311 := s610 _ _ h3
        clear W8 w8 b8 d8 w9 W9 W10 r1 r2 gp s7 s8 s10 s11 nnb
        -- the last disk: none, whatever is gone
        refine tnx (tseq ?_)
        refine tifnb (tcall2 ?_)
        obtain ⟨c8, w8, b8, d8⟩ := W11.wrap2
        refine tcall2d ⟨_, rfl, _, rfl, rIx.lst (W11.getG gd11) m1 ?_⟩
        refine ⟨G11, _, x, L, esL L.names f1, .ref p1, 0, rfl, w8, A11, .of (.dic D111.1 (esL_rep f1 _)), esL_fits D111.2, Int.le_refl _, by omega, fun hd G7 H9 s7 w9 => ?_, fun ys hd hy G7 H9 p s7 w9 => ?_⟩
        · have := dem_last df1 (g := 0) (r := none) ⟨hd, fun ys e => by cases e⟩
          cases this
        have ey := dem_last df1 (g := 0) (r := some ys) ⟨hd, fun zs e => by cases e; exact hy⟩
        cases ey
        have W12 := (d8 _ _ _ _ w9).frz
        have s12 := s7.trans (d8 _ _ _ _ w9).leF
        have gp : (upd G7 p (.lst (([] : List Int).map V.int))) p = some (.lst []) := upd_same
        generalize upd G7 p (.lst (([] : List Int).map V.int)) = G12 at W12 s12 gp
        have A12 := A11.mono s12
        have gd12 := s12 _ _ gd11
        have D012 := D011.mono s12
        have D112 := D111.mono s12
        have h112 := s12 _ _ h111
        have h312 := s12 _ _ h311
        clear w8 b8 d8 w9 W11 A11 gd11 D011 D111 h111 h311
        obtain ⟨c8, w8, b8, d8⟩ := W12.wrap2
        refine tcall3 ⟨_, rfl, _, rfl, rIx.lst (W12.getG gd12) m1 ⟨_, rfl, rIx.lst (W12.getG h112) (atI_nat (j := 1) rfl) (rLenA.v (n := L.rows.length) (.inl ⟨_, SqL.of (W12.getG h312), lus⟩) ?_)⟩⟩
        refine ⟨G12, _, x, L, esL L.names f1, .ref p1, (L.rows.length : Int), rfl, w8, A12, .of (.dic D112.1 (esL_rep f1 _)), esL_fits D112.2, by omega, Int.le_refl _, fun hd G7 H9 s7 w9 => ?_, fun ys hd hy G7 H9 q s7 w9 => ?_⟩
        · have := dem_last df1 (g := (L.rows.length : Int)) (r := none) ⟨hd, fun ys e => by cases e⟩
          cases this
        have ey := dem_last df1 (g := (L.rows.length : Int)) (r := some ys) ⟨hd, fun zs e => by cases e; exact hy⟩
        cases ey
        have W13 := (d8 _ _ _ _ w9).frz
        have s13 := s7.trans (d8 _ _ _ _ w9).leF
        have gq : (upd G7 q (.lst (([] : List Int).map V.int))) q = some (.lst []) := upd_same
        generalize upd G7 q (.lst (([] : List Int).map V.int)) = G13 at W13 s13 gq
        refine ⟨by show 2 ≤ sizeLine; decide, fun l1 nl1 => ⟨Nat.zero_le _, fun e1 ne1 => ⟨Nat.zero_le _, fun e2 ne2 => ⟨by show 2 ≤ sizeLine; decide, fun l2 nl2 => ?_⟩⟩⟩⟩
        have X1 := W13.newG (o := .lst [.ref p, .ref q]) nl1
        have t1 := W13.leG (o := .lst [.ref p, .ref q]) nl1
        have X2 := X1.newG (o := .lst []) ne1
        have t2 := X1.leG (o := .lst []) ne1
        have X3 := X2.newG (o := .lst []) ne2
        have t3 := X2.leG (o := .lst []) ne2
        have X4 := X3.newG (o := .lst [.ref e1, .ref e2]) nl2
        have t4 := X3.leG (o := .lst [.ref e1, .ref e2]) nl2
        have r1 : Rep _ (.list [.list [], .list []]) (.ref l1) := Rep.mono (t2.trans (t3.trans t4)) (.lst upd_same (.cons (.lst (t1 _ _ (s13 _ _ gp)) .nil) (.cons (.lst (t1 _ _ gq) .nil) .nil)))
        have r2 : Rep _ (.list [.list [], .list []]) (.ref l2) := .lst upd_same (.cons (.lst (t4 _ _ (t3 _ _ upd_same)) .nil) (.cons (.lst (t4 _ _ upd_same) .nil) .nil))
        refine ⟨_, _, _, rfl, r1.mono X4.sub, r2.mono X4.sub, ⟨⟨⟨trivial, by decide⟩, ⟨trivial, by decide⟩, trivial⟩, by show 2 ≤ 100000; decide⟩, by decide, fun H14 s14 => ⟨_, rfl, iteF ?_⟩⟩
        have W14 := X4.same s14
        have s1214 := s13.trans (t1.trans (t2.trans (t3.trans t4)))
        generalize upd (upd (upd (upd G13 l1 (.lst [.ref p, .ref q])) e1 (.lst [])) e2 (.lst [])) l2 (.lst [.ref e1, .ref e2]) = G14 at W14 s1214
        have A14 := A12.mono s1214
        have gd14 := s1214 _ _ gd12
        have D014 := D012.mono s1214
        clear w8 b8 d8 w9 W12 A12 gd12 D012 D112 h112 h312 X1 X2 X3 X4 t1 t2 t3 t4 r1 r2 W13 s13 s14
        -- the first disk with a gone record: lost
        refine tnx (tcall2 ?_)
        obtain ⟨c8, w8, b8, d8⟩ := W14.wrap2
        refine tcall3 ⟨_, rfl, _, rfl, rIx.lst (W14.getG gd14) (m0 0 0) ?_⟩
        refine ⟨G14, _, x, L, esL L.names f0, .ref p0, 1, rfl, w8, A14, .of (.dic D014.1 (esL_rep f0 _)), esL_fits D014.2, by decide, by have := chn.pos; omega, fun hd G7 H9 s7 w9 => ?_, fun ys hd hy G7 H9 p s7 w9 => ?_⟩
        · exact ⟨.none, _, _, rfl, .non, .non, trivial, by show 0 < 5; decide, fun H13 s13 => k H13⟩
        · have := (chn.first df0 rp).2 ⟨hd, fun zs e => by cases e; exact hy⟩
          cases this
end
end Lw_law

namespace Lw_all
open PySem PySem.Spec PyProof.Rows L2 Lr
theorem all_mk {l : PySem.W.OpenLaw} {w : World} {K : PySem.W.Frag} {h : Heap} {mg : Str → Option Value} {fa C CP CR CL CD CN CG fl fxP fxR fxL fxD fxN fxG fm0 fm1 fm2 fm3 fm4 fd0 fd1 fd2 fd3 fd4 fd5 fd6 fd7 fd8 fd9 fd10 fd11 fd12 fd13 fd14 fd15 fd16 fd17 fd18 fd19 fd20 fd21 fd22 fd23 fd24 fd25 fd26 fd27 fd28 fd29 fd30 fd31 fd32 fd33 fd34 fd35 fd36 fd37 fd38 fd39 fd40 fd41 fd42 fd43 fd44 fd45 : Addr} {tL tF : Tok} (X : K.In h) (G : h.Ns mainGlobals mg) (hfa : mg "law" = some (.ref fa))
    {odm0 anm0 : Option Addr} {slm0 : Array (Option Value)} {ocm0 kVm0 dcm0 pmm0 cdm0 ctm0 : Value}
    {odm1 anm1 : Option Addr} {slm1 : Array (Option Value)} {ocm1 kVm1 dcm1 pmm1 cdm1 ctm1 : Value}
    {odm2 anm2 : Option Addr} {slm2 : Array (Option Value)} {ocm2 kVm2 dcm2 pmm2 cdm2 ctm2 : Value}
    {odm3 anm3 : Option Addr} {slm3 : Array (Option Value)} {ocm3 kVm3 dcm3 pmm3 cdm3 ctm3 : Value}
    {odm4 anm4 : Option Addr} {slm4 : Array (Option Value)} {ocm4 kVm4 dcm4 pmm4 cdm4 ctm4 : Value}
    {odd0 and0 : Option Addr} {sld0 : Array (Option Value)} {ocd0 kVd0 dcd0 pmd0 cdd0 ctd0 : Value}
    {odd1 and1 : Option Addr} {sld1 : Array (Option Value)} {ocd1 kVd1 dcd1 pmd1 cdd1 ctd1 : Value}
    {odd2 and2 : Option Addr} {sld2 : Array (Option Value)} {ocd2 kVd2 dcd2 pmd2 cdd2 ctd2 : Value}
    {odd3 and3 : Option Addr} {sld3 : Array (Option Value)} {ocd3 kVd3 dcd3 pmd3 cdd3 ctd3 : Value}
    {odd4 and4 : Option Addr} {sld4 : Array (Option Value)} {ocd4 kVd4 dcd4 pmd4 cdd4 ctd4 : Value}
    {odd5 and5 : Option Addr} {sld5 : Array (Option Value)} {ocd5 kVd5 dcd5 pmd5 cdd5 ctd5 : Value}
    {odd6 and6 : Option Addr} {sld6 : Array (Option Value)} {ocd6 kVd6 dcd6 pmd6 cdd6 ctd6 : Value}
    {odd7 and7 : Option Addr} {sld7 : Array (Option Value)} {ocd7 kVd7 dcd7 pmd7 cdd7 ctd7 : Value}
    {odd8 and8 : Option Addr} {sld8 : Array (Option Value)} {ocd8 kVd8 dcd8 pmd8 cdd8 ctd8 : Value}
    {odd9 and9 : Option Addr} {sld9 : Array (Option Value)} {ocd9 kVd9 dcd9 pmd9 cdd9 ctd9 : Value}
    {odd10 and10 : Option Addr} {sld10 : Array (Option Value)} {ocd10 kVd10 dcd10 pmd10 cdd10 ctd10 : Value}
    {odd11 and11 : Option Addr} {sld11 : Array (Option Value)} {ocd11 kVd11 dcd11 pmd11 cdd11 ctd11 : Value}
    {Tzd11 : Addr} {nzd11 : Nat} {ozd11 : Value} {pzd11 : Option Addr} {szd11 : Array (Option Value)}
    {odd12 and12 : Option Addr} {sld12 : Array (Option Value)} {ocd12 kVd12 dcd12 pmd12 cdd12 ctd12 : Value}
    {odd13 and13 : Option Addr} {sld13 : Array (Option Value)} {ocd13 kVd13 dcd13 pmd13 cdd13 ctd13 : Value}
    {odd14 and14 : Option Addr} {sld14 : Array (Option Value)} {ocd14 kVd14 dcd14 pmd14 cdd14 ctd14 : Value}
    {odd15 and15 : Option Addr} {sld15 : Array (Option Value)} {ocd15 kVd15 dcd15 pmd15 cdd15 ctd15 : Value}
    {Tzd15 : Addr} {nzd15 : Nat} {ozd15 : Value} {pzd15 : Option Addr} {szd15 : Array (Option Value)} {kzd15 : Tok}
    {odd16 and16 : Option Addr} {sld16 : Array (Option Value)} {ocd16 kVd16 dcd16 pmd16 cdd16 ctd16 : Value}
    {odd17 and17 : Option Addr} {sld17 : Array (Option Value)} {ocd17 kVd17 dcd17 pmd17 cdd17 ctd17 : Value}
    {odd18 and18 : Option Addr} {sld18 : Array (Option Value)} {ocd18 kVd18 dcd18 pmd18 cdd18 ctd18 : Value}
    {odd19 and19 : Option Addr} {sld19 : Array (Option Value)} {ocd19 kVd19 dcd19 pmd19 cdd19 ctd19 : Value}
    {odd20 and20 : Option Addr} {sld20 : Array (Option Value)} {ocd20 kVd20 dcd20 pmd20 cdd20 ctd20 : Value}
    {odd21 and21 : Option Addr} {sld21 : Array (Option Value)} {ocd21 kVd21 dcd21 pmd21 cdd21 ctd21 : Value}
    {odd22 and22 : Option Addr} {sld22 : Array (Option Value)} {ocd22 kVd22 dcd22 pmd22 cdd22 ctd22 : Value}
    {odd23 and23 : Option Addr} {sld23 : Array (Option Value)} {ocd23 kVd23 dcd23 pmd23 cdd23 ctd23 : Value}
    {odd24 and24 : Option Addr} {sld24 : Array (Option Value)} {ocd24 kVd24 dcd24 pmd24 cdd24 ctd24 : Value}
    {odd25 and25 : Option Addr} {sld25 : Array (Option Value)} {ocd25 kVd25 dcd25 pmd25 cdd25 ctd25 : Value}
    {odd26 and26 : Option Addr} {sld26 : Array (Option Value)} {ocd26 kVd26 dcd26 pmd26 cdd26 ctd26 : Value}
    {odd27 and27 : Option Addr} {sld27 : Array (Option Value)} {ocd27 kVd27 dcd27 pmd27 cdd27 ctd27 : Value}
    {odd28 and28 : Option Addr} {sld28 : Array (Option Value)} {ocd28 kVd28 dcd28 pmd28 cdd28 ctd28 : Value}
    {odd29 and29 : Option Addr} {sld29 : Array (Option Value)} {ocd29 kVd29 dcd29 pmd29 cdd29 ctd29 : Value}
    {odd30 and30 : Option Addr} {sld30 : Array (Option Value)} {ocd30 kVd30 dcd30 pmd30 cdd30 ctd30 : Value}
    {odd31 and31 : Option Addr} {sld31 : Array (Option Value)} {ocd31 kVd31 dcd31 pmd31 cdd31 ctd31 : Value}
    {odd32 and32 : Option Addr} {sld32 : Array (Option Value)} {ocd32 kVd32 dcd32 pmd32 cdd32 ctd32 : Value}
    {odd33 and33 : Option Addr} {sld33 : Array (Option Value)} {ocd33 kVd33 dcd33 pmd33 cdd33 ctd33 : Value}
    {odd34 and34 : Option Addr} {sld34 : Array (Option Value)} {ocd34 kVd34 dcd34 pmd34 cdd34 ctd34 : Value}
    {odd35 and35 : Option Addr} {sld35 : Array (Option Value)} {ocd35 kVd35 dcd35 pmd35 cdd35 ctd35 : Value}
    {odd36 and36 : Option Addr} {sld36 : Array (Option Value)} {ocd36 kVd36 dcd36 pmd36 cdd36 ctd36 : Value}
    {odd37 and37 : Option Addr} {sld37 : Array (Option Value)} {ocd37 kVd37 dcd37 pmd37 cdd37 ctd37 : Value}
    {odd38 and38 : Option Addr} {sld38 : Array (Option Value)} {ocd38 kVd38 dcd38 pmd38 cdd38 ctd38 : Value}
    {odd39 and39 : Option Addr} {sld39 : Array (Option Value)} {ocd39 kVd39 dcd39 pmd39 cdd39 ctd39 : Value}
    {odd40 and40 : Option Addr} {sld40 : Array (Option Value)} {ocd40 kVd40 dcd40 pmd40 cdd40 ctd40 : Value}
    {odd41 and41 : Option Addr} {sld41 : Array (Option Value)} {ocd41 kVd41 dcd41 pmd41 cdd41 ctd41 : Value}
    {odd42 and42 : Option Addr} {sld42 : Array (Option Value)} {ocd42 kVd42 dcd42 pmd42 cdd42 ctd42 : Value}
    {odd43 and43 : Option Addr} {sld43 : Array (Option Value)} {ocd43 kVd43 dcd43 pmd43 cdd43 ctd43 : Value}
    {odd44 and44 : Option Addr} {sld44 : Array (Option Value)} {ocd44 kVd44 dcd44 pmd44 cdd44 ctd44 : Value}
    {odd45 and45 : Option Addr} {sld45 : Array (Option Value)} {ocd45 kVd45 dcd45 pmd45 cdd45 ctd45 : Value}
    {odl anl : Option Addr} {sll : Array (Option Value)} {ocl kVl dcl pml cdl ctl : Value}
    {nmP qP : Str} {NP : Addr} {bsP bmP : List Value} {snP : List Str} {subP : List Value} {abP : Bool} {colP : Option Bool} {ddP : Option Addr} {m0P m1P m2P m3P m5P : Option Value}
    {odxP anxP : Option Addr} {slxP : Array (Option Value)} {ocxP dcxP pmxP cdxP ctxP : Value} {p1P p2P q1P q2P q3P q4P : Pos}
    {nmR qR : Str} {NR : Addr} {bsR bmR : List Value} {snR : List Str} {subR : List Value} {abR : Bool} {colR : Option Bool} {ddR : Option Addr} {m0R m1R m2R m3R m5R : Option Value}
    {odxR anxR : Option Addr} {slxR : Array (Option Value)} {ocxR dcxR pmxR cdxR ctxR : Value} {p1R p2R q1R q2R q3R q4R : Pos}
    {nmL qL : Str} {NL : Addr} {bsL bmL : List Value} {snL : List Str} {subL : List Value} {abL : Bool} {colL : Option Bool} {ddL : Option Addr} {m0L m1L m2L m3L m5L : Option Value}
    {odxL anxL : Option Addr} {slxL : Array (Option Value)} {ocxL dcxL pmxL cdxL ctxL : Value} {p1L p2L q1L q2L q3L q4L : Pos}
    {nmD qD : Str} {ND : Addr} {bsD bmD : List Value} {snD : List Str} {subD : List Value} {abD : Bool} {colD : Option Bool} {ddD : Option Addr} {m0D m1D m2D m3D m5D : Option Value}
    {odxD anxD : Option Addr} {slxD : Array (Option Value)} {ocxD dcxD pmxD cdxD ctxD : Value} {p1D p2D q1D q2D q3D q4D : Pos}
    {nmN qN : Str} {NN : Addr} {bsN bmN : List Value} {snN : List Str} {subN : List Value} {abN : Bool} {colN : Option Bool} {ddN : Option Addr} {m0N m1N m2N m3N m5N : Option Value}
    {odxN anxN : Option Addr} {slxN : Array (Option Value)} {ocxN dcxN pmxN cdxN ctxN : Value} {p1N p2N q1N q2N q3N q4N : Pos}
    {nmG qG : Str} {NG : Addr} {bsG bmG : List Value} {snG : List Str} {subG : List Value} {abG : Bool} {colG : Option Bool} {ddG : Option Addr} {m0G m1G m2G m3G m5G : Option Value}
    {odxG anxG : Option Addr} {slxG : Array (Option Value)} {ocxG dcxG pmxG cdxG ctxG : Value} {p1G p2G q1G q2G q3G q4G : Pos}
    (aC : PySem.W.nsIn K mainGlobals "Log" = some (some (.ref C)))
    (am0 : PySem.W.findIn K (.ref C) "__init__" = some (some (.ref fm0)))
    (im0 : PySem.W.isFn K (.ref fm0) = true)
    (lm0 : K.lookup fm0 = some ⟨ocm0, odm0, .func (PySem.W.fnOf "__init__" "Log.__init__" (defArgs Lw_log.s_Log_init) (defBody Lw_log.s_Log_init) (defScope Lw_log.s_Log_init) .none kVm0 dcm0 pmm0 anm0 cdm0 ctm0), slm0⟩)
    (cm0 : PySem.W.codeIn K cdm0 "Log.__init__" = true)
    (km0 : PySem.W.keepIn K (.ref fm0) = true)
    (am1 : PySem.W.findIn K (.ref C) "standing" = some (some (.ref fm1)))
    (im1 : PySem.W.isFn K (.ref fm1) = true)
    (lm1 : K.lookup fm1 = some ⟨ocm1, odm1, .func (PySem.W.fnOf "standing" "Log.standing" (defArgs Lw_log.s_Log_standing) (defBody Lw_log.s_Log_standing) (defScope Lw_log.s_Log_standing) .none kVm1 dcm1 pmm1 anm1 cdm1 ctm1), slm1⟩)
    (cm1 : PySem.W.codeIn K cdm1 "Log.standing" = true)
    (km1 : PySem.W.keepIn K (.ref fm1) = true)
    (am2 : PySem.W.findIn K (.ref C) "pages" = some (some (.ref fm2)))
    (im2 : PySem.W.isFn K (.ref fm2) = true)
    (lm2 : K.lookup fm2 = some ⟨ocm2, odm2, .func (PySem.W.fnOf "pages" "Log.pages" (defArgs Lw_log.s_Log_pages) (defBody Lw_log.s_Log_pages) (defScope Lw_log.s_Log_pages) .none kVm2 dcm2 pmm2 anm2 cdm2 ctm2), slm2⟩)
    (cm2 : PySem.W.codeIn K cdm2 "Log.pages" = true)
    (km2 : PySem.W.keepIn K (.ref fm2) = true)
    (am3 : PySem.W.findIn K (.ref C) "records" = some (some (.ref fm3)))
    (im3 : PySem.W.isFn K (.ref fm3) = true)
    (lm3 : K.lookup fm3 = some ⟨ocm3, odm3, .func (PySem.W.fnOf "records" "Log.records" (defArgs Lw_log.s_Log_records) (defBody Lw_log.s_Log_records) (defScope Lw_log.s_Log_records) .none kVm3 dcm3 pmm3 anm3 cdm3 ctm3), slm3⟩)
    (cm3 : PySem.W.codeIn K cdm3 "Log.records" = true)
    (km3 : PySem.W.keepIn K (.ref fm3) = true)
    (am4 : PySem.W.findIn K (.ref C) "size" = some (some (.ref fm4)))
    (im4 : PySem.W.isFn K (.ref fm4) = true)
    (lm4 : K.lookup fm4 = some ⟨ocm4, odm4, .func (PySem.W.fnOf "size" "Log.size" (defArgs Lw_log.s_Log_size) (defBody Lw_log.s_Log_size) (defScope Lw_log.s_Log_size) .none kVm4 dcm4 pmm4 anm4 cdm4 ctm4), slm4⟩)
    (cm4 : PySem.W.codeIn K cdm4 "Log.size" = true)
    (km4 : PySem.W.keepIn K (.ref fm4) = true)
    (ad0 : PySem.W.nsIn K mainGlobals "is_between" = some (some (.ref fd0)))
    (ld0 : K.lookup fd0 = some ⟨ocd0, odd0, .func (PySem.W.fnOf "is_between" "is_between" (defArgs Lw_betw.s_is_between) (defBody Lw_betw.s_is_between) (defScope Lw_betw.s_is_between) .none kVd0 dcd0 pmd0 and0 cdd0 ctd0), sld0⟩)
    (cd0 : PySem.W.codeIn K cdd0 "is_between" = true)
    (kd0 : PySem.W.keepIn K (.ref fd0) = true)
    (ad1 : PySem.W.nsIn K mainGlobals "is_name" = some (some (.ref fd1)))
    (ld1 : K.lookup fd1 = some ⟨ocd1, odd1, .func (PySem.W.fnOf "is_name" "is_name" (defArgs Lw_names.s_is_name) (defBody Lw_names.s_is_name) (defScope Lw_names.s_is_name) .none kVd1 dcd1 pmd1 and1 cdd1 ctd1), sld1⟩)
    (cd1 : PySem.W.codeIn K cdd1 "is_name" = true)
    (kd1 : PySem.W.keepIn K (.ref fd1) = true)
    (ad2 : PySem.W.nsIn K mainGlobals "names_of" = some (some (.ref fd2)))
    (ld2 : K.lookup fd2 = some ⟨ocd2, odd2, .func (PySem.W.fnOf "names_of" "names_of" (defArgs Lw_names.s_names_of) (defBody Lw_names.s_names_of) (defScope Lw_names.s_names_of) .none kVd2 dcd2 pmd2 and2 cdd2 ctd2), sld2⟩)
    (cd2 : PySem.W.codeIn K cdd2 "names_of" = true)
    (kd2 : PySem.W.keepIn K (.ref fd2) = true)
    (ad3 : PySem.W.nsIn K mainGlobals "lot_among" = some (some (.ref fd3)))
    (ld3 : K.lookup fd3 = some ⟨ocd3, odd3, .func (PySem.W.fnOf "lot_among" "lot_among" (defArgs Lw_names.s_lot_among) (defBody Lw_names.s_lot_among) (defScope Lw_names.s_lot_among) .none kVd3 dcd3 pmd3 and3 cdd3 ctd3), sld3⟩)
    (cd3 : PySem.W.codeIn K cdd3 "lot_among" = true)
    (kd3 : PySem.W.keepIn K (.ref fd3) = true)
    (ad4 : PySem.W.nsIn K mainGlobals "numbers_among" = some (some (.ref fd4)))
    (ld4 : K.lookup fd4 = some ⟨ocd4, odd4, .func (PySem.W.fnOf "numbers_among" "numbers_among" (defArgs Lw_nums.s_numbers_among) (defBody Lw_nums.s_numbers_among) (defScope Lw_nums.s_numbers_among) .none kVd4 dcd4 pmd4 and4 cdd4 ctd4), sld4⟩)
    (cd4 : PySem.W.codeIn K cdd4 "numbers_among" = true)
    (kd4 : PySem.W.keepIn K (.ref fd4) = true)
    (ad5 : PySem.W.nsIn K mainGlobals "record_of" = some (some (.ref fd5)))
    (ld5 : K.lookup fd5 = some ⟨ocd5, odd5, .func (PySem.W.fnOf "record_of" "record_of" (defArgs Lw_names.s_record_of) (defBody Lw_names.s_record_of) (defScope Lw_names.s_record_of) .none kVd5 dcd5 pmd5 and5 cdd5 ctd5), sld5⟩)
    (cd5 : PySem.W.codeIn K cdd5 "record_of" = true)
    (kd5 : PySem.W.keepIn K (.ref fd5) = true)
    (ad6 : PySem.W.nsIn K mainGlobals "need_log" = some (some (.ref fd6)))
    (ld6 : K.lookup fd6 = some ⟨ocd6, odd6, .func (PySem.W.fnOf "need_log" "need_log" (defArgs Lw_need.s_need_log) (defBody Lw_need.s_need_log) (defScope Lw_need.s_need_log) .none kVd6 dcd6 pmd6 and6 cdd6 ctd6), sld6⟩)
    (cd6 : PySem.W.codeIn K cdd6 "need_log" = true)
    (kd6 : PySem.W.keepIn K (.ref fd6) = true)
    (ad7 : PySem.W.nsIn K mainGlobals "is_version" = some (some (.ref fd7)))
    (ld7 : K.lookup fd7 = some ⟨ocd7, odd7, .func (PySem.W.fnOf "is_version" "is_version" (defArgs Lw_vers.s_is_version) (defBody Lw_vers.s_is_version) (defScope Lw_vers.s_is_version) .none kVd7 dcd7 pmd7 and7 cdd7 ctd7), sld7⟩)
    (cd7 : PySem.W.codeIn K cdd7 "is_version" = true)
    (kd7 : PySem.W.keepIn K (.ref fd7) = true)
    (ad8 : PySem.W.nsIn K mainGlobals "fits_disk" = some (some (.ref fd8)))
    (ld8 : K.lookup fd8 = some ⟨ocd8, odd8, .func (PySem.W.fnOf "fits_disk" "fits_disk" (defArgs Lw_fits.s_fits_disk) (defBody Lw_fits.s_fits_disk) (defScope Lw_fits.s_fits_disk) .none kVd8 dcd8 pmd8 and8 cdd8 ctd8), sld8⟩)
    (cd8 : PySem.W.codeIn K cdd8 "fits_disk" = true)
    (kd8 : PySem.W.keepIn K (.ref fd8) = true)
    (ad9 : PySem.W.nsIn K mainGlobals "need_disk" = some (some (.ref fd9)))
    (ld9 : K.lookup fd9 = some ⟨ocd9, odd9, .func (PySem.W.fnOf "need_disk" "need_disk" (defArgs Lw_ndisk.s_need_disk) (defBody Lw_ndisk.s_need_disk) (defScope Lw_ndisk.s_need_disk) .none kVd9 dcd9 pmd9 and9 cdd9 ctd9), sld9⟩)
    (cd9 : PySem.W.codeIn K cdd9 "need_disk" = true)
    (kd9 : PySem.W.keepIn K (.ref fd9) = true)
    (ad10 : PySem.W.nsIn K mainGlobals "need_numbers" = some (some (.ref fd10)))
    (ld10 : K.lookup fd10 = some ⟨ocd10, odd10, .func (PySem.W.fnOf "need_numbers" "need_numbers" (defArgs Lw_nnum.s_need_numbers) (defBody Lw_nnum.s_need_numbers) (defScope Lw_nnum.s_need_numbers) .none kVd10 dcd10 pmd10 and10 cdd10 ctd10), sld10⟩)
    (cd10 : PySem.W.codeIn K cdd10 "need_numbers" = true)
    (kd10 : PySem.W.keepIn K (.ref fd10) = true)
    (ad11 : PySem.W.nsIn K mainGlobals "need_gone" = some (some (.ref fd11)))
    (ld11 : K.lookup fd11 = some ⟨ocd11, odd11, .func (PySem.W.fnOf "need_gone" "need_gone" (defArgs Lw_gone.s_need_gone) (defBody Lw_gone.s_need_gone) (defScope Lw_gone.s_need_gone) (.ref Tzd11) kVd11 dcd11 pmd11 and11 cdd11 ctd11), sld11⟩)
    (cd11 : PySem.W.codeIn K cdd11 "need_gone" = true)
    (kd11 : PySem.W.keepIn K (.ref fd11) = true)
    (qd11 : K.lookup Tzd11 = some ⟨ozd11, pzd11, .seq #[.none] nzd11, szd11⟩)
    (ad12 : PySem.W.nsIn K mainGlobals "round_of" = some (some (.ref fd12)))
    (ld12 : K.lookup fd12 = some ⟨ocd12, odd12, .func (PySem.W.fnOf "round_of" "round_of" (defArgs Lw_rnd.s_round_of) (defBody Lw_rnd.s_round_of) (defScope Lw_rnd.s_round_of) .none kVd12 dcd12 pmd12 and12 cdd12 ctd12), sld12⟩)
    (cd12 : PySem.W.codeIn K cdd12 "round_of" = true)
    (kd12 : PySem.W.keepIn K (.ref fd12) = true)
    (ad13 : PySem.W.nsIn K mainGlobals "demands" = some (some (.ref fd13)))
    (ld13 : K.lookup fd13 = some ⟨ocd13, odd13, .func (PySem.W.fnOf "demands" "demands" (defArgs Lw_dem.s_demands) (defBody Lw_dem.s_demands) (defScope Lw_dem.s_demands) .none kVd13 dcd13 pmd13 and13 cdd13 ctd13), sld13⟩)
    (cd13 : PySem.W.codeIn K cdd13 "demands" = true)
    (kd13 : PySem.W.keepIn K (.ref fd13) = true)
    (ad14 : PySem.W.nsIn K mainGlobals "demanded" = some (some (.ref fd14)))
    (ld14 : K.lookup fd14 = some ⟨ocd14, odd14, .func (PySem.W.fnOf "demanded" "demanded" (defArgs Lw_dem.s_demanded) (defBody Lw_dem.s_demanded) (defScope Lw_dem.s_demanded) .none kVd14 dcd14 pmd14 and14 cdd14 ctd14), sld14⟩)
    (cd14 : PySem.W.codeIn K cdd14 "demanded" = true)
    (kd14 : PySem.W.keepIn K (.ref fd14) = true)
    (ad15 : PySem.W.nsIn K mainGlobals "least_redo" = some (some (.ref fd15)))
    (ld15 : K.lookup fd15 = some ⟨ocd15, odd15, .func (PySem.W.fnOf "least_redo" "least_redo" (defArgs Lw_least.s_least_redo) (defBody Lw_least.s_least_redo) (defScope Lw_least.s_least_redo) (.ref Tzd15) kVd15 dcd15 pmd15 and15 cdd15 ctd15), sld15⟩)
    (cd15 : PySem.W.codeIn K cdd15 "least_redo" = true)
    (kd15 : PySem.W.keepIn K (.ref fd15) = true)
    (qd15 : K.lookup Tzd15 = some ⟨ozd15, pzd15, .seq #[.int 0 kzd15] nzd15, szd15⟩)
    (ad16 : PySem.W.nsIn K mainGlobals "walked" = some (some (.ref fd16)))
    (ld16 : K.lookup fd16 = some ⟨ocd16, odd16, .func (PySem.W.fnOf "walked" "walked" (defArgs Lw_walk.s_walked) (defBody Lw_walk.s_walked) (defScope Lw_walk.s_walked) .none kVd16 dcd16 pmd16 and16 cdd16 ctd16), sld16⟩)
    (cd16 : PySem.W.codeIn K cdd16 "walked" = true)
    (kd16 : PySem.W.keepIn K (.ref fd16) = true)
    (ad17 : PySem.W.nsIn K mainGlobals "finds" = some (some (.ref fd17)))
    (ld17 : K.lookup fd17 = some ⟨ocd17, odd17, .func (PySem.W.fnOf "finds" "finds" (defArgs Lw_finds.s_finds) (defBody Lw_finds.s_finds) (defScope Lw_finds.s_finds) .none kVd17 dcd17 pmd17 and17 cdd17 ctd17), sld17⟩)
    (cd17 : PySem.W.codeIn K cdd17 "finds" = true)
    (kd17 : PySem.W.keepIn K (.ref fd17) = true)
    (ad18 : PySem.W.nsIn K mainGlobals "wrong_in" = some (some (.ref fd18)))
    (ld18 : K.lookup fd18 = some ⟨ocd18, odd18, .func (PySem.W.fnOf "wrong_in" "wrong_in" (defArgs Lw_wrong.s_wrong_in) (defBody Lw_wrong.s_wrong_in) (defScope Lw_wrong.s_wrong_in) .none kVd18 dcd18 pmd18 and18 cdd18 ctd18), sld18⟩)
    (cd18 : PySem.W.codeIn K cdd18 "wrong_in" = true)
    (kd18 : PySem.W.keepIn K (.ref fd18) = true)
    (ad19 : PySem.W.nsIn K mainGlobals "first_wrong" = some (some (.ref fd19)))
    (ld19 : K.lookup fd19 = some ⟨ocd19, odd19, .func (PySem.W.fnOf "first_wrong" "first_wrong" (defArgs Lw_wrong.s_first_wrong) (defBody Lw_wrong.s_first_wrong) (defScope Lw_wrong.s_first_wrong) .none kVd19 dcd19 pmd19 and19 cdd19 ctd19), sld19⟩)
    (cd19 : PySem.W.codeIn K cdd19 "first_wrong" = true)
    (kd19 : PySem.W.keepIn K (.ref fd19) = true)
    (ad20 : PySem.W.nsIn K mainGlobals "_law_start" = some (some (.ref fd20)))
    (ld20 : K.lookup fd20 = some ⟨ocd20, odd20, .func (PySem.W.fnOf "_law_start" "_law_start" (defArgs Lw_meth.s_start) (defBody Lw_meth.s_start) (defScope Lw_meth.s_start) .none kVd20 dcd20 pmd20 and20 cdd20 ctd20), sld20⟩)
    (cd20 : PySem.W.codeIn K cdd20 "_law_start" = true)
    (kd20 : PySem.W.keepIn K (.ref fd20) = true)
    (ad21 : PySem.W.nsIn K mainGlobals "_law_below" = some (some (.ref fd21)))
    (ld21 : K.lookup fd21 = some ⟨ocd21, odd21, .func (PySem.W.fnOf "_law_below" "_law_below" (defArgs Lw_below.s_below) (defBody Lw_below.s_below) (defScope Lw_below.s_below) .none kVd21 dcd21 pmd21 and21 cdd21 ctd21), sld21⟩)
    (cd21 : PySem.W.codeIn K cdd21 "_law_below" = true)
    (kd21 : PySem.W.keepIn K (.ref fd21) = true)
    (ad22 : PySem.W.nsIn K mainGlobals "_law_chance" = some (some (.ref fd22)))
    (ld22 : K.lookup fd22 = some ⟨ocd22, odd22, .func (PySem.W.fnOf "_law_chance" "_law_chance" (defArgs Lw_draws.s_chance) (defBody Lw_draws.s_chance) (defScope Lw_draws.s_chance) .none kVd22 dcd22 pmd22 and22 cdd22 ctd22), sld22⟩)
    (cd22 : PySem.W.codeIn K cdd22 "_law_chance" = true)
    (kd22 : PySem.W.keepIn K (.ref fd22) = true)
    (ad23 : PySem.W.nsIn K mainGlobals "_law_pick" = some (some (.ref fd23)))
    (ld23 : K.lookup fd23 = some ⟨ocd23, odd23, .func (PySem.W.fnOf "_law_pick" "_law_pick" (defArgs Lw_draws.s_pick) (defBody Lw_draws.s_pick) (defScope Lw_draws.s_pick) .none kVd23 dcd23 pmd23 and23 cdd23 ctd23), sld23⟩)
    (cd23 : PySem.W.codeIn K cdd23 "_law_pick" = true)
    (kd23 : PySem.W.keepIn K (.ref fd23) = true)
    (ad24 : PySem.W.nsIn K mainGlobals "_law_mixed" = some (some (.ref fd24)))
    (ld24 : K.lookup fd24 = some ⟨ocd24, odd24, .func (PySem.W.fnOf "_law_mixed" "_law_mixed" (defArgs Lw_draws.s_mixed) (defBody Lw_draws.s_mixed) (defScope Lw_draws.s_mixed) .none kVd24 dcd24 pmd24 and24 cdd24 ctd24), sld24⟩)
    (cd24 : PySem.W.codeIn K cdd24 "_law_mixed" = true)
    (kd24 : PySem.W.keepIn K (.ref fd24) = true)
    (ad25 : PySem.W.nsIn K mainGlobals "_law_lot" = some (some (.ref fd25)))
    (ld25 : K.lookup fd25 = some ⟨ocd25, odd25, .func (PySem.W.fnOf "_law_lot" "_law_lot" (defArgs Lw_draws.s_lot) (defBody Lw_draws.s_lot) (defScope Lw_draws.s_lot) .none kVd25 dcd25 pmd25 and25 cdd25 ctd25), sld25⟩)
    (cd25 : PySem.W.codeIn K cdd25 "_law_lot" = true)
    (kd25 : PySem.W.keepIn K (.ref fd25) = true)
    (ad26 : PySem.W.nsIn K mainGlobals "_law_same" = some (some (.ref fd26)))
    (ld26 : K.lookup fd26 = some ⟨ocd26, odd26, .func (PySem.W.fnOf "_law_same" "_law_same" (defArgs Lw_same.s_same) (defBody Lw_same.s_same) (defScope Lw_same.s_same) .none kVd26 dcd26 pmd26 and26 cdd26 ctd26), sld26⟩)
    (cd26 : PySem.W.codeIn K cdd26 "_law_same" = true)
    (kd26 : PySem.W.keepIn K (.ref fd26) = true)
    (ad27 : PySem.W.nsIn K mainGlobals "_law_loose" = some (some (.ref fd27)))
    (ld27 : K.lookup fd27 = some ⟨ocd27, odd27, .func (PySem.W.fnOf "_law_loose" "_law_loose" (defArgs Lw_loose.s_loose) (defBody Lw_loose.s_loose) (defScope Lw_loose.s_loose) .none kVd27 dcd27 pmd27 and27 cdd27 ctd27), sld27⟩)
    (cd27 : PySem.W.codeIn K cdd27 "_law_loose" = true)
    (kd27 : PySem.W.keepIn K (.ref fd27) = true)
    (ad28 : PySem.W.nsIn K mainGlobals "_law_turned" = some (some (.ref fd28)))
    (ld28 : K.lookup fd28 = some ⟨ocd28, odd28, .func (PySem.W.fnOf "_law_turned" "_law_turned" (defArgs Lw_small.s_turned) (defBody Lw_small.s_turned) (defScope Lw_small.s_turned) .none kVd28 dcd28 pmd28 and28 cdd28 ctd28), sld28⟩)
    (cd28 : PySem.W.codeIn K cdd28 "_law_turned" = true)
    (kd28 : PySem.W.keepIn K (.ref fd28) = true)
    (ad29 : PySem.W.nsIn K mainGlobals "_law_name" = some (some (.ref fd29)))
    (ld29 : K.lookup fd29 = some ⟨ocd29, odd29, .func (PySem.W.fnOf "_law_name" "_law_name" (defArgs Lw_name.s_name) (defBody Lw_name.s_name) (defScope Lw_name.s_name) .none kVd29 dcd29 pmd29 and29 cdd29 ctd29), sld29⟩)
    (cd29 : PySem.W.codeIn K cdd29 "_law_name" = true)
    (kd29 : PySem.W.keepIn K (.ref fd29) = true)
    (ad30 : PySem.W.nsIn K mainGlobals "_law_names" = some (some (.ref fd30)))
    (ld30 : K.lookup fd30 = some ⟨ocd30, odd30, .func (PySem.W.fnOf "_law_names" "_law_names" (defArgs Lw_name.s_names) (defBody Lw_name.s_names) (defScope Lw_name.s_names) .none kVd30 dcd30 pmd30 and30 cdd30 ctd30), sld30⟩)
    (cd30 : PySem.W.codeIn K cdd30 "_law_names" = true)
    (kd30 : PySem.W.keepIn K (.ref fd30) = true)
    (ad31 : PySem.W.nsIn K mainGlobals "_law_record" = some (some (.ref fd31)))
    (ld31 : K.lookup fd31 = some ⟨ocd31, odd31, .func (PySem.W.fnOf "_law_record" "_law_record" (defArgs Lw_rec.s_record) (defBody Lw_rec.s_record) (defScope Lw_rec.s_record) .none kVd31 dcd31 pmd31 and31 cdd31 ctd31), sld31⟩)
    (cd31 : PySem.W.codeIn K cdd31 "_law_record" = true)
    (kd31 : PySem.W.keepIn K (.ref fd31) = true)
    (ad32 : PySem.W.nsIn K mainGlobals "_law_log" = some (some (.ref fd32)))
    (ld32 : K.lookup fd32 = some ⟨ocd32, odd32, .func (PySem.W.fnOf "_law_log" "_law_log" (defArgs Lw_rec.s_log) (defBody Lw_rec.s_log) (defScope Lw_rec.s_log) .none kVd32 dcd32 pmd32 and32 cdd32 ctd32), sld32⟩)
    (cd32 : PySem.W.codeIn K cdd32 "_law_log" = true)
    (kd32 : PySem.W.keepIn K (.ref fd32) = true)
    (ad33 : PySem.W.nsIn K mainGlobals "_law_made" = some (some (.ref fd33)))
    (ld33 : K.lookup fd33 = some ⟨ocd33, odd33, .func (PySem.W.fnOf "_law_made" "_law_made" (defArgs Lw_made.s_made) (defBody Lw_made.s_made) (defScope Lw_made.s_made) .none kVd33 dcd33 pmd33 and33 cdd33 ctd33), sld33⟩)
    (cd33 : PySem.W.codeIn K cdd33 "_law_made" = true)
    (kd33 : PySem.W.keepIn K (.ref fd33) = true)
    (ad34 : PySem.W.nsIn K mainGlobals "_law_versions" = some (some (.ref fd34)))
    (ld34 : K.lookup fd34 = some ⟨ocd34, odd34, .func (PySem.W.fnOf "_law_versions" "_law_versions" (defArgs Lw_lvers.s_versions) (defBody Lw_lvers.s_versions) (defScope Lw_lvers.s_versions) .none kVd34 dcd34 pmd34 and34 cdd34 ctd34), sld34⟩)
    (cd34 : PySem.W.codeIn K cdd34 "_law_versions" = true)
    (kd34 : PySem.W.keepIn K (.ref fd34) = true)
    (ad35 : PySem.W.nsIn K mainGlobals "_law_needs" = some (some (.ref fd35)))
    (ld35 : K.lookup fd35 = some ⟨ocd35, odd35, .func (PySem.W.fnOf "_law_needs" "_law_needs" (defArgs Lw_lneeds.s_needs) (defBody Lw_lneeds.s_needs) (defScope Lw_lneeds.s_needs) .none kVd35 dcd35 pmd35 and35 cdd35 ctd35), sld35⟩)
    (cd35 : PySem.W.codeIn K cdd35 "_law_needs" = true)
    (kd35 : PySem.W.keepIn K (.ref fd35) = true)
    (ad36 : PySem.W.nsIn K mainGlobals "_law_up_to" = some (some (.ref fd36)))
    (ld36 : K.lookup fd36 = some ⟨ocd36, odd36, .func (PySem.W.fnOf "_law_up_to" "_law_up_to" (defArgs Lw_upto.s_up_to) (defBody Lw_upto.s_up_to) (defScope Lw_upto.s_up_to) .none kVd36 dcd36 pmd36 and36 cdd36 ctd36), sld36⟩)
    (cd36 : PySem.W.codeIn K cdd36 "_law_up_to" = true)
    (kd36 : PySem.W.keepIn K (.ref fd36) = true)
    (ad37 : PySem.W.nsIn K mainGlobals "_law_disk" = some (some (.ref fd37)))
    (ld37 : K.lookup fd37 = some ⟨ocd37, odd37, .func (PySem.W.fnOf "_law_disk" "_law_disk" (defArgs Lw_ldisk.s_disk) (defBody Lw_ldisk.s_disk) (defScope Lw_ldisk.s_disk) .none kVd37 dcd37 pmd37 and37 cdd37 ctd37), sld37⟩)
    (cd37 : PySem.W.codeIn K cdd37 "_law_disk" = true)
    (kd37 : PySem.W.keepIn K (.ref fd37) = true)
    (ad38 : PySem.W.nsIn K mainGlobals "_law_gone" = some (some (.ref fd38)))
    (ld38 : K.lookup fd38 = some ⟨ocd38, odd38, .func (PySem.W.fnOf "_law_gone" "_law_gone" (defArgs Lw_small.s_gone) (defBody Lw_small.s_gone) (defScope Lw_small.s_gone) .none kVd38 dcd38 pmd38 and38 cdd38 ctd38), sld38⟩)
    (cd38 : PySem.W.codeIn K cdd38 "_law_gone" = true)
    (kd38 : PySem.W.keepIn K (.ref fd38) = true)
    (ad39 : PySem.W.nsIn K mainGlobals "_law_rounds" = some (some (.ref fd39)))
    (ld39 : K.lookup fd39 = some ⟨ocd39, odd39, .func (PySem.W.fnOf "_law_rounds" "_law_rounds" (defArgs Lw_lrnd.s_rounds) (defBody Lw_lrnd.s_rounds) (defScope Lw_lrnd.s_rounds) .none kVd39 dcd39 pmd39 and39 cdd39 ctd39), sld39⟩)
    (cd39 : PySem.W.codeIn K cdd39 "_law_rounds" = true)
    (kd39 : PySem.W.keepIn K (.ref fd39) = true)
    (ad40 : PySem.W.nsIn K mainGlobals "_law_demands" = some (some (.ref fd40)))
    (ld40 : K.lookup fd40 = some ⟨ocd40, odd40, .func (PySem.W.fnOf "_law_demands" "_law_demands" (defArgs Lw_lrnd.s_law_demands) (defBody Lw_lrnd.s_law_demands) (defScope Lw_lrnd.s_law_demands) .none kVd40 dcd40 pmd40 and40 cdd40 ctd40), sld40⟩)
    (cd40 : PySem.W.codeIn K cdd40 "_law_demands" = true)
    (kd40 : PySem.W.keepIn K (.ref fd40) = true)
    (ad41 : PySem.W.nsIn K mainGlobals "_law_replay" = some (some (.ref fd41)))
    (ld41 : K.lookup fd41 = some ⟨ocd41, odd41, .func (PySem.W.fnOf "_law_replay" "_law_replay" (defArgs Lw_lrep.s_replay) (defBody Lw_lrep.s_replay) (defScope Lw_lrep.s_replay) .none kVd41 dcd41 pmd41 and41 cdd41 ctd41), sld41⟩)
    (cd41 : PySem.W.codeIn K cdd41 "_law_replay" = true)
    (kd41 : PySem.W.keepIn K (.ref fd41) = true)
    (ad42 : PySem.W.nsIn K mainGlobals "_law_ends" = some (some (.ref fd42)))
    (ld42 : K.lookup fd42 = some ⟨ocd42, odd42, .func (PySem.W.fnOf "_law_ends" "_law_ends" (defArgs Lw_lrep.s_ends) (defBody Lw_lrep.s_ends) (defScope Lw_lrep.s_ends) .none kVd42 dcd42 pmd42 and42 cdd42 ctd42), sld42⟩)
    (cd42 : PySem.W.codeIn K cdd42 "_law_ends" = true)
    (kd42 : PySem.W.keepIn K (.ref fd42) = true)
    (ad43 : PySem.W.nsIn K mainGlobals "_law_ais_clean" = some (some (.ref fd43)))
    (ld43 : K.lookup fd43 = some ⟨ocd43, odd43, .func (PySem.W.fnOf "_law_ais_clean" "_law_ais_clean" (defArgs Lw_small.s_ais_clean) (defBody Lw_small.s_ais_clean) (defScope Lw_small.s_ais_clean) .none kVd43 dcd43 pmd43 and43 cdd43 ctd43), sld43⟩)
    (cd43 : PySem.W.codeIn K cdd43 "_law_ais_clean" = true)
    (kd43 : PySem.W.keepIn K (.ref fd43) = true)
    (ad44 : PySem.W.nsIn K mainGlobals "_law_ais_least" = some (some (.ref fd44)))
    (ld44 : K.lookup fd44 = some ⟨ocd44, odd44, .func (PySem.W.fnOf "_law_ais_least" "_law_ais_least" (defArgs Lw_lleast.s_ais_least) (defBody Lw_lleast.s_ais_least) (defScope Lw_lleast.s_ais_least) .none kVd44 dcd44 pmd44 and44 cdd44 ctd44), sld44⟩)
    (cd44 : PySem.W.codeIn K cdd44 "_law_ais_least" = true)
    (kd44 : PySem.W.keepIn K (.ref fd44) = true)
    (ad45 : PySem.W.nsIn K mainGlobals "_law_achain" = some (some (.ref fd45)))
    (ld45 : K.lookup fd45 = some ⟨ocd45, odd45, .func (PySem.W.fnOf "_law_achain" "_law_achain" (defArgs Lw_lchain.s_achain) (defBody Lw_lchain.s_achain) (defScope Lw_lchain.s_achain) .none kVd45 dcd45 pmd45 and45 cdd45 ctd45), sld45⟩)
    (cd45 : PySem.W.codeIn K cdd45 "_law_achain" = true)
    (kd45 : PySem.W.keepIn K (.ref fd45) = true)
    (al : PySem.W.nsIn K mainGlobals "law" = some (some (.ref fl)))
    (ll : K.lookup fl = some ⟨ocl, odl, .func (PySem.W.fnOf "law" "law" (defArgs Lw_law.s_law) (defBody Lw_law.s_law) (defScope Lw_law.s_law) .none kVl dcl pml anl cdl ctl), sll⟩)
    (cl : PySem.W.codeIn K cdl "law" = true)
    (kl : PySem.W.keepIn K (.ref fl) = true)
    (pg : PySem.W.plainGet K C Str.empty = true)
    (hd : PySem.W.hasDictIn K C = true)
    (po : PySem.W.plainOver K C = true)
    (sa : PySem.W.findIn K (.ref C) "__setattr__" = some (some (.builtin "object.__setattr__")))
    (mk : PySem.W.makesIn K C = true)
    (kc : PySem.W.keepIn K (.ref C) = true)
    (n_names : PySem.W.findIn K (.ref C) "names" = some none)
    (n_rows : PySem.W.findIn K (.ref C) "rows" = some none)
    (n_writers : PySem.W.findIn K (.ref C) "writers" = some none)
    (n_needs : PySem.W.findIn K (.ref C) "needs" = some none)
    (z_len : PySem.W.nsIn K mainGlobals "len" = some none)
    (z_list : PySem.W.nsIn K mainGlobals "list" = some none)
    (z_tuple : PySem.W.nsIn K mainGlobals "tuple" = some none)
    (z_dict : PySem.W.nsIn K mainGlobals "dict" = some none)
    (z_int : PySem.W.nsIn K mainGlobals "int" = some none)
    (z_str : PySem.W.nsIn K mainGlobals "str" = some none)
    (z_bool : PySem.W.nsIn K mainGlobals "bool" = some none)
    (z_isinstance : PySem.W.nsIn K mainGlobals "isinstance" = some none)
    (z_range : PySem.W.nsIn K mainGlobals "range" = some none)
    (z_enumerate : PySem.W.nsIn K mainGlobals "enumerate" = some none)
    (z_zip : PySem.W.nsIn K mainGlobals "zip" = some none)
    (z_all : PySem.W.nsIn K mainGlobals "all" = some none)
    (z_any : PySem.W.nsIn K mainGlobals "any" = some none)
    (z_sorted : PySem.W.nsIn K mainGlobals "sorted" = some none)
    (z_min : PySem.W.nsIn K mainGlobals "min" = some none)
    (z_max : PySem.W.nsIn K mainGlobals "max" = some none)
    (z_sum : PySem.W.nsIn K mainGlobals "sum" = some none)
    (hL : PySem.W.nsIn K mainGlobals "LETTERS" = some (some (.str Lw_names.k_LETTERS tL)))
    (hF : PySem.W.nsIn K mainGlobals "FIGURES" = some (some (.str Lw_names.k_FIGURES tF)))
    (icl : PySem.W.findIn K (.ref C) "__class__" = some (some (.builtin "object.__class__")))
    (ign : PySem.W.specialIn K (.builtin "object.__class__") "__get__" = some (some (.builtin "getset_descriptor.__get__")))
    (itk : PySem.W.takesIn K (.builtin "object.__class__") = some true)
    (imr : PySem.W.mroIn K C (.type "object") = some true)
    (no_NoneType : PySem.W.kitOne K (.type "NoneType") (.ref C) = some false)
    (no_bool : PySem.W.kitOne K (.type "bool") (.ref C) = some false)
    (no_int : PySem.W.kitOne K (.type "int") (.ref C) = some false)
    (no_str : PySem.W.kitOne K (.type "str") (.ref C) = some false)
    (no_list : PySem.W.kitOne K (.type "list") (.ref C) = some false)
    (no_tuple : PySem.W.kitOne K (.type "tuple") (.ref C) = some false)
    (no_dict : PySem.W.kitOne K (.type "dict") (.ref C) = some false)
    (axP : PySem.W.nsIn K mainGlobals "BadPages" = some (some (.ref CP)))
    (xLP : K.lookup CP = some (excClassObj nmP qP CP NP bsP bmP true snP subP abP colP ddP m0P m1P m2P m3P m5P "ValueError.__new__"))
    (rvP : PySem.HandSPX.refsVE bmP = true)
    (sxP : PySem.W.findIn K (.ref CP) "__setattr__" = some (some (.builtin "object.__setattr__")))
    (gxP : PySem.W.findIn K (.ref CP) "__getattribute__" = some (some (.builtin "BaseException.__getattribute__")))
    (hxP : PySem.W.findIn K (.ref CP) "__getattr__" = some none)
    (nxP : PySem.W.findIn K (.ref CP) "thing" = some none)
    (ixP : PySem.W.findIn K (.ref CP) "__init__" = some (some (.ref fxP)))
    (txP : PySem.W.typeIn K (.ref fxP) = some (.type "function"))
    (lxP : K.lookup fxP = some ⟨ocxP, odxP, .func (PySem.W.fnOf "__init__" "BadPages.__init__" (PySem.Exthing.iA p1P p2P) (PySem.Exthing.iB q1P q2P q3P q4P) PySem.Exthing.iS .none .none dcxP pmxP anxP cdxP ctxP), slxP⟩)
    (cxP : PySem.W.codeIn K cdxP "BadPages.__init__" = true)
    (kxP : PySem.W.keepIn K (.ref CP) = true)
    (exP : PySem.W.subIn K (.ref CP) (.type "BaseException") = some true)
    (tyP : PySem.W.typeIn K (.ref CP) = some (.type "type"))
    (hdP : PySem.W.hasDictIn K CP = true)
    (ssP : PySem.W.subIn K (.ref CP) (.ref CP) = some true)
    (axR : PySem.W.nsIn K mainGlobals "BadRecords" = some (some (.ref CR)))
    (xLR : K.lookup CR = some (excClassObj nmR qR CR NR bsR bmR true snR subR abR colR ddR m0R m1R m2R m3R m5R "ValueError.__new__"))
    (rvR : PySem.HandSPX.refsVE bmR = true)
    (sxR : PySem.W.findIn K (.ref CR) "__setattr__" = some (some (.builtin "object.__setattr__")))
    (gxR : PySem.W.findIn K (.ref CR) "__getattribute__" = some (some (.builtin "BaseException.__getattribute__")))
    (hxR : PySem.W.findIn K (.ref CR) "__getattr__" = some none)
    (nxR : PySem.W.findIn K (.ref CR) "index" = some none)
    (ixR : PySem.W.findIn K (.ref CR) "__init__" = some (some (.ref fxR)))
    (txR : PySem.W.typeIn K (.ref fxR) = some (.type "function"))
    (lxR : K.lookup fxR = some ⟨ocxR, odxR, .func (PySem.W.fnOf "__init__" "BadRecords.__init__" (PySem.Exindex.iA p1R p2R) (PySem.Exindex.iB q1R q2R q3R q4R) PySem.Exindex.iS .none .none dcxR pmxR anxR cdxR ctxR), slxR⟩)
    (cxR : PySem.W.codeIn K cdxR "BadRecords.__init__" = true)
    (kxR : PySem.W.keepIn K (.ref CR) = true)
    (exR : PySem.W.subIn K (.ref CR) (.type "BaseException") = some true)
    (tyR : PySem.W.typeIn K (.ref CR) = some (.type "type"))
    (hdR : PySem.W.hasDictIn K CR = true)
    (ssR : PySem.W.subIn K (.ref CR) (.ref CR) = some true)
    (axL : PySem.W.nsIn K mainGlobals "BadLog" = some (some (.ref CL)))
    (xLL : K.lookup CL = some (excClassObj nmL qL CL NL bsL bmL true snL subL abL colL ddL m0L m1L m2L m3L m5L "ValueError.__new__"))
    (rvL : PySem.HandSPX.refsVE bmL = true)
    (sxL : PySem.W.findIn K (.ref CL) "__setattr__" = some (some (.builtin "object.__setattr__")))
    (gxL : PySem.W.findIn K (.ref CL) "__getattribute__" = some (some (.builtin "BaseException.__getattribute__")))
    (hxL : PySem.W.findIn K (.ref CL) "__getattr__" = some none)
    (nxL : PySem.W.findIn K (.ref CL) "thing" = some none)
    (ixL : PySem.W.findIn K (.ref CL) "__init__" = some (some (.ref fxL)))
    (txL : PySem.W.typeIn K (.ref fxL) = some (.type "function"))
    (lxL : K.lookup fxL = some ⟨ocxL, odxL, .func (PySem.W.fnOf "__init__" "BadLog.__init__" (PySem.Exthing.iA p1L p2L) (PySem.Exthing.iB q1L q2L q3L q4L) PySem.Exthing.iS .none .none dcxL pmxL anxL cdxL ctxL), slxL⟩)
    (cxL : PySem.W.codeIn K cdxL "BadLog.__init__" = true)
    (kxL : PySem.W.keepIn K (.ref CL) = true)
    (exL : PySem.W.subIn K (.ref CL) (.type "BaseException") = some true)
    (tyL : PySem.W.typeIn K (.ref CL) = some (.type "type"))
    (hdL : PySem.W.hasDictIn K CL = true)
    (ssL : PySem.W.subIn K (.ref CL) (.ref CL) = some true)
    (axD : PySem.W.nsIn K mainGlobals "BadDisk" = some (some (.ref CD)))
    (xLD : K.lookup CD = some (excClassObj nmD qD CD ND bsD bmD true snD subD abD colD ddD m0D m1D m2D m3D m5D "ValueError.__new__"))
    (rvD : PySem.HandSPX.refsVE bmD = true)
    (sxD : PySem.W.findIn K (.ref CD) "__setattr__" = some (some (.builtin "object.__setattr__")))
    (gxD : PySem.W.findIn K (.ref CD) "__getattribute__" = some (some (.builtin "BaseException.__getattribute__")))
    (hxD : PySem.W.findIn K (.ref CD) "__getattr__" = some none)
    (nxD : PySem.W.findIn K (.ref CD) "thing" = some none)
    (ixD : PySem.W.findIn K (.ref CD) "__init__" = some (some (.ref fxD)))
    (txD : PySem.W.typeIn K (.ref fxD) = some (.type "function"))
    (lxD : K.lookup fxD = some ⟨ocxD, odxD, .func (PySem.W.fnOf "__init__" "BadDisk.__init__" (PySem.Exthing.iA p1D p2D) (PySem.Exthing.iB q1D q2D q3D q4D) PySem.Exthing.iS .none .none dcxD pmxD anxD cdxD ctxD), slxD⟩)
    (cxD : PySem.W.codeIn K cdxD "BadDisk.__init__" = true)
    (kxD : PySem.W.keepIn K (.ref CD) = true)
    (exD : PySem.W.subIn K (.ref CD) (.type "BaseException") = some true)
    (tyD : PySem.W.typeIn K (.ref CD) = some (.type "type"))
    (hdD : PySem.W.hasDictIn K CD = true)
    (ssD : PySem.W.subIn K (.ref CD) (.ref CD) = some true)
    (axN : PySem.W.nsIn K mainGlobals "BadNumbers" = some (some (.ref CN)))
    (xLN : K.lookup CN = some (excClassObj nmN qN CN NN bsN bmN true snN subN abN colN ddN m0N m1N m2N m3N m5N "ValueError.__new__"))
    (rvN : PySem.HandSPX.refsVE bmN = true)
    (sxN : PySem.W.findIn K (.ref CN) "__setattr__" = some (some (.builtin "object.__setattr__")))
    (gxN : PySem.W.findIn K (.ref CN) "__getattribute__" = some (some (.builtin "BaseException.__getattribute__")))
    (hxN : PySem.W.findIn K (.ref CN) "__getattr__" = some none)
    (nxN : PySem.W.findIn K (.ref CN) "thing" = some none)
    (ixN : PySem.W.findIn K (.ref CN) "__init__" = some (some (.ref fxN)))
    (txN : PySem.W.typeIn K (.ref fxN) = some (.type "function"))
    (lxN : K.lookup fxN = some ⟨ocxN, odxN, .func (PySem.W.fnOf "__init__" "BadNumbers.__init__" (PySem.Exthing.iA p1N p2N) (PySem.Exthing.iB q1N q2N q3N q4N) PySem.Exthing.iS .none .none dcxN pmxN anxN cdxN ctxN), slxN⟩)
    (cxN : PySem.W.codeIn K cdxN "BadNumbers.__init__" = true)
    (kxN : PySem.W.keepIn K (.ref CN) = true)
    (exN : PySem.W.subIn K (.ref CN) (.type "BaseException") = some true)
    (tyN : PySem.W.typeIn K (.ref CN) = some (.type "type"))
    (hdN : PySem.W.hasDictIn K CN = true)
    (ssN : PySem.W.subIn K (.ref CN) (.ref CN) = some true)
    (axG : PySem.W.nsIn K mainGlobals "BadGone" = some (some (.ref CG)))
    (xLG : K.lookup CG = some (excClassObj nmG qG CG NG bsG bmG true snG subG abG colG ddG m0G m1G m2G m3G m5G "ValueError.__new__"))
    (rvG : PySem.HandSPX.refsVE bmG = true)
    (sxG : PySem.W.findIn K (.ref CG) "__setattr__" = some (some (.builtin "object.__setattr__")))
    (gxG : PySem.W.findIn K (.ref CG) "__getattribute__" = some (some (.builtin "BaseException.__getattribute__")))
    (hxG : PySem.W.findIn K (.ref CG) "__getattr__" = some none)
    (nxG : PySem.W.findIn K (.ref CG) "thing" = some none)
    (ixG : PySem.W.findIn K (.ref CG) "__init__" = some (some (.ref fxG)))
    (txG : PySem.W.typeIn K (.ref fxG) = some (.type "function"))
    (lxG : K.lookup fxG = some ⟨ocxG, odxG, .func (PySem.W.fnOf "__init__" "BadGone.__init__" (PySem.Exthing.iA p1G p2G) (PySem.Exthing.iB q1G q2G q3G q4G) PySem.Exthing.iS .none .none dcxG pmxG anxG cdxG ctxG), slxG⟩)
    (cxG : PySem.W.codeIn K cdxG "BadGone.__init__" = true)
    (kxG : PySem.W.keepIn K (.ref CG) = true)
    (exG : PySem.W.subIn K (.ref CG) (.type "BaseException") = some true)
    (tyG : PySem.W.typeIn K (.ref CG) = some (.type "type"))
    (hdG : PySem.W.hasDictIn K CG = true)
    (ssG : PySem.W.subIn K (.ref CG) (.ref CG) = some true) :
    ∃ fd : FuncData, (∀ (s : Shared) (v : Value), BindsTo s fd ⟨[v], []⟩ [("script", v)]) ∧ ∀ base : Heap, K.In base → base.Ns mainGlobals mg → FnOk l.prog w K mg base CX0 9 fa fd ["script"] (spLaw K) := by
  have e := hfa.symm.trans (PySem.W.mg_of X G al)
  cases e
  have B : Bl mg := ⟨PySem.W.mg_none_of X G z_len, PySem.W.mg_none_of X G z_list, PySem.W.mg_none_of X G z_tuple, PySem.W.mg_none_of X G z_dict, PySem.W.mg_none_of X G z_int, PySem.W.mg_none_of X G z_str, PySem.W.mg_none_of X G z_bool, PySem.W.mg_none_of X G z_isinstance, PySem.W.mg_none_of X G z_range, PySem.W.mg_none_of X G z_enumerate, PySem.W.mg_none_of X G z_zip, PySem.W.mg_none_of X G z_all, PySem.W.mg_none_of X G z_any, PySem.W.mg_none_of X G z_sorted, PySem.W.mg_none_of X G z_min, PySem.W.mg_none_of X G z_max, PySem.W.mg_none_of X G z_sum⟩
  have CC : Cls K C := ⟨pg, hd, po, sa⟩
  have IC : InsC K C := ⟨CC, icl, ign, itk, imr⟩
  have noDat : NoData K C := fun d => by
    cases d
    all_goals first | exact no_NoneType | exact no_bool | exact no_int | exact no_str | exact no_list | exact no_tuple | exact no_dict
  have xP : PySem.Exthing.Txtthing "BadPages" "BadPages.__init__" K mg CP fxP := { gC := PySem.W.mg_of X G axP, cls := ⟨nmP, qP, NP, bsP, bmP, snP, subP, abP, colP, ddP, m0P, m1P, m2P, m3P, m5P, xLP, rvP⟩, sa := sxP, ga := gxP, gg := hxP, noN := nxP, iC := ixP, tC := txP, kC := kxP, exC := exP, tyC := tyP, hdC := hdP, te := PySem.W.exm_ref exP hdP tyP ssP, fn := ⟨_, _, _, _, _, _, _, _, _, _, _, _, _, _, lxP, cxP⟩ }
  have xR : PySem.Exindex.Txtindex "BadRecords" "BadRecords.__init__" K mg CR fxR := { gC := PySem.W.mg_of X G axR, cls := ⟨nmR, qR, NR, bsR, bmR, snR, subR, abR, colR, ddR, m0R, m1R, m2R, m3R, m5R, xLR, rvR⟩, sa := sxR, ga := gxR, gg := hxR, noN := nxR, iC := ixR, tC := txR, kC := kxR, exC := exR, tyC := tyR, hdC := hdR, te := PySem.W.exm_ref exR hdR tyR ssR, fn := ⟨_, _, _, _, _, _, _, _, _, _, _, _, _, _, lxR, cxR⟩ }
  have xL : PySem.Exthing.Txtthing "BadLog" "BadLog.__init__" K mg CL fxL := { gC := PySem.W.mg_of X G axL, cls := ⟨nmL, qL, NL, bsL, bmL, snL, subL, abL, colL, ddL, m0L, m1L, m2L, m3L, m5L, xLL, rvL⟩, sa := sxL, ga := gxL, gg := hxL, noN := nxL, iC := ixL, tC := txL, kC := kxL, exC := exL, tyC := tyL, hdC := hdL, te := PySem.W.exm_ref exL hdL tyL ssL, fn := ⟨_, _, _, _, _, _, _, _, _, _, _, _, _, _, lxL, cxL⟩ }
  have xD : PySem.Exthing.Txtthing "BadDisk" "BadDisk.__init__" K mg CD fxD := { gC := PySem.W.mg_of X G axD, cls := ⟨nmD, qD, ND, bsD, bmD, snD, subD, abD, colD, ddD, m0D, m1D, m2D, m3D, m5D, xLD, rvD⟩, sa := sxD, ga := gxD, gg := hxD, noN := nxD, iC := ixD, tC := txD, kC := kxD, exC := exD, tyC := tyD, hdC := hdD, te := PySem.W.exm_ref exD hdD tyD ssD, fn := ⟨_, _, _, _, _, _, _, _, _, _, _, _, _, _, lxD, cxD⟩ }
  have xN : PySem.Exthing.Txtthing "BadNumbers" "BadNumbers.__init__" K mg CN fxN := { gC := PySem.W.mg_of X G axN, cls := ⟨nmN, qN, NN, bsN, bmN, snN, subN, abN, colN, ddN, m0N, m1N, m2N, m3N, m5N, xLN, rvN⟩, sa := sxN, ga := gxN, gg := hxN, noN := nxN, iC := ixN, tC := txN, kC := kxN, exC := exN, tyC := tyN, hdC := hdN, te := PySem.W.exm_ref exN hdN tyN ssN, fn := ⟨_, _, _, _, _, _, _, _, _, _, _, _, _, _, lxN, cxN⟩ }
  have xG : PySem.Exthing.Txtthing "BadGone" "BadGone.__init__" K mg CG fxG := { gC := PySem.W.mg_of X G axG, cls := ⟨nmG, qG, NG, bsG, bmG, snG, subG, abG, colG, ddG, m0G, m1G, m2G, m3G, m5G, xLG, rvG⟩, sa := sxG, ga := gxG, gg := hxG, noN := nxG, iC := ixG, tC := txG, kC := kxG, exC := exG, tyC := tyG, hdC := hdG, te := PySem.W.exm_ref exG hdG tyG ssG, fn := ⟨_, _, _, _, _, _, _, _, _, _, _, _, _, _, lxG, cxG⟩ }
  have Fm0 := fun_mk (st := Lw_log.s_Log_init) lm0 cm0 km0
  have bm0 := Fm0.binds (ps := ["self", "pages", "records"]) fun _ _ _ _ _ _ us hl => match us, hl with | [_, _, _], _ => rfl
  have Fm1 := fun_mk (st := Lw_log.s_Log_standing) lm1 cm1 km1
  have bm1 := Fm1.binds (ps := ["self", "names"]) fun _ _ _ _ _ _ us hl => match us, hl with | [_, _], _ => rfl
  have Fm2 := fun_mk (st := Lw_log.s_Log_pages) lm2 cm2 km2
  have bm2 := Fm2.binds (ps := ["self"]) fun _ _ _ _ _ _ us hl => match us, hl with | [_], _ => rfl
  have Fm3 := fun_mk (st := Lw_log.s_Log_records) lm3 cm3 km3
  have bm3 := Fm3.binds (ps := ["self"]) fun _ _ _ _ _ _ us hl => match us, hl with | [_], _ => rfl
  have Fm4 := fun_mk (st := Lw_log.s_Log_size) lm4 cm4 km4
  have bm4 := Fm4.binds (ps := ["self"]) fun _ _ _ _ _ _ us hl => match us, hl with | [_], _ => rfl
  have Fd0 := fun_mk (st := Lw_betw.s_is_between) ld0 cd0 kd0
  have D_is_between : FD K mg "is_between" Lw_betw.s_is_between ["thing", "low", "high"] := ⟨_, _, PySem.W.mg_of X G ad0, Fd0, Fd0.binds (ps := ["thing", "low", "high"]) fun _ _ _ _ _ _ us hl => match us, hl with | [_, _, _], _ => rfl⟩
  have Fd1 := fun_mk (st := Lw_names.s_is_name) ld1 cd1 kd1
  have D_is_name : FD K mg "is_name" Lw_names.s_is_name ["thing"] := ⟨_, _, PySem.W.mg_of X G ad1, Fd1, Fd1.binds (ps := ["thing"]) fun _ _ _ _ _ _ us hl => match us, hl with | [_], _ => rfl⟩
  have Fd2 := fun_mk (st := Lw_names.s_names_of) ld2 cd2 kd2
  have D_names_of : FD K mg "names_of" Lw_names.s_names_of ["thing"] := ⟨_, _, PySem.W.mg_of X G ad2, Fd2, Fd2.binds (ps := ["thing"]) fun _ _ _ _ _ _ us hl => match us, hl with | [_], _ => rfl⟩
  have Fd3 := fun_mk (st := Lw_names.s_lot_among) ld3 cd3 kd3
  have D_lot_among : FD K mg "lot_among" Lw_names.s_lot_among ["thing", "names"] := ⟨_, _, PySem.W.mg_of X G ad3, Fd3, Fd3.binds (ps := ["thing", "names"]) fun _ _ _ _ _ _ us hl => match us, hl with | [_, _], _ => rfl⟩
  have Fd4 := fun_mk (st := Lw_nums.s_numbers_among) ld4 cd4 kd4
  have D_numbers_among : FD K mg "numbers_among" Lw_nums.s_numbers_among ["thing", "most"] := ⟨_, _, PySem.W.mg_of X G ad4, Fd4, Fd4.binds (ps := ["thing", "most"]) fun _ _ _ _ _ _ us hl => match us, hl with | [_, _], _ => rfl⟩
  have Fd5 := fun_mk (st := Lw_names.s_record_of) ld5 cd5 kd5
  have D_record_of : FD K mg "record_of" Lw_names.s_record_of ["thing", "names"] := ⟨_, _, PySem.W.mg_of X G ad5, Fd5, Fd5.binds (ps := ["thing", "names"]) fun _ _ _ _ _ _ us hl => match us, hl with | [_, _], _ => rfl⟩
  have Fd6 := fun_mk (st := Lw_need.s_need_log) ld6 cd6 kd6
  have D_need_log : FD K mg "need_log" Lw_need.s_need_log ["log"] := ⟨_, _, PySem.W.mg_of X G ad6, Fd6, Fd6.binds (ps := ["log"]) fun _ _ _ _ _ _ us hl => match us, hl with | [_], _ => rfl⟩
  have Fd7 := fun_mk (st := Lw_vers.s_is_version) ld7 cd7 kd7
  have D_is_version : FD K mg "is_version" Lw_vers.s_is_version ["log", "page", "thing"] := ⟨_, _, PySem.W.mg_of X G ad7, Fd7, Fd7.binds (ps := ["log", "page", "thing"]) fun _ _ _ _ _ _ us hl => match us, hl with | [_, _, _], _ => rfl⟩
  have Fd8 := fun_mk (st := Lw_fits.s_fits_disk) ld8 cd8 kd8
  have D_fits_disk : FD K mg "fits_disk" Lw_fits.s_fits_disk ["log", "thing"] := ⟨_, _, PySem.W.mg_of X G ad8, Fd8, Fd8.binds (ps := ["log", "thing"]) fun _ _ _ _ _ _ us hl => match us, hl with | [_, _], _ => rfl⟩
  have Fd9 := fun_mk (st := Lw_ndisk.s_need_disk) ld9 cd9 kd9
  have D_need_disk : FD K mg "need_disk" Lw_ndisk.s_need_disk ["log", "disk"] := ⟨_, _, PySem.W.mg_of X G ad9, Fd9, Fd9.binds (ps := ["log", "disk"]) fun _ _ _ _ _ _ us hl => match us, hl with | [_, _], _ => rfl⟩
  have Fd10 := fun_mk (st := Lw_nnum.s_need_numbers) ld10 cd10 kd10
  have D_need_numbers : FD K mg "need_numbers" Lw_nnum.s_need_numbers ["log", "numbers"] := ⟨_, _, PySem.W.mg_of X G ad10, Fd10, Fd10.binds (ps := ["log", "numbers"]) fun _ _ _ _ _ _ us hl => match us, hl with | [_, _], _ => rfl⟩
  have Fd11 : FunD K "need_gone" "need_gone" (defArgs Lw_gone.s_need_gone) (defBody Lw_gone.s_need_gone) (defScope Lw_gone.s_need_gone) [.non] [] fd11 _ := ⟨⟨_, _, _, _, _, _, _, _, _, _, rfl, ld11, cd11, .inr ⟨by simp, Tzd11, _, [.none], nzd11, rfl, qd11, rfl, (.cons rfl .nil)⟩, .inl rfl⟩, kd11⟩
  obtain ⟨dsd11_2, vd11_2, wd11_2⟩ := Fd11.binds1 (ps := ["log", "gone", "most"]) 2 0 (by simp) rfl (fun _ _ _ _ _ _ _ us its hl hi => match us, hl, its, hi with | [_, _], _, [_], _ => ⟨_, rfl, rfl⟩)
  have Dd2_need_gone : FDD K mg "need_gone" Lw_gone.s_need_gone ["log", "gone", "most"] [.non] [.non] := ⟨_, _, dsd11_2, PySem.W.mg_of X G ad11, Fd11, vd11_2, wd11_2⟩
  have Fd12 := fun_mk (st := Lw_rnd.s_round_of) ld12 cd12 kd12
  have D_round_of : FD K mg "round_of" Lw_rnd.s_round_of ["log", "disk", "gone", "readers", "least", "rows"] := ⟨_, _, PySem.W.mg_of X G ad12, Fd12, Fd12.binds (ps := ["log", "disk", "gone", "readers", "least", "rows"]) fun _ _ _ _ _ _ us hl => match us, hl with | [_, _, _, _, _, _], _ => rfl⟩
  have Fd13 := fun_mk (st := Lw_dem.s_demands) ld13 cd13 kd13
  have D_demands : FD K mg "demands" Lw_dem.s_demands ["log", "disk", "gone"] := ⟨_, _, PySem.W.mg_of X G ad13, Fd13, Fd13.binds (ps := ["log", "disk", "gone"]) fun _ _ _ _ _ _ us hl => match us, hl with | [_, _, _], _ => rfl⟩
  have Fd14 := fun_mk (st := Lw_dem.s_demanded) ld14 cd14 kd14
  have D_demanded : FD K mg "demanded" Lw_dem.s_demanded ["log", "disk", "gone"] := ⟨_, _, PySem.W.mg_of X G ad14, Fd14, Fd14.binds (ps := ["log", "disk", "gone"]) fun _ _ _ _ _ _ us hl => match us, hl with | [_, _, _], _ => rfl⟩
  have Fd15 : FunD K "least_redo" "least_redo" (defArgs Lw_least.s_least_redo) (defBody Lw_least.s_least_redo) (defScope Lw_least.s_least_redo) [.int 0] [] fd15 _ := ⟨⟨_, _, _, _, _, _, _, _, _, _, rfl, ld15, cd15, .inr ⟨by simp, Tzd15, _, [.int 0 kzd15], nzd15, rfl, qd15, rfl, (.cons ⟨_, rfl⟩ .nil)⟩, .inl rfl⟩, kd15⟩
  obtain ⟨dsd15_2, vd15_2, wd15_2⟩ := Fd15.binds1 (ps := ["log", "disk", "gone"]) 2 0 (by simp) rfl (fun _ _ _ _ _ _ _ us its hl hi => match us, hl, its, hi with | [_, _], _, [_], _ => ⟨_, rfl, rfl⟩)
  have Dd2_least_redo : FDD K mg "least_redo" Lw_least.s_least_redo ["log", "disk", "gone"] [.int 0] [.int 0] := ⟨_, _, dsd15_2, PySem.W.mg_of X G ad15, Fd15, vd15_2, wd15_2⟩
  obtain ⟨dsd15_3, vd15_3, wd15_3⟩ := Fd15.binds1 (ps := ["log", "disk", "gone"]) 3 1 (by simp) rfl (fun _ _ _ _ _ _ _ us its hl hi => match us, hl, its, hi with | [_, _, _], _, [_], _ => ⟨_, rfl, rfl⟩)
  have Dd3_least_redo : FDD K mg "least_redo" Lw_least.s_least_redo ["log", "disk", "gone"] [.int 0] [] := ⟨_, _, dsd15_3, PySem.W.mg_of X G ad15, Fd15, vd15_3, wd15_3⟩
  have Fd16 := fun_mk (st := Lw_walk.s_walked) ld16 cd16 kd16
  have D_walked : FD K mg "walked" Lw_walk.s_walked ["log", "stands", "numbers"] := ⟨_, _, PySem.W.mg_of X G ad16, Fd16, Fd16.binds (ps := ["log", "stands", "numbers"]) fun _ _ _ _ _ _ us hl => match us, hl with | [_, _, _], _ => rfl⟩
  have Fd17 := fun_mk (st := Lw_finds.s_finds) ld17 cd17 kd17
  have D_finds : FD K mg "finds" Lw_finds.s_finds ["log", "disk", "numbers"] := ⟨_, _, PySem.W.mg_of X G ad17, Fd17, Fd17.binds (ps := ["log", "disk", "numbers"]) fun _ _ _ _ _ _ us hl => match us, hl with | [_, _, _], _ => rfl⟩
  have Fd18 := fun_mk (st := Lw_wrong.s_wrong_in) ld18 cd18 kd18
  have D_wrong_in : FD K mg "wrong_in" Lw_wrong.s_wrong_in ["log", "rows"] := ⟨_, _, PySem.W.mg_of X G ad18, Fd18, Fd18.binds (ps := ["log", "rows"]) fun _ _ _ _ _ _ us hl => match us, hl with | [_, _], _ => rfl⟩
  have Fd19 := fun_mk (st := Lw_wrong.s_first_wrong) ld19 cd19 kd19
  have D_first_wrong : FD K mg "first_wrong" Lw_wrong.s_first_wrong ["log", "disk", "numbers"] := ⟨_, _, PySem.W.mg_of X G ad19, Fd19, Fd19.binds (ps := ["log", "disk", "numbers"]) fun _ _ _ _ _ _ us hl => match us, hl with | [_, _, _], _ => rfl⟩
  have Fd20 := fun_mk (st := Lw_meth.s_start) ld20 cd20 kd20
  have D_start : FD K mg "_law_start" Lw_meth.s_start ["script"] := ⟨_, _, PySem.W.mg_of X G ad20, Fd20, Fd20.binds (ps := ["script"]) fun _ _ _ _ _ _ us hl => match us, hl with | [_], _ => rfl⟩
  have Fd21 := fun_mk (st := Lw_below.s_below) ld21 cd21 kd21
  have D_below : FD K mg "_law_below" Lw_below.s_below ["stream", "many"] := ⟨_, _, PySem.W.mg_of X G ad21, Fd21, Fd21.binds (ps := ["stream", "many"]) fun _ _ _ _ _ _ us hl => match us, hl with | [_, _], _ => rfl⟩
  have Fd22 := fun_mk (st := Lw_draws.s_chance) ld22 cd22 kd22
  have D_chance : FD K mg "_law_chance" Lw_draws.s_chance ["stream", "many"] := ⟨_, _, PySem.W.mg_of X G ad22, Fd22, Fd22.binds (ps := ["stream", "many"]) fun _ _ _ _ _ _ us hl => match us, hl with | [_, _], _ => rfl⟩
  have Fd23 := fun_mk (st := Lw_draws.s_pick) ld23 cd23 kd23
  have D_pick : FD K mg "_law_pick" Lw_draws.s_pick ["stream", "some"] := ⟨_, _, PySem.W.mg_of X G ad23, Fd23, Fd23.binds (ps := ["stream", "some"]) fun _ _ _ _ _ _ us hl => match us, hl with | [_, _], _ => rfl⟩
  have Fd24 := fun_mk (st := Lw_draws.s_mixed) ld24 cd24 kd24
  have D_mixed : FD K mg "_law_mixed" Lw_draws.s_mixed ["stream", "some"] := ⟨_, _, PySem.W.mg_of X G ad24, Fd24, Fd24.binds (ps := ["stream", "some"]) fun _ _ _ _ _ _ us hl => match us, hl with | [_, _], _ => rfl⟩
  have Fd25 := fun_mk (st := Lw_draws.s_lot) ld25 cd25 kd25
  have D_lot : FD K mg "_law_lot" Lw_draws.s_lot ["stream", "some", "share"] := ⟨_, _, PySem.W.mg_of X G ad25, Fd25, Fd25.binds (ps := ["stream", "some", "share"]) fun _ _ _ _ _ _ us hl => match us, hl with | [_, _, _], _ => rfl⟩
  have Fd26 := fun_mk (st := Lw_same.s_same) ld26 cd26 kd26
  have D_same : FD K mg "_law_same" Lw_same.s_same ["found", "due"] := ⟨_, _, PySem.W.mg_of X G ad26, Fd26, Fd26.binds (ps := ["found", "due"]) fun _ _ _ _ _ _ us hl => match us, hl with | [_, _], _ => rfl⟩
  have Fd27 := fun_mk (st := Lw_loose.s_loose) ld27 cd27 kd27
  have D_loose : FD K mg "_law_loose" Lw_loose.s_loose ["stream", "thing"] := ⟨_, _, PySem.W.mg_of X G ad27, Fd27, Fd27.binds (ps := ["stream", "thing"]) fun _ _ _ _ _ _ us hl => match us, hl with | [_, _], _ => rfl⟩
  have Fd28 := fun_mk (st := Lw_small.s_turned) ld28 cd28 kd28
  have D_turned : FD K mg "_law_turned" Lw_small.s_turned ["stream", "given"] := ⟨_, _, PySem.W.mg_of X G ad28, Fd28, Fd28.binds (ps := ["stream", "given"]) fun _ _ _ _ _ _ us hl => match us, hl with | [_, _], _ => rfl⟩
  have Fd29 := fun_mk (st := Lw_name.s_name) ld29 cd29 kd29
  have D_name : FD K mg "_law_name" Lw_name.s_name ["stream"] := ⟨_, _, PySem.W.mg_of X G ad29, Fd29, Fd29.binds (ps := ["stream"]) fun _ _ _ _ _ _ us hl => match us, hl with | [_], _ => rfl⟩
  have Fd30 := fun_mk (st := Lw_name.s_names) ld30 cd30 kd30
  have D_names : FD K mg "_law_names" Lw_name.s_names ["stream", "many"] := ⟨_, _, PySem.W.mg_of X G ad30, Fd30, Fd30.binds (ps := ["stream", "many"]) fun _ _ _ _ _ _ us hl => match us, hl with | [_, _], _ => rfl⟩
  have Fd31 := fun_mk (st := Lw_rec.s_record) ld31 cd31 kd31
  have D_record : FD K mg "_law_record" Lw_rec.s_record ["stream", "pages", "plain"] := ⟨_, _, PySem.W.mg_of X G ad31, Fd31, Fd31.binds (ps := ["stream", "pages", "plain"]) fun _ _ _ _ _ _ us hl => match us, hl with | [_, _, _], _ => rfl⟩
  have Fd32 := fun_mk (st := Lw_rec.s_log) ld32 cd32 kd32
  have D_log : FD K mg "_law_log" Lw_rec.s_log ["stream", "size"] := ⟨_, _, PySem.W.mg_of X G ad32, Fd32, Fd32.binds (ps := ["stream", "size"]) fun _ _ _ _ _ _ us hl => match us, hl with | [_, _], _ => rfl⟩
  have Fd33 := fun_mk (st := Lw_made.s_made) ld33 cd33 kd33
  have D_made : FD K mg "_law_made" Lw_made.s_made ["stream", "log"] := ⟨_, _, PySem.W.mg_of X G ad33, Fd33, Fd33.binds (ps := ["stream", "log"]) fun _ _ _ _ _ _ us hl => match us, hl with | [_, _], _ => rfl⟩
  have Fd34 := fun_mk (st := Lw_lvers.s_versions) ld34 cd34 kd34
  have D_versions : FD K mg "_law_versions" Lw_lvers.s_versions ["log"] := ⟨_, _, PySem.W.mg_of X G ad34, Fd34, Fd34.binds (ps := ["log"]) fun _ _ _ _ _ _ us hl => match us, hl with | [_], _ => rfl⟩
  have Fd35 := fun_mk (st := Lw_lneeds.s_needs) ld35 cd35 kd35
  have D_needs : FD K mg "_law_needs" Lw_lneeds.s_needs ["log"] := ⟨_, _, PySem.W.mg_of X G ad35, Fd35, Fd35.binds (ps := ["log"]) fun _ _ _ _ _ _ us hl => match us, hl with | [_], _ => rfl⟩
  have Fd36 := fun_mk (st := Lw_upto.s_up_to) ld36 cd36 kd36
  have D_up_to : FD K mg "_law_up_to" Lw_upto.s_up_to ["versions", "moment"] := ⟨_, _, PySem.W.mg_of X G ad36, Fd36, Fd36.binds (ps := ["versions", "moment"]) fun _ _ _ _ _ _ us hl => match us, hl with | [_, _], _ => rfl⟩
  have Fd37 := fun_mk (st := Lw_ldisk.s_disk) ld37 cd37 kd37
  have D_disk : FD K mg "_law_disk" Lw_ldisk.s_disk ["stream", "log"] := ⟨_, _, PySem.W.mg_of X G ad37, Fd37, Fd37.binds (ps := ["stream", "log"]) fun _ _ _ _ _ _ us hl => match us, hl with | [_, _], _ => rfl⟩
  have Fd38 := fun_mk (st := Lw_small.s_gone) ld38 cd38 kd38
  have D_gone : FD K mg "_law_gone" Lw_small.s_gone ["stream", "log"] := ⟨_, _, PySem.W.mg_of X G ad38, Fd38, Fd38.binds (ps := ["stream", "log"]) fun _ _ _ _ _ _ us hl => match us, hl with | [_, _], _ => rfl⟩
  have Fd39 := fun_mk (st := Lw_lrnd.s_rounds) ld39 cd39 kd39
  have D_rounds : FD K mg "_law_rounds" Lw_lrnd.s_rounds ["log", "disk", "gone"] := ⟨_, _, PySem.W.mg_of X G ad39, Fd39, Fd39.binds (ps := ["log", "disk", "gone"]) fun _ _ _ _ _ _ us hl => match us, hl with | [_, _, _], _ => rfl⟩
  have Fd40 := fun_mk (st := Lw_lrnd.s_law_demands) ld40 cd40 kd40
  have D_law_demands : FD K mg "_law_demands" Lw_lrnd.s_law_demands ["log", "disk", "gone"] := ⟨_, _, PySem.W.mg_of X G ad40, Fd40, Fd40.binds (ps := ["log", "disk", "gone"]) fun _ _ _ _ _ _ us hl => match us, hl with | [_, _, _], _ => rfl⟩
  have Fd41 := fun_mk (st := Lw_lrep.s_replay) ld41 cd41 kd41
  have D_replay : FD K mg "_law_replay" Lw_lrep.s_replay ["log", "needs", "disk", "numbers"] := ⟨_, _, PySem.W.mg_of X G ad41, Fd41, Fd41.binds (ps := ["log", "needs", "disk", "numbers"]) fun _ _ _ _ _ _ us hl => match us, hl with | [_, _, _, _], _ => rfl⟩
  have Fd42 := fun_mk (st := Lw_lrep.s_ends) ld42 cd42 kd42
  have D_ends : FD K mg "_law_ends" Lw_lrep.s_ends ["log", "needs", "disk", "numbers"] := ⟨_, _, PySem.W.mg_of X G ad42, Fd42, Fd42.binds (ps := ["log", "needs", "disk", "numbers"]) fun _ _ _ _ _ _ us hl => match us, hl with | [_, _, _, _], _ => rfl⟩
  have Fd43 := fun_mk (st := Lw_small.s_ais_clean) ld43 cd43 kd43
  have D_ais_clean : FD K mg "_law_ais_clean" Lw_small.s_ais_clean ["log", "needs", "disk", "numbers"] := ⟨_, _, PySem.W.mg_of X G ad43, Fd43, Fd43.binds (ps := ["log", "needs", "disk", "numbers"]) fun _ _ _ _ _ _ us hl => match us, hl with | [_, _, _, _], _ => rfl⟩
  have Fd44 := fun_mk (st := Lw_lleast.s_ais_least) ld44 cd44 kd44
  have D_ais_least : FD K mg "_law_ais_least" Lw_lleast.s_ais_least ["stream", "log", "made", "needs", "disk", "gone"] := ⟨_, _, PySem.W.mg_of X G ad44, Fd44, Fd44.binds (ps := ["stream", "log", "made", "needs", "disk", "gone"]) fun _ _ _ _ _ _ us hl => match us, hl with | [_, _, _, _, _, _], _ => rfl⟩
  have Fd45 := fun_mk (st := Lw_lchain.s_achain) ld45 cd45 kd45
  have D_achain : FD K mg "_law_achain" Lw_lchain.s_achain ["stream"] := ⟨_, _, PySem.W.mg_of X G ad45, Fd45, Fd45.binds (ps := ["stream"]) fun _ _ _ _ _ _ us hl => match us, hl with | [_], _ => rfl⟩
  refine ⟨PySem.W.fnOf "law" "law" (defArgs Lw_law.s_law) (defBody Lw_law.s_law) (defScope Lw_law.s_law) .none kVl dcl pml anl cdl ctl, fun s v => .of_eq rfl, fun base _ _ => ?_⟩
  have G_below : Okf l.prog w K mg base CX0 1 "_law_below" ["stream", "many"] spBelow := Lw_below.ok_below ⟨B⟩ D_below
  have G_chance : Okf l.prog w K mg base CX0 2 "_law_chance" ["stream", "many"] spChance := Lw_draws.ok_chance ⟨B⟩ D_chance G_below
  have G_pick : Okf l.prog w K mg base CX0 2 "_law_pick" ["stream", "some"] spPick := Lw_draws.ok_pick ⟨B⟩ D_pick G_below
  have G_mixed : Okf l.prog w K mg base CX0 2 "_law_mixed" ["stream", "some"] spMixed := Lw_draws.ok_mixed ⟨B⟩ D_mixed G_below
  have G_lot : Okf l.prog w K mg base CX0 2 "_law_lot" ["stream", "some", "share"] spLot := Lw_draws.ok_lot ⟨B⟩ D_lot G_below
  have G_same : Okf l.prog w K mg base CX0 5 "_law_same" ["found", "due"] (spSame 5) := Lw_same.ok_same ⟨B⟩ D_same 5
  have G_same0 : Okf l.prog w K mg base CX0 0 "_law_same" ["found", "due"] (spSame 0) := Lw_same.ok_same ⟨B⟩ D_same 0
  have G_loose : Okf l.prog w K mg base CX0 6 "_law_loose" ["stream", "thing"] (spLoose 4) := Lw_loose.ok_loose ⟨B⟩ D_loose G_below G_mixed 4
  have TN : Lw_names.Txt mg := ⟨B, ⟨tL, PySem.W.mg_of X G hL⟩, ⟨tF, PySem.W.mg_of X G hF⟩⟩
  have G_is_name : Okf l.prog w K mg base CX0 1 "is_name" ["thing"] spIsName := Lw_names.ok_is_name TN D_is_name
  have G_names_of : Okf l.prog w K mg base CX0 2 "names_of" ["thing"] spNamesOf := Lw_names.ok_names_of TN D_names_of G_is_name
  have G_lot_among : Okf l.prog w K mg base CX0 3 "lot_among" ["thing", "names"] (spLotAmong K) := Lw_names.ok_lot_among TN D_lot_among G_names_of
  have G_record_of : Okf l.prog w K mg base CX0 4 "record_of" ["thing", "names"] (spRecordOf K) := Lw_names.ok_record_of TN D_record_of G_lot_among
  have G_standing : Okm l.prog w K mg base CX0 1 C "standing" ["self", "names"] (spStanding C) := ⟨fm1, _, ⟨am1, im1, km1⟩, bm1, Lw_log.ok_standing ⟨B, CC, n_writers, n_rows, n_names, n_needs⟩ Fm1⟩
  have M_Log : MkC l.prog w K mg base (L2.CX l.prog w) 5 "Log" C ["self", "pages", "records"] (spLogInit C CP CR) := ⟨⟨fm0, _, ⟨mk, am0, im0, kc⟩, Lw_init.ok_Log_init ⟨B, CC, n_writers, n_rows, n_names, n_needs, xP, xR⟩ Fm0 G_names_of G_record_of G_standing, bm0⟩, PySem.W.mg_of X G aC⟩
  have G_Log_pages : Okm l.prog w K mg base CX0 1 C "pages" ["self"] (spPages C) := ⟨fm2, _, ⟨am2, im2, km2⟩, bm2, Lw_meth.ok_Log_pages ⟨B, CC, n_rows, n_names⟩ Fm2⟩
  have G_Log_records : Okm l.prog w K mg base CX0 1 C "records" ["self"] (spRecords C) := ⟨fm3, _, ⟨am3, im3, km3⟩, bm3, Lw_meth.ok_Log_records ⟨B, CC, n_rows, n_names⟩ Fm3⟩
  have G_Log_size : Okm l.prog w K mg base CX0 1 C "size" ["self"] (spSize C) := ⟨fm4, _, ⟨am4, im4, km4⟩, bm4, Lw_meth.ok_Log_size ⟨B, CC, n_rows, n_names⟩ Fm4⟩
  have G_start : Okf l.prog w K mg base CX0 1 "_law_start" ["script"] (spStart K) := Lw_meth.ok_start (Cl := C) ⟨B, CC, n_rows, n_names⟩ D_start
  have G_name : Okf l.prog w K mg base CX0 3 "_law_name" ["stream"] spName := Lw_name.ok_name ⟨B⟩ D_name G_below G_pick
  have G_names : Okf l.prog w K mg base CX0 4 "_law_names" ["stream", "many"] spNames := Lw_name.ok_names ⟨B⟩ D_names G_name
  have G_record : Okf l.prog w K mg base CX0 3 "_law_record" ["stream", "pages", "plain"] spRecord := Lw_rec.ok_record ⟨B⟩ D_record G_below G_pick G_lot
  have G_log : Okf l.prog w K mg base CX0 5 "_law_log" ["stream", "size"] spLog := Lw_rec.ok_log ⟨B⟩ D_log G_below G_chance G_names G_record
  have G_made : Okf l.prog w K mg base CX0 7 "_law_made" ["stream", "log"] (spMade C) := Lw_made.ok_made ⟨B, CC⟩ D_made G_mixed G_loose M_Log
  have G_is_between : Okf l.prog w K mg base CX0 1 "is_between" ["thing", "low", "high"] spBetween := Lw_betw.ok_is_between ⟨B⟩ D_is_between
  have G_need_log : Okf l.prog w K mg base (L2.CX l.prog w) 1 "need_log" ["log"] (spNeedLog C CL) := Lw_need.ok_need_log ⟨B, IC, noDat, PySem.W.mg_of X G aC, xL⟩ D_need_log
  have G_is_version : Okf l.prog w K mg base CX0 2 "is_version" ["log", "page", "thing"] (spIsVersion C) := Lw_vers.ok_is_version ⟨B, CC, n_writers, n_rows⟩ D_is_version G_is_between
  have G_numbers_among : Okf l.prog w K mg base CX0 2 "numbers_among" ["thing", "most"] spNumbersAmong := Lw_nums.ok_numbers_among ⟨B⟩ D_numbers_among G_is_between
  have G_fits_disk : Okf l.prog w K mg base CX0 3 "fits_disk" ["log", "thing"] (spFitsDisk C) := Lw_fits.ok_fits_disk ⟨B, CC, n_names⟩ D_fits_disk G_is_version
  have G_need_disk : Okf l.prog w K mg base (L2.CX l.prog w) 4 "need_disk" ["log", "disk"] (spNeedDisk C CD) := Lw_ndisk.ok_need_disk ⟨B, CC, n_names, xD⟩ D_need_disk G_fits_disk
  have G_need_numbers : Okf l.prog w K mg base (L2.CX l.prog w) 3 "need_numbers" ["log", "numbers"] (spNeedNumbers C CN) := Lw_nnum.ok_need_numbers ⟨B, CC, n_rows, xN⟩ D_need_numbers G_numbers_among
  have G_walked : Okf l.prog w K mg base CX0 1 "walked" ["log", "stands", "numbers"] (spWalked C) := Lw_walk.ok_walked ⟨B, CC, n_names, n_rows, n_needs⟩ D_walked
  have G_finds : Okf l.prog w K mg base (L2.CX l.prog w) 5 "finds" ["log", "disk", "numbers"] (spFinds C) := Lw_finds.ok_finds ⟨B⟩ D_finds G_need_log G_need_disk G_need_numbers G_walked
  have G_up_to : Okf l.prog w K mg base CX0 1 "_law_up_to" ["versions", "moment"] spUpTo := Lw_upto.ok_up_to ⟨B⟩ D_up_to
  have G_versions : Okf l.prog w K mg base CX0 1 "_law_versions" ["log"] spVersions := Lw_lvers.ok_versions ⟨B⟩ D_versions
  have G_needs : Okf l.prog w K mg base CX0 1 "_law_needs" ["log"] spNeeds := Lw_lneeds.ok_needs ⟨B⟩ D_needs
  have G_replay : Okf l.prog w K mg base CX0 1 "_law_replay" ["log", "needs", "disk", "numbers"] spReplay := Lw_lrep.ok_replay ⟨B⟩ D_replay
  have G_ends : Okf l.prog w K mg base CX0 2 "_law_ends" ["log", "needs", "disk", "numbers"] spEnds := Lw_lrep.ok_ends ⟨B⟩ D_ends G_replay
  have G_disk : Okf l.prog w K mg base CX0 3 "_law_disk" ["stream", "log"] spDisk := Lw_ldisk.ok_disk ⟨B⟩ D_disk G_versions G_below G_chance G_pick G_up_to
  have Gd2_need_gone := Lw_gone.ok_need_gone (P := l.prog) (w := w) (base := base) ⟨B, CC, n_rows, xG⟩ Dd2_need_gone G_is_between
  have G_round_of : Okf l.prog w K mg base CX0 1 "round_of" ["log", "disk", "gone", "readers", "least", "rows"] (spRoundOf C) := Lw_rnd.ok_round_of ⟨B, CC, n_needs⟩ D_round_of
  have G_demands : Okf l.prog w K mg base CX0 2 "demands" ["log", "disk", "gone"] (spDemands C) := Lw_dem.ok_demands ⟨B, CC, n_names, n_rows⟩ D_demands G_round_of
  have G_demanded : Okf l.prog w K mg base CX0 3 "demanded" ["log", "disk", "gone"] (spDemanded C) := Lw_dem.ok_demanded ⟨B, CC, n_names, n_rows⟩ D_demanded G_demands
  have G_least_redo := (Lw_least.ok_least_redo ⟨B⟩ Dd3_least_redo G_need_log G_need_disk Gd2_need_gone G_demanded).f
  have Gd2_least_redo := Lw_least.ok_least_redo ⟨B⟩ Dd2_least_redo G_need_log G_need_disk Gd2_need_gone G_demanded
  have G_wrong_in : Okf l.prog w K mg base CX0 1 "wrong_in" ["log", "rows"] (spWrongIn C) := Lw_wrong.ok_wrong_in ⟨B, CC, n_needs⟩ D_wrong_in
  have G_first_wrong : Okf l.prog w K mg base (L2.CX l.prog w) 6 "first_wrong" ["log", "disk", "numbers"] (spFirstWrong C) := Lw_wrong.ok_first_wrong ⟨B, CC, n_needs⟩ D_first_wrong G_finds G_wrong_in
  have G_turned : Okf l.prog w K mg base CX0 3 "_law_turned" ["stream", "given"] spTurned := Lw_small.ok_turned ⟨B⟩ D_turned G_mixed
  have G_gone : Okf l.prog w K mg base CX0 3 "_law_gone" ["stream", "log"] spGone := Lw_small.ok_gone ⟨B⟩ D_gone G_below G_chance
  have G_ais_clean : Okf l.prog w K mg base CX0 2 "_law_ais_clean" ["log", "needs", "disk", "numbers"] spAisClean := Lw_small.ok_ais_clean ⟨B⟩ D_ais_clean G_replay
  have G_rounds : Okf l.prog w K mg base CX0 2 "_law_rounds" ["log", "disk", "gone"] spRounds := Lw_lrnd.ok_rounds ⟨B⟩ D_rounds G_needs
  have G_law_demands : Okf l.prog w K mg base CX0 3 "_law_demands" ["log", "disk", "gone"] spLawDemands := Lw_lrnd.ok_law_demands ⟨B⟩ D_law_demands G_rounds
  have G_ais_least : Okf l.prog w K mg base CX0 7 "_law_ais_least" ["stream", "log", "made", "needs", "disk", "gone"] (spAisLeast C) := Lw_lleast.ok_ais_least ⟨B⟩ D_ais_least G_law_demands G_turned G_least_redo G_same G_ais_clean G_first_wrong G_pick G_below G_ends
  have G_achain : Okf l.prog w K mg base CX0 8 "_law_achain" ["stream"] spChain := Lw_lchain.ok_chain ⟨B⟩ D_achain G_needs G_names G_mixed G_below G_pick
  exact Lw_law.ok_law ⟨B⟩ (fun_mk (st := Lw_law.s_law) ll cl kl) G_start G_log G_made G_needs G_disk G_gone G_ais_least G_achain G_same G_least_redo Gd2_least_redo
theorem walk {l : PySem.W.OpenLaw} {q : Program} {loose : List Str} {XP : (Str → Option Value) → Heap → Prop} {YP : World → Heap → Prop} {d : DefRec} {K : Params → PySem.W.Frag} (hn : l.most = some 63) (hdf : d.params.defaults = [])
    (hY : ∀ (w : World) (h : Heap), YP w h → (K w.params).In h)
    (F : ∀ (w : World) (mg : Str → Option Value) (fa : Addr) (h : Heap), (K w.params).In h → h.Ns mainGlobals mg → mg d.name = some (.ref fa) →
      ∃ fd : FuncData, (∀ (s : Shared) (u : Value), BindsTo s fd ⟨[u], []⟩ [("script", u)]) ∧ ∀ base : Heap, (K w.params).In base → base.Ns mainGlobals mg → FnOk l.prog w (K w.params) mg base CX0 9 fa fd ["script"] (spLaw (K w.params))) :
    PySem.W.WalkO q loose XP YP l.row.toRowW d [] (fun f vs => PySem.call f vs) :=
  L2.walk_of (n := 63) (k := 9) (x := "script") (CX := fun _ => CX0) (sp := fun w => spLaw (K w.params)) hn (by decide) hdf ⟨rfl, by decide, by decide⟩ hY F (fun _ _ a ns hl _ hS => ⟨a, ns, rfl, hS, hl, fun _ => rfl⟩) fun _ _ _ _ _ z => z
end Lw_all
open PySem PySem.W PyProof.Rows in
set_option maxRecDepth 100000 in
set_option maxHeartbeats 0 in
theorem PySem.Challenge.cw_leastredo_k12_whole_least_redo_of_great_holds : PySem.Challenge.rw_leastredo_k12_whole_least_redo_of_great.Holds := by
  w_on; o_law; k_head; (case hw => w_witness2)
  k_fill
  refine Lw_all.walk (l := PySem.Challenge.rw_leastredo_k12_whole_least_redo_of_great) rfl rfl (fun w h Y => PySem.W.kIn_of Y) ?F
  case F =>
    intro w mg fa h KX G hmg
    refine' Lw_all.all_mk KX G hmg ?aC ?am0 ?im0 ?lm0 ?cm0 ?km0 ?am1 ?im1 ?lm1 ?cm1 ?km1 ?am2 ?im2 ?lm2 ?cm2 ?km2 ?am3 ?im3 ?lm3 ?cm3 ?km3 ?am4 ?im4 ?lm4 ?cm4 ?km4 ?ad0 ?ld0 ?cd0 ?kd0 ?ad1 ?ld1 ?cd1 ?kd1 ?ad2 ?ld2 ?cd2 ?kd2 ?ad3 ?ld3 ?cd3 ?kd3 ?ad4 ?ld4 ?cd4 ?kd4 ?ad5 ?ld5 ?cd5 ?kd5 ?ad6 ?ld6 ?cd6 ?kd6 ?ad7 ?ld7 ?cd7 ?kd7 ?ad8 ?ld8 ?cd8 ?kd8 ?ad9 ?ld9 ?cd9 ?kd9 ?ad10 ?ld10 ?cd10 ?kd10 ?ad11 ?ld11 ?cd11 ?kd11 ?qd11 ?ad12 ?ld12 ?cd12 ?kd12 ?ad13 ?ld13 ?cd13 ?kd13 ?ad14 ?ld14 ?cd14 ?kd14 ?ad15 ?ld15 ?cd15 ?kd15 ?qd15 ?ad16 ?ld16 ?cd16 ?kd16 ?ad17 ?ld17 ?cd17 ?kd17 ?ad18 ?ld18 ?cd18 ?kd18 ?ad19 ?ld19 ?cd19 ?kd19 ?ad20 ?ld20 ?cd20 ?kd20 ?ad21 ?ld21 ?cd21 ?kd21 ?ad22 ?ld22 ?cd22 ?kd22 ?ad23 ?ld23 ?cd23 ?kd23 ?ad24 ?ld24 ?cd24 ?kd24 ?ad25 ?ld25 ?cd25 ?kd25 ?ad26 ?ld26 ?cd26 ?kd26 ?ad27 ?ld27 ?cd27 ?kd27 ?ad28 ?ld28 ?cd28 ?kd28 ?ad29 ?ld29 ?cd29 ?kd29 ?ad30 ?ld30 ?cd30 ?kd30 ?ad31 ?ld31 ?cd31 ?kd31 ?ad32 ?ld32 ?cd32 ?kd32 ?ad33 ?ld33 ?cd33 ?kd33 ?ad34 ?ld34 ?cd34 ?kd34 ?ad35 ?ld35 ?cd35 ?kd35 ?ad36 ?ld36 ?cd36 ?kd36 ?ad37 ?ld37 ?cd37 ?kd37 ?ad38 ?ld38 ?cd38 ?kd38 ?ad39 ?ld39 ?cd39 ?kd39 ?ad40 ?ld40 ?cd40 ?kd40 ?ad41 ?ld41 ?cd41 ?kd41 ?ad42 ?ld42 ?cd42 ?kd42 ?ad43 ?ld43 ?cd43 ?kd43 ?ad44 ?ld44 ?cd44 ?kd44 ?ad45 ?ld45 ?cd45 ?kd45 ?al ?ll ?cl ?kl ?pg ?hd ?po ?sa ?mk ?kc ?n_names ?n_rows ?n_writers ?n_needs ?z_len ?z_list ?z_tuple ?z_dict ?z_int ?z_str ?z_bool ?z_isinstance ?z_range ?z_enumerate ?z_zip ?z_all ?z_any ?z_sorted ?z_min ?z_max ?z_sum ?hL ?hF ?icl ?ign ?itk ?imr ?no_NoneType ?no_bool ?no_int ?no_str ?no_list ?no_tuple ?no_dict ?axP ?xLP ?rvP ?sxP ?gxP ?hxP ?nxP ?ixP ?txP ?lxP ?cxP ?kxP ?exP ?tyP ?hdP ?ssP ?axR ?xLR ?rvR ?sxR ?gxR ?hxR ?nxR ?ixR ?txR ?lxR ?cxR ?kxR ?exR ?tyR ?hdR ?ssR ?axL ?xLL ?rvL ?sxL ?gxL ?hxL ?nxL ?ixL ?txL ?lxL ?cxL ?kxL ?exL ?tyL ?hdL ?ssL ?axD ?xLD ?rvD ?sxD ?gxD ?hxD ?nxD ?ixD ?txD ?lxD ?cxD ?kxD ?exD ?tyD ?hdD ?ssD ?axN ?xLN ?rvN ?sxN ?gxN ?hxN ?nxN ?ixN ?txN ?lxN ?cxN ?kxN ?exN ?tyN ?hdN ?ssN ?axG ?xLG ?rvG ?sxG ?gxG ?hxG ?nxG ?ixG ?txG ?lxG ?cxG ?kxG ?exG ?tyG ?hdG ?ssG
    (case aC => k_is)
    (case am0 => k_is)
    (case im0 => k_is)
    (case lm0 => k_is)
    (case cm0 => k_is)
    (case km0 => k_is)
    (case am1 => k_is)
    (case im1 => k_is)
    (case lm1 => k_is)
    (case cm1 => k_is)
    (case km1 => k_is)
    (case am2 => k_is)
    (case im2 => k_is)
    (case lm2 => k_is)
    (case cm2 => k_is)
    (case km2 => k_is)
    (case am3 => k_is)
    (case im3 => k_is)
    (case lm3 => k_is)
    (case cm3 => k_is)
    (case km3 => k_is)
    (case am4 => k_is)
    (case im4 => k_is)
    (case lm4 => k_is)
    (case cm4 => k_is)
    (case km4 => k_is)
    (case ad0 => k_is)
    (case ld0 => k_is)
    (case cd0 => k_is)
    (case kd0 => k_is)
    (case ad1 => k_is)
    (case ld1 => k_is)
    (case cd1 => k_is)
    (case kd1 => k_is)
    (case ad2 => k_is)
    (case ld2 => k_is)
    (case cd2 => k_is)
    (case kd2 => k_is)
    (case ad3 => k_is)
    (case ld3 => k_is)
    (case cd3 => k_is)
    (case kd3 => k_is)
    (case ad4 => k_is)
    (case ld4 => k_is)
    (case cd4 => k_is)
    (case kd4 => k_is)
    (case ad5 => k_is)
    (case ld5 => k_is)
    (case cd5 => k_is)
    (case kd5 => k_is)
    (case ad6 => k_is)
    (case ld6 => k_is)
    (case cd6 => k_is)
    (case kd6 => k_is)
    (case ad7 => k_is)
    (case ld7 => k_is)
    (case cd7 => k_is)
    (case kd7 => k_is)
    (case ad8 => k_is)
    (case ld8 => k_is)
    (case cd8 => k_is)
    (case kd8 => k_is)
    (case ad9 => k_is)
    (case ld9 => k_is)
    (case cd9 => k_is)
    (case kd9 => k_is)
    (case ad10 => k_is)
    (case ld10 => k_is)
    (case cd10 => k_is)
    (case kd10 => k_is)
    (case ad11 => k_is)
    (case ld11 => k_is)
    (case cd11 => k_is)
    (case kd11 => k_is)
    (case qd11 => k_is)
    (case ad12 => k_is)
    (case ld12 => k_is)
    (case cd12 => k_is)
    (case kd12 => k_is)
    (case ad13 => k_is)
    (case ld13 => k_is)
    (case cd13 => k_is)
    (case kd13 => k_is)
    (case ad14 => k_is)
    (case ld14 => k_is)
    (case cd14 => k_is)
    (case kd14 => k_is)
    (case ad15 => k_is)
    (case ld15 => k_is)
    (case cd15 => k_is)
    (case kd15 => k_is)
    (case qd15 => k_is)
    (case ad16 => k_is)
    (case ld16 => k_is)
    (case cd16 => k_is)
    (case kd16 => k_is)
    (case ad17 => k_is)
    (case ld17 => k_is)
    (case cd17 => k_is)
    (case kd17 => k_is)
    (case ad18 => k_is)
    (case ld18 => k_is)
    (case cd18 => k_is)
    (case kd18 => k_is)
    (case ad19 => k_is)
    (case ld19 => k_is)
    (case cd19 => k_is)
    (case kd19 => k_is)
    (case ad20 => k_is)
    (case ld20 => k_is)
    (case cd20 => k_is)
    (case kd20 => k_is)
    (case ad21 => k_is)
    (case ld21 => k_is)
    (case cd21 => k_is)
    (case kd21 => k_is)
    (case ad22 => k_is)
    (case ld22 => k_is)
    (case cd22 => k_is)
    (case kd22 => k_is)
    (case ad23 => k_is)
    (case ld23 => k_is)
    (case cd23 => k_is)
    (case kd23 => k_is)
    (case ad24 => k_is)
    (case ld24 => k_is)
    (case cd24 => k_is)
    (case kd24 => k_is)
    (case ad25 => k_is)
    (case ld25 => k_is)
    (case cd25 => k_is)
    (case kd25 => k_is)
    (case ad26 => k_is)
    (case ld26 => k_is)
    (case cd26 => k_is)
    (case kd26 => k_is)
    (case ad27 => k_is)
    (case ld27 => k_is)
    (case cd27 => k_is)
    (case kd27 => k_is)
    (case ad28 => k_is)
    (case ld28 => k_is)
    (case cd28 => k_is)
    (case kd28 => k_is)
    (case ad29 => k_is)
    (case ld29 => k_is)
    (case cd29 => k_is)
    (case kd29 => k_is)
    (case ad30 => k_is)
    (case ld30 => k_is)
    (case cd30 => k_is)
    (case kd30 => k_is)
    (case ad31 => k_is)
    (case ld31 => k_is)
    (case cd31 => k_is)
    (case kd31 => k_is)
    (case ad32 => k_is)
    (case ld32 => k_is)
    (case cd32 => k_is)
    (case kd32 => k_is)
    (case ad33 => k_is)
    (case ld33 => k_is)
    (case cd33 => k_is)
    (case kd33 => k_is)
    (case ad34 => k_is)
    (case ld34 => k_is)
    (case cd34 => k_is)
    (case kd34 => k_is)
    (case ad35 => k_is)
    (case ld35 => k_is)
    (case cd35 => k_is)
    (case kd35 => k_is)
    (case ad36 => k_is)
    (case ld36 => k_is)
    (case cd36 => k_is)
    (case kd36 => k_is)
    (case ad37 => k_is)
    (case ld37 => k_is)
    (case cd37 => k_is)
    (case kd37 => k_is)
    (case ad38 => k_is)
    (case ld38 => k_is)
    (case cd38 => k_is)
    (case kd38 => k_is)
    (case ad39 => k_is)
    (case ld39 => k_is)
    (case cd39 => k_is)
    (case kd39 => k_is)
    (case ad40 => k_is)
    (case ld40 => k_is)
    (case cd40 => k_is)
    (case kd40 => k_is)
    (case ad41 => k_is)
    (case ld41 => k_is)
    (case cd41 => k_is)
    (case kd41 => k_is)
    (case ad42 => k_is)
    (case ld42 => k_is)
    (case cd42 => k_is)
    (case kd42 => k_is)
    (case ad43 => k_is)
    (case ld43 => k_is)
    (case cd43 => k_is)
    (case kd43 => k_is)
    (case ad44 => k_is)
    (case ld44 => k_is)
    (case cd44 => k_is)
    (case kd44 => k_is)
    (case ad45 => k_is)
    (case ld45 => k_is)
    (case cd45 => k_is)
    (case kd45 => k_is)
    (case al => k_is)
    (case ll => k_is)
    (case cl => k_is)
    (case kl => k_is)
    (case pg => k_is)
    (case hd => k_is)
    (case po => k_is)
    (case sa => k_is)
    (case mk => k_is)
    (case kc => k_is)
    (case n_names => k_is)
    (case n_rows => k_is)
    (case n_writers => k_is)
    (case n_needs => k_is)
    (case z_len => k_is)
    (case z_list => k_is)
    (case z_tuple => k_is)
    (case z_dict => k_is)
    (case z_int => k_is)
    (case z_str => k_is)
    (case z_bool => k_is)
    (case z_isinstance => k_is)
    (case z_range => k_is)
    (case z_enumerate => k_is)
    (case z_zip => k_is)
    (case z_all => k_is)
    (case z_any => k_is)
    (case z_sorted => k_is)
    (case z_min => k_is)
    (case z_max => k_is)
    (case z_sum => k_is)
    (case hL => k_is)
    (case hF => k_is)
    (case icl => k_is)
    (case ign => k_is)
    (case itk => k_is)
    (case imr => k_is)
    (case no_NoneType => first | k_is | rfl)
    (case no_bool => first | k_is | rfl)
    (case no_int => first | k_is | rfl)
    (case no_str => first | k_is | rfl)
    (case no_list => first | k_is | rfl)
    (case no_tuple => first | k_is | rfl)
    (case no_dict => first | k_is | rfl)
    (case axP => k_is)
    (case xLP => k_is)
    (case rvP => first | rfl | decide +kernel | k_is)
    (case sxP => k_is)
    (case gxP => k_is)
    (case hxP => k_is)
    (case nxP => k_is)
    (case ixP => k_is)
    (case txP => k_is)
    (case lxP => k_is)
    (case cxP => k_is)
    (case kxP => k_is)
    (case exP => k_is)
    (case tyP => k_is)
    (case hdP => k_is)
    (case ssP => first | rfl | k_is)
    (case axR => k_is)
    (case xLR => k_is)
    (case rvR => first | rfl | decide +kernel | k_is)
    (case sxR => k_is)
    (case gxR => k_is)
    (case hxR => k_is)
    (case nxR => k_is)
    (case ixR => k_is)
    (case txR => k_is)
    (case lxR => k_is)
    (case cxR => k_is)
    (case kxR => k_is)
    (case exR => k_is)
    (case tyR => k_is)
    (case hdR => k_is)
    (case ssR => first | rfl | k_is)
    (case axL => k_is)
    (case xLL => k_is)
    (case rvL => first | rfl | decide +kernel | k_is)
    (case sxL => k_is)
    (case gxL => k_is)
    (case hxL => k_is)
    (case nxL => k_is)
    (case ixL => k_is)
    (case txL => k_is)
    (case lxL => k_is)
    (case cxL => k_is)
    (case kxL => k_is)
    (case exL => k_is)
    (case tyL => k_is)
    (case hdL => k_is)
    (case ssL => first | rfl | k_is)
    (case axD => k_is)
    (case xLD => k_is)
    (case rvD => first | rfl | decide +kernel | k_is)
    (case sxD => k_is)
    (case gxD => k_is)
    (case hxD => k_is)
    (case nxD => k_is)
    (case ixD => k_is)
    (case txD => k_is)
    (case lxD => k_is)
    (case cxD => k_is)
    (case kxD => k_is)
    (case exD => k_is)
    (case tyD => k_is)
    (case hdD => k_is)
    (case ssD => first | rfl | k_is)
    (case axN => k_is)
    (case xLN => k_is)
    (case rvN => first | rfl | decide +kernel | k_is)
    (case sxN => k_is)
    (case gxN => k_is)
    (case hxN => k_is)
    (case nxN => k_is)
    (case ixN => k_is)
    (case txN => k_is)
    (case lxN => k_is)
    (case cxN => k_is)
    (case kxN => k_is)
    (case exN => k_is)
    (case tyN => k_is)
    (case hdN => k_is)
    (case ssN => first | rfl | k_is)
    (case axG => k_is)
    (case xLG => k_is)
    (case rvG => first | rfl | decide +kernel | k_is)
    (case sxG => k_is)
    (case gxG => k_is)
    (case hxG => k_is)
    (case nxG => k_is)
    (case ixG => k_is)
    (case txG => k_is)
    (case lxG => k_is)
    (case cxG => k_is)
    (case kxG => k_is)
    (case exG => k_is)
    (case tyG => k_is)
    (case hdG => k_is)
    (case ssG => first | rfl | k_is)
