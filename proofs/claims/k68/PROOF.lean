import PyProof.Rows.All
import Wide.All
import OpenK.AllK
import Wide.FinOn
import PyProof.EqAt
import PyProof.EqKinds
import PyProof.TupleCall
import PyProof.ZipIter
import KE.GoesMore
import KE.GoesEnum
import KE.GoesZip
import HandS.ForMost
import HandS.ForExc
import HandS.TryMany
import HandS.Star
import HandS.IsInst
import HandS.Conv
import HandS.TupAny
import HandS.TupMul
import HandS.Style
import HandS.Wide
import KE.KDictList
import HandS.Rev
import HandS.Flow
import HandS.Walk
import PySem.Challenge.RW_airheld_k68_whole_guarded_blocks_healed
import HandS.Text
import HandS.Codes
import HandS.ExcIs
set_option Elab.async false
set_option linter.all false
set_option maxRecDepth 100000
set_option maxHeartbeats 4000000
/-! AB: own short rules over the hand layer: callees as one fact, with what they raise at the slots; attributes as targets; zip of a list and a tuple. -/
namespace AB
open PySem PySem.Spec PyProof.Rows L2

section
variable (P : Program) (w : World) (K : PySem.W.Frag) (mg : Str → Option Value) (base : Heap)
/-- the global def x keeps the promise sp -/
structure GFn (k : Nat) (x : Str) (ps : List Str) (sp : Sp) : Prop where
  ex : ∃ f fd, FnOk P w K mg base (L2.CX P w) k f fd ps sp ∧ mg x = some (.ref f) ∧ PySem.W.keepIn K (.ref f) = true ∧ Binds K fd ps []
/-- the method m of the class at C keeps the promise sp -/
structure GMt (k : Nat) (C : Addr) (m : Str) (ps : List Str) (sp : Sp) : Prop where
  ex : ∃ f fd, FnOk P w K mg base (L2.CX P w) k f fd ps sp ∧ Cls K C ∧ Meth K C m f ∧ Binds K fd ps []
/-- the class x at C is made by an __init__ with the promise sp -/
structure GMk (k : Nat) (C : Addr) (x : Str) (ps : List Str) (sp : Sp) : Prop where
  ex : ∃ f fd, FnOk P w K mg base (L2.CX P w) k f fd ps sp ∧ mg x = some (.ref C) ∧ Mk K C f ∧ Binds K fd ps []
end

section
variable {X : Cx} {k : Nat} {C : Addr} {ps : List Str} {sp : Sp} {W : WX} {x m : Str} {p pos apos : Pos} {e o : Expr} {es : List Expr} {ta : TE} {t : TA}
def tCl (sp : Sp) (W : WX) (t : TA) : TE := fun σ H Q => t σ H fun vs H1 => sp vs H1 Q (WE W σ)
theorem pe_cl (G : GFn X.prog X.w X.K X.mg X.base k x ps sp) (hr : Room k X.A) (tk : Takes X W) (ha : PA X (e :: es) t) (hg : Gl X x := by rfl)
    (hdb : (x == ("__debug__" : Str)) = false := by decide) (he : starEach (e :: es) X.env = (false, eval e X.env) :: starEach es X.env := by rfl) (hpl : (backTo pos (starEach es X.env)).any (·.1) = false := by rfl) :
    PE X (.Call (.Name x p) (e :: es) [] pos) (tCl sp W t) := by
  obtain ⟨f, fd, F, hm, hk, hb⟩ := G.ex
  exact pe_callS F hr hg hm hk hb (fun σ => passAt tk σ) ha hdb he hpl
theorem pe_cl0 (G : GFn X.prog X.w X.K X.mg X.base k x ps sp) (hr : Room k X.A) (tk : Takes X W) (hg : Gl X x := by rfl)
    (hdb : (x == ("__debug__" : Str)) = false := by decide) :
    PE X (.Call (.Name x p) [] [] pos) (tCl sp W tNil) := by
  obtain ⟨f, fd, F, hm, hk, hb⟩ := G.ex
  refine ⟨fun pins s σ H Q I h => ?_⟩
  refine wpAny_Call_Name_kw (ld_glob I hg hm ?_ hdb)
  exact PySem.W.callWith_K0 I.kIn hk (run_fnS (us := []) F hr hb (passAt tk σ) I .nil h)

def tMt (C : Addr) (m : Str) (sp : Sp) (W : WX) (ta : TE) (t : TA) : TE := fun σ H Q => ta σ H fun x H1 => ∃ a dx fs, x = .ref a ∧ H1 a = some (.ins C dx fs) ∧ fs.lookup m = none ∧
  t σ H1 fun vs H2 => sp (x :: vs) H2 Q (WE W σ)
theorem pe_mt {pl : Sem Bool} (he : PE X o ta) (G : GMt X.prog X.w X.K X.mg X.base k C m ps sp) (hr : Room k X.A) (tk : Takes X W) (ha : PA X (e :: es) t)
    (hst : starEach (e :: es) X.env = (false, eval e X.env) :: starEach es X.env := by rfl) (hpl : (backTo pos (starEach es X.env)).any (·.1) = false := by rfl)
    (ht : eval (.Call (.Attribute o m apos) (e :: es) [] pos) X.env = (do
      let ov ← eval o X.env
      standAt apos.atName
      let (f, first) ← holding [ov] (getMethod ov m pl)
      callWith pos f first (backTo pos (starEach (e :: es) X.env)) (backToKw pos (keywordEach [] X.env))) := by rfl) :
    PE X (.Call (.Attribute o m apos) (e :: es) [] pos) (tMt C m sp W ta t) := by
  obtain ⟨f, fd, F, c, hm, hb⟩ := G.ex
  refine ⟨fun pins s σ H Q I h => ?_⟩
  refine PySem.W.methodCall_KW (pl := pl) (thn (he.run pins s σ H _ I h) fun u s1 ⟨x, H1, I1, rx, a, dx, fs, ex, ea, l, q⟩ => ?_) ht
  subst ex
  obtain rfl : u = Value.ref a := rx
  refine getmeth_ok I1 ea c hm l ?_
  refine PySem.W.callWith_K (first := [.ref a]) (h₀ := X.base) I.ok.mod.kin hm.kp (thn (ha.run pos pins s1 σ H1 _ I1 q) fun us s2 ⟨vs, H2, I2, r, q2⟩ => ⟨I2.kIn, ?_⟩) hst hpl
  exact run_fnS (us := .ref a :: us) (vs := .ref a :: vs) F hr hb (passAt tk σ) I2 (.cons rfl r) q2
theorem pe_mt0 {pl : Sem Bool} (he : PE X o ta) (G : GMt X.prog X.w X.K X.mg X.base k C m ps sp) (hr : Room k X.A) (tk : Takes X W)
    (ht : eval (.Call (.Attribute o m apos) [] [] pos) X.env = (do
      let ov ← eval o X.env
      standAt apos.atName
      let (f, first) ← holding [ov] (getMethod ov m pl)
      callWith pos f first (backTo pos (starEach [] X.env)) (backToKw pos (keywordEach [] X.env))) := by rfl) :
    PE X (.Call (.Attribute o m apos) [] [] pos) (tMt C m sp W ta tNil) := by
  obtain ⟨f, fd, F, c, hm, hb⟩ := G.ex
  refine ⟨fun pins s σ H Q I h => ?_⟩
  refine PySem.W.methodCall_KW (pl := pl) (thn (he.run pins s σ H _ I h) fun u s1 ⟨x, H1, I1, rx, a, dx, fs, ex, ea, l, q⟩ => ?_) ht
  subst ex
  obtain rfl : u = Value.ref a := rx
  refine getmeth_ok I1 ea c hm l ?_
  exact PySem.W.callWith_K0 (first := [.ref a]) I1.kIn hm.kp (run_fnS (us := [.ref a]) (vs := [.ref a]) F hr hb (passAt tk σ) I1 (.cons rfl .nil) q)

def tMk (C : Addr) (sp : Sp) (W : WX) (t : TA) : TE := fun σ H Q => t σ H fun vs H1 => ∀ x dx, H1 x = none → H1 dx = none → dx ≠ x →
  sp (.ref x :: vs) (upd (upd H1 dx (.own x)) x (.ins C dx [])) (fun v H2 => v = .non ∧ Q (.ref x) H2) (WE W σ)
theorem run_mk {f : Addr} {fd : FuncData} {pins : List (Addr × Obj)} {σ : L2.St} {H : Hp} {s : Shared} {Q : VK} {us : List Value} {vs : List V} (M : Mk X.K C f) (F : FnOk X.prog X.w X.K X.mg X.base (L2.CX X.prog X.w) k f fd ps sp) (hr : Room (k + 1) X.A) (hb : Binds X.K fd ps [])
    (tk : Takes X W) (I : Inv X pins σ H s) (r : Vals vs us)
    (h : ∀ x dx, H x = none → H dx = none → dx ≠ x → sp (.ref x :: vs) (upd (upd H dx (.own x)) x (.ins C dx [])) (fun v H2 => v = .non ∧ Q (.ref x) H2) (WE W σ)) :
    wpAny (model X.prog X.w) X.A (call (.ref C) us) (EP X pins σ Q) X.xe s := by
  have hq := h (s.heap.objs.size + 1) s.heap.objs.size (I.hok.fresh (Nat.le_succ _)) (I.hok.fresh (Nat.le_refl _)) (Nat.ne_of_lt (Nat.lt_succ_self _))
  have I2 := Inv.made (C := C) I
  have r2 : Vals (V.ref (s.heap.objs.size + 1) :: vs) (Value.ref (s.heap.objs.size + 1) :: us) := .cons rfl r
  have hl : (Value.ref (s.heap.objs.size + 1) :: us ++ []).length = ps.length := by
    have e := r2.length
    rw [F.len _ _ _ _ hq] at e
    simpa using e.symm
  have b := hb _ (Value.ref (s.heap.objs.size + 1) :: us) I2.kIn hl
  rw [List.append_nil] at b
  refine wpAny_call (make_map (f := f) I.kIn M.makes M.init (beq_iff_eq.mp M.fn) (codeAny_mono (F.run _ X.stack _ _ ⟨Value.ref (s.heap.objs.size + 1) :: us, []⟩ (Value.ref (s.heap.objs.size + 1) :: us) _ _ (WE W σ) (hr.make C us [])
    (I2.env0.make C us []) b r2 hq) fun r s' hq' => ?_))
  cases r with
  | error e => exact passAt tk σ pins _ _ e s' I2 hq'
  | ok fl =>
    cases fl with
    | ret u =>
      obtain ⟨v, H', I3, rv, ev, q3⟩ := I2.after hq'
      subst ev
      exact ⟨rv, ⟨V.ref (s.heap.objs.size + 1), H', I3, rfl, q3⟩⟩
    | next => exact False.elim hq'
    | brk => exact False.elim hq'
    | cont => exact False.elim hq'
theorem pe_mk (G : GMk X.prog X.w X.K X.mg X.base k C x ps sp) (hr : Room (k + 1) X.A) (tk : Takes X W) (ha : PA X (e :: es) t) (hg : Gl X x := by rfl)
    (hdb : (x == ("__debug__" : Str)) = false := by decide) (he : starEach (e :: es) X.env = (false, eval e X.env) :: starEach es X.env := by rfl) (hpl : (backTo pos (starEach es X.env)).any (·.1) = false := by rfl) :
    PE X (.Call (.Name x p) (e :: es) [] pos) (tMk C sp W t) := by
  obtain ⟨f, fd, F, hm, M, hb⟩ := G.ex
  refine ⟨fun pins s σ H Q I h => ?_⟩
  refine wpAny_Call_Name_kw (ld_glob I hg hm ?_ hdb)
  refine PySem.W.callWith_K (h₀ := X.base) I.ok.mod.kin M.kp (thn (ha.run pos pins s σ H _ I h) fun us s1 ⟨vs, H1, I1, r, q⟩ => ⟨I1.kIn, ?_⟩) he hpl
  exact run_mk M F hr hb tk I1 r q

/-- o.f as a target -/
def gFld (K : PySem.W.Frag) (ta : TE) (f : Str) : TG := fun v σ H Q => ta σ H fun x H2 => ∃ a C dx fs, x = .ref a ∧ H2 a = some (.ins C dx fs) ∧ Cls K C ∧ NoAttr K C f ∧ fs.length < 1000 ∧
  Q σ (upd H2 a (.ins C dx (putF f v fs)))
theorem pg_fld {f : Str} (ho : PE X o ta) : PG X (.Attribute o f pos) (gFld X.K ta f) := by
  refine ⟨fun pins s σ H v u Q I r h => ?_⟩
  rw [assign_Attribute]
  refine wpAny_bind (wpAny_holding (thn (ho.run pins s σ H _ I h) fun ov s1 ⟨x, H1, I1, r1, a, C, dx, fs, ex, ea, c, n, l, q1⟩ => ?_))
  subst ex
  obtain rfl : ov = Value.ref a := r1
  refine wpAny_bind (wpAny_standAt (wpAny_bind (wpAny_holding (setattr_ok I1 ea c n l r fun s3 I3 => ?_))))
  exact wpAny_release ⟨σ, _, I3, q1⟩
/-- a constant of the module -/
def GC (mg : Str → Option Value) (x : Str) (v : V) : Prop := ∃ u, mg x = some u ∧ RelV v u
theorem pe_gv {v : V} (h : GC X.mg x v) (hg : Gl X x := by rfl) (hdb : (x == ("__debug__" : Str)) = false := by decide) : PE X (.Name x pos) (tC v) := by
  obtain ⟨u, hm, r⟩ := h
  exact pe_glob hg hm r hdb
end

/-! ### heaps: what is kept but for m, whose things may change -/
structure Kp (m : List Addr) (H H' : Hp) : Prop where
  st : ∀ b o, b ∉ m → H b = some o → H' b = some o
  mu : ∀ b, b ∈ m → Mut (H b)
  fr : ∀ b, H' b = none → H b = none
section
variable {m m' : List Addr} {H H1 H' : Hp} {K : PySem.W.Frag} {a p : Addr} {xs : List V} {o : HO}
theorem Kp.refl (H : Hp) : Kp [] H H := ⟨fun _ _ _ h => h, fun b h => (nomatch h), fun _ h => h⟩
theorem Kp.same (k : Kp [] H H') : Same H H' := fun b o h => k.st b o (by simp) h
theorem Kp.trans (k : Kp m H H1) (k' : Kp m' H1 H') (h : ∀ b, b ∈ m' → b ∈ m ∨ H b = none) : Kp m H H' := by
  refine ⟨fun b o hb e => k'.st b o (fun hm => ?_) (k.st b o hb e), k.mu, fun b e => k.fr b (k'.fr b e)⟩
  rcases h b hm with h | h
  · exact hb h
  · rw [e] at h; cases h
theorem Kp.trans0 (k : Kp m H H1) (k' : Kp [] H1 H') : Kp m H H' := k.trans k' fun b h => by cases h
theorem Kp.trans1 (k : Kp m H H1) (k' : Kp m H1 H') : Kp m H H' := k.trans k' fun b h => .inl h
theorem Kp.new (h : H p = none) : Kp [] H (upd H p o) := ⟨fun b u _ e => (by rw [upd_ne (ne_of_none e h)]; exact e), fun b h => (nomatch h), fun b e => by
  by_cases hb : b = p
  · rw [hb]; exact h
  · rw [upd_ne hb] at e; exact e⟩
theorem Kp.set (h : Mut (H p)) : Kp [p] H (upd H p o) := ⟨fun b u hb e => (by rw [upd_ne (by simpa using hb)]; exact e), fun b hb => (by rw [List.mem_singleton.mp hb]; exact h), fun b e => by
  by_cases hb : b = p
  · rw [hb, upd_same] at e; cases e
  · rw [upd_ne hb] at e; exact e⟩
theorem Kp.wide (k : Kp m H H') (h : ∀ b, b ∈ m → b ∈ m') (hm : ∀ b, b ∈ m' → Mut (H b)) : Kp m' H H' := ⟨fun b o hb e => k.st b o (fun z => hb (h b z)) e, hm, k.fr⟩
theorem Kp.ofSame (h : Same H H') : Kp [] H H' := ⟨fun b o _ e => h b o e, fun b h => (nomatch h), fun b e => h.free e⟩
theorem Kp.sqT (k : Kp m H H') (h : SqT K H a xs) : SqT K H' a xs := by
  rcases h with (h | ⟨o, h⟩) | h
  · exact .inl (.inl (k.st _ _ (fun z => by have q := k.mu _ z; rw [h] at q; exact q) h))
  · exact .inl (.inr ⟨o, k.st _ _ (fun z => by have q := k.mu _ z; rw [h] at q; exact q) h⟩)
  · exact .inr h
theorem Kp.sqL (k : Kp m H H') (h : SqL K H a xs) (ha : a ∉ m) : SqL K H' a xs := by
  rcases h with (h | ⟨o, h⟩) | h
  · exact .inl (.inl (k.st _ _ ha h))
  · exact .inl (.inr ⟨o, k.st _ _ ha h⟩)
  · exact .inr h
theorem Kp.sqL0 (k : Kp [] H H') (h : SqL K H a xs) : SqL K H' a xs := k.sqL h (by simp)
theorem Kp.some (k : Kp m H H') (h : H a = some o) : ∃ u, H' a = some u := by
  cases e : H' a with
  | none => have q := k.fr a e; rw [h] at q; cases q
  | some u => exact ⟨u, rfl⟩
end

/-! ### a def that may raise, with what its body needs -/
section
variable {P : Program} {w : World} {K : PySem.W.Frag} {mg : Str → Option Value} {base : Heap}
theorem okT {x qual : Str} {st : Stmt} {f : Addr} {fd : FuncData} {N ps : List Str} {k : Nat} {sp : Sp} (F : Fun K x qual st f fd) (S : FnScope N ps (defScope st)) (len : ∀ vs H Q E, sp vs H Q E → vs.length = ps.length)
    (hbody : ∀ (cdv : Value) (A : Around) (outer : List Env) (s : Shared) (H : Hp) (vs : List V) (Q : VK) (E : XK), Room k (A.deeper (envOfC qual (defScope st) s.heap.objs.size f cdv)) →
      Takes (cxOf (L2.CX P w) P w K mg base N qual (defScope st) f cdv A outer s H E) (fun cls d _ H => E cls d H) →
      PassesOwn (model P w) (A.deeper (envOfC qual (defScope st) s.heap.objs.size f cdv)) (envOfC qual (defScope st) s.heap.objs.size f cdv) (cxOf (L2.CX P w) P w K mg base N qual (defScope st) f cdv A outer s H E).xe → sp vs H Q E →
      ∃ t, PSs (cxOf (L2.CX P w) P w K mg base N qual (defScope st) f cdv A outer s H E) (defBody st) t ∧ t { nx := fun _ H' => Q .non H', rt := Q } (start N vs) H) : FnOk P w K mg base (L2.CX P w) (k + 1) f fd ps sp :=
  F.okX S len fun cdv A outer s H vs Q E hr h => hbody cdv A outer s H vs Q E hr (takes_of rfl rfl rfl rfl) (passes_of rfl) h
end
end AB
set_option Elab.async false
set_option linter.all false
set_option maxRecDepth 100000
set_option maxHeartbeats 4000000
/-! ABzip: zip of a list and a tuple. -/
namespace AB
open PySem PySem.Spec PyProof.Rows L2
def ItzM (K : PySem.W.Frag) (a b : Addr) : It :=
  ⟨fun i H => ∃ (xs ys : List V) (x y : V), SqL K H a xs ∧ SqT K H b ys ∧ xs[i]? = some x ∧ ys[i]? = some y,
    fun i H v H' => ∃ T x y, v = .ref T ∧ H T = none ∧ H' = upd H T (.tup [x, y]) ∧ (∀ xs, SqL K H a xs → xs[i]? = some x) ∧ ∀ ys, SqT K H b ys → ys[i]? = some y,
    fun i H => ∃ xs ys : List V, SqL K H a xs ∧ SqT K H b ys ∧ xs.length = ys.length ∧ xs.length = i⟩
theorem zipM_item {prog : Program} {w : World} {A : Around} {E : Value → Shared → Prop} {s : Shared} {z TI TO i1 i2 l1 l2 : Addr} {k : Nat} {xs ys : Array Value} {a1 a2 : Value} {Q : Option Value → Shared → Prop} (hh : A.handled = none)
    (S : ZipSep2 z TI TO i1 i2 [i1, l1] [i2, l2])
    (hz : IsZip s.heap z TI TO .none) (hTI : IsTupOf2 s.heap TI (.ref i1) (.ref i2)) (hTO : IsTupOf2 s.heap TO a1 a2) (h1 : s.heap.IsListIter i1 l1 k) (h2 : s.heap.IsTupleIter i2 l2 k) (hl1 : s.heap.IsList l1 xs) (hl2 : s.heap.IsTuple l2 ys)
    (n1 : l1 ≠ i1) (n2 : l2 ≠ i2) (hx : k < xs.size) (hy : k < ys.size)
    (hQ : ∀ x1 x2 h' tk, xs[k]? = some x1 → ys[k]? = some x2 → IsZip h' z TI TO (rawInt s.heap.objs.size) → IsTupOf2 h' TO x1 x2 → h'.IsListIter i1 l1 (k + 1) → h'.IsTupleIter i2 l2 (k + 1) → IsTupOf2 h' s.heap.objs.size x1 x2 → h'.objs.size = s.heap.objs.size + 1 →
      (∀ c o, c ≠ z → c ≠ TO → c ≠ i1 → c ≠ i2 → s.heap.get? c = some o → h'.get? c = some o) → Q (some (.ref s.heap.objs.size)) { s with heap := h', toks := tk }) :
    wpAny (model prog w) A (pyNext (.ref z)) Q E s := by
  have hT : s.TypeIs (.ref z) "zip" := ⟨_, hz, rfl⟩
  unfold pyNext
  exact wpAny_bind (wpAny_attempt (wpAny_callSpecial?_slot (name := Str.ofString "__next__") hT F.slot_zip_next
    (wpAny_call_entry F.slot_zip_next hT F.entry_zip_next
      (zipD2_next_item (P1 := fun i v => xs[i]? = some v) (P2 := fun i v => ys[i]? = some v) (St1 := fun i h => h.IsListIter i1 l1 i ∧ h.IsList l1 xs) (St2 := fun i h => h.IsTupleIter i2 l2 i ∧ h.IsTuple l2 ys) S (Draws.list (by exact hh) i1 l1 n1 xs) (Draws.tuple (by exact hh) i2 l2 n2 ys) hz hTI hTO ⟨h1, hl1⟩ ⟨h2, hl2⟩ hx hy
        fun x1 x2 h' tk p1 p2 a1 a2 a3 a4 a5 a6 a7 => wpAny_pure (hQ x1 x2 h' tk p1 p2 a1 a2 a3.1 a4.1 a5 a6 a7)) (F.args_zip_next_1 _))))
theorem zipM_end {prog : Program} {w : World} {A : Around} {E : Value → Shared → Prop} {s : Shared} {z TI TO i1 i2 l1 l2 : Addr} {k : Nat} {xs ys : Array Value} {a1 a2 : Value} {Q : Option Value → Shared → Prop} (hh : A.handled = none)
    (S : ZipSep2 z TI TO i1 i2 [i1, l1] [i2, l2])
    (hz : IsZip s.heap z TI TO .none) (hTI : IsTupOf2 s.heap TI (.ref i1) (.ref i2)) (hTO : IsTupOf2 s.heap TO a1 a2) (h1 : s.heap.IsListIter i1 l1 k) (h2 : s.heap.IsTupleIter i2 l2 k) (hl1 : s.heap.IsList l1 xs) (hl2 : s.heap.IsTuple l2 ys)
    (n1 : l1 ≠ i1) (n2 : l2 ≠ i2) (hx : k = xs.size) (hy : k = ys.size)
    (hQ : ∀ h' tk, (∀ c o, c ≠ z → c ≠ TO → c ≠ i1 → c ≠ i2 → s.heap.get? c = some o → h'.get? c = some o) → Q none { s with heap := h', toks := tk }) :
    wpAny (model prog w) A (pyNext (.ref z)) Q E s := by
  have hT : s.TypeIs (.ref z) "zip" := ⟨_, hz, rfl⟩
  unfold pyNext
  refine wpAny_bind (wpAny_attempt (wpAny_callSpecial?_slot (name := Str.ofString "__next__") hT F.slot_zip_next
    (wpAny_call_entry F.slot_zip_next hT F.entry_zip_next
      (zipD2_next_end (P1 := fun i v => xs[i]? = some v) (P2 := fun i v => ys[i]? = some v) (St1 := fun i h => h.IsListIter i1 l1 i ∧ h.IsList l1 xs) (St2 := fun i h => h.IsTupleIter i2 l2 i ∧ h.IsTuple l2 ys) S (Draws.list (by exact hh) i1 l1 n1 xs) (Draws.tuple (by exact hh) i2 l2 n2 ys) hz hTI hTO ⟨h1, hl1⟩ ⟨h2, hl2⟩
        (Nat.le_of_eq hx) (Nat.le_of_eq hy) (.inl hx) fun h' tk e hk he => ?_) (F.args_zip_next_1 _))))
  obtain ⟨o, ho, hc⟩ := he
  refine wpAny_bind (wpAny_isInstance (T := "StopIteration") (b := true) ⟨o, ho, hc⟩ isSubtype_stop ?_)
  exact wpAny_pure (hQ _ _ hk)
theorem turn_zipM {P : Program} {w : World} {K : PySem.W.Frag} {elts : List Expr} {kk : Nat} {tpos : Pos} {a b z TI TO i1 i2 : Addr} (S : ZipSep2 z TI TO i1 i2 [i1, a] [i2, b]) (n1 : a ≠ i1) (n2 : b ≠ i2) :
    Turn P w K (.Tuple elts kk tpos) (ItzM K a b) [z, TI, TO, i1, i2] z (fun i h => IsZip h z TI TO .none ∧ IsTupOf2 h TI (.ref i1) (.ref i2) ∧ (∃ x y, IsTupOf2 h TO x y) ∧ h.IsListIter i1 a i ∧ h.IsTupleIter i2 b i) where
  mem := by simp
  obj := fun i h st c hc => by
    obtain ⟨hz, hTI, ⟨x, y, hTO⟩, ⟨o1, e1, _, d1⟩, ⟨o2, e2, _, d2⟩⟩ := st
    have e' : c = z ∨ c = TI ∨ c = TO ∨ c = i1 ∨ c = i2 := by simpa using hc
    rcases e' with q | q | q | q | q
    · rw [q]; exact ⟨_, hz, fun v q => nomatch q⟩
    · rw [q]; exact ⟨_, hTI, fun v q => nomatch q⟩
    · rw [q]; exact ⟨_, hTO, fun v q => nomatch q⟩
    · rw [q]; exact ⟨o1, e1, fun v q => by rw [d1] at q; cases q⟩
    · rw [q]; exact ⟨o2, e2, fun v q => by rw [d2] at q; cases q⟩
  keep := fun i h h' st k => by
    obtain ⟨hz, hTI, ⟨x, y, hTO⟩, h1, h2⟩ := st
    exact ⟨k z (by simp) _ hz, k TI (by simp) _ hTI, ⟨x, y, k TO (by simp) _ hTO⟩, h1.at fun o q => k i1 (by simp) o q, h2.at fun o q => k i2 (by simp) o q⟩
  item := by
    intro X hP hw hK hc i pins s σ H E I hf st hg
    subst hP hw hK
    obtain ⟨hz, hTI, ⟨x0, y0, hTO⟩, h1, h2⟩ := st
    obtain ⟨xs, ys, x, y, hqx, hqy, hx, hy⟩ := hg
    obtain ⟨its, rv, p, _⟩ := I.list hqx
    obtain ⟨its2, rv2, p2, _⟩ := I.tuple hqy
    obtain ⟨u, hu, ru⟩ := rv.get hx
    obtain ⟨u2, hu2, ru2⟩ := rv2.get hy
    have hzl : z < s.heap.objs.size := Heap.lt_size hz
    have lx : i < its.length := (List.getElem?_eq_some_iff.mp hu).1
    have ly : i < its2.length := (List.getElem?_eq_some_iff.mp hu2).1
    refine zipM_item (I.ok.hd hc) S hz hTI hTO h1 h2 p.isList p2 n1 n2 (by simpa using lx) (by simpa using ly) fun x1 x2 h' tk e1 e2 z' TO' h1' h2' hT hsz hk => ?_
    have f1 : x1 = u := by
      have q : its[i]? = some x1 := by simpa using e1
      rw [hu] at q
      exact (Option.some.inj q).symm
    have f2 : x2 = u2 := by
      have q : its2[i]? = some x2 := by simpa using e2
      rw [hu2] at q
      exact (Option.some.inj q).symm
    subst f1 f2
    refine ⟨_, rfl, wpAny_letOwnedTupleGo_zip (s := { s with heap := h', toks := tk }) z' fun h'' z'' sb => ?_⟩
    have hT2 : h''.get? s.heap.objs.size = some { cls := .type "tuple", data := .seq #[x1, x2] } := (sb.2 _ (Nat.ne_of_gt hzl)).trans hT
    have new : ObjOk X.prog X.w (upd H s.heap.objs.size (.tup [x, y])) h'' s.heap.objs.size (.tup [x, y]) :=
      ⟨by show 2 ≤ sizeLine; decide, [x1, x2], .cons ru (.cons ru2 .nil), ⟨_, hT2, rfl, _, rfl⟩⟩
    have I1 : Inv X pins σ (upd H s.heap.objs.size (.tup [x, y])) { s with heap := h'', toks := tk } :=
      I.turnedNew (t' := tk) (ch := [z, TI, TO, i1, i2]) (fun c o hb q => (sb.2 c (fun q' => hb (by simp [q']))).trans (hk c o (fun q' => hb (by simp [q'])) (fun q' => hb (by simp [q'])) (fun q' => hb (by simp [q'])) (fun q' => hb (by simp [q'])) q)) hf (Nat.le_refl _) new
    refine ⟨.ref s.heap.objs.size, _, I1, rfl, ⟨_, x, y, rfl, I.hok.fresh (Nat.le_refl _), rfl, fun l hl => by rw [I.list_inj hl hqx]; exact hx, fun l hl => by rw [I.tuple_inj hl hqy]; exact hy⟩, ⟨z'', ?_, ⟨x1, x2, ?_⟩, ?_, ?_⟩, fun c hcm => ?_⟩
    · exact (sb.2 _ S.TIz).trans (hk _ _ S.TIz S.TITO S.TIi1 S.TIi2 hTI)
    · exact (sb.2 _ S.TOz).trans TO'
    · exact h1'.at fun o q => (sb.2 _ S.zi1.symm).trans q
    · exact h2'.at fun o q => (sb.2 _ S.zi2.symm).trans q
    · have hlt : c < s.heap.objs.size := by
        have e' : c = z ∨ c = TI ∨ c = TO ∨ c = i1 ∨ c = i2 := by simpa using hcm
        rcases e' with q | q | q | q | q
        · rw [q]; exact hzl
        · rw [q]; exact Heap.lt_size hTI
        · rw [q]; exact Heap.lt_size hTO
        · rw [q]; obtain ⟨_, e1, _⟩ := h1; exact Heap.lt_size e1
        · rw [q]; obtain ⟨_, e2, _⟩ := h2; exact Heap.lt_size e2
      rw [upd_ne (Nat.ne_of_lt hlt)]
      exact (hf c hcm).1
  done := by
    intro X hP hw hK hc i pins s σ H E I hf st hg
    subst hP hw hK
    obtain ⟨hz, hTI, ⟨x0, y0, hTO⟩, h1, h2⟩ := st
    obtain ⟨xs, ys, hqx, hqy, hl, hend⟩ := hg
    obtain ⟨its, rv, p, _⟩ := I.list hqx
    obtain ⟨its2, rv2, p2, _⟩ := I.tuple hqy
    have l1 := rv.length
    have l2 := rv2.length
    exact zipM_end (I.ok.hd hc) S hz hTI hTO h1 h2 p.isList p2 n1 n2 (by simp; omega) (by simp; omega) fun h' tk hk => ⟨rfl, I.turnedL (t' := tk) (ch := [z, TI, TO, i1, i2]) (fun c o hb q =>
      hk c o (fun q' => hb (by simp [q'])) (fun q' => hb (by simp [q'])) (fun q' => hb (by simp [q'])) (fun q' => hb (by simp [q'])) q) hf⟩
  self := fun A i s Q E st h => wpAny_pyIter_zip st.1 h
def iZipM (K : PySem.W.Frag) (ta : TA) : TI := fun σ H R => ta σ H fun vs H1 => ∃ a b xs ys, vs = [.ref a, .ref b] ∧ SqL K H1 a xs ∧ SqT K H1 b ys ∧ R (ItzM K a b) H1
theorem pi_zipM {X : Cx} {e e2 : Expr} {ta : TA} {p pos tpos : Pos} {elts : List Expr} {kk : Nat} (hg : Gl X "zip") (hm : X.mg "zip" = none) (ha : PA X [e, e2] ta)
    (hs : starEach [e, e2] X.env = (false, eval e X.env) :: starEach [e2] X.env := by rfl) (hpl : (backTo pos (starEach [e2] X.env)).any (·.1) = false := by rfl) :
    PI X (.Tuple elts kk tpos) (.Call (.Name "zip" p) [e, e2] [] pos) (iZipM X.K ta) := by
  refine ⟨fun pins s σ H R I h => ?_⟩
  refine Call_ (ld_blt I hg hm PyProof.Rows.boot_zip (PyProof.Rows.callWith_type1 (thn (ha.run pos pins s σ H _ I h) fun us s1 ⟨vs, H1, I1, r1, q1⟩ => ?_) hs hpl))
  obtain ⟨a, b, xs, ys, ex, hqx, hqy, q⟩ := q1
  subst ex
  cases r1 with
  | cons r rr =>
    cases rr with
    | cons r' rr =>
      cases rr
      cases r
      cases r'
      obtain ⟨its, rv, p1, _⟩ := I1.list hqx
      obtain ⟨its2, rv2, p2, _⟩ := I1.tuple hqy
      have la : a < s1.heap.objs.size := p1.lt
      have lb : b < s1.heap.objs.size := p2.lt
      refine zip_begins2 (begins_list a its.toArray) (begins_tuple b its2.toArray) p1.isList p2 fun h' hz hTI hTO h1 h2 hsz hk => wpAny_pyIter_zip hz ?_
      have I2 : Inv X pins σ H1 { s1 with heap := h' } := I1.kept (t' := s1.toks) hk
      have S := zip_sep2 (N := s1.heap.objs.size) (fp1 := [a]) (fp2 := [b]) (by simpa using la) (by simpa using lb)
      refine ⟨s1.heap.objs.size + 4, [s1.heap.objs.size + 4, s1.heap.objs.size + 2, s1.heap.objs.size + 3, s1.heap.objs.size, s1.heap.objs.size + 1], _, _, H1, rfl, I2, turn_zipM S (Nat.ne_of_lt la) (Nat.ne_of_lt (Nat.lt_succ_of_lt lb)), ⟨hz, hTI, ⟨_, _, hTO⟩, ⟨_, h1, rfl, rfl⟩, ⟨_, h2, rfl, rfl⟩⟩, fun c hcm => ?_, q⟩
      have e' : c = s1.heap.objs.size + 4 ∨ c = s1.heap.objs.size + 2 ∨ c = s1.heap.objs.size + 3 ∨ c = s1.heap.objs.size ∨ c = s1.heap.objs.size + 1 := by simpa using hcm
      have hle : s1.heap.objs.size ≤ c := by
        rcases e' with z | z | z | z | z
        · rw [z]; exact Nat.le_add_right _ _
        · rw [z]; exact Nat.le_add_right _ _
        · rw [z]; exact Nat.le_add_right _ _
        · rw [z]; exact Nat.le_refl _
        · rw [z]; exact Nat.le_add_right _ _
      exact I1.fpOk hle (I1.hok.fresh hle)
end AB
set_option Elab.async false
set_option linter.all false
set_option maxRecDepth 100000
set_option maxHeartbeats 4000000
/-! ABrev: list(reversed(a list)). -/
namespace AB
open PySem PySem.Spec PyProof.Rows L2
section
variable {prog : Program} {w : World} {A : Around} {E : Value → Shared → Prop} {s : Shared}
theorem ext_rev {R : Result → Shared → Prop} {S it l : Addr} {items : Array Value} (hh : A.handled = none) (hit : s.heap.IsRevIter it l ((items.size : Int) - 1)) (hl : s.heap.IsList l items) (hne : l ≠ it) (hSi : S ≠ it) (hSl : S ≠ l) (res : Value) (c₀ : Nat)
    (hS : s.heap.get? S = some { cls := .type "list", data := .seq #[] c₀ }) (hn : items.size ≤ sizeLine)
    (hR : ∀ h' tk acc' c', (∀ b o, b ≠ S → b ≠ it → s.heap.get? b = some o → h'.get? b = some o) → h'.get? S = some { cls := .type "list", dict := none, data := .seq acc' c', slots := #[] } →
      ItemsOf (fun i v => items[items.size - 1 - i]? = some v) acc' items.size → R (.ok (.ret res)) { s with heap := h', toks := tk }) :
    wpAny (model prog w) A.in1 (Builtin.List.listExtendWith (.ref S) (.ref it) res)
      (fun fin s' => match fin with | .done f => R (.ok f) s' | .again c' => c'.quiet = true ∧ codeAny (model prog w) A c' R s') (fun e s' => R (.error e) s') s := by
  have W := (Walks.listRev (prog := prog) (w := w) (A := A.in1) (show A.in1.handled = none from hh) it l hne items).toS
  have hSf : S ∉ [it, l] := by simp only [List.mem_cons, List.not_mem_nil, or_false, not_or]; exact ⟨hSi, hSl⟩
  have hT : s.TypeIs (.ref it) "list_reverseiterator" := hit.typeIs
  have h1 : Builtin.List.listSameRef (.ref S) (.ref it) = false := by simp [Builtin.List.listSameRef, hSi]
  unfold Builtin.List.listExtendWith
  refine wpAny_bind (wpAny_typeOf hT ?_)
  rw [if_neg (by rw [h1]; decide)]
  refine wpAny_bind (wpAny_pyIter_revIter hit ?_)
  refine wpAny_bind (wpAny_holding ?_)
  unfold Builtin.List.listLengthHint
  refine wpAny_bind (wpAny_specialOf hT RT.nolen_lri ?_)
  show wpAny _ A.in1 (specialOf (Value.ref it) (Str.ofString "__length_hint__") >>= _) _ _ _
  refine wpAny_bind (wpAny_specialOf hT RT.hint_lri ?_)
  generalize hid : ("list_reverseiterator.__length_hint__" : String) = id0
  wp_delta
  rw [show splitId id0 = some ("list_reverseiterator", "__length_hint__") from by subst hid; decide +kernel]
  subst hid
  refine wpAny_bind (wpAny_isInstance (b := true) hT (by rw [isSubtype_type]; kernel_rfl) ?_)
  refine wpAny_pure ?_
  rw [if_neg (by decide)]
  have e0 : ((items.size : Nat) : Int) - 1 - ((0 : Nat) : Int) = (items.size : Int) - 1 := by omega
  refine wpAny_pure ⟨plainId_quiet F.plain_extend_loop _, codeAny_extend_loopS W hn _ hSf _ items.size 0 _ _ _ rfl (Nat.zero_le _) ⟨Nat.zero_le _, by rw [e0]; exact hit, hl⟩ hS (ItemsOf.nil _) fun s' acc' c' hm hS' hacc => ?_⟩
  rw [Moved.eq_with hm]
  refine hR s'.heap s'.toks acc' c' (fun b o hb hb2 e => hm.heap b o (fun hmem => ?_) e) hS' hacc
  rcases List.mem_cons.mp hmem with e' | hmem
  · exact hb e'
  · exact hb2 (List.mem_singleton.mp hmem)
theorem call_list_rev {it l : Addr} {items : Array Value} {Q : Value → Shared → Prop} (hh : A.handled = none) (hit : s.heap.IsRevIter it l ((items.size : Int) - 1)) (hl : s.heap.IsList l items) (hne : l ≠ it) (hn : items.size ≤ sizeLine)
    (hQ : ∀ (h' : Heap) (tk : Nat) (acc : Array Value) (c : Nat), (∀ b o, b ≠ it → s.heap.get? b = some o → h'.get? b = some o) → ItemsOf (fun i v => items[items.size - 1 - i]? = some v) acc items.size →
      h'.get? s.heap.objs.size = some { cls := .type "list", data := .seq acc c } → Q (.ref s.heap.objs.size) { s with heap := h', toks := tk }) :
    wpAny (model prog w) A (call (.type "list") [.ref it]) Q E s := by
  refine callType_codes (Q₁ := fun obj s₁ => obj = .ref s.heap.objs.size ∧ s₁ = { s with heap := s.heap.push { cls := .type "list", data := .seq #[] } }) PySem.F.called_list (PySem.F.typeCall_list_1 _) PySem.F.entry_list_init
    (code_list_new _ ⟨rfl, rfl⟩) fun obj s₁ h₁ => ?_
  obtain ⟨rfl, rfl⟩ := h₁
  have hS : (s.heap.push { cls := .type "list", data := .seq #[] }).get? s.heap.objs.size = some { cls := .type "list", data := .seq #[] } := Heap.get?_push_size _ rfl
  have hSi : s.heap.objs.size ≠ it := by
    obtain ⟨o, ho, _⟩ := hit
    exact Nat.ne_of_gt (Heap.lt_size ho)
  have hSl : s.heap.objs.size ≠ l := by
    obtain ⟨o, ho, _⟩ := hl
    exact Nat.ne_of_gt (Heap.lt_size ho)
  refine ⟨⟨_, hS, rfl⟩, PySem.F.args_list_init_2 _ _, ?_⟩
  show wpAny _ _ (do let old ← Builtin.List.listItems (.ref s.heap.objs.size); Builtin.List.listUpdate (.ref s.heap.objs.size) (fun _ => #[]); letGo old.toList.reverse; Builtin.List.listExtendWith (.ref s.heap.objs.size) (.ref it) .none) _ _ _
  refine wpAny_bind ?_
  unfold Builtin.List.listItems
  refine wpAny_bind (wpAny_seqItems hS rfl (wpAny_pure ?_))
  show wpAny _ _ (updateSeq s.heap.objs.size (fun _ => #[]) >>= fun _ => letGo (#[] : Array Value).toList.reverse >>= fun _ => Builtin.List.listExtendWith (.ref s.heap.objs.size) (.ref it) .none) _ _ _
  refine wpAny_bind (wpAny_updateSeq hS rfl ?_)
  have hS₂ := Heap.get?_update_self (Obj.mapSeq (fun _ => (#[] : Array Value))) hS rfl
  have oth : ∀ b o, b ≠ s.heap.objs.size → s.heap.get? b = some o → ((s.heap.push { cls := .type "list", data := .seq #[] }).update s.heap.objs.size (Obj.mapSeq (fun _ => (#[] : Array Value)))).get? b = some o :=
    fun b o hb e => (Heap.get?_update_other _ _ (Ne.symm hb)).trans (Heap.get?_push_of_some _ e)
  refine wpAny_bind (wpAny_letGo ?_)
  refine ext_rev (A := A.in1) hh (hit.at fun o e => oth _ _ hSi.symm e) (hl.at fun o e => oth _ _ hSl.symm e) hne hSi hSl .none _ hS₂ hn fun h' tk acc' c' hk hS' hacc => ?_
  exact ⟨rfl, hQ h' tk acc' c' (fun b o hb e => hk b o (Nat.ne_of_lt (Heap.lt_size e)) hb (oth b o (Nat.ne_of_lt (Heap.lt_size e)) e)) hacc hS'⟩
end
def tListRev (K : PySem.W.Frag) (te : TE) : TE := fun σ H Q => te σ H fun x H1 => ∃ a xs, x = .ref a ∧ SqL K H1 a xs ∧ ∀ p, H1 p = none → Q (.ref p) (upd H1 p (.lst xs.reverse))
theorem pe_listRev {X : Cx} {e : Expr} {te : TE} {p p2 pos pos2 : Pos} (hc : X.calm = true) (hg : Gl X "list") (hm : X.mg "list" = none) (hg2 : Gl X "reversed") (hm2 : X.mg "reversed" = none) (he : PE X e te)
    (hs : starEach [e] X.env = (false, eval e X.env) :: starEach [] X.env := by rfl)
    (hs2 : starEach [.Call (.Name "reversed" p2) [e] [] pos2] X.env = (false, eval (.Call (.Name "reversed" p2) [e] [] pos2) X.env) :: starEach [] X.env := by rfl) :
    PE X (.Call (.Name "list" p) [.Call (.Name "reversed" p2) [e] [] pos2] [] pos) (tListRev X.K te) := by
  refine ⟨fun pins s σ H Q I h => ?_⟩
  refine Call_ (ld_blt I hg hm PyProof.Rows.boot_list (PyProof.Rows.callWith_type1 (args_cons (Call_ (ld_blt I hg2 hm2 PyProof.Rows.boot_reversed (PyProof.Rows.callWith_type1 (args_cons (thn (he.run pins s σ H _ I h) fun u s1 ⟨v, H1, I1, r1, q1⟩ => args_nil ?_) hs) hs rfl))) hs2) hs2 rfl))
  obtain ⟨a, xs, ev, hq, q⟩ := q1
  subst ev
  obtain rfl : u = Value.ref a := r1
  obtain ⟨its, rv, p', hz⟩ := I1.list hq
  refine call_reversed_list p'.isList (args_nil ?_)
  have k0 : ∀ b o, s1.heap.get? b = some o → (s1.heap.push (revObj a ((its.toArray.size : Int) - 1))).get? b = some o := fun b o e => Heap.get?_push_of_some _ e
  have I2 : Inv X pins σ H1 { s1 with heap := s1.heap.push (revObj a ((its.toArray.size : Int) - 1)) } := I1.kept (t' := s1.toks) k0
  obtain ⟨f0, f1, f2, f3, f4, f5⟩ := I1.fpOk (H' := H1) (b := s1.heap.objs.size) (Nat.le_refl _) (I1.hok.fresh (Nat.le_refl _))
  have hl := p'.isList
  obtain ⟨ol, hol, _⟩ := id hl
  have hne : a ≠ s1.heap.objs.size := Nat.ne_of_lt (Heap.lt_size hol)
  have hn : its.toArray.size ≤ sizeLine := by rw [List.size_toArray, ← rv.length]; exact hz
  refine call_list_rev (s := { s1 with heap := s1.heap.push (revObj a ((its.toArray.size : Int) - 1)) }) (I1.ok.hd hc) ⟨_, Heap.get?_push_size _ rfl, rfl, rfl⟩ (hl.push _) hne hn fun h' tk acc c hk hi hS => ?_
  have kk : ∀ b o, s1.heap.get? b = some o → h'.get? b = some o := fun b o e => hk b o (Nat.ne_of_lt (Heap.lt_size e)) (k0 b o e)
  have hS1 : s1.heap.objs.size ≤ (s1.heap.push (revObj a ((its.toArray.size : Int) - 1))).objs.size := by rw [Heap.size_push]; exact Nat.le_succ _
  exact ⟨.ref _, upd H1 _ (.lst xs.reverse), I1.laid (t' := tk) kk hS1 (show ObjOk X.prog X.w _ _ _ (.lst xs.reverse) from ⟨by rw [List.length_reverse]; exact hz, acc.toList, c, RT.vals_rev rv hi, by rw [Array.toArray_toList]; exact hS⟩), rfl, q _ (I1.hok.fresh hS1)⟩
end AB
set_option Elab.async false
set_option linter.all false
set_option maxRecDepth 100000
set_option maxHeartbeats 4000000
/-! ABk: the hand layer's rules with the written part K said, so that they may stand within a comprehension. -/
namespace AB
open PySem L2
section
variable {X : Cx} (K : PySem.W.Frag) (h : X.K = K)
include h
theorem k_ixL : IxR X (rIxL K) := h ▸ ix_list
theorem k_ixT : IxR X (rIxT K) := h ▸ ix_tup
theorem k_len : CallR X (.builtin "len") (fun xs H Q => ∃ p ys, xs = [.ref p] ∧ (SqL K H p ys ∨ SqT K H p ys) ∧ Q (.int ys.length) H) := h ▸ call_len_seq
theorem k_isi : CallR X (.builtin "isinstance") (rIsi K) := h ▸ call_isi
theorem k_isiT : CallR X (.builtin "isinstance") (rIsiT K) := h ▸ call_isiT
theorem k_all (hc : X.calm = true) : CallR X (.builtin "all") (rAll K) := h ▸ cr_all hc
theorem k_any (hc : X.calm = true) : CallR X (.builtin "any") (rAny K) := h ▸ cr_any hc
theorem k_sum (hc : X.calm = true) : CallR X (.builtin "sum") (rSum K) := h ▸ cr_sum hc
theorem k_in : OpR X (compareOp .In) (rIn K false) := h ▸ op_in_seq
theorem k_nin : OpR X (compareOp .NotIn) (rIn K true) := h ▸ op_notIn_seq
theorem k_eqD (hu : X.A.units + 64 < cLine) : OpR X (compareOp .Eq) (rEqD K) := h ▸ op_eqD hu
theorem k_neD (hu : X.A.units + 64 < cLine) : OpR X (compareOp .NotEq) (rNeD K) := h ▸ op_neD hu
theorem k_catA : OpR X (binaryOp .Add) (rCatA K) := h ▸ op_catA
theorem k_repT : OpR X (binaryOp .Mult) (rRepT K) := h ▸ op_repT
theorem k_slL : SlR X (rSlL K) := h ▸ sl_list
theorem k_slT : SlR X (rSlA K) := h ▸ sl_tupA
theorem k_listOf : CallR X (.type "list") (fun xs H Q => ∃ p ys, xs = [.ref p] ∧ (SqL K H p ys ∨ SqT K H p ys) ∧ ∀ l, H l = none → Q (.ref l) (upd H l (.lst ys))) := h ▸ call_list_of
theorem k_tupOf : CallR X (.type "tuple") (fun xs H Q => ∃ p ys, xs = [.ref p] ∧ ((SqL K H p ys ∧ ∀ l, H l = none → Q (.ref l) (upd H l (.tup ys))) ∨ (SqT K H p ys ∧ Q (.ref p) H))) := h ▸ call_tuple_of
theorem k_fld {e : Expr} {f : Str} {ta : TE} (p : PE X e (tFld X.K ta f)) : PE X e (tFld K ta f) := h ▸ p
theorem k_bm {e : Expr} {T : String} {r : V → List V → Hp → VK → Prop} {to : TE} {t : TA} (p : PE X e (tBM X.K T r to t)) : PE X e (tBM K T r to t) := h ▸ p
theorem k_bm0 {e : Expr} {T : String} {r : V → List V → Hp → VK → Prop} {to : TE} (p : PE X e (tBM0 X.K T r to)) : PE X e (tBM0 K T r to) := h ▸ p
theorem k_tru {e : Expr} {ta : TE} (p : PT X e (fun σ H Q => ta σ H fun x H' => ∃ k, TruV X.K x H' k ∧ Q k H')) : PT X e (fun σ H Q => ta σ H fun x H' => ∃ k, TruV K x H' k ∧ Q k H') := h ▸ p
theorem k_notT {e : Expr} {ta : TE} (p : PE X e (tNotT X.K ta)) : PE X e (tNotT K ta) := h ▸ p
theorem k_star {es : List Expr} {te : TE} {t : TA} (p : PA X es (StX.tStar X.K te t)) : PA X es (StX.tStar K te t) := h ▸ p
theorem k_listRev {e : Expr} {te : TE} (p : PE X e (tListRev X.K te)) : PE X e (tListRev K te) := h ▸ p
theorem k_piL {tg l : Expr} {tl : TE} (p : PI X tg l (iList X.K tl)) : PI X tg l (iList K tl) := h ▸ p
theorem k_piT {tg l : Expr} {tl : TE} (p : PI X tg l (iTup X.K tl)) : PI X tg l (iTup K tl) := h ▸ p
theorem k_piEnum {tg l : Expr} {ta : TA} (p : PI X tg l (iEnum X.K ta)) : PI X tg l (iEnum K ta) := h ▸ p
theorem k_piZip {tg l : Expr} {ta : TA} (p : PI X tg l (iZip X.K ta)) : PI X tg l (iZip K ta) := h ▸ p
theorem k_piZipM {tg l : Expr} {ta : TA} (p : PI X tg l (iZipM X.K ta)) : PI X tg l (iZipM K ta) := h ▸ p
theorem k_piRev {tg l : Expr} {ta : TA} (p : PI X tg l (iRev X.K ta)) : PI X tg l (iRev K ta) := h ▸ p
theorem k_gfld {e : Expr} {f : Str} {ta : TE} (p : PG X e (gFld X.K ta f)) : PG X e (gFld K ta f) := h ▸ p
end
end AB
set_option Elab.async false
set_option linter.all false
set_option maxRecDepth 100000
set_option maxHeartbeats 4000000
/-! ABlc: comprehensions by what each item is; types of sequences. -/
namespace AB
open PySem L2
theorem TyX.sqT {K : PySem.W.Frag} {H : Hp} {a : Addr} {xs : List V} (h : SqT K H a xs) : TyX K H (.ref a) (.type "tuple") := by
  rcases h with (h | ⟨o, h⟩) | ⟨o, its, n, hk, hc, _⟩
  · exact .base (.tup h)
  · exact .fTuple h
  · exact .kTuple hk hc
theorem TyX.sqL {K : PySem.W.Frag} {H : Hp} {a : Addr} {xs : List V} (h : SqL K H a xs) : TyX K H (.ref a) (.type "list") := by
  rcases h with (h | ⟨o, h⟩) | ⟨o, its, n, hk, hc, _⟩
  · exact .base (.lst h)
  · exact .base (.frz h)
  · exact .kList hk hc
theorem walk_zipM {K : PySem.W.Frag} {a b : Addr} {xs ys : List V} (hn : xs.length = ys.length) : Walk (ItzM K a b) xs.length (fun H => SqL K H a xs ∧ SqT K H b ys) (YPair (fun i => xs[i]?) (fun i => ys[i]?)) := by
  refine ⟨fun i _ hi q => ?_, fun _ q => ⟨xs, ys, q.1, q.2, hn, rfl⟩, fun i H v H' _ q y => ?_⟩
  · have h2 : i < ys.length := by omega
    exact ⟨xs, ys, xs[i], ys[i], q.1, q.2, by simp [hi], by simp [h2]⟩
  · obtain ⟨T, x, z, h1, h2, h3, h4, h5⟩ := y
    exact ⟨T, x, z, h1, h2, h3, h4 xs q.1, h5 ys q.2⟩
theorem Paired.imp {α β : Type} {R R' : α → β → Prop} (h : ∀ a b, R a b → R' a b) : ∀ {xs : List α} {ys : List β}, Paired R xs ys → Paired R' xs ys
  | _, _, .nil => .nil
  | _, _, .cons r t => .cons (h _ _ r) (Paired.imp h t)
theorem Paired.snoc {α β : Type} {R : α → β → Prop} {a : α} {b : β} : ∀ {xs : List α} {ys : List β}, Paired R xs ys → R a b → Paired R (xs ++ [a]) (ys ++ [b])
  | _, _, .nil, h => .cons h .nil
  | _, _, .cons r t, h => .cons r (Paired.snoc t h)
theorem filter_range_succ (keep : Nat → Bool) (i : Nat) : (List.range (i + 1)).filter keep = if keep i = true then (List.range i).filter keep ++ [i] else (List.range i).filter keep := by
  rw [List.range_succ, List.filter_append]
  cases h : keep i <;> simp [h]
/-- a comprehension: the list's items are Rel of the turns kept -/
theorem lc_pair {J : It} {n : Nat} {G : Hp → Prop} {Y : Nat → Hp → V → Hp → Prop} (w : Walk J n G Y) {g : TG} {tt : TT} {te : TE} {vs : List Nat} {σ : L2.St} {H1 : Hp} {D : Addr} {Qd : Hp → Prop} (hn : n < sizeLine) (hD : H1 D = none)
    (keep : Nat → Bool) (m : List Addr) (S : Nat → Hp → Prop) (Rel : Nat → V → Hp → Prop) (mono : ∀ j v H H', Kp (D :: m) H H' → Rel j v H → Rel j v H') (hm : ∀ b ∈ m, Mut (H1 b))
    (h0 : S 0 (upd H1 D (.lst []))) (hG : ∀ i H, i ≤ n → Kp m H1 H → S i H → G H)
    (hs : ∀ i x H H', i < n → Kp m H1 H → (∃ acc, H D = some (.lst acc)) → (∀ b ∈ m, Mut (H b)) → S i H → Y i H x H' → ∀ (N : V → Hp → Prop) (F : Hp → Prop),
      (∀ y H4, keep i = true → Kp m H H4 → H4 D = H D → (∀ b ∈ m, Mut (H4 b)) → Rel i y H4 → (∀ acc, S (i + 1) (upd H4 D (.lst acc))) → N y H4) →
      (∀ H3, keep i = false → Kp m H H3 → H3 D = H D → (∀ b ∈ m, Mut (H3 b)) → S (i + 1) H3 → F H3) →
      g x (wipe σ vs) H' fun σ2 H2 => wipe σ2 vs = wipe σ vs ∧ tt σ2 H2 fun b H3 => if b = true then te σ2 H3 N else F H3)
    (hd : ∀ H acc, Kp m H1 H → (∀ b ∈ m, Mut (H b)) → S n H → H D = some (.lst acc) → Paired (fun j y => Rel j y H) ((List.range n).filter keep) acc → Qd H) :
    ∃ W : Nat → Nat → Hp → Prop, (∃ m, W 0 m (upd H1 D (.lst []))) ∧ ∀ i m H, W i m H →
      (J.stop i H ∧ Qd H) ∨ (J.go i H ∧ ∃ Nx : Hp → Prop, (∀ H', Nx H' → ∃ m', m' < m ∧ W (i + 1) m' H') ∧ ∀ x H', J.yld i H x H' → g x (wipe σ vs) H' fun σ2 H2 => wipe σ2 vs = wipe σ vs ∧ tt σ2 H2 fun b H3 =>
        if b = true then te σ2 H3 fun y H4 => ∃ acc, H4 D = some (.lst acc) ∧ acc.length < sizeLine ∧ Nx (upd H4 D (.lst (acc ++ [y]))) else Nx H3) := by
  have hDm : D ∉ m := fun z => by have q := hm D z; rw [hD] at q; exact q
  refine lc_it w (fun i H => Kp m H1 H ∧ (∀ b ∈ m, Mut (H b)) ∧ S i H ∧ ∃ acc, H D = some (.lst acc) ∧ acc.length ≤ i ∧ Paired (fun j y => Rel j y H) ((List.range i).filter keep) acc) ?_ (fun i H hi p => hG i H hi p.1 p.2.2.1) ?_ ?_
  · refine ⟨(Kp.new hD).wide (fun b h => nomatch h) hm, fun b hb => ?_, h0, [], upd_same, Nat.le_refl _, .nil⟩
    rw [upd_ne (fun z : b = D => hDm (by rw [← z]; exact hb))]
    exact hm b hb
  · intro i x H H' hi p y
    obtain ⟨k, hmu, hS, acc, hacc, hl, hp⟩ := p
    refine hs i x H H' hi k ⟨acc, hacc⟩ hmu hS y _ _ (fun v H4 hk k4 hD4 hm4 hr hS4 => ?_) (fun H3 hk k3 hD3 hm3 hS3 => ?_)
    · have hD4' : H4 D = some (.lst acc) := hD4.trans hacc
      have kk : Kp m H1 H4 := k.trans1 k4
      have muD : ∀ b ∈ D :: m, Mut (H4 b) := fun b hb => by
        rcases List.mem_cons.mp hb with e | e
        · rw [e, hD4']; exact True.intro
        · exact hm4 b e
      have kD : Kp (D :: m) H4 (upd H4 D (.lst (acc ++ [v]))) := (Kp.set (by rw [hD4']; exact True.intro)).wide (fun b hb => by rw [List.mem_singleton.mp hb]; simp) muD
      have muH : ∀ b ∈ D :: m, Mut (H b) := fun b hb => by
        rcases List.mem_cons.mp hb with e | e
        · rw [e, hacc]; exact True.intro
        · exact hmu b e
      refine ⟨acc, hD4', by omega, ⟨kk.trans (Kp.set (by rw [hD4']; exact True.intro)) fun b hb => .inr (by rw [List.mem_singleton.mp hb]; exact hD), fun b hb => ?_, hS4 _, acc ++ [v], upd_same, by simp; omega, ?_⟩⟩
      · rw [upd_ne (fun z : b = D => hDm (by rw [← z]; exact hb))]
        exact hm4 b hb
      · rw [filter_range_succ, if_pos hk]
        exact Paired.snoc (Paired.imp (fun j y r => mono j y H4 _ kD (mono j y H H4 (k4.wide (fun b hb => by simp [hb]) muH) r)) hp) (mono i v H4 _ kD hr)
    · refine ⟨k.trans1 k3, hm3, hS3, acc, hD3.trans hacc, by omega, ?_⟩
      rw [filter_range_succ, if_neg (by rw [hk]; exact Bool.false_ne_true)]
      refine Paired.imp (fun j y r => mono j y H H3 (k3.wide (fun b hb => by simp [hb]) fun b hb => ?_) r) hp
      rcases List.mem_cons.mp hb with e | e
      · rw [e, hacc]; exact True.intro
      · exact hmu b e
  · intro H p
    obtain ⟨k, hmu, hS, acc, hacc, hl, hp⟩ := p
    exact hd H acc k hmu hS hacc hp
/-- .. where nothing changes -/
theorem lc_pure {J : It} {n : Nat} {G : Hp → Prop} {Y : Nat → Hp → V → Hp → Prop} (w : Walk J n G Y) {g : TG} {tt : TT} {te : TE} {vs : List Nat} {σ : L2.St} {H1 : Hp} {D : Addr} {Qd : Hp → Prop} (hn : n < sizeLine) (hD : H1 D = none)
    (keep : Nat → Bool) (Rel : Nat → V → Hp → Prop) (mono : ∀ j v H H', Kp [D] H H' → Rel j v H → Rel j v H') (hG : ∀ H, Kp [] H1 H → G H)
    (hs : ∀ i x H H', i < n → Kp [] H1 H → Y i H x H' → ∀ (N : V → Hp → Prop) (F : Hp → Prop), (∀ y H4, keep i = true → Kp [] H H4 → Rel i y H4 → N y H4) → (∀ H3, keep i = false → Kp [] H H3 → F H3) →
      g x (wipe σ vs) H' fun σ2 H2 => wipe σ2 vs = wipe σ vs ∧ tt σ2 H2 fun b H3 => if b = true then te σ2 H3 N else F H3)
    (hd : ∀ H acc, Kp [] H1 H → H D = some (.lst acc) → Paired (fun j y => Rel j y H) ((List.range n).filter keep) acc → Qd H) :
    ∃ W : Nat → Nat → Hp → Prop, (∃ m, W 0 m (upd H1 D (.lst []))) ∧ ∀ i m H, W i m H →
      (J.stop i H ∧ Qd H) ∨ (J.go i H ∧ ∃ Nx : Hp → Prop, (∀ H', Nx H' → ∃ m', m' < m ∧ W (i + 1) m' H') ∧ ∀ x H', J.yld i H x H' → g x (wipe σ vs) H' fun σ2 H2 => wipe σ2 vs = wipe σ vs ∧ tt σ2 H2 fun b H3 =>
        if b = true then te σ2 H3 fun y H4 => ∃ acc, H4 D = some (.lst acc) ∧ acc.length < sizeLine ∧ Nx (upd H4 D (.lst (acc ++ [y]))) else Nx H3) := by
  refine lc_pair w hn hD keep [] (fun _ _ => True) Rel mono (fun b h => nomatch h) trivial (fun i H _ k _ => hG H k) ?_ (fun H acc k _ _ h p => hd H acc k h p)
  intro i x H H' hi k hacc _ _ y N F hN hF
  obtain ⟨acc, hacc⟩ := hacc
  exact hs i x H H' hi k y N F (fun y H4 hk k4 r => hN y H4 hk k4 ((k4.st D _ (by simp) hacc).trans hacc.symm) (fun b h => nomatch h) r fun _ => trivial)
    (fun H3 hk k3 => hF H3 hk k3 ((k3.st D _ (by simp) hacc).trans hacc.symm) (fun b h => nomatch h) trivial)
theorem Paired.eqs {α : Type} {β : Type} {f : α → β} : ∀ {xs : List α} {ys : List β}, Paired (fun a b => b = f a) xs ys → ys = xs.map f
  | _, _, .nil => rfl
  | _, _, .cons r t => by rw [r, Paired.eqs t]; rfl
theorem map_range_getD {α β : Type} (g : α → β) (d : α) (xs : List α) : (List.range xs.length).map (fun j => g (xs.getD j d)) = xs.map g := by
  apply List.ext_getElem
  · simp
  · intro i h1 h2
    simp at h1
    simp [h1]
theorem map_range_zip {α β γ δ : Type} (f : α → β → γ) (g : γ → δ) (d : α) (e : β) (xs : List α) (ys : List β) (h : xs.length = ys.length) : (List.range xs.length).map (fun j => g (f (xs.getD j d) (ys.getD j e))) = (List.zipWith f xs ys).map g := by
  apply List.ext_getElem
  · simp [h]
  · intro i h1 h2
    simp at h1
    have h3 : i < ys.length := by omega
    simp [h1, h3]
theorem map_at {α β : Type} {g : α → β} {xs : List α} {j : Nat} {x : β} (h : (xs.map g)[j]? = some x) : ∃ n, xs[j]? = some n ∧ x = g n := by
  rw [List.getElem?_map] at h
  obtain ⟨n, e, r⟩ := Option.map_eq_some_iff.mp h
  exact ⟨n, e, r.symm⟩
theorem ite_of {b : Bool} {A B : Prop} (h1 : b = true → A) (h2 : b = false → B) : if b = true then A else B := by
  cases b with
  | true => exact h1 rfl
  | false => exact h2 rfl
theorem filter_all (n : Nat) : (List.range n).filter (fun _ => true) = List.range n := by simp
/-- .. where nothing changes, the new list in sight -/
theorem lc_pureD {J : It} {n : Nat} {G : Hp → Prop} {Y : Nat → Hp → V → Hp → Prop} (w : Walk J n G Y) {g : TG} {tt : TT} {te : TE} {vs : List Nat} {σ : L2.St} {H1 : Hp} {D : Addr} {Qd : Hp → Prop} (hn : n < sizeLine) (hD : H1 D = none)
    (keep : Nat → Bool) (Rel : Nat → V → Hp → Prop) (mono : ∀ j v H H', Kp [D] H H' → Rel j v H → Rel j v H') (hG : ∀ H, Kp [] H1 H → G H)
    (hs : ∀ i x H H', i < n → Kp [] H1 H → (∃ acc, H D = some (.lst acc)) → Y i H x H' → ∀ (N : V → Hp → Prop) (F : Hp → Prop), (∀ y H4, keep i = true → Kp [] H H4 → Rel i y H4 → N y H4) → (∀ H3, keep i = false → Kp [] H H3 → F H3) →
      g x (wipe σ vs) H' fun σ2 H2 => wipe σ2 vs = wipe σ vs ∧ tt σ2 H2 fun b H3 => if b = true then te σ2 H3 N else F H3)
    (hd : ∀ H acc, Kp [] H1 H → H D = some (.lst acc) → Paired (fun j y => Rel j y H) ((List.range n).filter keep) acc → Qd H) :
    ∃ W : Nat → Nat → Hp → Prop, (∃ m, W 0 m (upd H1 D (.lst []))) ∧ ∀ i m H, W i m H →
      (J.stop i H ∧ Qd H) ∨ (J.go i H ∧ ∃ Nx : Hp → Prop, (∀ H', Nx H' → ∃ m', m' < m ∧ W (i + 1) m' H') ∧ ∀ x H', J.yld i H x H' → g x (wipe σ vs) H' fun σ2 H2 => wipe σ2 vs = wipe σ vs ∧ tt σ2 H2 fun b H3 =>
        if b = true then te σ2 H3 fun y H4 => ∃ acc, H4 D = some (.lst acc) ∧ acc.length < sizeLine ∧ Nx (upd H4 D (.lst (acc ++ [y]))) else Nx H3) := by
  refine lc_pair w hn hD keep [] (fun _ _ => True) Rel mono (fun b h => nomatch h) trivial (fun i H _ k _ => hG H k) ?_ (fun H acc k _ _ h p => hd H acc k h p)
  intro i x H H' hi k hacc _ _ y N F hN hF
  have hacc0 := hacc
  obtain ⟨acc, hacc⟩ := hacc
  exact hs i x H H' hi k hacc0 y N F (fun y H4 hk k4 r => hN y H4 hk k4 ((k4.st D _ (by simp) hacc).trans hacc.symm) (fun b h => nomatch h) r fun _ => trivial)
    (fun H3 hk k3 => hF H3 hk k3 ((k3.st D _ (by simp) hacc).trans hacc.symm) (fun b h => nomatch h) trivial)
/-- items that are addresses -/
theorem refs_of {R : Nat → Addr → Prop} : ∀ {js : List Nat} {acc : List V}, Paired (fun j v => ∃ l, v = V.ref l ∧ R j l) js acc → ∃ as : List Addr, acc = as.map V.ref ∧ Paired R js as
  | _, _, .nil => ⟨[], rfl, .nil⟩
  | _, _, .cons r t => by
    obtain ⟨l, e, h⟩ := r
    obtain ⟨as, e2, h2⟩ := refs_of t
    exact ⟨l :: as, by rw [e, e2]; rfl, .cons h h2⟩
theorem paired_get {α β : Type} {R : α → β → Prop} : ∀ {xs : List α} {ys : List β}, Paired R xs ys → ∀ i (h1 : i < xs.length) (h2 : i < ys.length), R xs[i] ys[i]
  | _, _, .nil, i, h, _ => by simp at h
  | _, _, .cons r t, 0, _, _ => r
  | _, _, .cons r t, i + 1, h1, h2 => paired_get t i (by simpa using h1) (by simpa using h2)
theorem range_get {β : Type} {R : Nat → β → Prop} {n : Nat} {ys : List β} (h : Paired R (List.range n) ys) : ys.length = n ∧ ∀ i (h2 : i < ys.length), R i ys[i] := by
  have hl := Paired.length h
  rw [List.length_range] at hl
  refine ⟨hl.symm, fun i h2 => ?_⟩
  have := paired_get h i (by simp; omega) h2
  simpa using this
end AB
set_option Elab.async false
set_option linter.all false
set_option maxRecDepth 100000
set_option maxHeartbeats 4000000
/-! K68A: the text by places, the facts of the top, errors and small defs. -/
namespace K68
open PySem L2 AB
def top (i : Nat) : Stmt := PySem.Challenge.pw_airheld_k68_whole_guarded_blocks_healed.main.body.getD i (.Pass ⟨0, 0, 0, 0⟩)
abbrev s_is_integer : Stmt := top 7
abbrev N_is_integer : List Str := ["value"]
theorem sc_is_integer : FnScope ["value"] ["value"] (defScope s_is_integer) := ⟨rfl, rfl, rfl, by decide +kernel, rfl, by decide +kernel, by decide +kernel⟩
abbrev s_is_within : Stmt := top 8
abbrev N_is_within : List Str := ["value", "low", "high"]
theorem sc_is_within : FnScope ["value", "low", "high"] ["value", "low", "high"] (defScope s_is_within) := ⟨rfl, rfl, rfl, by decide +kernel, rfl, by decide +kernel, by decide +kernel⟩
abbrev s_is_word : Stmt := top 9
abbrev N_is_word : List Str := ["value"]
theorem sc_is_word : FnScope ["value"] ["value"] (defScope s_is_word) := ⟨rfl, rfl, rfl, by decide +kernel, rfl, by decide +kernel, by decide +kernel⟩
abbrev s_are_words : Stmt := top 10
abbrev N_are_words : List Str := ["value", "one"]
theorem sc_are_words : FnScope ["value", "one"] ["value"] (defScope s_are_words) := ⟨rfl, rfl, rfl, by decide +kernel, rfl, by decide +kernel, by decide +kernel⟩
abbrev s_check : Stmt := top 11
abbrev N_check : List Str := ["is_right"]
theorem sc_check : FnScope ["is_right"] ["is_right"] (defScope s_check) := ⟨rfl, rfl, rfl, by decide +kernel, rfl, by decide +kernel, by decide +kernel⟩
abbrev s_check_there : Stmt := top 12
abbrev N_check_there : List Str := ["is_there"]
theorem sc_check_there : FnScope ["is_there"] ["is_there"] (defScope s_check_there) := ⟨rfl, rfl, rfl, by decide +kernel, rfl, by decide +kernel, by decide +kernel⟩
abbrev s_is_block : Stmt := top 18
abbrev N_is_block : List Str := ["value"]
theorem sc_is_block : FnScope ["value"] ["value"] (defScope s_is_block) := ⟨rfl, rfl, rfl, by decide +kernel, rfl, by decide +kernel, by decide +kernel⟩
abbrev s_Disk_init : Stmt := inClass (top 19) 0
abbrev N_Disk_init : List Str := ["self", "many"]
theorem sc_Disk_init : FnScope ["self", "many"] ["self", "many"] (defScope s_Disk_init) := ⟨rfl, rfl, rfl, by decide +kernel, rfl, by decide +kernel, by decide +kernel⟩
abbrev s_Disk_need_block : Stmt := inClass (top 19) 1
abbrev N_Disk_need_block : List Str := ["self", "block"]
theorem sc_Disk_need_block : FnScope ["self", "block"] ["self", "block"] (defScope s_Disk_need_block) := ⟨rfl, rfl, rfl, by decide +kernel, rfl, by decide +kernel, by decide +kernel⟩
abbrev s_Disk_read : Stmt := inClass (top 19) 2
abbrev N_Disk_read : List Str := ["self", "block"]
theorem sc_Disk_read : FnScope ["self", "block"] ["self", "block"] (defScope s_Disk_read) := ⟨rfl, rfl, rfl, by decide +kernel, rfl, by decide +kernel, by decide +kernel⟩
abbrev s_Disk_write : Stmt := inClass (top 19) 3
abbrev N_Disk_write : List Str := ["self", "block", "words"]
theorem sc_Disk_write : FnScope ["self", "block", "words"] ["self", "block", "words"] (defScope s_Disk_write) := ⟨rfl, rfl, rfl, by decide +kernel, rfl, by decide +kernel, by decide +kernel⟩
abbrev s_mark_by : Stmt := top 27
abbrev N_mark_by : List Str := ["words", "mark", "word"]
theorem sc_mark_by : FnScope ["words", "mark", "word"] ["words"] (defScope s_mark_by) := ⟨rfl, rfl, rfl, by decide +kernel, rfl, by decide +kernel, by decide +kernel⟩
abbrev s_mark_of : Stmt := top 28
abbrev N_mark_of : List Str := ["words"]
theorem sc_mark_of : FnScope ["words"] ["words"] (defScope s_mark_of) := ⟨rfl, rfl, rfl, by decide +kernel, rfl, by decide +kernel, by decide +kernel⟩
abbrev s_sum_by : Stmt := top 29
abbrev N_sum_by : List Str := ["pages", "found", "words", "one", "other"]
theorem sc_sum_by : FnScope ["pages", "found", "words", "one", "other"] ["pages"] (defScope s_sum_by) := ⟨rfl, rfl, rfl, by decide +kernel, rfl, by decide +kernel, by decide +kernel⟩
abbrev s_sum_of : Stmt := top 30
abbrev N_sum_of : List Str := ["pages", "words"]
theorem sc_sum_of : FnScope ["pages", "words"] ["pages"] (defScope s_sum_of) := ⟨rfl, rfl, rfl, by decide +kernel, rfl, by decide +kernel, by decide +kernel⟩
abbrev s_Guard_init : Stmt := inClass (top 31) 0
abbrev N_Guard_init : List Str := ["self", "disk", "first", "many", "group", "groups"]
theorem sc_Guard_init : FnScope ["self", "disk", "first", "many", "group", "groups"] ["self", "disk", "first", "many", "group"] (defScope s_Guard_init) := ⟨rfl, rfl, rfl, by decide +kernel, rfl, by decide +kernel, by decide +kernel⟩
abbrev s_Guard_members : Stmt := inClass (top 31) 1
abbrev N_Guard_members : List Str := ["self", "group"]
theorem sc_Guard_members : FnScope ["self", "group"] ["self", "group"] (defScope s_Guard_members) := ⟨rfl, rfl, rfl, by decide +kernel, rfl, by decide +kernel, by decide +kernel⟩
abbrev s_Guard_place : Stmt := inClass (top 31) 2
abbrev N_Guard_place : List Str := ["self", "block"]
theorem sc_Guard_place : FnScope ["self", "block"] ["self", "block"] (defScope s_Guard_place) := ⟨rfl, rfl, rfl, by decide +kernel, rfl, by decide +kernel, by decide +kernel⟩
abbrev s_Guard_place_of : Stmt := inClass (top 31) 3
abbrev N_Guard_place_of : List Str := ["self", "block"]
theorem sc_Guard_place_of : FnScope ["self", "block"] ["self", "block"] (defScope s_Guard_place_of) := ⟨rfl, rfl, rfl, by decide +kernel, rfl, by decide +kernel, by decide +kernel⟩
abbrev s_Guard_places : Stmt := inClass (top 31) 4
abbrev N_Guard_places : List Str := ["self", "group", "last"]
theorem sc_Guard_places : FnScope ["self", "group", "last"] ["self", "group"] (defScope s_Guard_places) := ⟨rfl, rfl, rfl, by decide +kernel, rfl, by decide +kernel, by decide +kernel⟩
abbrev s_Guard_places_of : Stmt := inClass (top 31) 5
abbrev N_Guard_places_of : List Str := ["self", "group"]
theorem sc_Guard_places_of : FnScope ["self", "group"] ["self", "group"] (defScope s_Guard_places_of) := ⟨rfl, rfl, rfl, by decide +kernel, rfl, by decide +kernel, by decide +kernel⟩
abbrev s_Guard_begin : Stmt := inClass (top 31) 6
abbrev N_Guard_begin : List Str := ["self", "group", "_"]
theorem sc_Guard_begin : FnScope ["self", "group", "_"] ["self"] (defScope s_Guard_begin) := ⟨rfl, rfl, rfl, by decide +kernel, rfl, by decide +kernel, by decide +kernel⟩
abbrev s_Guard_lay : Stmt := inClass (top 31) 7
abbrev N_Guard_lay : List Str := ["self", "group", "pages", "block", "words", "place", "marks", "whole", "told"]
theorem sc_Guard_lay : FnScope ["self", "group", "pages", "block", "words", "place", "marks", "whole", "told"] ["self", "group", "pages"] (defScope s_Guard_lay) := ⟨rfl, rfl, rfl, by decide +kernel, rfl, by decide +kernel, by decide +kernel⟩
abbrev s_Guard_read_group : Stmt := inClass (top 31) 8
abbrev N_Guard_read_group : List Str := ["self", "group", "place", "marks", "pages", "told", "block", "at", "words"]
theorem sc_Guard_read_group : FnScope ["self", "group", "place", "marks", "pages", "told", "block", "at", "words"] ["self", "group"] (defScope s_Guard_read_group) := ⟨rfl, rfl, rfl, by decide +kernel, rfl, by decide +kernel, by decide +kernel⟩
abbrev s_Guard_healed : Stmt := inClass (top 31) 9
abbrev N_Guard_healed : List Str := ["self", "group", "pages", "bad", "others", "found", "at", "words"]
theorem sc_Guard_healed : FnScope ["self", "group", "pages", "bad", "others", "found", "at", "words"] ["self", "group"] (defScope s_Guard_healed) := ⟨rfl, rfl, rfl, by decide +kernel, rfl, by decide +kernel, by decide +kernel⟩
abbrev s_Guard_read : Stmt := inClass (top 31) 10
abbrev N_Guard_read : List Str := ["self", "block", "pages", "lost"]
theorem sc_Guard_read : FnScope ["self", "block", "pages", "lost"] ["self", "block"] (defScope s_Guard_read) := ⟨rfl, rfl, rfl, by decide +kernel, rfl, by decide +kernel, by decide +kernel⟩
abbrev s_Guard_write : Stmt := inClass (top 31) 11
abbrev N_Guard_write : List Str := ["self", "block", "words", "group", "pages", "lost", "at"]
theorem sc_Guard_write : FnScope ["self", "block", "words", "group", "pages", "lost", "at"] ["self", "block", "words"] (defScope s_Guard_write) := ⟨rfl, rfl, rfl, by decide +kernel, rfl, by decide +kernel, by decide +kernel⟩
abbrev s_Guard_scrub : Stmt := inClass (top 31) 12
abbrev N_Guard_scrub : List Str := ["self", "healed", "lost", "group", "before", "pages", "left", "members", "names", "at"]
theorem sc_Guard_scrub : FnScope ["self", "healed", "lost", "group", "before", "pages", "left", "members", "names", "at"] ["self"] (defScope s_Guard_scrub) := ⟨rfl, rfl, rfl, by decide +kernel, rfl, by decide +kernel, by decide +kernel⟩
abbrev s_law_draws : Stmt := top 33
abbrev N_law_draws : List Str := ["script", "draws", "cell", "number", "first", "k", "seed"]
theorem sc_law_draws : FnScope ["script", "draws", "cell", "number", "first", "k", "seed"] ["script"] (defScope s_law_draws) := ⟨rfl, rfl, rfl, by decide +kernel, rfl, by decide +kernel, by decide +kernel⟩
abbrev s_law_take : Stmt := top 34
abbrev N_law_take : List Str := ["draws", "bound"]
theorem sc_law_take : FnScope ["draws", "bound"] ["draws", "bound"] (defScope s_law_take) := ⟨rfl, rfl, rfl, by decide +kernel, rfl, by decide +kernel, by decide +kernel⟩
abbrev s_law_pick : Stmt := top 35
abbrev N_law_pick : List Str := ["draws", "some"]
theorem sc_law_pick : FnScope ["draws", "some"] ["draws", "some"] (defScope s_law_pick) := ⟨rfl, rfl, rfl, by decide +kernel, rfl, by decide +kernel, by decide +kernel⟩
abbrev s_law_page : Stmt := top 36
abbrev N_law_page : List Str := ["draws", "k"]
theorem sc_law_page : FnScope ["draws", "k"] ["draws"] (defScope s_law_page) := ⟨rfl, rfl, rfl, by decide +kernel, rfl, by decide +kernel, by decide +kernel⟩
abbrev s_law_xor : Stmt := top 37
abbrev N_law_xor : List Str := ["a", "b", "found", "size", "k"]
theorem sc_law_xor : FnScope ["a", "b", "found", "size", "k"] ["a", "b"] (defScope s_law_xor) := ⟨rfl, rfl, rfl, by decide +kernel, rfl, by decide +kernel, by decide +kernel⟩
abbrev s_law_sum : Stmt := top 38
abbrev N_law_sum : List Str := ["pages", "found", "page", "k"]
theorem sc_law_sum : FnScope ["pages", "found", "page", "k"] ["pages"] (defScope s_law_sum) := ⟨rfl, rfl, rfl, by decide +kernel, rfl, by decide +kernel, by decide +kernel⟩
abbrev s_law_mark : Stmt := top 39
abbrev N_law_mark : List Str := ["page", "mark", "word"]
theorem sc_law_mark : FnScope ["page", "mark", "word"] ["page"] (defScope s_law_mark) := ⟨rfl, rfl, rfl, by decide +kernel, rfl, by decide +kernel, by decide +kernel⟩
abbrev s_law_groups : Stmt := top 40
abbrev N_law_groups : List Str := ["many", "size", "first"]
theorem sc_law_groups : FnScope ["many", "size", "first"] ["many", "size"] (defScope s_law_groups) := ⟨rfl, rfl, rfl, by decide +kernel, rfl, by decide +kernel, by decide +kernel⟩
abbrev s_law_looks : Stmt := top 41
abbrev N_law_looks : List Str := ["guard", "pages", "bad", "groups", "at", "block", "found"]
theorem sc_law_looks : FnScope ["guard", "pages", "bad", "groups", "at", "block", "found"] ["guard", "pages", "bad", "groups"] (defScope s_law_looks) := ⟨rfl, rfl, rfl, by decide +kernel, rfl, by decide +kernel, by decide +kernel⟩
abbrev s_law_damaged : Stmt := top 42
abbrev N_law_damaged : List Str := ["draws", "disk", "guard", "groups", "bad", "at", "what", "place", "page", "k", "other"]
theorem sc_law_damaged : FnScope ["draws", "disk", "guard", "groups", "bad", "at", "what", "place", "page", "k", "other"] ["draws", "disk", "guard", "groups", "bad"] (defScope s_law_damaged) := ⟨rfl, rfl, rfl, by decide +kernel, rfl, by decide +kernel, by decide +kernel⟩
abbrev s_law_is_scrubbed : Stmt := top 43
abbrev N_law_is_scrubbed : List Str := ["guard", "bad", "groups", "healed", "lost", "at", "told", "block"]
theorem sc_law_is_scrubbed : FnScope ["guard", "bad", "groups", "healed", "lost", "at", "told", "block"] ["guard", "bad", "groups"] (defScope s_law_is_scrubbed) := ⟨rfl, rfl, rfl, by decide +kernel, rfl, by decide +kernel, by decide +kernel⟩
abbrev s_law_written : Stmt := top 44
abbrev N_law_written : List Str := ["draws", "guard", "pages", "bad", "groups", "size", "block", "page", "at", "others", "due", "one"]
theorem sc_law_written : FnScope ["draws", "guard", "pages", "bad", "groups", "size", "block", "page", "at", "others", "due", "one"] ["draws", "guard", "pages", "bad", "groups", "size"] (defScope s_law_written) := ⟨rfl, rfl, rfl, by decide +kernel, rfl, by decide +kernel, by decide +kernel⟩
abbrev s_law : Stmt := top 45
abbrev N_law : List Str := ["script", "draws", "many", "size", "first", "groups", "disk", "guard", "pages", "bad", "turn", "kind", "some", "found", "at", "group", "k", "page"]
theorem sc_law : FnScope ["script", "draws", "many", "size", "first", "groups", "disk", "guard", "pages", "bad", "turn", "kind", "some", "found", "at", "group", "k", "page"] ["script"] (defScope s_law) := ⟨rfl, rfl, rfl, by decide +kernel, rfl, by decide +kernel, by decide +kernel⟩
/-! ### facts of the top -/
structure Ad where
  (nr nt na cd cg zd zg : Addr)
def zeros : List Int := [0, 0, 0, 0, 0, 0, 0, 0, 0, 0, 0, 0, 0, 0, 0, 0]
structure ExcT (K : PySem.W.Frag) (mg : Str → Option Value) (nm : Str) (C : Addr) : Prop where
  x : PySem.W.excIn K C [.type "ValueError", .type "Exception", .type "BaseException", .type "object"] "ValueError.__new__" = true
  g : mg nm = some (.ref C)
  k : PySem.W.keepIn K (.ref C) = true
  b : PySem.W.subIn K (.ref C) (.type "BaseException") = some true
  t : PySem.W.typeIn K (.ref C) = some (.type "type")
structure Txt (K : PySem.W.Frag) (mg : Str → Option Value) (a : Ad) : Prop where
  eNR : ExcT K mg "NotRight" a.nr
  eNT : ExcT K mg "NotThere" a.nt
  eNA : ExcT K mg "NoAnswer" a.na
  cD : Cls K a.cd
  cG : Cls K a.cg
  aD : ∀ f ∈ (["blocks_many", "fixed_blocks", "waits", "newest"] : List Str), NoAttr K a.cd f
  aG : ∀ f ∈ (["disk", "first", "many", "size", "groups"] : List Str), NoAttr K a.cg f
  xAA : PySem.W.exmOne K (.ref a.na) (.ref a.na) = some true
  xTT : PySem.W.exmOne K (.ref a.nt) (.ref a.nt) = some true
  xRT : PySem.W.exmOne K (.ref a.nr) (.ref a.nt) = some false
  xRR : PySem.W.exmOne K (.ref a.nr) (.ref a.nr) = some true
  c_MOST_WORD : GC mg "MOST_WORD" (.int 65535)
  c_PAGE_tables : GC mg "PAGE_tables" (.int 16)
  c_MOST_BLOCKS : GC mg "MOST_BLOCKS" (.int 4096)
  c_MOST_GROUP : GC mg "MOST_GROUP" (.int 14)
  c_BASE : GC mg "BASE" (.int 31)
  c_PRIME : GC mg "PRIME" (.int 65521)
  c_WRITE : GC mg "WRITE" (.str "write")
  c_SUM : GC mg "SUM" (.str "sum")
  c_ZEROS_disk : GC mg "ZEROS_disk" (.ref a.zd)
  c_ZEROS_guards : GC mg "ZEROS_guards" (.ref a.zg)
  z_disk : ∀ H, SqT K H a.zd (zeros.map V.int)
  z_guards : ∀ H, SqT K H a.zg (zeros.map V.int)
  g_Disk : mg "Disk" = some (.ref a.cd)
  g_Guard : mg "Guard" = some (.ref a.cg)
  iD1 : PySem.W.findIn K (.ref a.cd) "__class__" = some (some (.builtin "object.__class__"))
  iD2 : PySem.W.specialIn K (.builtin "object.__class__") "__get__" = some (some (.builtin "getset_descriptor.__get__"))
  iD3 : PySem.W.takesIn K (.builtin "object.__class__") = some true
  iD4 : PySem.W.mroIn K a.cd (.type "object") = some true
  kDD : PySem.W.kitOne K (.ref a.cd) (.ref a.cd) = some true
  kID : PySem.W.kitOne K (.type "int") (.ref a.cd) = some false
  n_isinstance : mg "isinstance" = none
  n_int : mg "int" = none
  n_bool : mg "bool" = none
  n_tuple : mg "tuple" = none
  n_list : mg "list" = none
  n_all : mg "all" = none
  n_any : mg "any" = none
  n_len : mg "len" = none
  n_min : mg "min" = none
  n_abs : mg "abs" = none
  n_range : mg "range" = none
  n_zip : mg "zip" = none
  n_enumerate : mg "enumerate" = none
  n_reversed : mg "reversed" = none
section
variable {K : PySem.W.Frag} {mg : Str → Option Value} {a : Ad} (T : Txt K mg a)
include T
theorem Txt.x_NotRight : PySem.W.excIn K a.nr [.type "ValueError", .type "Exception", .type "BaseException", .type "object"] "ValueError.__new__" = true := T.eNR.x
theorem Txt.g_NotRight : mg "NotRight" = some (.ref a.nr) := T.eNR.g
theorem Txt.k_NotRight : PySem.W.keepIn K (.ref a.nr) = true := T.eNR.k
theorem Txt.b_NotRight : PySem.W.subIn K (.ref a.nr) (.type "BaseException") = some true := T.eNR.b
theorem Txt.t_NotRight : PySem.W.typeIn K (.ref a.nr) = some (.type "type") := T.eNR.t
theorem Txt.x_NotThere : PySem.W.excIn K a.nt [.type "ValueError", .type "Exception", .type "BaseException", .type "object"] "ValueError.__new__" = true := T.eNT.x
theorem Txt.g_NotThere : mg "NotThere" = some (.ref a.nt) := T.eNT.g
theorem Txt.k_NotThere : PySem.W.keepIn K (.ref a.nt) = true := T.eNT.k
theorem Txt.b_NotThere : PySem.W.subIn K (.ref a.nt) (.type "BaseException") = some true := T.eNT.b
theorem Txt.t_NotThere : PySem.W.typeIn K (.ref a.nt) = some (.type "type") := T.eNT.t
theorem Txt.x_NoAnswer : PySem.W.excIn K a.na [.type "ValueError", .type "Exception", .type "BaseException", .type "object"] "ValueError.__new__" = true := T.eNA.x
theorem Txt.g_NoAnswer : mg "NoAnswer" = some (.ref a.na) := T.eNA.g
theorem Txt.k_NoAnswer : PySem.W.keepIn K (.ref a.na) = true := T.eNA.k
theorem Txt.b_NoAnswer : PySem.W.subIn K (.ref a.na) (.type "BaseException") = some true := T.eNA.b
theorem Txt.t_NoAnswer : PySem.W.typeIn K (.ref a.na) = some (.type "type") := T.eNA.t
end

/-! ### errors.py -/
/-- v is a tuple of the ints ws -/
def TI (K : PySem.W.Frag) (H : Hp) (v : V) (ws : List Int) : Prop := ∃ a, v = .ref a ∧ SqT K H a (ws.map V.int)
theorem TI.kp {K : PySem.W.Frag} {H H' : Hp} {m : List Addr} {v : V} {ws : List Int} (k : Kp m H H') (h : TI K H v ws) : TI K H' v ws := by
  obtain ⟨a, e, h⟩ := h
  exact ⟨a, e, k.sqT h⟩
def isW (n : Int) : Bool := decide (0 ≤ n ∧ n ≤ 65535)
def isPg (ws : List Int) : Bool := ws.all isW && decide (ws.length = 16)
def spIsInt : Sp := fun vs H Q _ => ∃ n : Int, vs = [.int n] ∧ Q (.bl true) H
def spWithin : Sp := fun vs H Q _ => ∃ v lo hi : Int, vs = [.int v, .int lo, .int hi] ∧ Q (.bl (decide (lo ≤ v ∧ v ≤ hi))) H
def spIsWord : Sp := fun vs H Q _ => ∃ n : Int, vs = [.int n] ∧ Q (.bl (isW n)) H
def spAreWords (K : PySem.W.Frag) : Sp := fun vs H Q _ => ∃ v ws, vs = [v] ∧ TI K H v ws ∧ ws.length ≤ 1000 ∧ ∀ H', Kp [] H H' → Q (.bl (ws.all isW)) H'
def spIsBlock (K : PySem.W.Frag) : Sp := fun vs H Q _ => ∃ v ws, vs = [v] ∧ TI K H v ws ∧ ws.length ≤ 1000 ∧ ∀ H', Kp [] H H' → Q (.bl (isPg ws)) H'
def spCheck (C : Addr) : Sp := fun vs H Q E => ∃ b : Bool, vs = [.bl b] ∧ (b = true → Q .non H) ∧ (b = false → E (.ref C) none H)
section
variable {P : Program} {w : World} {K : PySem.W.Frag} {mg : Str → Option Value} {base : Heap} {a : Ad} {f : Addr} {fd : FuncData}
theorem ok_is_integer (F : Fun K "is_integer" "is_integer" s_is_integer f fd) (T : Txt K mg a) : FnOk P w K mg base (L2.CX P w) 1 f fd ["value"] spIsInt := by
  refine okT F sc_is_integer (fun vs H Q E h => ?_) (fun cdv A outer s H vs Q E hr tk hp h => ?_)
  · obtain ⟨n, rfl, _⟩ := h
    rfl
  · obtain ⟨n, rfl, k⟩ := h
    refine ⟨_, (pss_one (ps_ret (pe_and (pe_callB (k_isi K (by rfl)) (by rfl) T.n_isinstance (by decide +kernel) (pa_cons (pv 0) (pa_cons (pe_bltn (v := .ty "int") (u := .type "int") (by rfl) T.n_int (by decide +kernel) rfl) pa_nil))) (pe_one (pe_not (pe_callB (k_isi K (by rfl)) (by rfl) T.n_isinstance (by decide +kernel) (pa_cons (pv 0) (pa_cons (pe_bltn (v := .ty "bool") (u := .type "bool") (by rfl) T.n_bool (by decide +kernel) rfl) pa_nil)))))))), ?_⟩
    refine ⟨_, rfl, .int n, .ty "int", .type "int", .type "int", true, rfl, .ty _, .base (.int n), kit_ty (by decide +kernel), true, rfl, ?_⟩
    refine iteT ⟨_, rfl, .int n, .ty "bool", .type "int", .type "bool", false, rfl, .ty _, .base (.int n), kit_ty (by decide +kernel), false, rfl, ?_⟩
    exact k
theorem ok_is_within (F : Fun K "is_within" "is_within" s_is_within f fd) (T : Txt K mg a) (G_is_integer : GFn P w K mg base 1 "is_integer" ["value"] spIsInt) : FnOk P w K mg base (L2.CX P w) 2 f fd ["value", "low", "high"] spWithin := by
  refine okT F sc_is_within (fun vs H Q E h => ?_) (fun cdv A outer s H vs Q E hr tk hp h => ?_)
  · obtain ⟨v, lo, hi, rfl, _⟩ := h
    rfl
  · obtain ⟨v, lo, hi, rfl, k⟩ := h
    refine ⟨_, (pss_one (ps_ret (pe_and (pe_cl G_is_integer (hr.mono (by decide)) tk (pa_cons (pv 0) pa_nil)) (pe_one (pe_chain op_le op_le (pv 1) (pv 0) (pv 2)))))), ?_⟩
    refine ⟨_, rfl, v, rfl, true, rfl, iteT ?_⟩
    refine ⟨_, rfl, _, rfl, lo, v, rfl, rfl, _, rfl, ?_⟩
    by_cases h1 : lo ≤ v
    · rw [if_pos (by simpa using h1)]
      refine ⟨_, rfl, v, hi, rfl, rfl, ?_⟩
      show Q (.bl (decide (v ≤ hi))) H
      have e : decide (v ≤ hi) = decide (lo ≤ v ∧ v ≤ hi) := by simp [h1]
      rw [e]
      exact k
    · rw [if_neg (by simpa using h1)]
      show Q (.bl false) H
      have e : false = decide (lo ≤ v ∧ v ≤ hi) := by simp [h1]
      rw [e]
      exact k
theorem ok_is_word (F : Fun K "is_word" "is_word" s_is_word f fd) (T : Txt K mg a) (G_is_within : GFn P w K mg base 2 "is_within" ["value", "low", "high"] spWithin) : FnOk P w K mg base (L2.CX P w) 3 f fd ["value"] spIsWord := by
  refine okT F sc_is_word (fun vs H Q E h => ?_) (fun cdv A outer s H vs Q E hr tk hp h => ?_)
  · obtain ⟨n, rfl, _⟩ := h
    rfl
  · obtain ⟨n, rfl, k⟩ := h
    refine ⟨_, (pss_one (ps_ret (pe_cl G_is_within (hr.mono (by decide)) tk (pa_cons (pv 0) (pa_cons pe_int (pa_cons (pe_gv T.c_MOST_WORD) pa_nil)))))), ?_⟩
    exact ⟨_, rfl, n, 0, 65535, rfl, k⟩
theorem ok_check (F : Fun K "check" "check" s_check f fd) (T : Txt K mg a) : FnOk P w K mg base (L2.CX P w) 1 f fd ["is_right"] (spCheck a.nr) := by
  refine okT F sc_check (fun vs H Q E h => ?_) (fun cdv A outer s H vs Q E hr tk hp h => ?_)
  · obtain ⟨b, rfl, _⟩ := h
    rfl
  · obtain ⟨b, rfl, k1, k2⟩ := h
    refine ⟨_, (pss_one (ps_if (pt_not (pt_val (pv 0))) (pss_one (ps_raise rfl tk (pmk_own PySem.F.excBase_ValueError T.x_NotRight T.g_NotRight T.k_NotRight (raises_own T.b_NotRight T.t_NotRight) (by rfl)))) pss_nil)), ?_⟩
    refine ⟨_, rfl, b, rfl, ?_⟩
    cases b with
    | true => exact iteF (k1 rfl)
    | false => exact iteT (k2 rfl)
theorem ok_check_there (F : Fun K "check_there" "check_there" s_check_there f fd) (T : Txt K mg a) : FnOk P w K mg base (L2.CX P w) 1 f fd ["is_there"] (spCheck a.nt) := by
  refine okT F sc_check_there (fun vs H Q E h => ?_) (fun cdv A outer s H vs Q E hr tk hp h => ?_)
  · obtain ⟨b, rfl, _⟩ := h
    rfl
  · obtain ⟨b, rfl, k1, k2⟩ := h
    refine ⟨_, (pss_one (ps_if (pt_not (pt_val (pv 0))) (pss_one (ps_raise rfl tk (pmk_own PySem.F.excBase_ValueError T.x_NotThere T.g_NotThere T.k_NotThere (raises_own T.b_NotThere T.t_NotThere) (by rfl)))) pss_nil)), ?_⟩
    refine ⟨_, rfl, b, rfl, ?_⟩
    cases b with
    | true => exact iteF (k1 rfl)
    | false => exact iteT (k2 rfl)
end
end K68
set_option Elab.async false
set_option linter.all false
set_option maxRecDepth 100000
set_option maxHeartbeats 4000000
/-! K68B: words, marks, sums. -/
namespace K68
open PySem L2 AB
def mark (ws : List Int) : Int := ws.foldl (fun m w => (m * 31 + w) % 65521) 1
def sumP (ps : List (List Int)) : List Int := ps.foldl (fun acc p => List.zipWith (fun i j => Builtin.bitXor i j) acc p) zeros
def spMarkBy (K : PySem.W.Frag) : Sp := fun vs H Q _ => ∃ v ws, vs = [v] ∧ TI K H v ws ∧ Q (.int (mark ws)) H
section
variable {P : Program} {w : World} {K : PySem.W.Frag} {mg : Str → Option Value} {base : Heap} {a : Ad} {f : Addr} {fd : FuncData}
theorem ok_are_words (F : Fun K "are_words" "are_words" s_are_words f fd) (T : Txt K mg a) (G_is_word : GFn P w K mg base 3 "is_word" ["value"] spIsWord) : FnOk P w K mg base (L2.CX P w) 4 f fd ["value"] (spAreWords K) := by
  refine okT F sc_are_words (fun vs H Q E h => ?_) (fun cdv A outer s H vs Q E hr tk hp h => ?_)
  · obtain ⟨v, ws, rfl, _⟩ := h
    rfl
  · obtain ⟨v, ws, rfl, ⟨b, rfl, hq⟩, hl, k⟩ := h
    refine ⟨_, (pss_one (ps_ret (pe_and (pe_callB (k_isi K (by rfl)) (by rfl) T.n_isinstance (by decide +kernel) (pa_cons (pv 0) (pa_cons (pe_bltn (v := .ty "tuple") (u := .type "tuple") (by rfl) T.n_tuple (by decide +kernel) rfl) pa_nil))) (pe_one (pe_callB (k_all K (by rfl) rfl) (by rfl) T.n_all (by decide +kernel) (pa_cons (pe_lc (own := [("one", 1)]) (g := gName 1) (tt := tYes) (by rfl) sc_are_words.nd (k_piT K (by rfl) (pi_tup (pv 0))) (blkOk_by (own := [("one", 1)]) (N := N_are_words) (sc := defScope s_are_words) (by decide +kernel)) (fun _ _ _ _ _ => pg_name (i := 1) sc_are_words.nd rfl (Or.inl rfl)) (fun _ _ _ _ _ => pts_nil) (fun _ _ _ _ _ => by exact (pe_cl G_is_word (hr.mono (by decide)) takes0 (pa_cons (pv 1) pa_nil)))) pa_nil)))))), ?_⟩
    refine ⟨_, rfl, .ref b, .ty "tuple", .type "tuple", .type "tuple", true, rfl, .ty _, TyX.sqT hq, kit_ty (by decide +kernel), true, rfl, iteT ?_⟩
    refine ⟨_, rfl, b, rfl, ⟨_, hq⟩, fun D hD => ?_⟩
    refine lc_pure walk_tup (by rw [List.length_map]; exact small1000 hl) hD (fun _ => true) (fun j v _ => v = .bl (isW (ws.getD j 0))) (fun j v H H' _ r => r) (fun H k => k.sqT hq) ?_ ?_
    · intro i x H1 H2 hi k1 y N F hN hF
      obtain ⟨rfl, hx⟩ := y
      rw [List.getElem?_map] at hx
      obtain ⟨n, hn, rfl⟩ := Option.map_eq_some_iff.mp hx
      refine ⟨rfl, _, rfl, n, rfl, ?_⟩
      exact hN _ _ rfl (Kp.refl _) (by simp [List.getD_eq_getElem?_getD, hn])
    · intro H1 acc k1 hacc p
      rw [filter_all, List.length_map] at p
      have e : acc = (ws.map isW).map V.bl := by rw [Paired.eqs p, map_range_getD (fun n => V.bl (isW n)), List.map_map]; rfl
      refine ⟨D, ws.map isW, rfl, SqL.of (by rw [hacc, e]), ?_⟩
      have e2 : (ws.map isW).all id = ws.all isW := by simp [List.all_map]
      rw [e2]
      exact k _ k1
theorem ok_is_block (F : Fun K "is_block" "is_block" s_is_block f fd) (T : Txt K mg a) (G_are_words : GFn P w K mg base 4 "are_words" ["value"] (spAreWords K)) : FnOk P w K mg base (L2.CX P w) 5 f fd ["value"] (spIsBlock K) := by
  refine okT F sc_is_block (fun vs H Q E h => ?_) (fun cdv A outer s H vs Q E hr tk hp h => ?_)
  · obtain ⟨v, ws, rfl, _⟩ := h
    rfl
  · obtain ⟨v, ws, rfl, ht, hl, k⟩ := h
    refine ⟨_, (pss_one (ps_ret (pe_and (pe_cl G_are_words (hr.mono (by decide)) tk (pa_cons (pv 0) pa_nil)) (pe_one (pe_cmpR op_eq (pe_callB (k_len K (by rfl)) (by rfl) T.n_len (by decide +kernel) (pa_cons (pv 0) pa_nil)) (pe_gv T.c_PAGE_tables) (nomark _)))))), ?_⟩
    refine ⟨_, rfl, v, ws, rfl, ht, hl, fun H1 k1 => ⟨_, rfl, ?_⟩⟩
    obtain ⟨b, rfl, hq⟩ := ht.kp k1
    cases e : ws.all isW with
    | false =>
      refine iteF ?_
      show Q (.bl false) H1
      have q := k H1 k1
      rw [isPg, e] at q
      exact q
    | true =>
      refine iteT ⟨_, rfl, b, _, rfl, .inr hq, rfl, ?_⟩
      show Q (.bl (decide ((V.int ((ws.map V.int).length : Nat)) = V.int 16))) H1
      have q := k H1 k1
      rw [isPg, e, Bool.true_and] at q
      have e2 : decide ((V.int ((ws.map V.int).length : Nat)) = V.int 16) = decide (ws.length = 16) := by
        simp only [List.length_map, V.int.injEq]
        exact decide_eq_decide.mpr (by omega)
      rw [e2]
      exact q
theorem ok_mark_by (F : Fun K "mark_by" "mark_by" s_mark_by f fd) (T : Txt K mg a) : FnOk P w K mg base (L2.CX P w) 1 f fd ["words"] (spMarkBy K) := by
  refine okT F sc_mark_by (fun vs H Q E h => ?_) (fun cdv A outer s H vs Q E hr tk hp h => ?_)
  · obtain ⟨v, ws, rfl, _⟩ := h
    rfl
  · obtain ⟨v, ws, rfl, ⟨b, rfl, hq⟩, k⟩ := h
    refine ⟨_, (pss_cons (ps_set (i := 1) sc_mark_by.nd rfl (by first | exact Or.inl rfl | exact Or.inr rfl) pe_int) (pss_cons (ps_for hp rfl (k_piT K (by rfl) (pi_tup (pv 0))) (pg_name (i := 2) sc_mark_by.nd rfl (by first | exact Or.inl rfl | exact Or.inr rfl)) (pss_one (ps_set (i := 1) sc_mark_by.nd rfl (by first | exact Or.inl rfl | exact Or.inr rfl) (pe_op op_mod (pe_op op_add (pe_op op_mul (pv 1) (pe_gv T.c_BASE)) (pv 2)) (pe_gv T.c_PRIME))))) (pss_one (ps_ret (pv 1))))), ?_⟩
    refine ⟨_, rfl, b, rfl, ⟨_, hq⟩, ?_⟩
    refine for_it walk_tup (fun i σ H' => H' = H ∧ ∃ y, σ = [some (.ref b), some (.int (mark (ws.take i))), y]) ⟨rfl, none, rfl⟩ (fun i σ H' _ p => by rw [p.1]; exact hq) ?_ ?_
    · rintro i x σ H1 H2 hi ⟨rfl, y0, rfl⟩ ⟨rfl, hx⟩
      rw [List.getElem?_map] at hx
      obtain ⟨n, hn, rfl⟩ := Option.map_eq_some_iff.mp hx
      refine ⟨_, rfl, _, _, rfl, rfl, .inr (by decide), _, rfl, _, _, rfl, rfl, _, _, rfl, rfl, (by show (0 : Int) < 65521; decide), ?_⟩
      refine ⟨rfl, some (.int n), ?_⟩
      have e : mark (ws.take (i + 1)) = (mark (ws.take i) * 31 + n) % 65521 := by
        rw [mark, List.take_add_one, hn, List.foldl_append]
        rfl
      rw [e]
      rfl
    · rintro σ H1 ⟨rfl, y0, rfl⟩
      refine ⟨_, rfl, ?_⟩
      rw [List.length_map, List.take_length]
      exact k
end
end K68
set_option Elab.async false
set_option linter.all false
set_option maxRecDepth 100000
set_option maxHeartbeats 4000000
/-! K68C: sums of pages; the disk. -/
namespace K68
open PySem L2 AB
/-- the values xs are pages of 16 words: ps -/
def Pgs (K : PySem.W.Frag) (H : Hp) (xs : List V) (ps : List (List Int)) : Prop := Paired (fun v ws => TI K H v ws ∧ ws.length = 16) xs ps
theorem Pgs.kp {K : PySem.W.Frag} {H H' : Hp} {m : List Addr} {xs : List V} {ps : List (List Int)} (k : Kp m H H') (h : Pgs K H xs ps) : Pgs K H' xs ps := AB.Paired.imp (fun _ _ r => ⟨r.1.kp k, r.2⟩) h
theorem pair_at {α β : Type} {R : α → β → Prop} {i : Nat} {x : α} : ∀ {xs : List α} {ys : List β} {i : Nat}, Paired R xs ys → xs[i]? = some x → ∃ y, ys[i]? = some y ∧ R x y
  | _, _, _, .nil, h => by simp at h
  | _, _, 0, .cons r _, h => by
    simp at h
    subst h
    exact ⟨_, rfl, r⟩
  | _, _, i + 1, .cons _ t, h => by
    simp at h
    obtain ⟨y, hy, q⟩ := pair_at (i := i) t h
    exact ⟨y, by simpa using hy, q⟩
theorem sumP_take {ps : List (List Int)} {i : Nat} {p : List Int} (h : ps[i]? = some p) : sumP (ps.take (i + 1)) = List.zipWith (fun i j => Builtin.bitXor i j) (sumP (ps.take i)) p := by
  rw [sumP, List.take_add_one, h, List.foldl_append]
  rfl
theorem sumP_len {ps : List (List Int)} (h : ∀ p ∈ ps, p.length = 16) : (sumP ps).length = 16 := by
  have go : ∀ (ps : List (List Int)) (acc : List Int), acc.length = 16 → (∀ p ∈ ps, p.length = 16) → (ps.foldl (fun acc p => List.zipWith (fun i j => Builtin.bitXor i j) acc p) acc).length = 16 := by
    intro ps
    induction ps with
    | nil => intro acc h _; exact h
    | cons p ps ih =>
      intro acc h1 h2
      refine ih _ ?_ fun q hq => h2 q (List.mem_cons_of_mem _ hq)
      have := h2 p List.mem_cons_self
      simp [h1, this]
  exact go ps zeros rfl h
theorem pair_len {α β : Type} {R : α → β → Prop} {xs : List α} {ys : List β} (h : Paired R xs ys) : xs.length = ys.length := Paired.length h
theorem Pgs.lens {K : PySem.W.Frag} {H : Hp} : ∀ {xs : List V} {ps : List (List Int)}, Pgs K H xs ps → ∀ p ∈ ps, p.length = 16
  | _, _, .nil => fun p h => nomatch h
  | _, _, .cons r t => fun p h => by
    rcases List.mem_cons.mp h with e | e
    · rw [e]; exact r.2
    · exact Pgs.lens t p e
def spSumBy (K : PySem.W.Frag) : Sp := fun vs H Q _ => ∃ l xs ps, vs = [.ref l] ∧ (SqL K H l xs ∨ SqT K H l xs) ∧ Pgs K H xs ps ∧ ∀ H' v, Kp [] H H' → TI K H' v (sumP ps) → Q v H'
section
variable {P : Program} {w : World} {K : PySem.W.Frag} {mg : Str → Option Value} {base : Heap} {a : Ad} {f : Addr} {fd : FuncData}
theorem ok_sum_by (F : Fun K "sum_by" "sum_by" s_sum_by f fd) (T : Txt K mg a) : FnOk P w K mg base (L2.CX P w) 1 f fd ["pages"] (spSumBy K) := by
  refine okT F sc_sum_by (fun vs H Q E h => ?_) (fun cdv A outer s H vs Q E hr tk hp h => ?_)
  · obtain ⟨l, xs, ps, rfl, _⟩ := h
    rfl
  · obtain ⟨l, xs, ps, rfl, hx, hpg, k⟩ := h
    have turn : ∀ (i : Nat) (x : V) (H1 : Hp) (p : Addr), xs[i]? = some x → Kp [] H H1 → H1 p = some (.lst ((sumP (ps.take i)).map V.int)) → ∃ b ws, x = .ref b ∧ ps[i]? = some ws ∧ SqT K H1 b (ws.map V.int) ∧ ws.length = 16 ∧ (sumP (ps.take i)).length = 16 := by
      intro i x H1 p hi k1 h1
      obtain ⟨ws, hw, ⟨b, rfl, hb⟩, hl⟩ := pair_at (i := 0) hpg hi
      exact ⟨b, ws, rfl, hw, k1.sqT hb, hl, sumP_len fun q hq => hpg.lens q (List.mem_of_mem_take hq)⟩
    have fin : ∀ (H1 : Hp) (p : Addr), Kp [] H H1 → H1 p = some (.lst ((sumP (ps.take xs.length)).map V.int)) → ∀ v H2, Kp [] H1 H2 → TI K H2 v (sumP ps) → Q v H2 := fun H1 p k1 _ v H2 k2 t => k _ _ (k1.trans0 k2) t
    rcases hx with hx | hx
    · refine ⟨_, (pss_cons (ps_set (i := 1) sc_sum_by.nd rfl (by first | exact Or.inl rfl | exact Or.inr rfl) (pe_callTy (k_listOf K (by rfl)) (by rfl) T.n_list (by decide +kernel) (pa_cons (pe_gv T.c_ZEROS_guards) pa_nil))) (pss_cons (ps_for hp rfl (k_piL K (by rfl) (pi_list (pv 0))) (pg_name (i := 2) sc_sum_by.nd rfl (by first | exact Or.inl rfl | exact Or.inr rfl)) (pss_one (ps_setLc (i := 1) (own := [("one", 3), ("other", 4)]) (g := gTup K 2 (gCons (gName 3) (gCons (gName 4) gNil))) (tt := tYes) (by rfl) sc_sum_by.nd rfl rfl (sw_true rfl rfl rfl (by decide +kernel)) (k_piZipM K (by rfl) (pi_zipM (by rfl) T.n_zip (pa_cons (pv 1) (pa_cons (pv 2) pa_nil)))) (blkOk_by (own := [("one", 3), ("other", 4)]) (N := N_sum_by) (sc := defScope s_sum_by) (by decide +kernel)) (fun _ _ _ _ _ => pg_tup rfl (pgs_cons (pg_name (i := 3) sc_sum_by.nd rfl (Or.inl rfl)) (pgs_cons (pg_name (i := 4) sc_sum_by.nd rfl (Or.inl rfl)) pgs_nil))) (fun _ _ _ _ _ => pts_nil) (fun _ _ _ _ _ => by exact (pe_op op_xor (pv 3) (pv 4)))))) (pss_one (ps_ret (pe_callTy (k_tupOf K (by rfl)) (by rfl) T.n_tuple (by decide +kernel) (pa_cons (pv 1) pa_nil)))))), ?_⟩
      refine ⟨a.zg, _, rfl, .inr (T.z_guards _), fun p0 hp0 => ?_⟩
      refine ⟨_, rfl, l, rfl, ⟨_, (Kp.new hp0).sqL0 hx⟩, ?_⟩
      refine for_it walk_list (fun i σ H' => ∃ p y, σ = [some (.ref l), some (.ref p), y, none, none] ∧ Kp [] H H' ∧ H' p = some (.lst ((sumP (ps.take i)).map V.int))) ⟨p0, none, rfl, Kp.new hp0, upd_same⟩ (fun i σ H' _ ⟨p, y, _, k1, _⟩ => k1.sqL0 hx) ?_ ?_
      · rintro i x σ H1 H2 hi ⟨p, y, rfl, k1, hp1⟩ ⟨rfl, hxi⟩
        obtain ⟨b, ws, rfl, hw, hb, hl, hl2⟩ := turn i x _ p hxi k1 hp1
        refine ⟨_, rfl, _, rfl, p, b, _, _, rfl, SqL.of hp1, hb, fun D hD => ?_⟩
        refine lc_pure (walk_zipM (by simp [hl, hl2])) (by simp [hl2]; decide) hD (fun _ => true) (fun j v _ => v = .int (Builtin.bitXor ((sumP (ps.take i)).getD j 0) (ws.getD j 0))) (fun j v H H' _ r => r) (fun H k => ⟨k.sqL0 (SqL.of hp1), k.sqT hb⟩) ?_ ?_
        · rintro j v H3 H4 hj k3 ⟨T', x1, x2, rfl, hT, rfl, h1, h2⟩ N F' hN hF
          obtain ⟨n1, e1, rfl⟩ := map_at (g := V.int) h1
          obtain ⟨n2, e2, rfl⟩ := map_at (g := V.int) h2
          refine ⟨T', _, rfl, SqT.of upd_same, rfl, _, _, rfl, _, _, rfl, rfl, rfl, _, rfl, _, rfl, n1, n2, rfl, rfl, ?_⟩
          exact hN _ _ rfl (Kp.new hT) (by simp [List.getD_eq_getElem?_getD, e1, e2])
        · intro H3 acc k3 hacc pr
          rw [filter_all, List.length_map] at pr
          have e := Paired.eqs pr
          rw [map_range_zip (fun i j => Builtin.bitXor i j) V.int 0 0 _ ws (by omega), ← sumP_take hw] at e
          exact ⟨D, _, rfl, k1.trans0 k3, by rw [hacc, e]⟩
      · rintro σ H1 ⟨p, y, rfl, k1, hp1⟩
        rw [pair_len hpg, List.take_length] at hp1
        refine ⟨_, rfl, p, _, rfl, .inl ⟨SqL.of hp1, fun q hq => ?_⟩⟩
        exact k _ _ (k1.trans0 (Kp.new hq)) ⟨q, rfl, SqT.of upd_same⟩
    · refine ⟨_, (pss_cons (ps_set (i := 1) sc_sum_by.nd rfl (by first | exact Or.inl rfl | exact Or.inr rfl) (pe_callTy (k_listOf K (by rfl)) (by rfl) T.n_list (by decide +kernel) (pa_cons (pe_gv T.c_ZEROS_guards) pa_nil))) (pss_cons (ps_for hp rfl (k_piT K (by rfl) (pi_tup (pv 0))) (pg_name (i := 2) sc_sum_by.nd rfl (by first | exact Or.inl rfl | exact Or.inr rfl)) (pss_one (ps_setLc (i := 1) (own := [("one", 3), ("other", 4)]) (g := gTup K 2 (gCons (gName 3) (gCons (gName 4) gNil))) (tt := tYes) (by rfl) sc_sum_by.nd rfl rfl (sw_true rfl rfl rfl (by decide +kernel)) (k_piZipM K (by rfl) (pi_zipM (by rfl) T.n_zip (pa_cons (pv 1) (pa_cons (pv 2) pa_nil)))) (blkOk_by (own := [("one", 3), ("other", 4)]) (N := N_sum_by) (sc := defScope s_sum_by) (by decide +kernel)) (fun _ _ _ _ _ => pg_tup rfl (pgs_cons (pg_name (i := 3) sc_sum_by.nd rfl (Or.inl rfl)) (pgs_cons (pg_name (i := 4) sc_sum_by.nd rfl (Or.inl rfl)) pgs_nil))) (fun _ _ _ _ _ => pts_nil) (fun _ _ _ _ _ => by exact (pe_op op_xor (pv 3) (pv 4)))))) (pss_one (ps_ret (pe_callTy (k_tupOf K (by rfl)) (by rfl) T.n_tuple (by decide +kernel) (pa_cons (pv 1) pa_nil)))))), ?_⟩
      refine ⟨a.zg, _, rfl, .inr (T.z_guards _), fun p0 hp0 => ?_⟩
      refine ⟨_, rfl, l, rfl, ⟨_, (Kp.new hp0).sqT hx⟩, ?_⟩
      refine for_it walk_tup (fun i σ H' => ∃ p y, σ = [some (.ref l), some (.ref p), y, none, none] ∧ Kp [] H H' ∧ H' p = some (.lst ((sumP (ps.take i)).map V.int))) ⟨p0, none, rfl, Kp.new hp0, upd_same⟩ (fun i σ H' _ ⟨p, y, _, k1, _⟩ => k1.sqT hx) ?_ ?_
      · rintro i x σ H1 H2 hi ⟨p, y, rfl, k1, hp1⟩ ⟨rfl, hxi⟩
        obtain ⟨b, ws, rfl, hw, hb, hl, hl2⟩ := turn i x _ p hxi k1 hp1
        refine ⟨_, rfl, _, rfl, p, b, _, _, rfl, SqL.of hp1, hb, fun D hD => ?_⟩
        refine lc_pure (walk_zipM (by simp [hl, hl2])) (by simp [hl2]; decide) hD (fun _ => true) (fun j v _ => v = .int (Builtin.bitXor ((sumP (ps.take i)).getD j 0) (ws.getD j 0))) (fun j v H H' _ r => r) (fun H k => ⟨k.sqL0 (SqL.of hp1), k.sqT hb⟩) ?_ ?_
        · rintro j v H3 H4 hj k3 ⟨T', x1, x2, rfl, hT, rfl, h1, h2⟩ N F' hN hF
          obtain ⟨n1, e1, rfl⟩ := map_at (g := V.int) h1
          obtain ⟨n2, e2, rfl⟩ := map_at (g := V.int) h2
          refine ⟨T', _, rfl, SqT.of upd_same, rfl, _, _, rfl, _, _, rfl, rfl, rfl, _, rfl, _, rfl, n1, n2, rfl, rfl, ?_⟩
          exact hN _ _ rfl (Kp.new hT) (by simp [List.getD_eq_getElem?_getD, e1, e2])
        · intro H3 acc k3 hacc pr
          rw [filter_all, List.length_map] at pr
          have e := Paired.eqs pr
          rw [map_range_zip (fun i j => Builtin.bitXor i j) V.int 0 0 _ ws (by omega), ← sumP_take hw] at e
          exact ⟨D, _, rfl, k1.trans0 k3, by rw [hacc, e]⟩
      · rintro σ H1 ⟨p, y, rfl, k1, hp1⟩
        rw [pair_len hpg, List.take_length] at hp1
        refine ⟨_, rfl, p, _, rfl, .inl ⟨SqL.of hp1, fun q hq => ?_⟩⟩
        exact k _ _ (k1.trans0 (Kp.new hq)) ⟨q, rfl, SqT.of upd_same⟩
end
end K68
set_option Elab.async false
set_option linter.all false
set_option maxRecDepth 100000
set_option maxHeartbeats 4000000
/-! K68D: the disk. -/
namespace K68
open PySem L2 AB
def diskF (many : Int) (f w n : Addr) : List (Str × V) := [("blocks_many", .int many), ("fixed_blocks", .ref f), ("waits", .ref w), ("newest", .ref n)]
theorem diskF_put {many : Int} {f w n : Addr} : putF "newest" (.ref n) (putF "waits" (.ref w) (putF "fixed_blocks" (.ref f) (putF "blocks_many" (.int many) []))) = diskF many f w n := by kernel_rfl
theorem diskF_b {many : Int} {f w n : Addr} : (diskF many f w n).lookup ("blocks_many" : Str) = some (.int many) := by kernel_rfl
theorem diskF_f {many : Int} {f w n : Addr} : (diskF many f w n).lookup ("fixed_blocks" : Str) = some (.ref f) := by kernel_rfl
theorem diskF_w {many : Int} {f w n : Addr} : (diskF many f w n).lookup ("waits" : Str) = some (.ref w) := by kernel_rfl
theorem diskF_n {many : Int} {f w n : Addr} : (diskF many f w n).lookup ("newest" : Str) = some (.ref n) := by kernel_rfl
theorem diskF_no {many : Int} {f w n : Addr} {m : Str} (h : m ∉ (["blocks_many", "fixed_blocks", "waits", "newest"] : List Str)) : (diskF many f w n).lookup m = none := by
  simp only [List.mem_cons, List.not_mem_nil, or_false, not_or] at h
  obtain ⟨h1, h2, h3, h4⟩ := h
  have e : ∀ x : Str, m ≠ x → (m == x) = false := fun x q => by simpa using q
  simp [diskF, List.lookup, e _ h1, e _ h2, e _ h3, e _ h4]
theorem lt1000 {n : Nat} (h : Nat.ble (n + 1) 1000 = true) : n < 1000 := Nat.le_of_ble_eq_true h
/-- the disk at p: D tells its last writes; at most m writes so far -/
structure DiskAt (K : PySem.W.Frag) (C : Addr) (H : Hp) (p f w n : Addr) (many : Int) (D : Int → List Int) (m : Nat) : Prop where
  ob : ∃ dx, H p = some (.ins C dx (diskF many f w n))
  fx : H f = some (.dK [])
  wt : ∃ ws, H w = some (.lst ws) ∧ ws.length ≤ m
  nw : ∃ kvs, H n = some (.dK kvs) ∧ kvs.length ≤ m ∧ ∀ b : Int, (valV kvs (Sum.inl b) = none ∧ D b = zeros) ∨ ∃ v, valV kvs (Sum.inl b) = some v ∧ TI K H v (D b)
  pg : ∀ b, isPg (D b) = true
  ne : f ≠ n
theorem DiskAt.kp {K : PySem.W.Frag} {C : Addr} {H H' : Hp} {p f w n : Addr} {many : Int} {D : Int → List Int} {m : Nat} {ms : List Addr} (d : DiskAt K C H p f w n many D m) (k : Kp ms H H') (hp : p ∉ ms) (hf : f ∉ ms) (hw : w ∉ ms) (hn : n ∉ ms) : DiskAt K C H' p f w n many D m := by
  obtain ⟨⟨dx, h1⟩, h2, ⟨ws, h3, h3'⟩, ⟨kvs, h4, h4', h4''⟩, h5, h6⟩ := d
  refine ⟨⟨dx, k.st _ _ hp h1⟩, k.st _ _ hf h2, ⟨ws, k.st _ _ hw h3, h3'⟩, ⟨kvs, k.st _ _ hn h4, h4', fun b => ?_⟩, h5, h6⟩
  rcases h4'' b with q | ⟨v, q1, q2⟩
  · exact .inl q
  · exact .inr ⟨v, q1, q2.kp k⟩
theorem DiskAt.kp0 {K : PySem.W.Frag} {C : Addr} {H H' : Hp} {p f w n : Addr} {many : Int} {D : Int → List Int} {m : Nat} (d : DiskAt K C H p f w n many D m) (k : Kp [] H H') : DiskAt K C H' p f w n many D m :=
  d.kp k (by simp) (by simp) (by simp) (by simp)
def updD (D : Int → List Int) (b : Int) (ws : List Int) : Int → List Int := fun x => if x = b then ws else D x
def spDiskInit (K : PySem.W.Frag) (C : Addr) : Sp := fun vs H Q _ => ∃ (p dx : Addr) (many : Int), vs = [.ref p, .int many] ∧ H p = some (.ins C dx []) ∧ 1 ≤ many ∧ many ≤ 4096 ∧
  ∀ H' f w n, Kp [p] H H' → DiskAt K C H' p f w n many (fun _ => zeros) 0 → H f = none → H w = none → H n = none → Q .non H'
def spNeed (a : Ad) : Sp := fun vs H Q E => ∃ (p : Addr) (dx f w n : Addr) (many b : Int), vs = [.ref p, .int b] ∧ H p = some (.ins a.cd dx (diskF many f w n)) ∧ 0 ≤ b ∧ b < many ∧ Q .non H
def spDiskRead (K : PySem.W.Frag) (a : Ad) : Sp := fun vs H Q _ => ∃ (p f w n : Addr) (many b : Int) (D : Int → List Int) (m : Nat), vs = [.ref p, .int b] ∧ DiskAt K a.cd H p f w n many D m ∧ 0 ≤ b ∧ b < many ∧ ∀ v, TI K H v (D b) → Q v H
def spDiskWrite (K : PySem.W.Frag) (a : Ad) : Sp := fun vs H Q _ => ∃ (p f w n : Addr) (many b : Int) (D : Int → List Int) (m : Nat) (v : V) (ws : List Int), vs = [.ref p, .int b, v] ∧ DiskAt K a.cd H p f w n many D m ∧ 0 ≤ b ∧ b < many ∧ m < 100000 ∧
  TI K H v ws ∧ isPg ws = true ∧ ∀ H', Kp [w, n] H H' → DiskAt K a.cd H' p f w n many (updD D b ws) (m + 1) → Q .non H'
section
variable {P : Program} {w : World} {K : PySem.W.Frag} {mg : Str → Option Value} {base : Heap} {a : Ad} {f : Addr} {fd : FuncData}
theorem ok_disk_init (F : Fun K "__init__" "Disk.__init__" s_Disk_init f fd) (T : Txt K mg a) (G_check : GFn P w K mg base 1 "check" ["is_right"] (spCheck a.nr)) (G_is_within : GFn P w K mg base 2 "is_within" ["value", "low", "high"] spWithin) :
    FnOk P w K mg base (L2.CX P w) 3 f fd ["self", "many"] (spDiskInit K a.cd) := by
  refine okT F sc_Disk_init (fun vs H Q E h => ?_) (fun cdv A outer s H vs Q E hr tk hp h => ?_)
  · obtain ⟨p, dx, many, rfl, _⟩ := h
    rfl
  · obtain ⟨p, dx, many, rfl, hP, h1, h2, k⟩ := h
    refine ⟨_, (pss_cons (ps_expr (pe_cl G_check (hr.mono (by decide)) tk (pa_cons (pe_cl G_is_within (hr.mono (by decide)) tk (pa_cons (pv 1) (pa_cons pe_int (pa_cons (pe_gv T.c_MOST_BLOCKS) pa_nil)))) pa_nil))) (pss_one (ps_asg (pe_tup (pa_cons (pv 1) (pa_cons pe_dnewK (pa_cons (pe_lst pa_nil) (pa_cons pe_dnewK pa_nil))))) (pg_tup rfl (pgs_cons (k_gfld K (by rfl) (pg_fld (pv 0))) (pgs_cons (k_gfld K (by rfl) (pg_fld (pv 0))) (pgs_cons (k_gfld K (by rfl) (pg_fld (pv 0))) (pgs_cons (k_gfld K (by rfl) (pg_fld (pv 0))) pgs_nil)))))))), ?_⟩
    refine ⟨_, rfl, many, 1, 4096, rfl, _, rfl, fun _ => ?_, fun e => ?_⟩
    · refine ⟨_, rfl, ?_⟩
      intro d1 hd1
      refine ⟨Nat.zero_le _, fun l hl => ?_⟩
      intro d2 hd2
      refine ⟨(by show 4 ≤ sizeLine; decide), fun t ht => ?_⟩
      have k1 := Kp.new (o := .dK []) hd1
      have k2 := Kp.new (o := .lst []) hl
      have k3 := Kp.new (o := .dK []) hd2
      have k4 := Kp.new (o := .tup [V.int many, .ref d1, .ref l, .ref d2]) ht
      have kk := ((k1.trans0 k2).trans0 k3).trans0 k4
      have e1 := (k2.trans0 k3 |>.trans0 k4).same _ _ upd_same
      have e2 := (k3.trans0 k4).same _ _ upd_same
      have e3 := k4.same _ _ upd_same
      have eP := kk.same _ _ hP
      have hc := T.cD
      have hn : ∀ {x : Str}, x ∈ (["blocks_many", "fixed_blocks", "waits", "newest"] : List Str) → NoAttr K a.cd x := fun h => T.aD _ h
      refine ⟨t, _, rfl, SqT.of upd_same, rfl, _, _, rfl, _, rfl, p, a.cd, dx, _, rfl, eP, hc, hn (by simp), (by show 0 < 1000; decide), ?_⟩
      refine ⟨_, _, rfl, _, rfl, p, a.cd, dx, _, rfl, upd_same, hc, hn (by simp), (lt1000 (by kernel_rfl)), ?_⟩
      refine ⟨_, _, rfl, _, rfl, p, a.cd, dx, _, rfl, upd_same, hc, hn (by simp), (lt1000 (by kernel_rfl)), ?_⟩
      refine ⟨_, _, rfl, _, rfl, p, a.cd, dx, _, rfl, upd_same, hc, hn (by simp), (lt1000 (by kernel_rfl)), rfl, ?_⟩
      rw [upd_upd, upd_upd, upd_upd, diskF_put]
      have up : Kp [p] H (upd _ p (.ins a.cd dx (diskF many d1 l d2))) := (kk.wide (fun b h => nomatch h) (fun b hb => by rw [List.mem_singleton.mp hb, hP]; exact True.intro)).trans1 (Kp.set (by rw [eP]; exact True.intro))
      have q1 : d1 ≠ p := (ne_of_none hP hd1).symm
      have q2 : l ≠ p := ne_of e2 eP (by intro z; cases z)
      have q3 : d2 ≠ p := ne_of e3 eP (by intro z; cases z)
      refine k _ d1 l d2 up ⟨⟨dx, upd_same⟩, (by rw [upd_ne q1]; exact e1), ⟨[], (by rw [upd_ne q2]; exact e2), Nat.le_refl _⟩, ⟨[], (by rw [upd_ne q3]; exact e3), Nat.le_refl _, fun b => .inl ⟨rfl, rfl⟩⟩, fun b => rfl, ne_of_none (k2.same _ _ upd_same) hd2⟩ hd1 (k1.fr _ hl) ((k1.trans0 k2).fr _ hd2)
    · exact absurd e (by simp [h1, h2])
theorem ok_need_block (F : Fun K "need_block" "Disk.need_block" s_Disk_need_block f fd) (T : Txt K mg a) (G_check_there : GFn P w K mg base 1 "check_there" ["is_there"] (spCheck a.nt)) (G_is_within : GFn P w K mg base 2 "is_within" ["value", "low", "high"] spWithin) :
    FnOk P w K mg base (L2.CX P w) 3 f fd ["self", "block"] (spNeed a) := by
  refine okT F sc_Disk_need_block (fun vs H Q E h => ?_) (fun cdv A outer s H vs Q E hr tk hp h => ?_)
  · obtain ⟨p, dx, f, w, n, many, b, rfl, _⟩ := h
    rfl
  · obtain ⟨p, dx, f, w, n, many, b, rfl, hP, h1, h2, k⟩ := h
    refine ⟨_, (pss_one (ps_expr (pe_cl G_check_there (hr.mono (by decide)) tk (pa_cons (pe_cl G_is_within (hr.mono (by decide)) tk (pa_cons (pv 1) (pa_cons pe_int (pa_cons (pe_op op_sub (k_fld K (by rfl) (pe_fld (pv 0) (by rfl))) pe_int) pa_nil)))) pa_nil)))), ?_⟩
    refine ⟨_, rfl, _, rfl, p, a.cd, dx, _, _, rfl, hP, T.cD, T.aD _ (by simp), diskF_b, _, _, rfl, rfl, b, 0, many - 1, rfl, _, rfl, fun _ => k, fun e => ?_⟩
    exact absurd e (by simp; omega)
theorem ok_disk_read (F : Fun K "read" "Disk.read" s_Disk_read f fd) (T : Txt K mg a) (G_Disk_need_block : GMt P w K mg base 3 a.cd "need_block" ["self", "block"] (spNeed a)) :
    FnOk P w K mg base (L2.CX P w) 4 f fd ["self", "block"] (spDiskRead K a) := by
  refine okT F sc_Disk_read (fun vs H Q E h => ?_) (fun cdv A outer s H vs Q E hr tk hp h => ?_)
  · obtain ⟨p, f, w, n, many, b, D, m, rfl, _⟩ := h
    rfl
  · obtain ⟨p, f, w, n, many, b, D, m, rfl, d, h1, h2, k⟩ := h
    obtain ⟨⟨dx, hP⟩, hF, _, ⟨kvs, hN, _, hD⟩, _, _⟩ := d
    refine ⟨_, (pss_cons (ps_expr (pe_mt (pv 0) G_Disk_need_block (hr.mono (by decide)) tk (pa_cons (pv 1) pa_nil))) (pss_one (ps_ret (pe_ifExp (pt_cmp (pc_din (hu_of hr) (pv 1) (k_fld K (by rfl) (pe_fld (pv 0) (by rfl)))) rfl) (pe_dget (hu_of hr) (k_fld K (by rfl) (pe_fld (pv 0) (by rfl))) (pv 1) (fun _ _ => rfl)) (pe_dget2 (hu_of hr) (k_fld K (by rfl) (pe_fld (pv 0) (by rfl))) (pv 1) (pe_gv T.c_ZEROS_disk) ⟨rfl, rfl, rfl, rfl⟩))))), ?_⟩
    refine ⟨_, rfl, p, dx, _, rfl, hP, diskF_no (by decide +kernel), _, rfl, p, dx, f, w, n, many, b, rfl, hP, h1, h2, ?_⟩
    refine ⟨_, rfl, _, rfl, p, a.cd, dx, _, _, rfl, hP, T.cD, T.aD _ (by simp), diskF_n, n, _, rfl, DGet.k (k := Sum.inl b) hN, _, rfl, ?_⟩
    rcases hD b with ⟨e, e2⟩ | ⟨v, e, tv⟩
    · rw [e]
      refine iteF ?_
      refine ⟨_, rfl, p, a.cd, dx, _, _, rfl, hP, T.cD, T.aD _ (by simp), diskF_f, f, rfl, .inl ⟨_, .inl hF⟩, _, rfl, _, DGet.k (k := Sum.inl b) hF, ?_⟩
      exact k _ ⟨a.zd, rfl, by rw [e2]; exact T.z_disk H⟩
    · rw [e]
      refine iteT ?_
      refine ⟨_, rfl, p, a.cd, dx, _, _, rfl, hP, T.cD, T.aD _ (by simp), diskF_n, _, rfl, n, _, rfl, e ▸ DGet.k (k := Sum.inl b) hN, ?_⟩
      exact k v tv
theorem isPg_len {ws : List Int} (h : isPg ws = true) : ws.length = 16 := by
  rw [isPg, Bool.and_eq_true, decide_eq_true_eq] at h
  exact h.2
theorem ok_disk_write (F : Fun K "write" "Disk.write" s_Disk_write f fd) (T : Txt K mg a) (G_Disk_need_block : GMt P w K mg base 3 a.cd "need_block" ["self", "block"] (spNeed a)) (G_check : GFn P w K mg base 1 "check" ["is_right"] (spCheck a.nr))
    (G_is_block : GFn P w K mg base 5 "is_block" ["value"] (spIsBlock K)) : FnOk P w K mg base (L2.CX P w) 6 f fd ["self", "block", "words"] (spDiskWrite K a) := by
  refine okT F sc_Disk_write (fun vs H Q E h => ?_) (fun cdv A outer s H vs Q E hr tk hp h => ?_)
  · obtain ⟨p, f, w, n, many, b, D, m, v, ws, rfl, _⟩ := h
    rfl
  · obtain ⟨p, f, w, n, many, b, D, m, v, ws, rfl, d, h1, h2, hm, tv, hpg, k⟩ := h
    refine ⟨_, (pss_cons (ps_expr (pe_mt (pv 0) G_Disk_need_block (hr.mono (by decide)) tk (pa_cons (pv 1) pa_nil))) (pss_cons (ps_expr (pe_cl G_check (hr.mono (by decide)) tk (pa_cons (pe_cl G_is_block (hr.mono (by decide)) tk (pa_cons (pv 2) pa_nil)) pa_nil))) (pss_cons (ps_expr (k_bm K (by rfl) (pe_bm PySem.F.plainAttrs_list PySem.F.slot_list_append PySem.F.type_list_append mt_append (k_fld K (by rfl) (pe_fld (pv 0) (by rfl)))  (pa_cons (pe_tup (pa_cons (pe_gv T.c_WRITE) (pa_cons (pv 1) (pa_cons (pv 2) pa_nil)))) pa_nil)))) (pss_one (ps_dput (hu_of hr) (k_fld K (by rfl) (pe_fld (pv 0) (by rfl))) (pv 1) (pv 2) rfl))))), ?_⟩
    obtain ⟨dx, hP⟩ := d.ob
    refine ⟨_, rfl, p, dx, _, rfl, hP, diskF_no (by decide +kernel), _, rfl, p, dx, f, w, n, many, b, rfl, hP, h1, h2, ?_⟩
    refine ⟨_, rfl, v, ws, rfl, tv, by rw [isPg_len hpg]; decide, fun H1 k1 => ⟨_, rfl, fun _ => ?_, fun e => absurd e (by rw [hpg]; exact Bool.noConfusion)⟩⟩
    obtain ⟨⟨dx', hP1⟩, hF1, ⟨us, hW1, hl1⟩, ⟨kvs, hN1, hl2, hD⟩, hpgs, nfn⟩ := d.kp0 k1
    refine ⟨_, rfl, p, a.cd, dx', _, _, rfl, hP1, T.cD, T.aD _ (by simp), diskF_w, .inl ⟨rfl, _, SqL.of hW1⟩, _, rfl, _, rfl, (by show 3 ≤ sizeLine; decide), fun t ht => ?_⟩
    have k2 := Kp.new (o := .tup [.str "write", .int b, v]) ht
    have hW2 := k2.same _ _ hW1
    refine ⟨w, us, _, rfl, rfl, hW2, (by show us.length < sizeLine; exact Nat.lt_of_le_of_lt (Nat.le_trans hl1 (Nat.le_of_lt hm)) (by decide)), ?_⟩
    have k3 := Kp.set (o := .lst (us ++ [.ref t])) (show Mut (upd H1 t (.tup [.str "write", .int b, v]) w) by rw [hW2]; exact True.intro)
    have nwn : n ≠ w := ne_of hN1 hW1 (by intro z; cases z)
    have nwp : p ≠ w := ne_of hP1 hW1 (by intro z; cases z)
    have nnp : p ≠ n := ne_of hP1 hN1 (by intro z; cases z)
    have hP3 := k3.st p _ (by simpa using nwp) (k2.same _ _ hP1)
    have hN3 := k3.st n _ (by simpa using nwn) (k2.same _ _ hN1)
    refine ⟨_, rfl, _, rfl, p, a.cd, dx', _, _, rfl, hP3, T.cD, T.aD _ (by simp), diskF_n, _, rfl, n, _, rfl, DPut.k (k := Sum.inl b) hN3 (Nat.lt_of_le_of_lt (Nat.le_trans hl2 (Nat.le_of_lt hm)) (by decide)), ?_⟩
    have k4 := Kp.set (p := n) (o := .dK (putK kvs (Sum.inl b) v)) (show Mut (upd (upd H1 t (.tup [.str "write", .int b, v])) w (.lst (us ++ [.ref t])) n) by rw [hN3]; exact True.intro)
    have mw : ∀ x, x ∈ [w, n] → Mut (H1 x) := fun x hx => by
      rcases List.mem_cons.mp hx with e | e
      · rw [e, hW1]; exact True.intro
      · rw [List.mem_singleton.mp e, hN1]; exact True.intro
    have kk : Kp [w, n] H1 _ := ((k2.wide (fun b h => nomatch h) mw).trans k3 fun x hx => .inl (by simp [List.mem_singleton.mp hx])).trans k4 fun x hx => .inl (by simp [List.mem_singleton.mp hx])
    have mw0 : ∀ x, x ∈ [w, n] → Mut (H x) := fun x hx => by
      obtain ⟨_, _, ⟨us0, hW0, _⟩, ⟨kvs0, hN0, _⟩, _, _⟩ := d
      rcases List.mem_cons.mp hx with e | e
      · rw [e, hW0]; exact True.intro
      · rw [List.mem_singleton.mp e, hN0]; exact True.intro
    have k0 := (k1.wide (fun b h => nomatch h) mw0).trans1 kk
    refine k _ k0 ⟨⟨dx', k4.st _ _ (by simpa using nnp) hP3⟩, k4.st _ _ (by simpa using nfn) (k3.st _ _ (by simpa using ne_of hF1 hW1 (by intro z; cases z)) (k2.same _ _ hF1)), ⟨us ++ [.ref t], k4.st _ _ (by simpa using nwn.symm) upd_same, by simp; omega⟩, ⟨_, upd_same, Nat.le_trans (length_putK _ _ _) (by omega), fun x => ?_⟩, fun x => ?_, nfn⟩
    · rw [valV_put]
      by_cases e : (Sum.inl x : Key) = Sum.inl b
      · rw [if_pos e]
        cases e
        exact .inr ⟨v, rfl, by rw [updD, if_pos rfl]; exact tv.kp k0⟩
      · rw [if_neg e]
        have e' : x ≠ b := fun z => e (by rw [z])
        rw [updD, if_neg e']
        rcases hD x with q | ⟨y, q1, q2⟩
        · exact .inl q
        · exact .inr ⟨y, q1, q2.kp kk⟩
    · rw [updD]
      split
      · exact hpg
      · exact hpgs x
end
end K68
set_option Elab.async false
set_option linter.all false
set_option maxRecDepth 100000
set_option maxHeartbeats 4000000
/-! K68E: the guard's places. -/
namespace K68
open PySem L2 AB
/-- a guard's numbers -/
structure GN where
  (first many size groups : Int)
def guardF (p : Addr) (g : GN) : List (Str × V) := [("disk", .ref p), ("first", .int g.first), ("many", .int g.many), ("size", .int g.size), ("groups", .int g.groups)]
theorem guardF_put {p : Addr} {g : GN} : putF "groups" (.int g.groups) (putF "size" (.int g.size) (putF "many" (.int g.many) (putF "first" (.int g.first) (putF "disk" (.ref p) [])))) = guardF p g := by kernel_rfl
theorem guardF_d {p : Addr} {g : GN} : (guardF p g).lookup ("disk" : Str) = some (.ref p) := by kernel_rfl
theorem guardF_f {p : Addr} {g : GN} : (guardF p g).lookup ("first" : Str) = some (.int g.first) := by kernel_rfl
theorem guardF_m {p : Addr} {g : GN} : (guardF p g).lookup ("many" : Str) = some (.int g.many) := by kernel_rfl
theorem guardF_s {p : Addr} {g : GN} : (guardF p g).lookup ("size" : Str) = some (.int g.size) := by kernel_rfl
theorem guardF_g {p : Addr} {g : GN} : (guardF p g).lookup ("groups" : Str) = some (.int g.groups) := by kernel_rfl
theorem guardF_no {p : Addr} {g : GN} {m : Str} (h : m ∉ (["disk", "first", "many", "size", "groups"] : List Str)) : (guardF p g).lookup m = none := by
  simp only [List.mem_cons, List.not_mem_nil, or_false, not_or] at h
  obtain ⟨h1, h2, h3, h4, h5⟩ := h
  have e : ∀ x : Str, m ≠ x → (m == x) = false := fun x q => by simpa using q
  simp [guardF, List.lookup, e _ h1, e _ h2, e _ h3, e _ h4, e _ h5]
/-- the numbers are right for so many blocks -/
structure GN.Ok (g : GN) (bm : Int) : Prop where
  s1 : 1 ≤ g.size
  s14 : g.size ≤ 14
  m1 : 1 ≤ g.many
  mb : g.many ≤ bm
  f0 : 0 ≤ g.first
  fb : g.first ≤ bm - g.many - 2 * g.groups
  b4 : bm ≤ 4096
  gr : g.groups = -((-g.many) / g.size)
def GuardAt (a : Ad) (H : Hp) (q p : Addr) (g : GN) : Prop := ∃ dx, H q = some (.ins a.cg dx (guardF p g))
theorem GuardAt.kp {a : Ad} {H H' : Hp} {q p : Addr} {g : GN} {m : List Addr} (h : GuardAt a H q p g) (k : Kp m H H') (hq : q ∉ m) : GuardAt a H' q p g := by
  obtain ⟨dx, h⟩ := h
  exact ⟨dx, k.st _ _ hq h⟩
def plc (g : GN) (b : Int) : Int := g.first + b + 2 * (b / g.size)
def lo (g : GN) (at_ : Int) : Int := at_ * g.size
def hi (g : GN) (at_ : Int) : Int := if g.many < (at_ + 1) * g.size then g.many else (at_ + 1) * g.size
def memI (g : GN) (at_ : Int) : List Int := (List.range (hi g at_ - lo g at_).toNat).map fun i => lo g at_ + (i : Nat)
def sumAt (g : GN) (at_ : Int) : Int := plc g (hi g at_ - 1) + 1
def marksAt (g : GN) (at_ : Int) : Int := plc g (hi g at_ - 1) + 2
theorem memI_V (g : GN) (at_ : Int) : rgV (lo g at_) (hi g at_) = (memI g at_).map V.int := by
  simp [rgV, memI]
theorem memI_len (g : GN) (at_ : Int) : (memI g at_).length = (hi g at_ - lo g at_).toNat := by simp [memI]
theorem memI_at {g : GN} {at_ : Int} {i : Nat} (h : i < (hi g at_ - lo g at_).toNat) : (memI g at_)[i]? = some (lo g at_ + (i : Nat)) := by
  simp [memI, h]
theorem memI_last {g : GN} {at_ : Int} (h : lo g at_ < hi g at_) : (memI g at_)[(memI g at_).length - 1]? = some (hi g at_ - 1) := by
  rw [memI_len, memI_at (by omega)]
  congr 1
  omega
section
variable {g : GN} {bm : Int} (ok : g.Ok bm) {at_ : Int} (h0 : 0 ≤ at_) (h1 : at_ < g.groups)
include ok h0 h1
theorem lo_lt_many : lo g at_ < g.many := by
  have h := ok.gr
  have s1 := ok.s1
  have e : -g.many < (-at_) * g.size + 0 ∨ True := .inr trivial
  have h2 : (-g.many) / g.size < -at_ := by omega
  have h3 : -g.many < (-at_) * g.size := Int.not_le.mp fun h => by
    have := Int.le_ediv_of_mul_le (by omega : 0 < g.size) h
    omega
  have : (-at_) * g.size = -(at_ * g.size) := by rw [Int.neg_mul]
  unfold lo
  omega
theorem lo_lt_hi : lo g at_ < hi g at_ := by
  have h := lo_lt_many ok h0 h1
  have s1 := ok.s1
  unfold hi
  split
  · exact h
  · unfold lo
    rw [Int.add_mul]
    omega
theorem hi_le_many : hi g at_ ≤ g.many := by
  unfold hi
  split <;> omega
theorem lo_nonneg : 0 ≤ lo g at_ := Int.mul_nonneg h0 (by have := ok.s1; omega)
theorem hi_le_lo : hi g at_ ≤ lo g at_ + g.size := by
  unfold hi lo
  rw [Int.add_mul]
  split <;> omega
end
def spMembers (a : Ad) : Sp := fun vs H Q _ => ∃ (q p : Addr) (g : GN) (bm at_ : Int), vs = [.ref q, .int at_] ∧ GuardAt a H q p g ∧ g.Ok bm ∧ 0 ≤ at_ ∧ at_ < g.groups ∧ ∀ l, H l = none → Q (.ref l) (upd H l (.lst ((memI g at_).map V.int)))
def spPlace (a : Ad) : Sp := fun vs H Q _ => ∃ (q p : Addr) (g : GN) (bm b : Int), vs = [.ref q, .int b] ∧ GuardAt a H q p g ∧ g.Ok bm ∧ 0 ≤ b ∧ b < g.many ∧ Q (.int (plc g b)) H
def spPlaces (K : PySem.W.Frag) (a : Ad) : Sp := fun vs H Q _ => ∃ (q p : Addr) (g : GN) (bm at_ : Int), vs = [.ref q, .int at_] ∧ GuardAt a H q p g ∧ g.Ok bm ∧ 0 ≤ at_ ∧ at_ < g.groups ∧ ∀ H' t, Kp [] H H' → H' t = some (.tup [.int (sumAt g at_), .int (marksAt g at_)]) → Q (.ref t) H'
def spPlacesOf (K : PySem.W.Frag) (a : Ad) : Sp := fun vs H Q E => ∃ (q p : Addr) (g : GN) (bm at_ : Int), vs = [.ref q, .int at_] ∧ GuardAt a H q p g ∧ g.Ok bm ∧ 0 ≤ at_ ∧ (at_ < g.groups → ∀ H' t, Kp [] H H' → H' t = some (.tup [.int (sumAt g at_), .int (marksAt g at_)]) → Q (.ref t) H') ∧ (g.groups ≤ at_ → E (.ref a.nt) none H)
theorem atI_m1 {α : Type} {xs : List α} {v : α} (h : xs[xs.length - 1]? = some v) : atI xs (-1) = some v := by
  have h2 : xs.length - 1 < xs.length := (List.getElem?_eq_some_iff.mp h).1
  have e : ixN xs.length (-1) = some (xs.length - 1) := by
    unfold ixN
    rw [if_neg (by omega), if_pos (by omega)]
    congr 1
    omega
  unfold atI
  rw [e]
  exact h
section
variable {P : Program} {w : World} {K : PySem.W.Frag} {mg : Str → Option Value} {base : Heap} {a : Ad} {f : Addr} {fd : FuncData}
theorem ok_members (F : Fun K "members" "Guard.members" s_Guard_members f fd) (T : Txt K mg a) : FnOk P w K mg base (L2.CX P w) 1 f fd ["self", "group"] (spMembers a) := by
  refine okT F sc_Guard_members (fun vs H Q E h => ?_) (fun cdv A outer s H vs Q E hr tk hp h => ?_)
  · obtain ⟨q, p, g, bm, at_, rfl, _⟩ := h
    rfl
  · obtain ⟨q, p, g, bm, at_, rfl, ⟨dx, hq⟩, ok, h0, h1, k⟩ := h
    have b1 := lo_nonneg ok h0 h1
    have b2 := lo_lt_hi ok h0 h1
    have b3 := hi_le_many ok h0 h1
    have s1 := ok.s1
    have s14 := ok.s14
    have mb := ok.mb
    have b4 := ok.b4
    refine ⟨_, (pss_one (ps_ret (pe_listRg rfl (by rfl) T.n_list (prg_2 (by rfl) T.n_range (pe_op op_mul (pv 1) (k_fld K (by rfl) (pe_fld (pv 0) (by rfl)))) (pe_callB (call_min2 rfl) (by rfl) T.n_min (by decide +kernel) (pa_cons (pe_op op_mul (pe_op op_add (pv 1) pe_int) (k_fld K (by rfl) (pe_fld (pv 0) (by rfl)))) (pa_cons (k_fld K (by rfl) (pe_fld (pv 0) (by rfl))) pa_nil))))))), ?_⟩
    refine ⟨_, rfl, _, rfl, q, a.cg, dx, _, _, rfl, hq, T.cG, T.aG _ (by simp), guardF_s, _, _, rfl, rfl, .inr ⟨by omega, by omega⟩, ?_⟩
    refine ⟨_, rfl, _, _, rfl, rfl, _, rfl, q, a.cg, dx, _, _, rfl, hq, T.cG, T.aG _ (by simp), guardF_s, _, _, rfl, rfl, .inr ⟨by omega, by omega⟩, _, rfl, q, a.cg, dx, _, _, rfl, hq, T.cG, T.aG _ (by simp), guardF_m, _, _, rfl, _, _, rfl, rfl, ?_⟩
    show RgOk (lo g at_) (hi g at_) ∧ ∀ l, H l = none → Q (.ref l) (upd H l (.lst (rgV (lo g at_) (hi g at_))))
    rw [memI_V]
    exact ⟨⟨by omega, by omega, by omega, by omega, by omega⟩, k⟩
theorem ok_place (F : Fun K "place" "Guard.place" s_Guard_place f fd) (T : Txt K mg a) : FnOk P w K mg base (L2.CX P w) 1 f fd ["self", "block"] (spPlace a) := by
  refine okT F sc_Guard_place (fun vs H Q E h => ?_) (fun cdv A outer s H vs Q E hr tk hp h => ?_)
  · obtain ⟨q, p, g, bm, b, rfl, _⟩ := h
    rfl
  · obtain ⟨q, p, g, bm, b, rfl, ⟨dx, hq⟩, ok, h0, h1, k⟩ := h
    have s1 := ok.s1
    have s14 := ok.s14
    refine ⟨_, (pss_one (ps_ret (pe_op op_add (pe_op op_add (k_fld K (by rfl) (pe_fld (pv 0) (by rfl))) (pv 1)) (pe_op op_mul pe_int (pe_op op_fdiv (pv 1) (k_fld K (by rfl) (pe_fld (pv 0) (by rfl)))))))), ?_⟩
    refine ⟨_, rfl, q, a.cg, dx, _, _, rfl, hq, T.cG, T.aG _ (by simp), guardF_f, _, rfl, _, _, rfl, rfl, _, rfl, _, rfl, q, a.cg, dx, _, _, rfl, hq, T.cG, T.aG _ (by simp), guardF_s, _, _, rfl, rfl, ⟨by omega, by omega⟩, _, _, rfl, rfl, .inl (by decide), _, _, rfl, rfl, k⟩
theorem ok_places (F : Fun K "places" "Guard.places" s_Guard_places f fd) (T : Txt K mg a) (G_Guard_members : GMt P w K mg base 1 a.cg "members" ["self", "group"] (spMembers a)) (G_Guard_place : GMt P w K mg base 1 a.cg "place" ["self", "block"] (spPlace a)) :
    FnOk P w K mg base (L2.CX P w) 2 f fd ["self", "group"] (spPlaces K a) := by
  refine okT F sc_Guard_places (fun vs H Q E h => ?_) (fun cdv A outer s H vs Q E hr tk hp h => ?_)
  · obtain ⟨q, p, g, bm, at_, rfl, _⟩ := h
    rfl
  · obtain ⟨q, p, g, bm, at_, rfl, hq, ok, h0, h1, k⟩ := h
    have b1 := lo_nonneg ok h0 h1
    have b2 := lo_lt_hi ok h0 h1
    have b3 := hi_le_many ok h0 h1
    obtain ⟨dx, hq'⟩ := id hq
    refine ⟨_, (pss_cons (ps_set (i := 2) sc_Guard_places.nd rfl (by first | exact Or.inl rfl | exact Or.inr rfl) (pe_mt (pv 0) G_Guard_place (hr.mono (by decide)) tk (pa_cons (pe_ix (k_ixL K (by rfl)) (pe_mt (pv 0) G_Guard_members (hr.mono (by decide)) tk (pa_cons (pv 1) pa_nil)) (pe_un un_neg pe_int) (fun _ _ => rfl)) pa_nil))) (pss_one (ps_ret (pe_tup (pa_cons (pe_op op_add (pv 2) pe_int) (pa_cons (pe_op op_add (pv 2) pe_int) pa_nil)))))), ?_⟩
    have no : ∀ {x : Str}, x ∉ (["disk", "first", "many", "size", "groups"] : List Str) → (guardF p g).lookup x = none := guardF_no
    refine ⟨_, rfl, q, dx, _, rfl, hq', no (by decide +kernel), _, rfl, q, dx, _, rfl, hq', no (by decide +kernel), _, rfl, q, p, g, bm, at_, rfl, hq, ok, h0, h1, fun l hl => ?_⟩
    have k1 := Kp.new (o := .lst ((memI g at_).map V.int)) hl
    refine ⟨_, rfl, l, _, _, _, rfl, rfl, SqL.of upd_same, atI_m1 (v := .int (hi g at_ - 1)) ?_, ?_⟩
    · rw [List.length_map, List.getElem?_map, memI_last b2]
      rfl
    · refine ⟨q, p, g, bm, hi g at_ - 1, rfl, hq.kp k1 (by simp), ok, by omega, by omega, ?_⟩
      refine ⟨_, rfl, _, _, rfl, rfl, _, rfl, _, _, rfl, rfl, (by show 2 ≤ sizeLine; decide), fun t ht => ?_⟩
      exact k _ t (k1.trans0 (Kp.new ht)) upd_same
theorem ok_places_of (F : Fun K "places_of" "Guard.places_of" s_Guard_places_of f fd) (T : Txt K mg a) (G_check_there : GFn P w K mg base 1 "check_there" ["is_there"] (spCheck a.nt)) (G_is_within : GFn P w K mg base 2 "is_within" ["value", "low", "high"] spWithin)
    (G_Guard_places : GMt P w K mg base 2 a.cg "places" ["self", "group"] (spPlaces K a)) : FnOk P w K mg base (L2.CX P w) 3 f fd ["self", "group"] (spPlacesOf K a) := by
  refine okT F sc_Guard_places_of (fun vs H Q E h => ?_) (fun cdv A outer s H vs Q E hr tk hp h => ?_)
  · obtain ⟨q, p, g, bm, at_, rfl, _⟩ := h
    rfl
  · obtain ⟨q, p, g, bm, at_, rfl, hq, ok, h0, k, kE⟩ := h
    obtain ⟨dx, hq'⟩ := id hq
    refine ⟨_, (pss_cons (ps_expr (pe_cl G_check_there (hr.mono (by decide)) tk (pa_cons (pe_cl G_is_within (hr.mono (by decide)) tk (pa_cons (pv 1) (pa_cons pe_int (pa_cons (pe_op op_sub (k_fld K (by rfl) (pe_fld (pv 0) (by rfl))) pe_int) pa_nil)))) pa_nil))) (pss_one (ps_ret (pe_mt (pv 0) G_Guard_places (hr.mono (by decide)) tk (pa_cons (pv 1) pa_nil))))), ?_⟩
    refine ⟨_, rfl, _, rfl, q, a.cg, dx, _, _, rfl, hq', T.cG, T.aG _ (by simp), guardF_g, _, _, rfl, rfl, at_, 0, g.groups - 1, rfl, _, rfl, fun e => ?_, fun e => ?_⟩
    · have h1 : at_ < g.groups := by simp at e; omega
      exact ⟨_, rfl, q, dx, _, rfl, hq', guardF_no (by decide +kernel), _, rfl, q, p, g, bm, at_, rfl, hq, ok, h0, h1, k h1⟩
    · have h1 : g.groups ≤ at_ := by simp at e; omega
      exact kE h1
theorem ok_place_of (F : Fun K "place_of" "Guard.place_of" s_Guard_place_of f fd) (T : Txt K mg a) (G_check_there : GFn P w K mg base 1 "check_there" ["is_there"] (spCheck a.nt)) (G_is_within : GFn P w K mg base 2 "is_within" ["value", "low", "high"] spWithin)
    (G_Guard_place : GMt P w K mg base 1 a.cg "place" ["self", "block"] (spPlace a)) : FnOk P w K mg base (L2.CX P w) 3 f fd ["self", "block"] (spPlace a) := by
  refine okT F sc_Guard_place_of (fun vs H Q E h => ?_) (fun cdv A outer s H vs Q E hr tk hp h => ?_)
  · obtain ⟨q, p, g, bm, b, rfl, _⟩ := h
    rfl
  · obtain ⟨q, p, g, bm, b, rfl, hq, ok, h0, h1, k⟩ := h
    obtain ⟨dx, hq'⟩ := id hq
    refine ⟨_, (pss_cons (ps_expr (pe_cl G_check_there (hr.mono (by decide)) tk (pa_cons (pe_cl G_is_within (hr.mono (by decide)) tk (pa_cons (pv 1) (pa_cons pe_int (pa_cons (pe_op op_sub (k_fld K (by rfl) (pe_fld (pv 0) (by rfl))) pe_int) pa_nil)))) pa_nil))) (pss_one (ps_ret (pe_mt (pv 0) G_Guard_place (hr.mono (by decide)) tk (pa_cons (pv 1) pa_nil))))), ?_⟩
    refine ⟨_, rfl, _, rfl, q, a.cg, dx, _, _, rfl, hq', T.cG, T.aG _ (by simp), guardF_m, _, _, rfl, rfl, b, 0, g.many - 1, rfl, _, rfl, fun e => ?_, fun e => ?_⟩
    · exact ⟨_, rfl, q, dx, _, rfl, hq', guardF_no (by decide +kernel), _, rfl, q, p, g, bm, b, rfl, hq, ok, h0, h1, k⟩
    · exact absurd e (by simp; omega)
end
end K68
set_option Elab.async false
set_option linter.all false
set_option maxRecDepth 100000
set_option maxHeartbeats 4000000
/-! K68M: the mathematics of sums and marks; no program here. -/
namespace K68
open PySem L2 AB
abbrev bx (i j : Int) : Int := Builtin.bitXor i j
theorem isW_iff {n : Int} : isW n = true ↔ 0 ≤ n ∧ n ≤ 65535 := by simp [isW]
theorem bx_w {i j : Int} (hi : isW i = true) (hj : isW j = true) : isW (bx i j) = true := by
  rw [isW_iff] at *
  rw [bx, Bits.bitXor_pp hi.1 hj.1]
  have : i.toNat ^^^ j.toNat < 2 ^ 16 := Nat.xor_lt_two_pow (by omega) (by omega)
  omega
theorem bx_zero {i : Int} (hi : isW i = true) : bx 0 i = i := by
  rw [isW_iff] at hi
  rw [bx, Bits.bitXor_pp (by decide) hi.1]
  simp
  omega
theorem bx_comm {i j : Int} (hi : isW i = true) (hj : isW j = true) : bx i j = bx j i := by
  rw [isW_iff] at *
  rw [bx, bx, Bits.bitXor_pp hi.1 hj.1, Bits.bitXor_pp hj.1 hi.1, Nat.xor_comm]
theorem bx_assoc {i j k : Int} (hi : isW i = true) (hj : isW j = true) (hk : isW k = true) : bx (bx i j) k = bx i (bx j k) := by
  have h1 := isW_iff.mp (bx_w hi hj)
  have h2 := isW_iff.mp (bx_w hj hk)
  rw [isW_iff] at *
  unfold bx at *
  rw [Bits.bitXor_pp h1.1 hk.1, Bits.bitXor_pp hi.1 h2.1, Bits.bitXor_pp hi.1 hj.1, Bits.bitXor_pp hj.1 hk.1]
  simp only [Int.toNat_natCast, Nat.xor_assoc]
theorem bx_self {i : Int} (hi : isW i = true) : bx i i = 0 := by
  rw [isW_iff] at hi
  rw [bx, Bits.bitXor_pp hi.1 hi.1]
  simp
/-- the exclusive or of two pages -/
abbrev px (p q : List Int) : List Int := List.zipWith (fun i j => Builtin.bitXor i j) p q
theorem isPg_iff {p : List Int} : isPg p = true ↔ p.length = 16 ∧ ∀ n ∈ p, isW n = true := by
  rw [isPg, Bool.and_eq_true, decide_eq_true_eq, List.all_eq_true]
  exact ⟨fun h => ⟨h.2, h.1⟩, fun h => ⟨h.2, h.1⟩⟩
theorem zeros_pg : isPg zeros = true := rfl
theorem isPg_at {p : List Int} (h : isPg p = true) {i : Nat} (hi : i < p.length) : isW p[i] = true := (isPg_iff.mp h).2 _ (List.getElem_mem hi)
theorem px_pg {p q : List Int} (hp : isPg p = true) (hq : isPg q = true) : isPg (px p q) = true := by
  refine isPg_iff.mpr ⟨by simp [px, (isPg_iff.mp hp).1, (isPg_iff.mp hq).1], fun n hn => ?_⟩
  obtain ⟨i, hi, e⟩ := List.getElem_of_mem hn
  subst e
  simp [px] at hi
  simp only [px, List.getElem_zipWith]
  exact bx_w (isPg_at hp _) (isPg_at hq _)
theorem px_ext {p q : List Int} (hp : isPg p = true) (hq : isPg q = true) (h : ∀ i (h1 : i < p.length) (h2 : i < q.length), p[i] = q[i]) : p = q := by
  apply List.ext_getElem
  · rw [(isPg_iff.mp hp).1, (isPg_iff.mp hq).1]
  · intro i h1 h2
    exact h i h1 h2
theorem px_zero {p : List Int} (hp : isPg p = true) : px zeros p = p := by
  refine px_ext (px_pg zeros_pg hp) hp fun i h1 h2 => ?_
  simp only [px, List.getElem_zipWith]
  have e : zeros[i]'(by simp [px] at h1; omega) = 0 := by
    have hz : zeros = List.replicate 16 0 := rfl
    simp only [hz, List.getElem_replicate]
  rw [e]
  exact bx_zero (isPg_at hp _)
theorem px_comm {p q : List Int} (hp : isPg p = true) (hq : isPg q = true) : px p q = px q p := by
  refine px_ext (px_pg hp hq) (px_pg hq hp) fun i h1 h2 => ?_
  simp only [px, List.getElem_zipWith]
  exact bx_comm (isPg_at hp _) (isPg_at hq _)
theorem px_assoc {p q r : List Int} (hp : isPg p = true) (hq : isPg q = true) (hr : isPg r = true) : px (px p q) r = px p (px q r) := by
  refine px_ext (px_pg (px_pg hp hq) hr) (px_pg hp (px_pg hq hr)) fun i h1 h2 => ?_
  simp only [px, List.getElem_zipWith]
  exact bx_assoc (isPg_at hp _) (isPg_at hq _) (isPg_at hr _)
theorem px_self {p : List Int} (hp : isPg p = true) : px p p = zeros := by
  refine px_ext (px_pg hp hp) zeros_pg fun i h1 h2 => ?_
  simp only [px, List.getElem_zipWith]
  have e : zeros[i]'h2 = 0 := by
    have hz : zeros = List.replicate 16 0 := rfl
    simp only [hz, List.getElem_replicate]
  rw [e]
  exact bx_self (isPg_at hp _)
theorem fold_pg : ∀ (ps : List (List Int)) (acc : List Int), isPg acc = true → (∀ p ∈ ps, isPg p = true) → isPg (ps.foldl px acc) = true
  | [], acc, h, _ => h
  | p :: ps, acc, h, hs => fold_pg ps (px acc p) (px_pg h (hs p List.mem_cons_self)) fun q hq => hs q (List.mem_cons_of_mem _ hq)
theorem sumP_pg {ps : List (List Int)} (h : ∀ p ∈ ps, isPg p = true) : isPg (sumP ps) = true := fold_pg ps zeros zeros_pg h
theorem fold_px : ∀ (ps : List (List Int)) (acc : List Int), isPg acc = true → (∀ p ∈ ps, isPg p = true) → ps.foldl px acc = px acc (ps.foldl px zeros)
  | [], acc, h, _ => by
    show acc = px acc zeros
    rw [px_comm h zeros_pg, px_zero h]
  | p :: ps, acc, h, hs => by
    have hp := hs p List.mem_cons_self
    have hs' : ∀ q ∈ ps, isPg q = true := fun q hq => hs q (List.mem_cons_of_mem _ hq)
    show ps.foldl px (px acc p) = px acc (ps.foldl px (px zeros p))
    rw [fold_px ps _ (px_pg h hp) hs', px_zero hp, fold_px ps p hp hs', px_assoc h hp (fold_pg ps zeros zeros_pg hs')]
theorem sumP_cons {p : List Int} {ps : List (List Int)} (h : ∀ q ∈ p :: ps, isPg q = true) : sumP (p :: ps) = px p (sumP ps) := by
  have hp := h p List.mem_cons_self
  show ps.foldl px (px zeros p) = _
  rw [px_zero hp, fold_px ps p hp fun q hq => h q (List.mem_cons_of_mem _ hq)]
  rfl
theorem sumP_append : ∀ {ps qs : List (List Int)}, (∀ q ∈ ps ++ qs, isPg q = true) → sumP (ps ++ qs) = px (sumP ps) (sumP qs)
  | [], qs, h => by
    have h' : ∀ q ∈ qs, isPg q = true := h
    show sumP qs = px zeros (sumP qs)
    rw [px_zero (sumP_pg h')]
  | p :: ps, qs, h => by
    have h' : ∀ q ∈ ps ++ qs, isPg q = true := fun q hq => h q (List.mem_cons_of_mem _ hq)
    have hp := h p List.mem_cons_self
    have h1 : ∀ q ∈ ps, isPg q = true := fun q hq => h' q (List.mem_append_left _ hq)
    have h2 : ∀ q ∈ qs, isPg q = true := fun q hq => h' q (List.mem_append_right _ hq)
    have hh : ∀ q ∈ p :: (ps ++ qs), isPg q = true := h
    rw [List.cons_append, sumP_cons hh, sumP_append h', sumP_cons (fun q hq => by
      rcases List.mem_cons.mp hq with e | e
      · rw [e]; exact hp
      · exact h1 q e), px_assoc hp (sumP_pg h1) (sumP_pg h2)]
theorem sumP_one {p : List Int} (h : isPg p = true) : sumP [p] = p := px_zero h
/-- the pages and their sum come to 0 -/
theorem sumP_whole {ps : List (List Int)} (h : ∀ q ∈ ps, isPg q = true) : sumP (ps ++ [sumP ps]) = zeros := by
  have hs := sumP_pg h
  rw [sumP_append (fun q hq => by
    rcases List.mem_append.mp hq with e | e
    · exact h q e
    · rw [List.mem_singleton.mp e]; exact hs), sumP_one hs, px_self hs]
/-- of rows that come to 0, each is the sum of the others -/
theorem sumP_others {qs : List (List Int)} (h : ∀ q ∈ qs, isPg q = true) (h0 : sumP qs = zeros) {i : Nat} {p : List Int} (hi : qs[i]? = some p) : sumP (qs.take i ++ qs.drop (i + 1)) = p := by
  have e : qs = qs.take i ++ p :: qs.drop (i + 1) := by
    have hl := (List.getElem?_eq_some_iff.mp hi).1
    have hg := (List.getElem?_eq_some_iff.mp hi).2
    rw [← hg, List.getElem_cons_drop, List.take_append_drop]
  have h1 : ∀ q ∈ qs.take i, isPg q = true := fun q hq => h q (List.mem_of_mem_take hq)
  have h2 : ∀ q ∈ qs.drop (i + 1), isPg q = true := fun q hq => h q (List.mem_of_mem_drop hq)
  have hp : isPg p = true := h p (List.mem_of_getElem? hi)
  have A := sumP_pg h1
  have B := sumP_pg h2
  have hz : px (sumP (qs.take i)) (px p (sumP (qs.drop (i + 1)))) = zeros := by
    rw [← sumP_cons (fun q hq => by
      rcases List.mem_cons.mp hq with e | e
      · rw [e]; exact hp
      · exact h2 q e), ← sumP_append (fun q hq => by rw [← e] at hq; exact h q hq), ← e]
    exact h0
  rw [sumP_append (fun q hq => by
    rcases List.mem_append.mp hq with e | e
    · exact h1 q e
    · exact h2 q e)]
  have e1 : px (sumP (qs.take i)) (px p (sumP (qs.drop (i + 1)))) = px p (px (sumP (qs.take i)) (sumP (qs.drop (i + 1)))) := by
    rw [← px_assoc A hp B, px_comm A hp, px_assoc hp A B]
  rw [e1] at hz
  have S := px_pg A B
  calc px (sumP (qs.take i)) (sumP (qs.drop (i + 1))) = px zeros (px (sumP (qs.take i)) (sumP (qs.drop (i + 1)))) := (px_zero S).symm
    _ = px (px p p) (px (sumP (qs.take i)) (sumP (qs.drop (i + 1)))) := by rw [px_self hp]
    _ = px p (px p (px (sumP (qs.take i)) (sumP (qs.drop (i + 1))))) := px_assoc hp hp S
    _ = px p zeros := by rw [hz]
    _ = p := by rw [px_comm hp zeros_pg, px_zero hp]
/-! ### marks -/
theorem mark_fold_range : ∀ (ws : List Int) (m : Int), 0 ≤ m → m < 65521 → 0 ≤ ws.foldl (fun m w => (m * 31 + w) % 65521) m ∧ ws.foldl (fun m w => (m * 31 + w) % 65521) m < 65521
  | [], m, h0, h1 => ⟨h0, h1⟩
  | w :: ws, m, _, _ => mark_fold_range ws _ (Int.emod_nonneg _ (by decide)) (Int.emod_lt_of_pos _ (by decide))
theorem mark_range (ws : List Int) : 0 ≤ mark ws ∧ mark ws < 65521 := mark_fold_range ws 1 (by decide) (by decide)
theorem mark_w (ws : List Int) : isW (mark ws) = true := by
  have h := mark_range ws
  exact isW_iff.mpr ⟨h.1, by omega⟩
def marksOf (qs : List (List Int)) : List Int := qs.map mark ++ zeros.drop qs.length
theorem marksOf_pg {qs : List (List Int)} (h : qs.length ≤ 16) : isPg (marksOf qs) = true := by
  have hz : zeros = List.replicate 16 0 := rfl
  refine isPg_iff.mpr ⟨by simp [marksOf, hz]; omega, fun n hn => ?_⟩
  rcases List.mem_append.mp hn with e | e
  · obtain ⟨q, _, rfl⟩ := List.mem_map.mp e
    exact mark_w q
  · have e2 := List.mem_of_mem_drop e
    rw [hz] at e2
    rw [List.eq_of_mem_replicate e2]
    rfl
/-- one word more by d changes the mark, where d is no multiple of the prime -/
theorem mark_step_inj {m m' w : Int} (hm : 0 ≤ m ∧ m < 65521) (hm' : 0 ≤ m' ∧ m' < 65521) (h : (m * 31 + w) % 65521 = (m' * 31 + w) % 65521) : m = m' := by
  omega
theorem mark_fold_inj : ∀ (ws : List Int) (m m' : Int), 0 ≤ m ∧ m < 65521 → 0 ≤ m' ∧ m' < 65521 → ws.foldl (fun m w => (m * 31 + w) % 65521) m = ws.foldl (fun m w => (m * 31 + w) % 65521) m' → m = m'
  | [], _, _, _, _, h => h
  | w :: ws, m, m', hm, hm', h => mark_step_inj hm hm' (mark_fold_inj ws _ _ ⟨Int.emod_nonneg _ (by decide), Int.emod_lt_of_pos _ (by decide)⟩ ⟨Int.emod_nonneg _ (by decide), Int.emod_lt_of_pos _ (by decide)⟩ h)
theorem mark_bent {xs ys : List Int} {v u : Int} (h : (v - u) % 65521 ≠ 0) : mark (xs ++ v :: ys) ≠ mark (xs ++ u :: ys) := by
  intro e
  unfold mark at e
  rw [List.foldl_append, List.foldl_append, List.foldl_cons, List.foldl_cons] at e
  have q := mark_fold_inj ys _ _ ⟨Int.emod_nonneg _ (by decide), Int.emod_lt_of_pos _ (by decide)⟩ ⟨Int.emod_nonneg _ (by decide), Int.emod_lt_of_pos _ (by decide)⟩ e
  omega
end K68
set_option Elab.async false
set_option linter.all false
set_option maxRecDepth 100000
set_option maxHeartbeats 4000000
/-! K68F: a guard made; a group laid. -/
namespace K68
open PySem L2 AB
def layD0 (g : GN) (D : Int → List Int) (bs : List Int) (ps : List (List Int)) : Int → List Int := (bs.zip ps).foldl (fun D bp => updD D (plc g bp.1) bp.2) D
def layD (g : GN) (D : Int → List Int) (at_ : Int) (ps : List (List Int)) : Int → List Int := updD (updD (layD0 g D (memI g at_) ps) (sumAt g at_) (sumP ps)) (marksAt g at_) (marksOf (ps ++ [sumP ps]))
def spGuardInit (K : PySem.W.Frag) (a : Ad) : Sp := fun vs H Q E => ∃ (q dx : Addr) (dv : V) (first many size : Int), vs = [.ref q, dv, .int first, .int many, .int size] ∧ H q = some (.ins a.cg dx []) ∧
  ((∃ n : Int, dv = .int n ∧ E (.ref a.nr) none H) ∨
   ∃ (p f w n : Addr) (bm : Int) (D : Int → List Int) (m : Nat), dv = .ref p ∧ DiskAt K a.cd H p f w n bm D m ∧ bm ≤ 4096 ∧
    ((1 ≤ size ∧ size ≤ 14 ∧ 1 ≤ many ∧ many ≤ bm ∧ 0 ≤ first ∧ first ≤ bm - many - 2 * (-((-many) / size))) → ∀ H', Kp [q] H H' → GuardAt a H' q p ⟨first, many, size, -((-many) / size)⟩ → Q .non H') ∧
    (¬ (1 ≤ size ∧ size ≤ 14 ∧ 1 ≤ many ∧ many ≤ bm ∧ 0 ≤ first ∧ first ≤ bm - many - 2 * (-((-many) / size))) → E (.ref a.nr) none H))
/-- the guard q over the disk p, and what stands on it -/
structure Gd (K : PySem.W.Frag) (a : Ad) (H : Hp) (q p f w n : Addr) (g : GN) (bm : Int) (D : Int → List Int) (m : Nat) : Prop where
  gu : GuardAt a H q p g
  dk : DiskAt K a.cd H p f w n bm D m
  ok : g.Ok bm
theorem Gd.kp {K : PySem.W.Frag} {a : Ad} {H H' : Hp} {q p f w n : Addr} {g : GN} {bm : Int} {D : Int → List Int} {m : Nat} {ms : List Addr} (d : Gd K a H q p f w n g bm D m) (k : Kp ms H H') (hq : q ∉ ms) (hp : p ∉ ms) (hf : f ∉ ms) (hw : w ∉ ms) (hn : n ∉ ms) : Gd K a H' q p f w n g bm D m :=
  ⟨d.gu.kp k hq, d.dk.kp k hp hf hw hn, d.ok⟩
theorem Gd.kp0 {K : PySem.W.Frag} {a : Ad} {H H' : Hp} {q p f w n : Addr} {g : GN} {bm : Int} {D : Int → List Int} {m : Nat} (d : Gd K a H q p f w n g bm D m) (k : Kp [] H H') : Gd K a H' q p f w n g bm D m :=
  d.kp k (by simp) (by simp) (by simp) (by simp) (by simp)
/-- behind a write to the disk -/
theorem Gd.wr {K : PySem.W.Frag} {a : Ad} {H H' : Hp} {q p f w n : Addr} {g : GN} {bm : Int} {D D' : Int → List Int} {m m' : Nat} (d : Gd K a H q p f w n g bm D m) (k : Kp [w, n] H H') (d' : DiskAt K a.cd H' p f w n bm D' m') : Gd K a H' q p f w n g bm D' m' := by
  obtain ⟨dx, hq⟩ := d.gu
  obtain ⟨_, _, ⟨us, hW, _⟩, ⟨kvs, hN, _⟩, _, _⟩ := d.dk
  have n1 : q ≠ w := ne_of hq hW (by intro z; cases z)
  have n2 : q ≠ n := ne_of hq hN (by intro z; cases z)
  exact ⟨d.gu.kp k (by simp [n1, n2]), d', d.ok⟩
theorem Gd.mut {K : PySem.W.Frag} {a : Ad} {H : Hp} {q p f w n : Addr} {g : GN} {bm : Int} {D : Int → List Int} {m : Nat} (d : Gd K a H q p f w n g bm D m) : ∀ x ∈ [w, n], Mut (H x) := fun x hx => by
  obtain ⟨_, _, ⟨us, hW, _⟩, ⟨kvs, hN, _⟩, _, _⟩ := d.dk
  rcases List.mem_cons.mp hx with e | e
  · rw [e, hW]; exact True.intro
  · rw [List.mem_singleton.mp e, hN]; exact True.intro
def spLay (K : PySem.W.Frag) (a : Ad) : Sp := fun vs H Q _ => ∃ (q p f w n : Addr) (g : GN) (bm : Int) (D : Int → List Int) (m : Nat) (at_ : Int) (l : Addr) (xs : List V) (ps : List (List Int)), vs = [.ref q, .int at_, .ref l] ∧ Gd K a H q p f w n g bm D m ∧
  0 ≤ at_ ∧ at_ < g.groups ∧ H l = some (.lst xs) ∧ l ≠ w ∧ Pgs K H xs ps ∧ (∀ p ∈ ps, isPg p = true) ∧ ps.length = (memI g at_).length ∧ m + 16 < 100000 ∧
  ∀ H', Kp [w, n] H H' → DiskAt K a.cd H' p f w n bm (layD g D at_ ps) (m + 16) → Q .non H'
theorem DiskAt.more {K : PySem.W.Frag} {C : Addr} {H : Hp} {p f w n : Addr} {many : Int} {D : Int → List Int} {m m' : Nat} (d : DiskAt K C H p f w n many D m) (h : m ≤ m') : DiskAt K C H p f w n many D m' := by
  obtain ⟨h1, h2, ⟨ws, h3, h3'⟩, ⟨kvs, h4, h4', h4''⟩, h5, h6⟩ := d
  exact ⟨h1, h2, ⟨ws, h3, Nat.le_trans h3' h⟩, ⟨kvs, h4, Nat.le_trans h4' h, h4''⟩, h5, h6⟩
theorem layD0_take {g : GN} {D : Int → List Int} {bs : List Int} {ps : List (List Int)} {i : Nat} {b : Int} {p : List Int} (h1 : bs[i]? = some b) (h2 : ps[i]? = some p) : layD0 g D (bs.take (i + 1)) (ps.take (i + 1)) = updD (layD0 g D (bs.take i) (ps.take i)) (plc g b) p := by
  have l1 := (List.getElem?_eq_some_iff.mp h1).1
  have l2 := (List.getElem?_eq_some_iff.mp h2).1
  unfold layD0
  rw [List.take_add_one, List.take_add_one, h1, h2, List.zip_append (by simp; omega), List.foldl_append]
  rfl
/-- places lie on the disk -/
theorem plc_in {g : GN} {bm b : Int} (ok : g.Ok bm) (h0 : 0 ≤ b) (h1 : b < g.many) : 0 ≤ plc g b ∧ plc g b + 2 < bm := by
  have s1 := ok.s1
  have hg := ok.gr
  have fb := ok.fb
  have f0 := ok.f0
  have e0 : 0 ≤ b / g.size := Int.ediv_nonneg h0 (by omega)
  have e1 : b / g.size < g.groups := by
    have : -g.groups = (-g.many) / g.size := by omega
    have h2 : (-g.many) < (-(b / g.size)) * g.size := by
      have := Int.ediv_mul_le b (show g.size ≠ 0 by omega)
      rw [Int.neg_mul]
      omega
    have h3 : (-g.many) / g.size < -(b / g.size) := Int.ediv_lt_of_lt_mul (by omega) h2
    omega
  unfold plc
  omega
section
variable {P : Program} {w : World} {K : PySem.W.Frag} {mg : Str → Option Value} {base : Heap} {a : Ad} {f : Addr} {fd : FuncData}
theorem ok_guard_init (F : Fun K "__init__" "Guard.__init__" s_Guard_init f fd) (T : Txt K mg a) (G_check : GFn P w K mg base 1 "check" ["is_right"] (spCheck a.nr)) (G_is_within : GFn P w K mg base 2 "is_within" ["value", "low", "high"] spWithin) :
    FnOk P w K mg base (L2.CX P w) 3 f fd ["self", "disk", "first", "many", "group"] (spGuardInit K a) := by
  refine okT F sc_Guard_init (fun vs H Q E h => ?_) (fun cdv A outer s H vs Q E hr tk hp h => ?_)
  · obtain ⟨q, dx, dv, first, many, size, rfl, _⟩ := h
    rfl
  · obtain ⟨q, dx, dv, first, many, size, rfl, hq, h⟩ := h
    refine ⟨_, (pss_cons (ps_expr (pe_cl G_check (hr.mono (by decide)) tk (pa_cons (pe_and (pe_callB (k_isi K (by rfl)) (by rfl) T.n_isinstance (by decide +kernel) (pa_cons (pv 1) (pa_cons (pe_glob (v := .ref _) (by rfl) T.g_Disk rfl) pa_nil))) (pe_and (pe_cl G_is_within (hr.mono (by decide)) tk (pa_cons (pv 4) (pa_cons pe_int (pa_cons (pe_gv T.c_MOST_GROUP) pa_nil)))) (pe_one (pe_cl G_is_within (hr.mono (by decide)) tk (pa_cons (pv 3) (pa_cons pe_int (pa_cons (k_fld K (by rfl) (pe_fld (pv 1) (by rfl))) pa_nil))))))) pa_nil))) (pss_cons (ps_set (i := 5) sc_Guard_init.nd rfl (by first | exact Or.inl rfl | exact Or.inr rfl) (pe_un un_neg (pe_op op_fdiv (pe_un un_neg (pv 3)) (pv 4)))) (pss_cons (ps_expr (pe_cl G_check (hr.mono (by decide)) tk (pa_cons (pe_cl G_is_within (hr.mono (by decide)) tk (pa_cons (pv 2) (pa_cons pe_int (pa_cons (pe_op op_sub (pe_op op_sub (k_fld K (by rfl) (pe_fld (pv 1) (by rfl))) (pv 3)) (pe_op op_mul pe_int (pv 5))) pa_nil)))) pa_nil))) (pss_one (ps_asg (pe_tup (pa_cons (pv 1) (pa_cons (pv 2) (pa_cons (pv 3) (pa_cons (pv 4) (pa_cons (pv 5) pa_nil)))))) (pg_tup rfl (pgs_cons (k_gfld K (by rfl) (pg_fld (pv 0))) (pgs_cons (k_gfld K (by rfl) (pg_fld (pv 0))) (pgs_cons (k_gfld K (by rfl) (pg_fld (pv 0))) (pgs_cons (k_gfld K (by rfl) (pg_fld (pv 0))) (pgs_cons (k_gfld K (by rfl) (pg_fld (pv 0))) pgs_nil))))))))))), ?_⟩
    rcases h with ⟨n, rfl, kE⟩ | ⟨p, f, w, n, bm, D, m, rfl, d, hbm, k, kE⟩
    · refine ⟨_, rfl, _, _, _, _, false, rfl, .own _, .base (.int n), T.kID, false, rfl, ?_⟩
      refine iteF ⟨_, rfl, fun e => absurd e Bool.noConfusion, fun _ => kE⟩
    · obtain ⟨dx', hP⟩ := d.ob
      refine ⟨_, rfl, _, _, _, _, true, rfl, .own _, .base (.ins hP T.cD T.iD1 T.iD2 T.iD3 T.iD4), T.kDD, true, rfl, ?_⟩
      refine iteT ⟨_, rfl, size, 1, 14, rfl, _, rfl, ?_⟩
      by_cases g1 : 1 ≤ size ∧ size ≤ 14
      · rw [if_pos (by simpa using g1)]
        refine ⟨_, rfl, _, rfl, p, a.cd, dx', _, _, rfl, hP, T.cD, T.aD _ (by simp), diskF_b, many, 1, bm, rfl, _, rfl, fun e => ?_, fun e => ?_⟩
        · have g2 : 1 ≤ many ∧ many ≤ bm := by simpa using e
          refine ⟨_, rfl, _, rfl, _, rfl, _, _, rfl, rfl, ⟨by omega, by omega⟩, _, rfl, ?_⟩
          refine ⟨_, rfl, _, rfl, p, a.cd, dx', _, _, rfl, hP, T.cD, T.aD _ (by simp), diskF_b, _, rfl, _, _, rfl, rfl, _, rfl, _, _, rfl, rfl, .inl (by decide), _, _, rfl, rfl, first, 0, _, rfl, _, rfl, fun e2 => ?_, fun e2 => ?_⟩
          · have g3 := of_decide_eq_true e2
            refine ⟨_, rfl, _, rfl, _, rfl, _, rfl, _, rfl, (by show 5 ≤ sizeLine; decide), fun t ht => ?_⟩
            have k1 := Kp.new (o := .tup [V.ref p, .int first, .int many, .int size, .int (-((-many) / size))]) ht
            have eP := k1.same _ _ hq
            have hn : ∀ {x : Str}, x ∈ (["disk", "first", "many", "size", "groups"] : List Str) → NoAttr K a.cg x := fun h => T.aG _ h
            refine ⟨t, _, rfl, SqT.of upd_same, rfl, _, _, rfl, _, rfl, q, a.cg, dx, _, rfl, eP, T.cG, hn (by simp), (by show 0 < 1000; decide), ?_⟩
            refine ⟨_, _, rfl, _, rfl, q, a.cg, dx, _, rfl, upd_same, T.cG, hn (by simp), (lt1000 (by kernel_rfl)), ?_⟩
            refine ⟨_, _, rfl, _, rfl, q, a.cg, dx, _, rfl, upd_same, T.cG, hn (by simp), (lt1000 (by kernel_rfl)), ?_⟩
            refine ⟨_, _, rfl, _, rfl, q, a.cg, dx, _, rfl, upd_same, T.cG, hn (by simp), (lt1000 (by kernel_rfl)), ?_⟩
            refine ⟨_, _, rfl, _, rfl, q, a.cg, dx, _, rfl, upd_same, T.cG, hn (by simp), (lt1000 (by kernel_rfl)), rfl, ?_⟩
            rw [upd_upd, upd_upd, upd_upd, upd_upd]
            have e := guardF_put (p := p) (g := ⟨first, many, size, -((-many) / size)⟩)
            refine k ⟨g1.1, g1.2, g2.1, g2.2, g3.1, g3.2⟩ _ ((k1.wide (fun b h => nomatch h) (fun b hb => by rw [List.mem_singleton.mp hb, hq]; exact True.intro)).trans1 (Kp.set (by rw [eP]; exact True.intro))) ⟨dx, Eq.trans upd_same (congrArg (fun z => some (HO.ins a.cg dx z)) e)⟩
          · exact kE fun z => absurd e2 (by simp only [decide_eq_false_iff_not, Classical.not_not]; exact ⟨z.2.2.2.2.1, z.2.2.2.2.2⟩)
        · exact kE fun z => absurd e (by simp only [decide_eq_false_iff_not, Classical.not_not]; exact ⟨z.2.2.1, z.2.2.2.1⟩)
      · rw [if_neg (by simpa using g1)]
        exact ⟨_, rfl, fun e => absurd e Bool.noConfusion, fun _ => kE fun z => g1 ⟨z.1, z.2.1⟩⟩
end
end K68
set_option Elab.async false
set_option linter.all false
set_option maxRecDepth 100000
set_option maxHeartbeats 4000000
/-! K68G: a group laid, all begun. -/
namespace K68
open PySem L2 AB
theorem plc_mono {g : GN} {bm : Int} (ok : g.Ok bm) {at_ : Int} (h0 : 0 ≤ at_) (h1 : at_ < g.groups) {i : Nat} {b : Int} (h : (memI g at_)[i]? = some b) : 0 ≤ b ∧ b < g.many := by
  have hl := (List.getElem?_eq_some_iff.mp h).1
  rw [memI_len] at hl
  rw [memI_at hl] at h
  have e := Option.some.inj h
  have := lo_nonneg ok h0 h1
  have := hi_le_many ok h0 h1
  omega
section
variable {P : Program} {w : World} {K : PySem.W.Frag} {mg : Str → Option Value} {base : Heap} {a : Ad} {f : Addr} {fd : FuncData}
theorem ok_lay (F : Fun K "lay" "Guard.lay" s_Guard_lay f fd) (T : Txt K mg a) (G_Guard_members : GMt P w K mg base 1 a.cg "members" ["self", "group"] (spMembers a)) (G_Guard_place : GMt P w K mg base 1 a.cg "place" ["self", "block"] (spPlace a))
    (G_Guard_places : GMt P w K mg base 2 a.cg "places" ["self", "group"] (spPlaces K a)) (G_Disk_write : GMt P w K mg base 6 a.cd "write" ["self", "block", "words"] (spDiskWrite K a)) (G_sum_by : GFn P w K mg base 1 "sum_by" ["pages"] (spSumBy K)) (G_mark_by : GFn P w K mg base 1 "mark_by" ["words"] (spMarkBy K)) :
    FnOk P w K mg base (L2.CX P w) 7 f fd ["self", "group", "pages"] (spLay K a) := by
  refine okT F sc_Guard_lay (fun vs H Q E h => ?_) (fun cdv A outer s H vs Q E hr tk hp h => ?_)
  · obtain ⟨q, p, f, w, n, g, bm, D, m, at_, l, xs, ps, rfl, _⟩ := h
    rfl
  · obtain ⟨q, p, f, w, n, g, bm, D, m, at_, l, xs, ps, rfl, gd, h0, h1, hL, hlw, hpg, hps, hlen, hm, k⟩ := h
    have s14 := gd.ok.s14
    have b5 := hi_le_lo gd.ok h0 h1
    have hml : ps.length ≤ 14 := by rw [hlen, memI_len]; omega
    have hxl := pair_len hpg
    refine ⟨_, (pss_cons (ps_for hp rfl (k_piZip K (by rfl) (pi_zip (by rfl) T.n_zip (pa_cons (pe_mt (pv 0) G_Guard_members (hr.mono (by decide)) tk (pa_cons (pv 1) pa_nil)) (pa_cons (pv 2) pa_nil)))) (pg_tup rfl (pgs_cons (pg_name (i := 3) sc_Guard_lay.nd rfl (by first | exact Or.inl rfl | exact Or.inr rfl)) (pgs_cons (pg_name (i := 4) sc_Guard_lay.nd rfl (by first | exact Or.inl rfl | exact Or.inr rfl)) pgs_nil))) (pss_one (ps_expr (pe_mt (k_fld K (by rfl) (pe_fld (pv 0) (by rfl))) G_Disk_write (hr.mono (by decide)) tk (pa_cons (pe_mt (pv 0) G_Guard_place (hr.mono (by decide)) tk (pa_cons (pv 3) pa_nil)) (pa_cons (pv 4) pa_nil)))))) (pss_cons (ps_asg (pe_mt (pv 0) G_Guard_places (hr.mono (by decide)) tk (pa_cons (pv 1) pa_nil)) (pg_tup rfl (pgs_cons (pg_name (i := 5) sc_Guard_lay.nd rfl (by first | exact Or.inl rfl | exact Or.inr rfl)) (pgs_cons (pg_name (i := 6) sc_Guard_lay.nd rfl (by first | exact Or.inl rfl | exact Or.inr rfl)) pgs_nil)))) (pss_cons (ps_set (i := 7) sc_Guard_lay.nd rfl (by first | exact Or.inl rfl | exact Or.inr rfl) (pe_cl G_sum_by (hr.mono (by decide)) tk (pa_cons (pv 2) pa_nil))) (pss_cons (ps_setLc (i := 8) (own := [("words", 4)]) (g := gName 4) (tt := tYes) (by rfl) sc_Guard_lay.nd rfl rfl (sw_true rfl rfl rfl (by decide +kernel)) (k_piL K (by rfl) (pi_list (pe_lst (k_star K (by rfl) (StX.pa_star (pv 2) (pa_cons (pv 7) pa_nil)))))) (blkOk_by (own := [("words", 4)]) (N := N_Guard_lay) (sc := defScope s_Guard_lay) (by decide +kernel)) (fun _ _ _ _ _ => pg_name (i := 4) sc_Guard_lay.nd rfl (Or.inl rfl)) (fun _ _ _ _ _ => pts_nil) (fun _ _ _ _ _ => by exact (pe_cl G_mark_by (hr.mono (by decide)) takes0 (pa_cons (pv 4) pa_nil)))) (pss_cons (ps_expr (pe_mt (k_fld K (by rfl) (pe_fld (pv 0) (by rfl))) G_Disk_write (hr.mono (by decide)) tk (pa_cons (pv 5) (pa_cons (pv 7) pa_nil)))) (pss_one (ps_expr (pe_mt (k_fld K (by rfl) (pe_fld (pv 0) (by rfl))) G_Disk_write (hr.mono (by decide)) tk (pa_cons (pv 6) (pa_cons (pe_tup (k_star K (by rfl) (StX.pa_star (pv 8) (k_star K (by rfl) (StX.pa_star (pe_slice (k_slT K (by rfl)) (pe_gv T.c_ZEROS_guards) (po_some (pe_callB (k_len K (by rfl)) (by rfl) T.n_len (by decide +kernel) (pa_cons (pv 8) pa_nil))) po_none) pa_nil))))) pa_nil)))))))))), ?_⟩
    obtain ⟨dx, hq⟩ := gd.gu
    refine ⟨_, rfl, q, dx, _, rfl, hq, guardF_no (by decide +kernel), _, rfl, q, p, g, bm, at_, rfl, gd.gu, gd.ok, h0, h1, fun lm hlm => ?_⟩
    have k1 := Kp.new (o := .lst ((memI g at_).map V.int)) hlm
    have mu1 : ∀ x ∈ [w, n], Mut (upd H lm (.lst ((memI g at_).map V.int)) x) := (gd.kp0 k1).mut
    have hlmw : lm ≠ w := by
      obtain ⟨_, _, ⟨us, hW, _⟩, _⟩ := gd.dk
      exact (ne_of_none hW hlm).symm
    have hlmn : lm ≠ n := by
      obtain ⟨_, _, _, ⟨kvs, hN, _⟩, _⟩ := gd.dk
      exact (ne_of_none hN hlm).symm
    have hln : l ≠ n := by
      obtain ⟨_, _, _, ⟨kvs, hN, _⟩, _⟩ := gd.dk
      exact ne_of hL hN (by intro z; cases z)
    refine ⟨_, rfl, lm, l, _, _, rfl, SqL.of upd_same, SqL.of (k1.same _ _ hL), ?_⟩
    refine for_it (walk_zip (n := ps.length) (by rw [List.length_map, hxl, ← hlen]; simp)) (fun i σ H' => (∃ y1 y2, σ = [some (.ref q), some (.int at_), some (.ref l), y1, y2, none, none, none, none]) ∧ Kp [w, n] (upd H lm (.lst ((memI g at_).map V.int))) H' ∧ DiskAt K a.cd H' p f w n bm (layD0 g D ((memI g at_).take i) (ps.take i)) (m + i))
      ⟨⟨none, none, rfl⟩, (Kp.refl _).wide (fun b h => nomatch h) mu1, (gd.dk.kp0 k1).more (by omega)⟩ (fun i σ H' _ pv => ⟨pv.2.1.sqL (SqL.of upd_same) (by simp [hlmw, hlmn]), pv.2.1.sqL (SqL.of (k1.same _ _ hL)) (by simp [hlw, hln])⟩) ?_ ?_
    · rintro i v σ H1 H2 hi ⟨⟨y1, y2, rfl⟩, k2, d2⟩ ⟨t, x, y, rfl, ht, rfl, hx, hy⟩
      obtain ⟨b, hb, rfl⟩ := map_at (g := V.int) hx
      obtain ⟨ws, hw, tv, hwl⟩ := pair_at (i := 0) hpg hy
      have gd1 := (gd.kp0 k1).wr k2 d2
      have k3 := Kp.new (o := .tup [.int b, y]) ht
      have gd2 := gd1.kp0 k3
      obtain ⟨dx2, hq2⟩ := gd2.gu
      obtain ⟨dx3, hP2⟩ := gd2.dk.ob
      have hbb := plc_mono gd.ok h0 h1 hb
      have hpl := plc_in gd.ok hbb.1 hbb.2
      refine ⟨t, _, rfl, SqT.of upd_same, rfl, _, _, rfl, _, _, rfl, rfl, ?_⟩
      refine ⟨_, rfl, q, a.cg, dx2, _, _, rfl, hq2, T.cG, T.aG _ (by simp), guardF_d, p, dx3, _, rfl, hP2, diskF_no (by decide +kernel), _, rfl, q, dx2, _, rfl, hq2, guardF_no (by decide +kernel), _, rfl, q, p, g, bm, b, rfl, gd2.gu, gd.ok, hbb.1, hbb.2, _, rfl, ?_⟩
      refine ⟨p, f, w, n, bm, plc g b, _, _, y, ws, rfl, gd2.dk, hpl.1, by omega, by omega, (tv.kp k1).kp k2 |>.kp k3, hps ws (List.mem_of_getElem? hw), fun H3 k4 d4 => ?_⟩
      refine ⟨⟨_, _, rfl⟩, (k2.trans0 k3).trans k4 fun b hb => .inl hb, ?_⟩
      rw [layD0_take hb hw]
      exact d4
    · rintro σ H1 ⟨⟨y1, y2, rfl⟩, k2, d2⟩
      rw [List.take_of_length_le (by omega), List.take_of_length_le (by omega)] at d2
      have gd1 := (gd.kp0 k1).wr k2 d2
      obtain ⟨dx2, hq2⟩ := gd1.gu
      refine ⟨_, rfl, q, dx2, _, rfl, hq2, guardF_no (by decide +kernel), _, rfl, q, p, g, bm, at_, rfl, gd1.gu, gd.ok, h0, h1, fun H2 t k3 ht => ?_⟩
      refine ⟨t, _, rfl, SqT.of ht, rfl, _, _, rfl, _, _, rfl, rfl, ?_⟩
      have hL2 : H2 l = some (.lst xs) := k3.same _ _ (k2.st l _ (by simp [hlw, hln]) (k1.same _ _ hL))
      have hpg2 := ((hpg.kp k1).kp k2).kp k3
      refine ⟨_, rfl, l, xs, ps, rfl, .inl (SqL.of hL2), hpg2, fun H3 v k4 tv => ?_⟩
      have hL3 := k4.same _ _ hL2
      refine ⟨_, rfl, l, xs, rfl, .inr (SqL.of hL3), _, rfl, ?_⟩
      have hspg := sumP_pg hps
      have hpg3 : Pgs K H3 (xs ++ [v]) (ps ++ [sumP ps]) := AB.Paired.snoc (hpg2.kp k4) ⟨tv, (isPg_iff.mp hspg).1⟩
      have hlen3 : (xs ++ [v]).length = ps.length + 1 := by simp; omega
      refine ⟨by rw [hlen3]; exact Nat.le_trans (show ps.length + 1 ≤ 1000 by omega) (by decide), fun l2 hl2 => ⟨l2, rfl, ⟨_, SqL.of upd_same⟩, fun D1 hD1 => ?_⟩⟩
      have k5 := Kp.new (o := .lst (xs ++ [v])) hl2
      refine lc_pure walk_list (by rw [hlen3]; exact small1000 (by omega)) hD1 (fun _ => true) (fun j v _ => v = .int (mark ((ps ++ [sumP ps]).getD j []))) (fun j v H H' _ r => r) (fun H k => k.sqL0 (SqL.of upd_same)) ?_ ?_
      · rintro i x H4 H5 hi k6 ⟨rfl, hx⟩ N F' hN hF
        obtain ⟨ws, hw, tw, _⟩ := pair_at (i := 0) hpg3 hx
        refine ⟨rfl, _, rfl, x, ws, rfl, (tw.kp k5).kp k6, ?_⟩
        exact hN _ _ rfl (Kp.refl _) (by simp [List.getD_eq_getElem?_getD, hw])
      · intro H4 acc k6 hacc pr
        rw [filter_all, pair_len hpg3] at pr
        have e := Paired.eqs pr
        rw [map_range_getD (fun p => V.int (mark p))] at e
        have kz := ((k3.trans0 k4).trans0 k5).trans0 k6
        have gd4 := gd1.kp0 kz
        obtain ⟨dx4, hq4⟩ := gd4.gu
        obtain ⟨dx5, hP4⟩ := gd4.dk.ob
        have hlast := memI_last (lo_lt_hi gd.ok h0 h1)
        have hbb := plc_mono gd.ok h0 h1 hlast
        have hpl := plc_in gd.ok hbb.1 hbb.2
        refine ⟨_, rfl, q, a.cg, dx4, _, _, rfl, hq4, T.cG, T.aG _ (by simp), guardF_d, p, dx5, _, rfl, hP4, diskF_no (by decide +kernel), _, rfl, _, rfl, ?_⟩
        refine ⟨p, f, w, n, bm, sumAt g at_, _, _, v, sumP ps, rfl, gd4.dk, (by unfold sumAt; omega), (by unfold sumAt; omega), by omega, (tv.kp k5).kp k6, hspg, fun H5 k7 d5 => ?_⟩
        have gd5 := gd4.wr k7 d5
        obtain ⟨dx6, hq5⟩ := gd5.gu
        obtain ⟨dx7, hP5⟩ := gd5.dk.ob
        have hD1w : D1 ≠ w := by
          obtain ⟨_, _, ⟨us, hW, _⟩, _⟩ := (gd1.kp0 ((k3.trans0 k4).trans0 k5)).dk
          exact (ne_of_none hW hD1).symm
        have hD1n : D1 ≠ n := by
          obtain ⟨_, _, _, ⟨kvs, hN, _⟩, _⟩ := (gd1.kp0 ((k3.trans0 k4).trans0 k5)).dk
          exact (ne_of_none hN hD1).symm
        have hacc5 := k7.st D1 _ (by simp [hD1w, hD1n]) hacc
        have hal : acc.length = ps.length + 1 := by rw [e]; simp
        refine ⟨_, rfl, q, a.cg, dx6, _, _, rfl, hq5, T.cG, T.aG _ (by simp), guardF_d, p, dx7, _, rfl, hP5, diskF_no (by decide +kernel), _, rfl, _, rfl, D1, acc, rfl, .inr (SqL.of hacc5), ?_⟩
        refine ⟨_, rfl, D1, acc, rfl, .inl (SqL.of hacc5), _, rfl, a.zg, _, rfl, T.z_guards _, fun z => ?_, fun _ c hc => ?_⟩
        · have z1 := z.1
          rw [HT.sIx_nat] at z1
          have zl : (zeros.map V.int).length = 16 := rfl
          omega
        · have k8 := Kp.new (o := .tup (cutV (zeros.map V.int) (some (acc.length : Int)) none)) hc
          have ecut : acc ++ (cutV (zeros.map V.int) (some (acc.length : Int)) none ++ []) = (marksOf (ps ++ [sumP ps])).map V.int := by
            have zl : (zeros.map V.int).length = 16 := rfl
            rw [List.append_nil, cutV, HT.sIx_nat, HT.sIx_none, zl, Nat.min_eq_left (by omega), marksOf, List.map_append, List.map_drop, List.take_of_length_le (by simp [zl]), hal, e]
            simp
          refine ⟨c, _, rfl, .inl (SqT.of upd_same), ?_⟩
          refine ⟨?_, fun t2 ht2 => ?_⟩
          · rw [ecut, List.length_map, (isPg_iff.mp (marksOf_pg (qs := ps ++ [sumP ps]) (by simp; omega))).1]
            decide
          · rw [ecut]
            have k9 := Kp.new (o := .tup ((marksOf (ps ++ [sumP ps])).map V.int)) ht2
            refine ⟨p, f, w, n, bm, marksAt g at_, _, _, .ref t2, marksOf (ps ++ [sumP ps]), rfl, (gd5.kp0 (k8.trans0 k9)).dk, (by unfold marksAt; omega), (by unfold marksAt; omega), by omega, ⟨t2, rfl, SqT.of upd_same⟩, marksOf_pg (by simp; omega), fun H6 k10 d6 => ?_⟩
            refine k _ ?_ (d6.more (by omega))
            have kA : Kp [w, n] H (upd H lm (.lst ((memI g at_).map V.int))) := k1.wide (fun b h => nomatch h) gd.mut
            exact ((((kA.trans1 k2).trans0 kz).trans1 k7).trans0 (k8.trans0 k9)).trans1 k10
end
end K68
set_option Elab.async false
set_option linter.all false
set_option maxRecDepth 100000
set_option maxHeartbeats 4000000
/-! K68H: all begun; a group read, healed. -/
namespace K68
open PySem L2 AB
def zerosOf (g : GN) (at_ : Int) : List (List Int) := (memI g at_).map fun _ => zeros
def beginD (g : GN) (D : Int → List Int) : Nat → Int → List Int
  | 0 => D
  | k + 1 => layD g (beginD g D k) (k : Int) (zerosOf g (k : Int))
def spBegin (K : PySem.W.Frag) (a : Ad) : Sp := fun vs H Q _ => ∃ (q p f w n : Addr) (g : GN) (bm : Int) (D : Int → List Int) (m : Nat), vs = [.ref q] ∧ Gd K a H q p f w n g bm D m ∧ g.groups ≤ 100 ∧ m ≤ 1000 ∧
  ∀ H', Kp [w, n] H H' → DiskAt K a.cd H' p f w n bm (beginD g D g.groups.toNat) (m + 16 * g.groups.toNat) → Q .non H'
/-- what is read of a group: its pages, and the sum -/
def rdP (g : GN) (D : Int → List Int) (at_ : Int) : List (List Int) := (memI g at_).map (fun b => D (plc g b)) ++ [D (sumAt g at_)]
def badI (g : GN) (D : Int → List Int) (at_ : Int) : List Nat := (List.range (rdP g D at_).length).filter fun i => decide (mark ((rdP g D at_).getD i []) ≠ (D (marksAt g at_)).getD i 0)
def othersP (ps : List (List Int)) (i : Nat) : List (List Int) := ((List.range ps.length).filter fun j => decide (j ≠ i)).map fun j => ps.getD j []
def healM (g : GN) (D : Int → List Int) (at_ : Int) : List (List Int) × List Nat := match badI g D at_ with
  | [i] => if mark (sumP (othersP (rdP g D at_) i)) = (D (marksAt g at_)).getD i 0 then ((rdP g D at_).set i (sumP (othersP (rdP g D at_) i)), []) else (rdP g D at_, [i])
  | b => (rdP g D at_, b)
/-- a pair of new lists: pages, numbers -/
structure Two (K : PySem.W.Frag) (H H' : Hp) (t lp lb : Addr) (ps : List (List Int)) (bad : List Nat) : Prop where
  tu : H' t = some (.tup [.ref lp, .ref lb])
  np : H lp = none
  nb : H lb = none
  ne : lp ≠ lb
  pg : ∃ xs, H' lp = some (.lst xs) ∧ Pgs K H' xs ps
  bd : H' lb = some (.lst (bad.map fun i => V.int (i : Nat)))
def spReadGroup (K : PySem.W.Frag) (a : Ad) : Sp := fun vs H Q _ => ∃ (q p f w n : Addr) (g : GN) (bm : Int) (D : Int → List Int) (m : Nat) (at_ : Int), vs = [.ref q, .int at_] ∧ Gd K a H q p f w n g bm D m ∧ 0 ≤ at_ ∧ at_ < g.groups ∧
  ∀ H' t lp lb, Kp [] H H' → Two K H H' t lp lb (rdP g D at_) (badI g D at_) → Q (.ref t) H'
def spHealed (K : PySem.W.Frag) (a : Ad) : Sp := fun vs H Q _ => ∃ (q p f w n : Addr) (g : GN) (bm : Int) (D : Int → List Int) (m : Nat) (at_ : Int), vs = [.ref q, .int at_] ∧ Gd K a H q p f w n g bm D m ∧ 0 ≤ at_ ∧ at_ < g.groups ∧
  ∀ H' t lp lb, Kp [] H H' → Two K H H' t lp lb (healM g D at_).1 (healM g D at_).2 → Q (.ref t) H'
section
variable {P : Program} {w : World} {K : PySem.W.Frag} {mg : Str → Option Value} {base : Heap} {a : Ad} {f : Addr} {fd : FuncData}
theorem ok_begin (F : Fun K "begin" "Guard.begin" s_Guard_begin f fd) (T : Txt K mg a) (G_Guard_members : GMt P w K mg base 1 a.cg "members" ["self", "group"] (spMembers a)) (G_Guard_lay : GMt P w K mg base 7 a.cg "lay" ["self", "group", "pages"] (spLay K a)) :
    FnOk P w K mg base (L2.CX P w) 8 f fd ["self"] (spBegin K a) := by
  refine okT F sc_Guard_begin (fun vs H Q E h => ?_) (fun cdv A outer s H vs Q E hr tk hp h => ?_)
  · obtain ⟨q, p, f, w, n, g, bm, D, m, rfl, _⟩ := h
    rfl
  · obtain ⟨q, p, f, w, n, g, bm, D, m, rfl, gd, hg, hm, k⟩ := h
    obtain ⟨dx, hq⟩ := gd.gu
    have gr := gd.ok.gr
    have s1 := gd.ok.s1
    have g0 : 0 ≤ g.groups := by
      have m1 := gd.ok.m1
      have : (-g.many) / g.size < 1 := Int.ediv_lt_of_lt_mul (by omega) (by omega)
      omega
    refine ⟨_, (pss_one (ps_for hp rfl (pi_range1 (by rfl) T.n_range (pa_cons (k_fld K (by rfl) (pe_fld (pv 0) (by rfl))) pa_nil)) (pg_name (i := 1) sc_Guard_begin.nd rfl (by first | exact Or.inl rfl | exact Or.inr rfl)) (pss_one (ps_expr (pe_mt (pv 0) G_Guard_lay (hr.mono (by decide)) tk (pa_cons (pv 1) (pa_cons (pe_lc (own := [("_", 2)]) (g := gName 2) (tt := tYes) (by rfl) sc_Guard_begin.nd (k_piL K (by rfl) (pi_list (pe_mt (pv 0) G_Guard_members (hr.mono (by decide)) tk (pa_cons (pv 1) pa_nil)))) (blkOk_by (own := [("_", 2)]) (N := N_Guard_begin) (sc := defScope s_Guard_begin) (by decide +kernel)) (fun _ _ _ _ _ => pg_name (i := 2) sc_Guard_begin.nd rfl (Or.inl rfl)) (fun _ _ _ _ _ => pts_nil) (fun _ _ _ _ _ => by exact (pe_gv T.c_ZEROS_guards))) pa_nil))))))), ?_⟩
    refine ⟨_, rfl, q, a.cg, dx, _, _, rfl, hq, T.cG, T.aG _ (by simp), guardF_g, _, rfl, by omega, by omega, ?_⟩
    refine for_it walk_range (fun i σ H' => (∃ y, σ = [some (.ref q), y, none]) ∧ Kp [w, n] H H' ∧ DiskAt K a.cd H' p f w n bm (beginD g D i) (m + 16 * i)) ⟨⟨none, rfl⟩, (Kp.refl H).wide (fun b h => nomatch h) gd.mut, gd.dk⟩ (fun _ _ _ _ _ => trivial) ?_ ?_
    · rintro i v σ H1 H2 hi ⟨⟨y, rfl⟩, k1, d1⟩ ⟨rfl, hv⟩
      obtain rfl : v = .int (i : Int) := by rw [hv]; exact congrArg V.int (Int.zero_add _)
      have gd1 := gd.wr k1 d1
      obtain ⟨dx1, hq1⟩ := gd1.gu
      have i0 : (0 : Int) ≤ (i : Int) := by omega
      have i1 : (i : Int) < g.groups := by omega
      refine ⟨_, rfl, q, dx1, _, rfl, hq1, guardF_no (by decide +kernel), _, rfl, _, rfl, q, dx1, _, rfl, hq1, guardF_no (by decide +kernel), _, rfl, q, p, g, bm, (i : Int), rfl, gd1.gu, gd.ok, i0, i1, fun lm hlm => ⟨lm, rfl, ⟨_, SqL.of upd_same⟩, fun D1 hD1 => ?_⟩⟩
      have k2 := Kp.new (o := .lst ((memI g (i : Int)).map V.int)) hlm
      have hml : (memI g (i : Int)).length ≤ 14 := by
        have := hi_le_lo gd.ok i0 i1
        have := gd.ok.s14
        rw [memI_len]
        omega
      refine lc_pure walk_list (by rw [List.length_map]; exact small1000 (by omega)) hD1 (fun _ => true) (fun j v _ => v = .ref a.zg) (fun j v H H' _ r => r) (fun H k => k.sqL0 (SqL.of upd_same)) ?_ ?_
      · rintro j x H3 H4 hj k3 ⟨rfl, hx⟩ N F' hN hF
        exact ⟨rfl, hN _ _ rfl (Kp.refl _) rfl⟩
      · intro H3 acc k3 hacc pr
        rw [filter_all, List.length_map] at pr
        have e := Paired.eqs pr
        have kk := k2.trans0 k3
        have gd3 := gd1.kp0 kk
        have hD1w : D1 ≠ w := by
          obtain ⟨_, _, ⟨us, hW, _⟩, _⟩ := (gd1.kp0 k2).dk
          exact (ne_of_none hW hD1).symm
        refine ⟨q, p, f, w, n, g, bm, _, _, (i : Int), D1, acc, zerosOf g (i : Int), rfl, gd3, i0, i1, hacc, hD1w, ?_, ?_, (by simp [zerosOf]), by omega, fun H4 k4 d4 => ?_⟩
        · rw [e, zerosOf]
          have go : ∀ (xs : List Int) (n : Nat), n = xs.length → Pgs K H3 ((List.range n).map fun _ => V.ref a.zg) (xs.map fun _ => zeros) := by
            intro xs n hn
            have e1 : ((List.range n).map fun _ => V.ref a.zg) = List.replicate n (V.ref a.zg) := by simp [List.eq_replicate_iff]
            have e2 : (xs.map fun _ => zeros) = List.replicate n zeros := by simp [List.eq_replicate_iff, hn]
            rw [e1, e2]
            clear e1 e2 hn
            induction n with
            | zero => exact .nil
            | succ n ih => exact .cons ⟨⟨a.zg, rfl, T.z_guards _⟩, rfl⟩ ih
          exact go _ _ rfl
        · intro p hp
          obtain ⟨_, _, rfl⟩ := List.mem_map.mp hp
          exact zeros_pg
        · exact ⟨⟨_, rfl⟩, (k1.trans0 kk).trans1 (k4.wide (fun b h => h) gd3.mut |> fun z => ⟨fun b o hb e => z.st b o hb e, z.mu, z.fr⟩), d4.more (by omega)⟩
    · rintro σ H1 ⟨⟨y, rfl⟩, k1, d1⟩
      exact k _ k1 d1
theorem pgs_of {K : PySem.W.Frag} {H : Hp} {φ : Nat → List Int} (hφ : ∀ j, (φ j).length = 16) : ∀ {xs : List Nat} {ys : List V}, Paired (fun j v => TI K H v (φ j)) xs ys → Pgs K H ys (xs.map φ)
  | _, _, .nil => .nil
  | _, _, .cons r t => .cons ⟨r, hφ _⟩ (pgs_of hφ t)
theorem rdP_len (g : GN) (D : Int → List Int) (at_ : Int) : (rdP g D at_).length = (memI g at_).length + 1 := by simp [rdP]
theorem rdP_pg {g : GN} {D : Int → List Int} {at_ : Int} (h : ∀ b, isPg (D b) = true) : ∀ p ∈ rdP g D at_, isPg p = true := by
  intro p hp
  rcases List.mem_append.mp hp with e | e
  · obtain ⟨b, _, rfl⟩ := List.mem_map.mp e
    exact h _
  · rw [List.mem_singleton.mp e]
    exact h _
theorem ok_read_group (F : Fun K "read_group" "Guard.read_group" s_Guard_read_group f fd) (T : Txt K mg a) (G_Guard_members : GMt P w K mg base 1 a.cg "members" ["self", "group"] (spMembers a)) (G_Guard_place : GMt P w K mg base 1 a.cg "place" ["self", "block"] (spPlace a))
    (G_Guard_places : GMt P w K mg base 2 a.cg "places" ["self", "group"] (spPlaces K a)) (G_Disk_read : GMt P w K mg base 4 a.cd "read" ["self", "block"] (spDiskRead K a)) (G_mark_by : GFn P w K mg base 1 "mark_by" ["words"] (spMarkBy K)) :
    FnOk P w K mg base (L2.CX P w) 5 f fd ["self", "group"] (spReadGroup K a) := by
  refine okT F sc_Guard_read_group (fun vs H Q E h => ?_) (fun cdv A outer s H vs Q E hr tk hp h => ?_)
  · obtain ⟨q, p, f, w, n, g, bm, D, m, at_, rfl, _⟩ := h
    rfl
  · obtain ⟨q, p, f, w, n, g, bm, D, m, at_, rfl, gd, h0, h1, k⟩ := h
    have s14 := gd.ok.s14
    have b5 := hi_le_lo gd.ok h0 h1
    have hml : (memI g at_).length ≤ 14 := by rw [memI_len]; omega
    have hlast := memI_last (lo_lt_hi gd.ok h0 h1)
    have hbl := plc_mono gd.ok h0 h1 hlast
    have hpl := plc_in gd.ok hbl.1 hbl.2
    have hD := gd.dk.pg
    obtain ⟨dx, hq⟩ := gd.gu
    refine ⟨_, (pss_cons (ps_asg (pe_mt (pv 0) G_Guard_places (hr.mono (by decide)) tk (pa_cons (pv 1) pa_nil)) (pg_tup rfl (pgs_cons (pg_name (i := 2) sc_Guard_read_group.nd rfl (by first | exact Or.inl rfl | exact Or.inr rfl)) (pgs_cons (pg_name (i := 3) sc_Guard_read_group.nd rfl (by first | exact Or.inl rfl | exact Or.inr rfl)) pgs_nil)))) (pss_cons (ps_set (i := 4) sc_Guard_read_group.nd rfl (by first | exact Or.inl rfl | exact Or.inr rfl) (pe_op op_cat (pe_lc (own := [("block", 6)]) (g := gName 6) (tt := tYes) (by rfl) sc_Guard_read_group.nd (k_piL K (by rfl) (pi_list (pe_mt (pv 0) G_Guard_members (hr.mono (by decide)) tk (pa_cons (pv 1) pa_nil)))) (blkOk_by (own := [("block", 6)]) (N := N_Guard_read_group) (sc := defScope s_Guard_read_group) (by decide +kernel)) (fun _ _ _ _ _ => pg_name (i := 6) sc_Guard_read_group.nd rfl (Or.inl rfl)) (fun _ _ _ _ _ => pts_nil) (fun _ _ _ _ _ => by exact (pe_mt (k_fld K (by rfl) (pe_fld (pv 0) (by rfl))) G_Disk_read (hr.mono (by decide)) takes0 (pa_cons (pe_mt (pv 0) G_Guard_place (hr.mono (by decide)) takes0 (pa_cons (pv 6) pa_nil)) pa_nil)))) (pe_lst (pa_cons (pe_mt (k_fld K (by rfl) (pe_fld (pv 0) (by rfl))) G_Disk_read (hr.mono (by decide)) tk (pa_cons (pv 2) pa_nil)) pa_nil)))) (pss_cons (ps_set (i := 5) sc_Guard_read_group.nd rfl (by first | exact Or.inl rfl | exact Or.inr rfl) (pe_mt (k_fld K (by rfl) (pe_fld (pv 0) (by rfl))) G_Disk_read (hr.mono (by decide)) tk (pa_cons (pv 3) pa_nil))) (pss_one (ps_ret (pe_tup (pa_cons (pv 4) (pa_cons (pe_lc (own := [("at", 7), ("words", 8)]) (g := gTup K 2 (gCons (gName 7) (gCons (gName 8) gNil))) (by rfl) sc_Guard_read_group.nd (k_piEnum K (by rfl) (pi_enum (by rfl) T.n_enumerate (pa_cons (pv 4) pa_nil))) (blkOk_by (own := [("at", 7), ("words", 8)]) (N := N_Guard_read_group) (sc := defScope s_Guard_read_group) (by decide +kernel)) (fun _ _ _ _ _ => pg_tup rfl (pgs_cons (pg_name (i := 7) sc_Guard_read_group.nd rfl (Or.inl rfl)) (pgs_cons (pg_name (i := 8) sc_Guard_read_group.nd rfl (Or.inl rfl)) pgs_nil))) (fun _ _ _ _ _ => by exact pts_one (pt_cmpR op_ne (pe_cl G_mark_by (hr.mono (by decide)) takes0 (pa_cons (pv 8) pa_nil)) (pe_ix (k_ixT K (by rfl)) (pv 5) (pv 7) (fun _ _ => rfl)) (nomark _))) (fun _ _ _ _ _ => by exact (pv 7))) pa_nil)))))))), ?_⟩
    refine ⟨_, rfl, q, dx, _, rfl, hq, guardF_no (by decide +kernel), _, rfl, q, p, g, bm, at_, rfl, gd.gu, gd.ok, h0, h1, fun H1 t k1 ht => ⟨t, _, rfl, SqT.of ht, rfl, _, _, rfl, _, _, rfl, rfl, ?_⟩⟩
    have gd1 := gd.kp0 k1
    obtain ⟨dx1, hq1⟩ := gd1.gu
    refine ⟨_, rfl, q, dx1, _, rfl, hq1, guardF_no (by decide +kernel), _, rfl, q, p, g, bm, at_, rfl, gd1.gu, gd.ok, h0, h1, fun lm hlm => ⟨lm, rfl, ⟨_, SqL.of upd_same⟩, fun D1 hD1 => ?_⟩⟩
    have k2 := Kp.new (o := .lst ((memI g at_).map V.int)) hlm
    refine lc_pure walk_list (by rw [List.length_map]; exact small1000 (by omega)) hD1 (fun _ => true) (fun j v H => TI K H v (D (plc g ((memI g at_).getD j 0)))) (fun j v H H' k r => r.kp k) (fun H k => k.sqL0 (SqL.of upd_same)) ?_ ?_
    · rintro j x H3 H4 hj k3 ⟨rfl, hx⟩ N F' hN hF
      obtain ⟨b, hb, rfl⟩ := map_at (g := V.int) hx
      have hbb := plc_mono gd.ok h0 h1 hb
      have hpb := plc_in gd.ok hbb.1 hbb.2
      have gd3 := gd1.kp0 (k2.trans0 k3)
      obtain ⟨dx3, hq3⟩ := gd3.gu
      obtain ⟨dx4, hP3⟩ := gd3.dk.ob
      refine ⟨rfl, _, rfl, q, a.cg, dx3, _, _, rfl, hq3, T.cG, T.aG _ (by simp), guardF_d, p, dx4, _, rfl, hP3, diskF_no (by decide +kernel), _, rfl, q, dx3, _, rfl, hq3, guardF_no (by decide +kernel), _, rfl, q, p, g, bm, b, rfl, gd3.gu, gd.ok, hbb.1, hbb.2, ?_⟩
      refine ⟨p, f, w, n, bm, plc g b, D, m, rfl, gd3.dk, hpb.1, by omega, fun v tv => ?_⟩
      exact hN _ _ rfl (Kp.refl _) (by simpa [List.getD_eq_getElem?_getD, hb] using tv)
    · intro H3 acc k3 hacc pr
      rw [filter_all, List.length_map] at pr
      have pg3 : Pgs K H3 acc ((memI g at_).map fun b => D (plc g b)) := by
        have z := pgs_of (fun j => (isPg_iff.mp (hD (plc g ((memI g at_).getD j 0)))).1) pr
        rw [map_range_getD (fun b => D (plc g b))] at z
        exact z
      have gd3 := gd1.kp0 (k2.trans0 k3)
      obtain ⟨dx3, hq3⟩ := gd3.gu
      obtain ⟨dx4, hP3⟩ := gd3.dk.ob
      refine ⟨_, rfl, q, a.cg, dx3, _, _, rfl, hq3, T.cG, T.aG _ (by simp), guardF_d, p, dx4, _, rfl, hP3, diskF_no (by decide +kernel), _, rfl, p, f, w, n, bm, sumAt g at_, D, m, rfl, gd3.dk, (by unfold sumAt; omega), (by unfold sumAt; omega), fun v tv => ?_⟩
      refine ⟨(by show 1 ≤ sizeLine; decide), fun l1 hl1 => ?_⟩
      have k4 := Kp.new (o := .lst [v]) hl1
      have hal : acc.length = (memI g at_).length := by rw [pair_len pg3, List.length_map]
      refine ⟨D1, l1, acc, [v], rfl, rfl, k4.same _ _ hacc, upd_same, Nat.le_trans (show acc.length + 1 ≤ 1000 by omega) (by decide), fun lp hlp => ?_⟩
      have k5 := Kp.new (o := .lst (acc ++ [v])) hlp
      have pg5 : Pgs K (upd (upd H3 l1 (.lst [v])) lp (.lst (acc ++ [v]))) (acc ++ [v]) (rdP g D at_) := AB.Paired.snoc ((pg3.kp k4).kp k5) ⟨(tv.kp k4).kp k5, (isPg_iff.mp (hD _)).1⟩
      have gd5 := gd3.kp0 (k4.trans0 k5)
      obtain ⟨dx5, hq5⟩ := gd5.gu
      obtain ⟨dx6, hP5⟩ := gd5.dk.ob
      refine ⟨_, rfl, q, a.cg, dx5, _, _, rfl, hq5, T.cG, T.aG _ (by simp), guardF_d, p, dx6, _, rfl, hP5, diskF_no (by decide +kernel), _, rfl, p, f, w, n, bm, marksAt g at_, D, m, rfl, gd5.dk, (by unfold marksAt; omega), (by unfold marksAt; omega), fun v2 tv2 => ?_⟩
      obtain ⟨tm, rfl, htm⟩ := id tv2
      refine ⟨_, rfl, _, rfl, lp, _, rfl, SqL.of upd_same, fun D2 hD2 => ?_⟩
      have hdl := (isPg_iff.mp (hD (marksAt g at_))).1
      refine lc_pure walk_enum (by simp; exact small1000 (by omega)) hD2 (fun i => decide (mark ((rdP g D at_).getD i []) ≠ (D (marksAt g at_)).getD i 0)) (fun j v _ => v = .int (j : Nat)) (fun j v H H' _ r => r) (fun H k => k.sqL0 (SqL.of upd_same)) ?_ ?_
      · rintro j x H6 H7 hj k6 ⟨T', x1, x2, rfl, hT, rfl, hx1, hx2⟩ N F' hN hF
        obtain rfl : V.int (j : Nat) = x1 := Option.some.inj hx1
        obtain ⟨ws, hw, tw, _⟩ := pair_at (i := 0) pg5 hx2
        have k7 := Kp.new (o := .tup [V.int (j : Nat), x2]) hT
        have hj2 : j < (D (marksAt g at_)).length := by
          have hj' : j < acc.length + 1 := by simpa using hj
          omega
        refine ⟨T', _, rfl, SqT.of upd_same, rfl, _, _, rfl, _, _, rfl, rfl, rfl, _, rfl, x2, ws, rfl, (tw.kp k6).kp k7, _, rfl, _, rfl, tm, _, _, _, rfl, rfl, k7.sqT (k6.sqT htm), atI_nat (v := .int ((D (marksAt g at_)).getD j 0)) ?_, rfl, _, rfl, ?_⟩
        · rw [List.getElem?_map, List.getElem?_eq_getElem hj2]
          simp [List.getD_eq_getElem?_getD, hj2]
        · have ew : (rdP g D at_).getD j [] = ws := by simp [List.getD_eq_getElem?_getD, hw]
          refine ite_of (fun e => ?_) (fun e => ?_)
          · have hc : mark ws ≠ (D (marksAt g at_)).getD j 0 := by
              intro z
              rw [z] at e
              simp at e
            exact ⟨_, rfl, hN _ _ (by rw [ew]; simpa using hc) k7 rfl⟩
          · have hc : mark ws = (D (marksAt g at_)).getD j 0 := by
              have e' : decide (V.int (mark ws) = V.int ((D (marksAt g at_)).getD j 0)) = true := by simpa using e
              exact V.int.inj (of_decide_eq_true e')
            exact hF _ (by rw [ew]; simpa using hc) k7
      · intro H6 lb k6 hlb pr2
        have hlen5 := pair_len pg5
        rw [hlen5] at pr2
        have e2 := Paired.eqs pr2
        refine ⟨(by show 2 ≤ sizeLine; decide), fun t2 ht2 => ?_⟩
        have k8 := Kp.new (o := .tup [V.ref lp, .ref D2]) ht2
        have hlp6 := k6.same _ _ (upd_same (H := upd H3 l1 (.lst [v])) (a := lp) (o := .lst (acc ++ [v])))
        have hall := (((k1.trans0 k2).trans0 k3).trans0 k4).trans0 k5
        refine k _ t2 lp D2 ((hall.trans0 k6).trans0 k8) ⟨upd_same, (((k1.trans0 k2).trans0 k3).trans0 k4).fr _ hlp, hall.fr _ hD2, ne_of_none (upd_same (H := upd H3 l1 (.lst [v])) (a := lp) (o := .lst (acc ++ [v]))) hD2, ⟨_, k8.same _ _ hlp6, (pg5.kp k6).kp k8⟩, k8.same _ _ (by rw [hlb, e2]; rfl)⟩
end
end K68
set_option Elab.async false
set_option linter.all false
set_option maxRecDepth 100000
set_option maxHeartbeats 4000000
/-! K68I: a group healed, a block read. -/
namespace K68
open PySem L2 AB
theorem pgs_of2 {K : PySem.W.Frag} {H : Hp} {φ : Nat → List Int} : ∀ {xs : List Nat} {ys : List V}, Paired (fun j v => TI K H v (φ j) ∧ (φ j).length = 16) xs ys → Pgs K H ys (xs.map φ)
  | _, _, .nil => .nil
  | _, _, .cons r t => .cons r (pgs_of2 t)
theorem Paired.set' {α β : Type} {R : α → β → Prop} {x : α} {y : β} (r : R x y) : ∀ {xs : List α} {ys : List β} {i : Nat}, Paired R xs ys → Paired R (xs.set i x) (ys.set i y)
  | _, _, _, .nil => .nil
  | _, _, 0, .cons _ t => .cons r t
  | _, _, i + 1, .cons r' t => .cons r' (Paired.set' r t)
theorem ixN_nat {n i : Nat} (h : i < n) : ixN n (i : Int) = some i := by
  unfold ixN
  rw [if_pos (by omega), if_pos (by omega)]
  rfl
theorem badI_lt {g : GN} {D : Int → List Int} {at_ : Int} {i : Nat} (h : i ∈ badI g D at_) : i < (rdP g D at_).length := by
  have := (List.mem_filter.mp h).1
  exact List.mem_range.mp this
section
variable {P : Program} {w : World} {K : PySem.W.Frag} {mg : Str → Option Value} {base : Heap} {a : Ad} {f : Addr} {fd : FuncData}
theorem ok_healed (F : Fun K "healed" "Guard.healed" s_Guard_healed f fd) (T : Txt K mg a) (G_Guard_read_group : GMt P w K mg base 5 a.cg "read_group" ["self", "group"] (spReadGroup K a)) (G_Guard_places : GMt P w K mg base 2 a.cg "places" ["self", "group"] (spPlaces K a))
    (G_Disk_read : GMt P w K mg base 4 a.cd "read" ["self", "block"] (spDiskRead K a)) (G_mark_by : GFn P w K mg base 1 "mark_by" ["words"] (spMarkBy K)) (G_sum_by : GFn P w K mg base 1 "sum_by" ["pages"] (spSumBy K)) :
    FnOk P w K mg base (L2.CX P w) 6 f fd ["self", "group"] (spHealed K a) := by
  refine okT F sc_Guard_healed (fun vs H Q E h => ?_) (fun cdv A outer s H vs Q E hr tk hp h => ?_)
  · obtain ⟨q, p, f, w, n, g, bm, D, m, at_, rfl, _⟩ := h
    rfl
  · obtain ⟨q, p, f, w, n, g, bm, D, m, at_, rfl, gd, h0, h1, k⟩ := h
    have s14 := gd.ok.s14
    have b5 := hi_le_lo gd.ok h0 h1
    have hml : (memI g at_).length ≤ 14 := by rw [memI_len]; omega
    have hlast := memI_last (lo_lt_hi gd.ok h0 h1)
    have hbl := plc_mono gd.ok h0 h1 hlast
    have hpl := plc_in gd.ok hbl.1 hbl.2
    have hD := gd.dk.pg
    have hrl : (rdP g D at_).length ≤ 15 := by rw [rdP_len]; omega
    have hrp := rdP_pg (g := g) (at_ := at_) hD
    obtain ⟨dx, hq⟩ := gd.gu
    refine ⟨_, (pss_cons (ps_asg (pe_mt (pv 0) G_Guard_read_group (hr.mono (by decide)) tk (pa_cons (pv 1) pa_nil)) (pg_tup rfl (pgs_cons (pg_name (i := 2) sc_Guard_healed.nd rfl (by first | exact Or.inl rfl | exact Or.inr rfl)) (pgs_cons (pg_name (i := 3) sc_Guard_healed.nd rfl (by first | exact Or.inl rfl | exact Or.inr rfl)) pgs_nil)))) (pss_cons (ps_if (pt_cmpR op_ne (pe_callB (k_len K (by rfl)) (by rfl) T.n_len (by decide +kernel) (pa_cons (pv 3) pa_nil)) pe_int (nomark _)) (pss_one (ps_ret (pe_tup (pa_cons (pv 2) (pa_cons (pv 3) pa_nil))))) pss_nil) (pss_cons (ps_setLc (i := 4) (own := [("at", 6), ("words", 7)]) (g := gTup K 2 (gCons (gName 6) (gCons (gName 7) gNil))) (by rfl) sc_Guard_healed.nd rfl rfl (sw_true rfl rfl rfl (by decide +kernel)) (k_piEnum K (by rfl) (pi_enum (by rfl) T.n_enumerate (pa_cons (pv 2) pa_nil))) (blkOk_by (own := [("at", 6), ("words", 7)]) (N := N_Guard_healed) (sc := defScope s_Guard_healed) (by decide +kernel)) (fun _ _ _ _ _ => pg_tup rfl (pgs_cons (pg_name (i := 6) sc_Guard_healed.nd rfl (Or.inl rfl)) (pgs_cons (pg_name (i := 7) sc_Guard_healed.nd rfl (Or.inl rfl)) pgs_nil))) (fun _ _ _ _ _ => by exact pts_one (pt_cmpR op_ne (pv 6) (pe_ix (k_ixL K (by rfl)) (pv 3) pe_int (fun _ _ => rfl)) (nomark _))) (fun _ _ _ _ _ => by exact (pv 7))) (pss_cons (ps_set (i := 5) sc_Guard_healed.nd rfl (by first | exact Or.inl rfl | exact Or.inr rfl) (pe_cl G_sum_by (hr.mono (by decide)) tk (pa_cons (pv 4) pa_nil))) (pss_cons (ps_if (pt_cmpR op_ne (pe_cl G_mark_by (hr.mono (by decide)) tk (pa_cons (pv 5) pa_nil)) (pe_ix (k_ixT K (by rfl)) (pe_mt (k_fld K (by rfl) (pe_fld (pv 0) (by rfl))) G_Disk_read (hr.mono (by decide)) tk (pa_cons (pe_ix (k_ixT K (by rfl)) (pe_mt (pv 0) G_Guard_places (hr.mono (by decide)) tk (pa_cons (pv 1) pa_nil)) pe_int (fun _ _ => rfl)) pa_nil)) (pe_ix (k_ixL K (by rfl)) (pv 3) pe_int (fun _ _ => rfl)) (fun _ _ => rfl)) (nomark _)) (pss_one (ps_ret (pe_tup (pa_cons (pv 2) (pa_cons (pv 3) pa_nil))))) pss_nil) (pss_cons (ps_asg (pv 5) (pg_sub (pv 2) (pe_ix (k_ixL K (by rfl)) (pv 3) pe_int (fun _ _ => rfl)) set_list)) (pss_one (ps_ret (pe_tup (pa_cons (pv 2) (pa_cons (pe_lst pa_nil) pa_nil))))))))))), ?_⟩
    refine ⟨_, rfl, q, dx, _, rfl, hq, guardF_no (by decide +kernel), _, rfl, q, p, f, w, n, g, bm, D, m, at_, rfl, gd, h0, h1, fun H1 t lp lb k1 tw => ⟨t, _, rfl, SqT.of tw.tu, rfl, _, _, rfl, _, _, rfl, rfl, ?_⟩⟩
    have back : healM g D at_ = (rdP g D at_, badI g D at_) → ∀ t2, H1 t2 = none → Q (.ref t2) (upd H1 t2 (.tup [V.ref lp, .ref lb])) := by
      intro e t2 ht2
      have k2 := Kp.new (o := .tup [V.ref lp, .ref lb]) ht2
      obtain ⟨xs, hx, hpx⟩ := tw.pg
      exact k _ t2 lp lb (k1.trans0 k2) (by rw [e]; exact ⟨upd_same, tw.np, tw.nb, tw.ne, ⟨xs, k2.same _ _ hx, hpx.kp k2⟩, k2.same _ _ tw.bd⟩)
    refine ⟨_, rfl, lb, _, rfl, .inl (SqL.of tw.bd), rfl, _, rfl, ?_⟩
    have two : 2 ≤ sizeLine := by decide
    rcases hb : badI g D at_ with _ | ⟨i, _ | ⟨j, r⟩⟩
    · refine ite_of (fun e => ?_) (fun e => ?_)
      · exact ⟨_, rfl, _, rfl, two, back (by unfold healM; rw [hb])⟩
      · exact absurd e (by simp)
    · refine ite_of (fun e => ?_) (fun e => ?_)
      · exact absurd e (by simp)
      · obtain ⟨xs, hx, hpx⟩ := tw.pg
        have hbd : H1 lb = some (.lst [V.int (i : Nat)]) := by
          rw [tw.bd, hb]
          rfl
        have hi : i < (rdP g D at_).length := badI_lt (by rw [hb]; simp)
        have hxl := pair_len hpx
        refine ⟨_, rfl, lp, _, rfl, SqL.of hx, fun D1 hD1 => ?_⟩
        refine lc_pure walk_enum (small1000 (by omega)) hD1 (fun j => decide (j ≠ i)) (fun j v H => TI K H v ((rdP g D at_).getD j []) ∧ ((rdP g D at_).getD j []).length = 16) (fun j v H H' k r => ⟨r.1.kp k, r.2⟩) (fun H k => k.sqL0 (SqL.of hx)) ?_ ?_
        · rintro j x H6 H7 hj k6 ⟨T', x1, x2, rfl, hT, rfl, hx1, hx2⟩ N F' hN hF
          obtain rfl : V.int (j : Nat) = x1 := Option.some.inj hx1
          obtain ⟨ws, hw, tw2, hwl⟩ := pair_at (i := 0) hpx hx2
          have k7 := Kp.new (o := .tup [V.int (j : Nat), x2]) hT
          have ew : (rdP g D at_).getD j [] = ws := by simp [List.getD_eq_getElem?_getD, hw]
          refine ⟨T', _, rfl, SqT.of upd_same, rfl, _, _, rfl, _, _, rfl, rfl, rfl, _, rfl, _, rfl, lb, _, 0, _, rfl, rfl, SqL.of (k7.same _ _ (k6.same _ _ hbd)), rfl, rfl, _, rfl, ?_⟩
          refine ite_of (fun e => ?_) (fun e => ?_)
          · have hc : j ≠ i := by
              intro z
              rw [z] at e
              simp at e
            exact ⟨_, rfl, hN _ _ (by simpa using hc) k7 (by rw [ew]; exact ⟨(tw2.kp k6).kp k7, hwl⟩)⟩
          · have hc : j = i := by
              have e' : decide (V.int (j : Nat) = V.int (i : Nat)) = true := by simpa using e
              have := V.int.inj (of_decide_eq_true e')
              omega
            exact hF _ (by simpa using hc) k7
        · intro H6 acc k6 hacc pr
          have pg6 := pgs_of2 pr
          rw [hxl] at pg6
          have hop : ∀ p ∈ othersP (rdP g D at_) i, isPg p = true := by
            intro p hp
            obtain ⟨j, hj, rfl⟩ := List.mem_map.mp hp
            have hj' := List.mem_range.mp (List.mem_filter.mp hj).1
            rw [List.getD_eq_getElem?_getD, List.getElem?_eq_getElem hj']
            exact hrp _ (List.getElem_mem hj')
          refine ⟨_, rfl, D1, acc, othersP (rdP g D at_) i, rfl, .inl (SqL.of hacc), pg6, fun H7 v k7 tv => ?_⟩
          have gd7 := gd.kp0 ((k1.trans0 k6).trans0 k7)
          obtain ⟨dx7, hq7⟩ := gd7.gu
          obtain ⟨dx8, hP7⟩ := gd7.dk.ob
          refine ⟨_, rfl, v, _, rfl, tv, _, rfl, q, a.cg, dx7, _, _, rfl, hq7, T.cG, T.aG _ (by simp), guardF_d, p, dx8, _, rfl, hP7, diskF_no (by decide +kernel), _, rfl, q, dx7, _, rfl, hq7, guardF_no (by decide +kernel), _, rfl, q, p, g, bm, at_, rfl, gd7.gu, gd.ok, h0, h1, fun H8 t8 k8 ht8 => ⟨t8, _, 1, .int (marksAt g at_), rfl, rfl, SqT.of ht8, rfl, ?_⟩⟩
          have gd8 := gd7.kp0 k8
          have kk := (k6.trans0 k7).trans0 k8
          have hb8 := kk.same _ _ hbd
          refine ⟨p, f, w, n, bm, marksAt g at_, D, m, rfl, gd8.dk, (by unfold marksAt; omega), (by unfold marksAt; omega), fun v2 tv2 => ?_⟩
          obtain ⟨tm, rfl, htm⟩ := tv2
          have hdl := (isPg_iff.mp (hD (marksAt g at_))).1
          have hi2 : i < (D (marksAt g at_)).length := by omega
          refine ⟨_, rfl, lb, _, 0, _, rfl, rfl, SqL.of hb8, rfl, tm, _, _, _, rfl, rfl, htm, atI_nat (v := .int ((D (marksAt g at_)).getD i 0)) ?_, rfl, _, rfl, ?_⟩
          · rw [List.getElem?_map, List.getElem?_eq_getElem hi2]
            simp [List.getD_eq_getElem?_getD, hi2]
          · refine ite_of (fun e => ?_) (fun e => ?_)
            · have hc : mark (sumP (othersP (rdP g D at_) i)) ≠ (D (marksAt g at_)).getD i 0 := by
                intro z
                rw [z] at e
                simp at e
              refine ⟨_, rfl, _, rfl, two, fun t2 ht2 => ?_⟩
              have k9 := Kp.new (o := .tup [V.ref lp, .ref lb]) ht2
              have kz := kk.trans0 k9
              refine k _ t2 lp lb (k1.trans0 kz) ?_
              have eh : healM g D at_ = (rdP g D at_, [i]) := by
                unfold healM
                rw [hb]
                simp only
                rw [if_neg hc]
              rw [eh]
              exact ⟨upd_same, tw.np, tw.nb, tw.ne, ⟨xs, kz.same _ _ hx, hpx.kp kz⟩, kz.same _ _ hbd⟩
            · have hc : mark (sumP (othersP (rdP g D at_) i)) = (D (marksAt g at_)).getD i 0 := by
                have e' : decide (V.int (mark (sumP (othersP (rdP g D at_) i))) = V.int ((D (marksAt g at_)).getD i 0)) = true := by simpa using e
                exact V.int.inj (of_decide_eq_true e')
              have hx8 := kk.same _ _ hx
              refine ⟨_, rfl, _, rfl, _, rfl, lb, _, 0, _, rfl, rfl, SqL.of hb8, rfl, lp, xs, (i : Int), i, rfl, rfl, hx8, ixN_nat (by omega), ?_⟩
              have k9 := Kp.set (o := .lst (xs.set i v)) (show Mut (H8 lp) by rw [hx8]; exact True.intro)
              refine ⟨_, rfl, Nat.zero_le _, fun l2 hl2 => ⟨two, fun t2 ht2 => ?_⟩⟩
              have k10 := Kp.new (o := .lst []) hl2
              have k11 := Kp.new (o := .tup [V.ref lp, .ref l2]) ht2
              have eh : healM g D at_ = ((rdP g D at_).set i (sumP (othersP (rdP g D at_) i)), []) := by
                unfold healM
                rw [hb]
                simp only
                rw [if_pos hc]
              have kall : Kp [] H _ := (((k1.trans0 kk).trans k9 fun b hb => .inr (by rw [List.mem_singleton.mp hb]; exact tw.np)).trans0 k10).trans0 k11
              refine k _ t2 lp l2 kall ?_
              rw [eh]
              have hp9 : Pgs K (upd H8 lp (.lst (xs.set i v))) (xs.set i v) ((rdP g D at_).set i (sumP (othersP (rdP g D at_) i))) := by
                refine Paired.set' ⟨(tv.kp k8).kp k9, (isPg_iff.mp (sumP_pg hop)).1⟩ ((hpx.kp kk).kp k9)
              have hl2' := ((k1.trans0 kk).trans k9 fun b hb => .inr (by rw [List.mem_singleton.mp hb]; exact tw.np)).fr _ hl2
              have nlp : lp ≠ l2 := ne_of_none (upd_same (H := H8) (a := lp) (o := .lst (xs.set i v))) hl2
              exact ⟨upd_same, tw.np, hl2', nlp, ⟨_, (k10.trans0 k11).same _ _ upd_same, hp9.kp (k10.trans0 k11)⟩, k11.same _ _ upd_same⟩
    · refine ite_of (fun e => ?_) (fun e => ?_)
      · exact ⟨_, rfl, _, rfl, two, back (by unfold healM; rw [hb])⟩
      · exact absurd e (by simp; omega)
end
end K68
set_option Elab.async false
set_option linter.all false
set_option maxRecDepth 100000
set_option maxHeartbeats 4000000
/-! K68J: a block read, written. -/
namespace K68
open PySem L2 AB
theorem inV_nats {i : Nat} {bad : List Nat} : inV (V.int (i : Int)) (bad.map fun j => V.int (j : Nat)) = decide (i ∈ bad) := by
  rw [Bool.eq_iff_iff]
  simp only [inV, List.any_eq_true, List.mem_map, decide_eq_true_eq]
  constructor
  · rintro ⟨y, ⟨j, hj, rfl⟩, e⟩
    have e2 : (j : Int) = (i : Int) := by simpa [eqV] using e
    have : j = i := by omega
    rw [← this]
    exact hj
  · intro h
    exact ⟨_, ⟨i, h, rfl⟩, by simp [eqV]⟩
def spRead (K : PySem.W.Frag) (a : Ad) : Sp := fun vs H Q E => ∃ (q p f w n : Addr) (g : GN) (bm : Int) (D : Int → List Int) (m : Nat) (b : Int), vs = [.ref q, .int b] ∧ Gd K a H q p f w n g bm D m ∧ 0 ≤ b ∧
  (g.many ≤ b → E (.ref a.nt) none H) ∧ (b < g.many → (((b % g.size).toNat ∈ (healM g D (b / g.size)).2 → ∀ H', Kp [] H H' → E (.ref a.na) none H') ∧
    ((b % g.size).toNat ∉ (healM g D (b / g.size)).2 → ∀ H' v, Kp [] H H' → TI K H' v ((healM g D (b / g.size)).1.getD (b % g.size).toNat []) → Q v H')))
def spWrite (K : PySem.W.Frag) (a : Ad) : Sp := fun vs H Q E => ∃ (q p f w n : Addr) (g : GN) (bm : Int) (D : Int → List Int) (m : Nat) (b : Int) (v : V) (ws : List Int), vs = [.ref q, .int b, v] ∧ Gd K a H q p f w n g bm D m ∧ 0 ≤ b ∧ b < g.many ∧ TI K H v ws ∧ ws.length ≤ 1000 ∧ m + 16 < 100000 ∧
  (isPg ws = false → ∀ H', Kp [] H H' → E (.ref a.nr) none H') ∧ (isPg ws = true →
    (((healM g D (b / g.size)).2.any (fun i => decide (i ≠ (b % g.size).toNat) && decide (i + 1 < (healM g D (b / g.size)).1.length)) = true → ∀ H', Kp [] H H' → E (.ref a.na) none H') ∧
     ((healM g D (b / g.size)).2.any (fun i => decide (i ≠ (b % g.size).toNat) && decide (i + 1 < (healM g D (b / g.size)).1.length)) = false → ∀ H', Kp [w, n] H H' →
        DiskAt K a.cd H' p f w n bm (layD g D (b / g.size) ((healM g D (b / g.size)).1.set (b % g.size).toNat ws).dropLast) (m + 16) → Q .non H')))
theorem healM_len (g : GN) (D : Int → List Int) (at_ : Int) : (healM g D at_).1.length = (memI g at_).length + 1 := by
  unfold healM
  split
  · split <;> simp [rdP_len]
  · simp [rdP_len]
theorem healM_pg {g : GN} {D : Int → List Int} {at_ : Int} (h : ∀ b, isPg (D b) = true) : ∀ p ∈ (healM g D at_).1, isPg p = true := by
  have hr := rdP_pg (g := g) (at_ := at_) h
  unfold healM
  split
  · rename_i i hb
    split
    · intro p hp
      rcases List.mem_or_eq_of_mem_set hp with e | e
      · exact hr p e
      · rw [e]
        refine sumP_pg fun p hp => ?_
        obtain ⟨j, hj, rfl⟩ := List.mem_map.mp hp
        have hj' := List.mem_range.mp (List.mem_filter.mp hj).1
        rw [List.getD_eq_getElem?_getD, List.getElem?_eq_getElem hj']
        exact hr _ (List.getElem_mem hj')
    · exact hr
  · exact hr
theorem healM_lt {g : GN} {D : Int → List Int} {at_ : Int} : ∀ i ∈ (healM g D at_).2, i < (memI g at_).length + 1 := by
  have hb : ∀ i ∈ badI g D at_, i < (memI g at_).length + 1 := fun i h => by
    have := badI_lt h
    rwa [rdP_len] at this
  unfold healM
  split
  · rename_i i hbi
    split
    · intro i h
      exact nomatch h
    · intro j hj
      refine hb j ?_
      rw [hbi]
      exact hj
  · exact hb
section
variable {g : GN} {bm : Int} (ok : g.Ok bm) {b : Int} (h0 : 0 ≤ b) (h1 : b < g.many)
include ok h0 h1
theorem grp_in : 0 ≤ b / g.size ∧ b / g.size < g.groups := by
  have s1 := ok.s1
  have hg := ok.gr
  have e0 : 0 ≤ b / g.size := Int.ediv_nonneg h0 (by omega)
  refine ⟨e0, ?_⟩
  have h2 : (-g.many) < (-(b / g.size)) * g.size := by
    have := Int.ediv_mul_le b (show g.size ≠ 0 by omega)
    rw [Int.neg_mul]
    omega
  have h3 : (-g.many) / g.size < -(b / g.size) := Int.ediv_lt_of_lt_mul (by omega) h2
  omega
theorem idx_in : (b % g.size).toNat < (memI g (b / g.size)).length ∧ (memI g (b / g.size))[(b % g.size).toNat]? = some b ∧ ((b % g.size).toNat : Int) = b % g.size := by
  have s1 := ok.s1
  have m0 := Int.emod_nonneg b (show g.size ≠ 0 by omega)
  have m1 := Int.emod_lt_of_pos b (show 0 < g.size by omega)
  have e := Int.mul_ediv_add_emod b g.size
  have e2 : lo g (b / g.size) = g.size * (b / g.size) := by unfold lo; rw [Int.mul_comm]
  have e3 : (b / g.size + 1) * g.size = g.size * (b / g.size) + g.size := by rw [Int.add_mul, Int.mul_comm, Int.one_mul]
  have hlt : b % g.size < hi g (b / g.size) - lo g (b / g.size) := by
    rw [e2]
    unfold hi
    split
    · omega
    · rw [e3]
      omega
  have hl : (b % g.size).toNat < (hi g (b / g.size) - lo g (b / g.size)).toNat := by omega
  refine ⟨by rw [memI_len]; exact hl, ?_, by omega⟩
  rw [memI_at hl, e2]
  congr 1
  omega
end
section
variable {P : Program} {w : World} {K : PySem.W.Frag} {mg : Str → Option Value} {base : Heap} {a : Ad} {f : Addr} {fd : FuncData}
theorem ok_read (F : Fun K "read" "Guard.read" s_Guard_read f fd) (T : Txt K mg a) (G_check_there : GFn P w K mg base 1 "check_there" ["is_there"] (spCheck a.nt)) (G_is_within : GFn P w K mg base 2 "is_within" ["value", "low", "high"] spWithin)
    (G_Guard_healed : GMt P w K mg base 6 a.cg "healed" ["self", "group"] (spHealed K a)) : FnOk P w K mg base (L2.CX P w) 7 f fd ["self", "block"] (spRead K a) := by
  refine okT F sc_Guard_read (fun vs H Q E h => ?_) (fun cdv A outer s H vs Q E hr tk hp h => ?_)
  · obtain ⟨q, p, f, w, n, g, bm, D, m, b, rfl, _⟩ := h
    rfl
  · obtain ⟨q, p, f, w, n, g, bm, D, m, b, rfl, gd, h0, kE, k⟩ := h
    obtain ⟨dx, hq⟩ := gd.gu
    have s1 := gd.ok.s1
    have s14 := gd.ok.s14
    refine ⟨_, (pss_cons (ps_expr (pe_cl G_check_there (hr.mono (by decide)) tk (pa_cons (pe_cl G_is_within (hr.mono (by decide)) tk (pa_cons (pv 1) (pa_cons pe_int (pa_cons (pe_op op_sub (k_fld K (by rfl) (pe_fld (pv 0) (by rfl))) pe_int) pa_nil)))) pa_nil))) (pss_cons (ps_asg (pe_mt (pv 0) G_Guard_healed (hr.mono (by decide)) tk (pa_cons (pe_op op_fdiv (pv 1) (k_fld K (by rfl) (pe_fld (pv 0) (by rfl)))) pa_nil)) (pg_tup rfl (pgs_cons (pg_name (i := 2) sc_Guard_read.nd rfl (by first | exact Or.inl rfl | exact Or.inr rfl)) (pgs_cons (pg_name (i := 3) sc_Guard_read.nd rfl (by first | exact Or.inl rfl | exact Or.inr rfl)) pgs_nil)))) (pss_cons (ps_if (pt_cmpR (k_in K (by rfl)) (pe_op op_mod (pv 1) (k_fld K (by rfl) (pe_fld (pv 0) (by rfl)))) (pv 3) (by rfl)) (pss_one (ps_raise rfl tk (pmk_own PySem.F.excBase_ValueError T.x_NoAnswer T.g_NoAnswer T.k_NoAnswer (raises_own T.b_NoAnswer T.t_NoAnswer) (by rfl)))) pss_nil) (pss_one (ps_ret (pe_ix (k_ixL K (by rfl)) (pv 2) (pe_op op_mod (pv 1) (k_fld K (by rfl) (pe_fld (pv 0) (by rfl)))) (fun _ _ => rfl))))))), ?_⟩
    refine ⟨_, rfl, _, rfl, q, a.cg, dx, _, _, rfl, hq, T.cG, T.aG _ (by simp), guardF_m, _, _, rfl, rfl, b, 0, g.many - 1, rfl, _, rfl, fun e => ?_, fun e => ?_⟩
    · have h1 : b < g.many := by simp at e; omega
      have k := k h1
      have hg := grp_in gd.ok h0 h1
      have hi := idx_in gd.ok h0 h1
      refine ⟨_, rfl, q, dx, _, rfl, hq, guardF_no (by decide +kernel), _, rfl, _, rfl, q, a.cg, dx, _, _, rfl, hq, T.cG, T.aG _ (by simp), guardF_s, _, _, rfl, rfl, ⟨by omega, by omega⟩, q, p, f, w, n, g, bm, D, m, b / g.size, rfl, gd, hg.1, hg.2, fun H1 t lp lb k1 tw => ?_⟩
      refine ⟨t, _, rfl, SqT.of tw.tu, rfl, _, _, rfl, _, _, rfl, rfl, ?_⟩
      obtain ⟨dx1, hq1⟩ := (gd.kp0 k1).gu
      refine ⟨_, rfl, _, rfl, q, a.cg, dx1, _, _, rfl, hq1, T.cG, T.aG _ (by simp), guardF_s, _, _, rfl, rfl, (by show 0 < g.size; omega), _, rfl, lb, _, rfl, .inl (SqL.of tw.bd), rfl, (by simp [flatV]), _, rfl, ?_⟩
      have ei : inV (V.int (b % g.size)) ((healM g D (b / g.size)).2.map fun j => V.int (j : Nat)) = decide ((b % g.size).toNat ∈ (healM g D (b / g.size)).2) := by
        rw [← hi.2.2, inV_nats, Int.toNat_natCast]
      refine ite_of (fun e => ?_) (fun e => ?_)
      · exact k.1 (of_decide_eq_true (ei.symm.trans e)) _ k1
      · obtain ⟨xs, hx, hpx⟩ := tw.pg
        have hlt : (b % g.size).toNat < xs.length := by
          rw [pair_len hpx, healM_len]
          omega
        obtain ⟨ws, hw, tv, _⟩ := pair_at (i := 0) hpx (List.getElem?_eq_getElem hlt)
        refine ⟨_, rfl, _, rfl, _, rfl, q, a.cg, dx1, _, _, rfl, hq1, T.cG, T.aG _ (by simp), guardF_s, _, _, rfl, rfl, (by show 0 < g.size; omega), lp, xs, _, xs[(b % g.size).toNat], rfl, rfl, SqL.of hx, at_of hi.2.2.symm (List.getElem?_eq_getElem hlt), ?_⟩
        exact k.2 (of_decide_eq_false (ei.symm.trans e)) _ _ k1 (by simpa [List.getD_eq_getElem?_getD, hw] using tv)
    · exact kE (by simp at e; omega)
theorem healM_few {g : GN} {bm : Int} (ok : g.Ok bm) {D : Int → List Int} {at_ : Int} (h0 : 0 ≤ at_) (h1 : at_ < g.groups) : (healM g D at_).2.length ≤ 15 ∧ (badI g D at_).length ≤ 15 := by
  have hm14 : (memI g at_).length ≤ 14 := by
    have := hi_le_lo ok h0 h1
    have := ok.s14
    rw [memI_len]
    omega
  have hrl : (badI g D at_).length ≤ 15 := by
    unfold badI
    refine Nat.le_trans (List.length_filter_le _ _) ?_
    rw [List.length_range, rdP_len]
    omega
  refine ⟨?_, hrl⟩
  unfold healM
  split
  · split <;> simp
  · exact hrl
theorem cutV_m1 {xs : List V} (h : xs ≠ []) : cutV xs none (some (-1)) = xs.dropLast := by
  have hl : 0 < xs.length := List.length_pos_iff.mpr h
  have e : HT.sIx xs.length xs.length (some (-1)) = xs.length - 1 := by
    show (if (-1 : Int) < 0 then (-1 + (xs.length : Int)).toNat else min (-1 : Int).toNat xs.length) = xs.length - 1
    rw [if_pos (by decide)]
    omega
  unfold cutV
  rw [e, HT.sIx_none, List.drop_zero, Nat.sub_zero, List.dropLast_eq_take]
theorem pair_dropLast {α β : Type} {R : α → β → Prop} : ∀ {xs : List α} {ys : List β}, Paired R xs ys → Paired R xs.dropLast ys.dropLast
  | _, _, .nil => .nil
  | _, _, .cons _ .nil => .nil
  | _, _, .cons r (.cons r' t) => .cons r (pair_dropLast (.cons r' t))
theorem ok_write (F : Fun K "write" "Guard.write" s_Guard_write f fd) (T : Txt K mg a) (G_check_there : GFn P w K mg base 1 "check_there" ["is_there"] (spCheck a.nt)) (G_check : GFn P w K mg base 1 "check" ["is_right"] (spCheck a.nr)) (G_is_within : GFn P w K mg base 2 "is_within" ["value", "low", "high"] spWithin)
    (G_is_block : GFn P w K mg base 5 "is_block" ["value"] (spIsBlock K)) (G_Guard_healed : GMt P w K mg base 6 a.cg "healed" ["self", "group"] (spHealed K a)) (G_Guard_lay : GMt P w K mg base 7 a.cg "lay" ["self", "group", "pages"] (spLay K a)) :
    FnOk P w K mg base (L2.CX P w) 8 f fd ["self", "block", "words"] (spWrite K a) := by
  refine okT F sc_Guard_write (fun vs H Q E h => ?_) (fun cdv A outer s H vs Q E hr tk hp h => ?_)
  · obtain ⟨q, p, f, w, n, g, bm, D, m, b, v, ws, rfl, _⟩ := h
    rfl
  · obtain ⟨q, p, f, w, n, g, bm, D, m, b, v, ws, rfl, gd, h0, h1, tv, hl, hm, kE, k⟩ := h
    obtain ⟨dx, hq⟩ := gd.gu
    have s1 := gd.ok.s1
    have s14 := gd.ok.s14
    have hg := grp_in gd.ok h0 h1
    have hi := idx_in gd.ok h0 h1
    refine ⟨_, (pss_cons (ps_expr (pe_cl G_check_there (hr.mono (by decide)) tk (pa_cons (pe_cl G_is_within (hr.mono (by decide)) tk (pa_cons (pv 1) (pa_cons pe_int (pa_cons (pe_op op_sub (k_fld K (by rfl) (pe_fld (pv 0) (by rfl))) pe_int) pa_nil)))) pa_nil))) (pss_cons (ps_expr (pe_cl G_check (hr.mono (by decide)) tk (pa_cons (pe_cl G_is_block (hr.mono (by decide)) tk (pa_cons (pv 2) pa_nil)) pa_nil))) (pss_cons (ps_set (i := 3) sc_Guard_write.nd rfl (by first | exact Or.inl rfl | exact Or.inr rfl) (pe_op op_fdiv (pv 1) (k_fld K (by rfl) (pe_fld (pv 0) (by rfl))))) (pss_cons (ps_asg (pe_mt (pv 0) G_Guard_healed (hr.mono (by decide)) tk (pa_cons (pv 3) pa_nil)) (pg_tup rfl (pgs_cons (pg_name (i := 4) sc_Guard_write.nd rfl (by first | exact Or.inl rfl | exact Or.inr rfl)) (pgs_cons (pg_name (i := 5) sc_Guard_write.nd rfl (by first | exact Or.inl rfl | exact Or.inr rfl)) pgs_nil)))) (pss_cons (ps_if (pt_val (pe_callB (k_any K (by rfl) rfl) (by rfl) T.n_any (by decide +kernel) (pa_cons (pe_lc (own := [("at", 6)]) (g := gName 6) (tt := tYes) (by rfl) sc_Guard_write.nd (k_piL K (by rfl) (pi_list (pv 5))) (blkOk_by (own := [("at", 6)]) (N := N_Guard_write) (sc := defScope s_Guard_write) (by decide +kernel)) (fun _ _ _ _ _ => pg_name (i := 6) sc_Guard_write.nd rfl (Or.inl rfl)) (fun _ _ _ _ _ => pts_nil) (fun _ _ _ _ _ => by exact (pe_and (pe_cmpR op_ne (pv 6) (pe_op op_mod (pv 1) (k_fld K (by rfl) (pe_fld (pv 0) (by rfl)))) (nomark _)) (pe_one (pe_cmpR op_lt (pv 6) (pe_op op_sub (pe_callB (k_len K (by rfl)) (by rfl) T.n_len (by decide +kernel) (pa_cons (pv 4) pa_nil)) pe_int) (nomark _)))))) pa_nil))) (pss_one (ps_raise rfl tk (pmk_own PySem.F.excBase_ValueError T.x_NoAnswer T.g_NoAnswer T.k_NoAnswer (raises_own T.b_NoAnswer T.t_NoAnswer) (by rfl)))) pss_nil) (pss_cons (ps_asg (pv 2) (pg_sub (pv 4) (pe_op op_mod (pv 1) (k_fld K (by rfl) (pe_fld (pv 0) (by rfl)))) set_list)) (pss_one (ps_expr (pe_mt (pv 0) G_Guard_lay (hr.mono (by decide)) tk (pa_cons (pv 3) (pa_cons (pe_slice (k_slL K (by rfl)) (pv 4) po_none (po_some (pe_un un_neg pe_int))) pa_nil))))))))))), ?_⟩
    refine ⟨_, rfl, _, rfl, q, a.cg, dx, _, _, rfl, hq, T.cG, T.aG _ (by simp), guardF_m, _, _, rfl, rfl, b, 0, g.many - 1, rfl, _, rfl, fun e => ?_, fun e => absurd e (by simp; omega)⟩
    refine ⟨_, rfl, v, ws, rfl, tv, hl, fun H1 k1 => ⟨_, rfl, fun hpg => ?_, fun e => kE e _ k1⟩⟩
    have k := k hpg
    have gd1 := gd.kp0 k1
    obtain ⟨dx1, hq1⟩ := gd1.gu
    refine ⟨_, rfl, _, rfl, q, a.cg, dx1, _, _, rfl, hq1, T.cG, T.aG _ (by simp), guardF_s, _, _, rfl, rfl, ⟨by omega, by omega⟩, ?_⟩
    refine ⟨_, rfl, q, dx1, _, rfl, hq1, guardF_no (by decide +kernel), _, rfl, q, p, f, w, n, g, bm, D, m, b / g.size, rfl, gd1, hg.1, hg.2, fun H2 t lp lb k2 tw => ?_⟩
    refine ⟨t, _, rfl, SqT.of tw.tu, rfl, _, _, rfl, _, _, rfl, rfl, ?_⟩
    obtain ⟨xs, hx, hpx⟩ := tw.pg
    have hxl : xs.length = (memI g (b / g.size)).length + 1 := by rw [pair_len hpx, healM_len]
    have gd2 := gd1.kp0 k2
    obtain ⟨dx2, hq2⟩ := gd2.gu
    refine ⟨_, rfl, lb, rfl, ⟨_, SqL.of tw.bd⟩, fun D1 hD1 => ?_⟩
    have hbl : (healM g D (b / g.size)).2.length ≤ 1000 := Nat.le_trans (healM_few gd.ok hg.1 hg.2).1 (by decide)
    refine lc_pure walk_list (by rw [List.length_map]; exact small1000 hbl) hD1 (fun _ => true) (fun j v _ => v = .bl (decide ((healM g D (b / g.size)).2.getD j 0 ≠ (b % g.size).toNat) && decide ((healM g D (b / g.size)).2.getD j 0 + 1 < (healM g D (b / g.size)).1.length)))
      (fun j v H H' _ r => r) (fun H k => k.sqL0 (SqL.of tw.bd)) ?_ ?_
    · rintro j x H6 H7 hj k6 ⟨rfl, hxj⟩ N F' hN hF
      obtain ⟨i, hij, rfl⟩ := map_at (g := fun j : Nat => V.int (j : Int)) hxj
      obtain ⟨dx6, hq6⟩ := (gd2.kp0 k6).gu
      have eg : (healM g D (b / g.size)).2.getD j 0 = i := by simp [List.getD_eq_getElem?_getD, hij]
      refine ⟨rfl, _, rfl, _, rfl, _, rfl, q, a.cg, dx6, _, _, rfl, hq6, T.cG, T.aG _ (by simp), guardF_s, _, _, rfl, rfl, (by show 0 < g.size; omega), rfl, _, rfl, ?_⟩
      refine ite_of (fun e => ?_) (fun e => ?_)
      · have hc : i ≠ (b % g.size).toNat := by
          intro z
          have : (i : Int) = b % g.size := by rw [z]; exact hi.2.2
          rw [this] at e
          simp at e
        refine ⟨_, rfl, _, rfl, lp, xs, rfl, .inl (SqL.of (k6.same _ _ hx)), _, _, rfl, rfl, _, _, rfl, rfl, ?_⟩
        refine hN _ _ rfl (Kp.refl _) ?_
        have e2 : decide ((i : Int) < (xs.length : Nat) - 1) = decide (i + 1 < (healM g D (b / g.size)).1.length) := by
          rw [healM_len, hxl]
          exact decide_eq_decide.mpr (by omega)
        rw [eg]
        show V.bl (decide ((i : Int) < (xs.length : Nat) - 1)) = _
        rw [e2]
        simp [hc]
      · have hc : i = (b % g.size).toNat := by
          have e' : decide (V.int (i : Int) = V.int (b % g.size)) = true := by simpa using e
          have := V.int.inj (of_decide_eq_true e')
          omega
        exact hN _ _ rfl (Kp.refl _) (by rw [eg]; simp [hc])
    · intro H6 acc k6 hacc pr
      rw [filter_all, List.length_map] at pr
      have e := Paired.eqs pr
      rw [map_range_getD (fun i => V.bl (decide (i ≠ (b % g.size).toNat) && decide (i + 1 < (healM g D (b / g.size)).1.length)))] at e
      refine ⟨D1, (healM g D (b / g.size)).2.map (fun i => decide (i ≠ (b % g.size).toNat) && decide (i + 1 < (healM g D (b / g.size)).1.length)), rfl, SqL.of (by rw [hacc, e, List.map_map]; rfl), _, rfl, ?_⟩
      rw [List.any_map]
      refine ite_of (fun e => ?_) (fun e => ?_)
      · exact k.1 e _ ((k1.trans0 k2).trans0 k6)
      · obtain ⟨dx6, hq6⟩ := (gd2.kp0 k6).gu
        have hx6 := k6.same _ _ hx
        refine ⟨_, rfl, _, rfl, _, rfl, _, rfl, q, a.cg, dx6, _, _, rfl, hq6, T.cG, T.aG _ (by simp), guardF_s, _, _, rfl, rfl, (by show 0 < g.size; omega), lp, xs, _, (b % g.size).toNat, rfl, rfl, hx6, (by rw [← hi.2.2]; exact ixN_nat (by omega)), ?_⟩
        have k7 := Kp.set (o := .lst (xs.set (b % g.size).toNat v)) (show Mut (H6 lp) by rw [hx6]; exact True.intro)
        have kA : Kp [] H _ := ((k1.trans0 k2).trans0 k6).trans k7 fun x hx => .inr (by rw [List.mem_singleton.mp hx]; exact k1.fr _ tw.np)
        have gd7 := gd.kp0 kA
        obtain ⟨dx7, hq7⟩ := gd7.gu
        refine ⟨_, rfl, q, dx7, _, rfl, hq7, guardF_no (by decide +kernel), _, rfl, _, rfl, _, rfl, _, rfl, lp, _, rfl, SqL.of upd_same, fun l2 hl2 => ?_⟩
        have k8 := Kp.new (o := .lst (cutV (xs.set (b % g.size).toNat v) none (some (-1)))) hl2
        have hcut : cutV (xs.set (b % g.size).toNat v) none (some (-1)) = (xs.set (b % g.size).toNat v).dropLast := cutV_m1 (by intro z; have := congrArg List.length z; simp at this; rw [this] at hxl; simp at hxl)
        have kB := kA.trans0 k8
        have gd8 := gd.kp0 kB
        have hp8 : Pgs K _ ((xs.set (b % g.size).toNat v).dropLast) (((healM g D (b / g.size)).1.set (b % g.size).toNat ws).dropLast) :=
          pair_dropLast (Paired.set' ⟨tv.kp kB, isPg_len hpg⟩ (((hpx.kp k6).kp k7).kp k8))
        have l2w : l2 ≠ w := by
          obtain ⟨_, _, ⟨us, hW, _⟩, _⟩ := gd7.dk
          exact (ne_of_none hW hl2).symm
        refine ⟨q, p, f, w, n, g, bm, D, m, b / g.size, l2, _, ((healM g D (b / g.size)).1.set (b % g.size).toNat ws).dropLast, rfl, gd8, hg.1, hg.2, (by rw [hcut]; exact upd_same), l2w, hp8, ?_, (by simp [healM_len]), hm, fun H9 k9 d9 => ?_⟩
        · intro p hp
          have hp' := List.dropLast_subset _ hp
          rcases List.mem_or_eq_of_mem_set hp' with e | e
          · exact healM_pg gd.dk.pg p e
          · rw [e]; exact hpg
        · exact k.2 e _ ((kB.wide (fun b h => nomatch h) gd.mut).trans1 k9) d9
end
end K68
set_option Elab.async false
set_option linter.all false
set_option maxRecDepth 100000
set_option maxHeartbeats 4000000
/-! K68K: all gone through. -/
namespace K68
open PySem L2 AB
/-- a name of what is healed or lost: a block, or a group's sum -/
abbrev Nm := Sum Int Int
def NV (K : PySem.W.Frag) (H : Hp) (v : V) : Nm → Prop
  | .inl b => v = .int b
  | .inr g => ∃ t, v = .ref t ∧ SqT K H t [.str "sum", .int g]
theorem NV.kp {K : PySem.W.Frag} {H H' : Hp} {m : List Addr} {v : V} {nm : Nm} (k : Kp m H H') (h : NV K H v nm) : NV K H' v nm := by
  cases nm with
  | inl b => exact h
  | inr g =>
    obtain ⟨t, e, h⟩ := h
    exact ⟨t, e, k.sqT h⟩
def Nms (K : PySem.W.Frag) (H : Hp) (xs : List V) (ns : List Nm) : Prop := Paired (fun v nm => NV K H v nm) xs ns
theorem Nms.kp {K : PySem.W.Frag} {H H' : Hp} {m : List Addr} {xs : List V} {ns : List Nm} (k : Kp m H H') (h : Nms K H xs ns) : Nms K H' xs ns := AB.Paired.imp (fun _ _ r => r.kp k) h
def nms (g : GN) (at_ : Int) : List Nm := (memI g at_).map Sum.inl ++ [Sum.inr at_]
def nmsOf (g : GN) (at_ : Int) (is : List Nat) : List Nm := is.map fun i => (nms g at_).getD i (.inl 0)
def scr (g : GN) (D : Int → List Int) : Nat → (Int → List Int) × List Nm × List Nm
  | 0 => (D, [], [])
  | k + 1 => let r := scr g D k
    if (healM g r.1 k).2 = [] ∧ badI g r.1 k ≠ [] then (layD g r.1 k (healM g r.1 k).1.dropLast, r.2.1 ++ nmsOf g k (badI g r.1 k), r.2.2 ++ nmsOf g k (healM g r.1 k).2)
    else (r.1, r.2.1, r.2.2 ++ nmsOf g k (healM g r.1 k).2)
def spScrub (K : PySem.W.Frag) (a : Ad) : Sp := fun vs H Q E => ∃ (q p f w n : Addr) (g : GN) (bm : Int) (D : Int → List Int) (m : Nat), vs = [.ref q] ∧ Gd K a H q p f w n g bm D m ∧ g.groups ≤ 100 ∧ m ≤ 50000 ∧
  ∀ H' t th tl xs ys, Kp [w, n] H H' → DiskAt K a.cd H' p f w n bm (scr g D g.groups.toNat).1 (m + 16 * g.groups.toNat) → H' t = some (.tup [.ref th, .ref tl]) → SqT K H' th xs → Nms K H' xs (scr g D g.groups.toNat).2.1 → SqT K H' tl ys → Nms K H' ys (scr g D g.groups.toNat).2.2 → Q (.ref t) H'
theorem pair_app {α β : Type} {R : α → β → Prop} : ∀ {xs xs' : List α} {ys ys' : List β}, Paired R xs ys → Paired R xs' ys' → Paired R (xs ++ xs') (ys ++ ys')
  | _, _, _, _, .nil, h => h
  | _, _, _, _, .cons r t, h => .cons r (pair_app t h)
theorem pair_flip {α β : Type} {R : α → β → Prop} : ∀ {xs : List α} {ys : List β}, Paired R xs ys → Paired (fun b a => R a b) ys xs
  | _, _, .nil => .nil
  | _, _, .cons r t => .cons r (pair_flip t)
theorem pair_map {α β γ : Type} {R : γ → β → Prop} {f : α → γ} : ∀ {xs : List α} {ys : List β}, Paired (fun a b => R (f a) b) xs ys → Paired R (xs.map f) ys
  | _, _, .nil => .nil
  | _, _, .cons r t => .cons r (pair_map t)
/-- items picked by numbers -/
theorem pick_nms {K : PySem.W.Frag} {H : Hp} {g : GN} {at_ : Int} {acc : List V} (is : List Nat) (pr : Paired (fun j v => ∃ nm, (nms g at_)[is.getD j 0]? = some nm ∧ NV K H v nm) (List.range is.length) acc) : Nms K H acc (nmsOf g at_ is) := by
  have go : ∀ (js : List Nat) (acc : List V), Paired (fun j v => ∃ nm, (nms g at_)[is.getD j 0]? = some nm ∧ NV K H v nm) js acc → Nms K H acc (js.map fun j => (nms g at_).getD (is.getD j 0) (.inl 0)) := by
    intro js
    induction js with
    | nil =>
      intro acc h
      cases h
      exact .nil
    | cons j js ih =>
      intro acc h
      cases h with
      | cons r t =>
        obtain ⟨nm, e, r⟩ := r
        refine .cons ?_ (ih _ t)
        have e' : (nms g at_).getD (is.getD j 0) (.inl 0) = nm := by rw [List.getD_eq_getElem?_getD, e]; rfl
        show NV K H _ ((nms g at_).getD (is.getD j 0) (.inl 0))
        rw [e']
        exact r
  have z := go _ _ pr
  rw [map_range_getD (fun i' => (nms g at_).getD i' (.inl 0))] at z
  exact z
theorem ints_nm {K : PySem.W.Frag} {H : Hp} : ∀ bs : List Int, Nms K H (bs.map V.int) (bs.map Sum.inl)
  | [] => .nil
  | _ :: bs => .cons rfl (ints_nm bs)
section
variable {P : Program} {w : World} {K : PySem.W.Frag} {mg : Str → Option Value} {base : Heap} {a : Ad} {f : Addr} {fd : FuncData}
theorem ok_scrub (F : Fun K "scrub" "Guard.scrub" s_Guard_scrub f fd) (T : Txt K mg a) (G_Guard_read_group : GMt P w K mg base 5 a.cg "read_group" ["self", "group"] (spReadGroup K a)) (G_Guard_healed : GMt P w K mg base 6 a.cg "healed" ["self", "group"] (spHealed K a))
    (G_Guard_members : GMt P w K mg base 1 a.cg "members" ["self", "group"] (spMembers a)) (G_Guard_lay : GMt P w K mg base 7 a.cg "lay" ["self", "group", "pages"] (spLay K a)) :
    FnOk P w K mg base (L2.CX P w) 8 f fd ["self"] (spScrub K a) := by
  refine okT F sc_Guard_scrub (fun vs H Q E h => ?_) (fun cdv A outer s H vs Q E hr tk hp h => ?_)
  · obtain ⟨q, p, f, w, n, g, bm, D, m, rfl, _⟩ := h
    rfl
  · obtain ⟨q, p, f, w, n, g, bm, D, m, rfl, gd, hg, hm, k⟩ := h
    have gr := gd.ok.gr
    have s1 := gd.ok.s1
    have g0 : 0 ≤ g.groups := by
      have m1 := gd.ok.m1
      have : (-g.many) / g.size < 1 := Int.ediv_lt_of_lt_mul (by omega) (by omega)
      omega
    refine ⟨_, (pss_cons (ps_par (i := 1) (j := 2) (by rfl) sc_Guard_scrub.nd rfl rfl (by decide) rfl rfl (pa_cons (pe_lst pa_nil) (pa_cons (pe_lst pa_nil) pa_nil)) (by rfl)) (pss_cons (ps_for hp rfl (pi_range1 (by rfl) T.n_range (pa_cons (k_fld K (by rfl) (pe_fld (pv 0) (by rfl))) pa_nil)) (pg_name (i := 3) sc_Guard_scrub.nd rfl (by first | exact Or.inl rfl | exact Or.inr rfl)) (pss_cons (ps_set (i := 4) sc_Guard_scrub.nd rfl (by first | exact Or.inl rfl | exact Or.inr rfl) (pe_ix (k_ixT K (by rfl)) (pe_mt (pv 0) G_Guard_read_group (hr.mono (by decide)) tk (pa_cons (pv 3) pa_nil)) pe_int (fun _ _ => rfl))) (pss_cons (ps_asg (pe_mt (pv 0) G_Guard_healed (hr.mono (by decide)) tk (pa_cons (pv 3) pa_nil)) (pg_tup rfl (pgs_cons (pg_name (i := 5) sc_Guard_scrub.nd rfl (by first | exact Or.inl rfl | exact Or.inr rfl)) (pgs_cons (pg_name (i := 6) sc_Guard_scrub.nd rfl (by first | exact Or.inl rfl | exact Or.inr rfl)) pgs_nil)))) (pss_cons (ps_set (i := 7) sc_Guard_scrub.nd rfl (by first | exact Or.inl rfl | exact Or.inr rfl) (pe_mt (pv 0) G_Guard_members (hr.mono (by decide)) tk (pa_cons (pv 3) pa_nil))) (pss_cons (ps_set (i := 8) sc_Guard_scrub.nd rfl (by first | exact Or.inl rfl | exact Or.inr rfl) (pe_lst (k_star K (by rfl) (StX.pa_star (pv 7) (pa_cons (pe_tup (pa_cons (pe_gv T.c_SUM) (pa_cons (pv 3) pa_nil))) pa_nil))))) (pss_cons (ps_expr (k_bm K (by rfl) (pe_bm PySem.F.plainAttrs_list PySem.F.slot_list_extend PySem.F.type_list_extend mt_extend (pv 2)  (pa_cons (pe_lc (own := [("at", 9)]) (g := gName 9) (tt := tYes) (by rfl) sc_Guard_scrub.nd (k_piL K (by rfl) (pi_list (pv 6))) (blkOk_by (own := [("at", 9)]) (N := N_Guard_scrub) (sc := defScope s_Guard_scrub) (by decide +kernel)) (fun _ _ _ _ _ => pg_name (i := 9) sc_Guard_scrub.nd rfl (Or.inl rfl)) (fun _ _ _ _ _ => pts_nil) (fun _ _ _ _ _ => by exact (pe_ix (k_ixL K (by rfl)) (pv 8) (pv 9) (fun _ _ => rfl)))) pa_nil)))) (pss_one (ps_if (PW.pt (pw_and (pt_cmpR op_eq (pe_callB (k_len K (by rfl)) (by rfl) T.n_len (by decide +kernel) (pa_cons (pv 6) pa_nil)) pe_int (nomark _)) (pw_and1 (pt_cmpR op_gt (pe_callB (k_len K (by rfl)) (by rfl) T.n_len (by decide +kernel) (pa_cons (pv 4) pa_nil)) pe_int (nomark _))))) (pss_cons (ps_expr (k_bm K (by rfl) (pe_bm PySem.F.plainAttrs_list PySem.F.slot_list_extend PySem.F.type_list_extend mt_extend (pv 1)  (pa_cons (pe_lc (own := [("at", 9)]) (g := gName 9) (tt := tYes) (by rfl) sc_Guard_scrub.nd (k_piL K (by rfl) (pi_list (pv 4))) (blkOk_by (own := [("at", 9)]) (N := N_Guard_scrub) (sc := defScope s_Guard_scrub) (by decide +kernel)) (fun _ _ _ _ _ => pg_name (i := 9) sc_Guard_scrub.nd rfl (Or.inl rfl)) (fun _ _ _ _ _ => pts_nil) (fun _ _ _ _ _ => by exact (pe_ix (k_ixL K (by rfl)) (pv 8) (pv 9) (fun _ _ => rfl)))) pa_nil)))) (pss_one (ps_expr (pe_mt (pv 0) G_Guard_lay (hr.mono (by decide)) tk (pa_cons (pv 3) (pa_cons (pe_slice (k_slL K (by rfl)) (pv 5) po_none (po_some (pe_un un_neg pe_int))) pa_nil)))))) pss_nil)))))))) (pss_one (ps_ret (pe_tup (pa_cons (pe_callTy (k_tupOf K (by rfl)) (by rfl) T.n_tuple (by decide +kernel) (pa_cons (pv 1) pa_nil)) (pa_cons (pe_callTy (k_tupOf K (by rfl)) (by rfl) T.n_tuple (by decide +kernel) (pa_cons (pv 2) pa_nil)) pa_nil))))))), ?_⟩
    refine ⟨Nat.zero_le _, fun lh hlh => ⟨Nat.zero_le _, fun ll hll => ⟨_, _, rfl, ?_⟩⟩⟩
    have kh := Kp.new (o := .lst []) hlh
    have kl := Kp.new (o := .lst []) hll
    have k0 := kh.trans0 kl
    have gd0 := gd.kp0 k0
    obtain ⟨dx, hq⟩ := gd0.gu
    have hne : lh ≠ ll := ne_of_none (upd_same (H := H) (a := lh) (o := .lst [])) hll
    have hll0 : H ll = none := kh.fr _ hll
    refine ⟨_, rfl, q, a.cg, dx, _, _, rfl, hq, T.cG, T.aG _ (by simp), guardF_g, _, rfl, by omega, by omega, ?_⟩
    refine for_it walk_range (fun i σ H' => (∃ y3 y4 y5 y6 y7 y8, σ = [some (.ref q), some (.ref lh), some (.ref ll), y3, y4, y5, y6, y7, y8, none]) ∧ Kp [w, n] H H' ∧ DiskAt K a.cd H' p f w n bm (scr g D i).1 (m + 16 * i) ∧
      (∃ xs, H' lh = some (.lst xs) ∧ Nms K H' xs (scr g D i).2.1 ∧ xs.length ≤ 15 * i) ∧ ∃ ys, H' ll = some (.lst ys) ∧ Nms K H' ys (scr g D i).2.2 ∧ ys.length ≤ 15 * i)
      ⟨⟨none, none, none, none, none, none, rfl⟩, k0.wide (fun b h => nomatch h) gd.mut, gd0.dk, ⟨[], kl.same _ _ upd_same, .nil, Nat.zero_le _⟩, [], upd_same, .nil, Nat.zero_le _⟩ (fun _ _ _ _ _ => trivial) ?_ ?_
    · rintro i v σ H1 H2 hi ⟨⟨y3, y4, y5, y6, y7, y8, rfl⟩, k1, d1, ⟨xs, hxs, pxs, lxs⟩, ys, hys, pys, lys⟩ ⟨rfl, hv⟩
      obtain rfl : v = .int (i : Int) := by rw [hv]; exact congrArg V.int (Int.zero_add _)
      have gd1 := gd.wr k1 d1
      obtain ⟨dx1, hq1⟩ := gd1.gu
      have i0 : (0 : Int) ≤ (i : Int) := by omega
      have i1 : (i : Int) < g.groups := by omega
      -- before = self.read_group(group)[1]
      refine ⟨_, rfl, q, dx1, _, rfl, hq1, guardF_no (by decide +kernel), _, rfl, q, p, f, w, n, g, bm, _, _, (i : Int), rfl, gd1, i0, i1, fun H3 t3 lp3 lb3 k3 tw3 => ⟨t3, _, 1, .ref lb3, rfl, rfl, SqT.of tw3.tu, rfl, ?_⟩⟩
      have gd3 := gd1.kp0 k3
      obtain ⟨dx3, hq3⟩ := gd3.gu
      -- pages, left = self.healed(group)
      refine ⟨_, rfl, q, dx3, _, rfl, hq3, guardF_no (by decide +kernel), _, rfl, q, p, f, w, n, g, bm, _, _, (i : Int), rfl, gd3, i0, i1, fun H4 t4 lp lb k4 tw => ⟨t4, _, rfl, SqT.of tw.tu, rfl, _, _, rfl, _, _, rfl, rfl, ?_⟩⟩
      have gd4 := gd3.kp0 k4
      obtain ⟨dx4, hq4⟩ := gd4.gu
      have hb4 := k4.same _ _ tw3.bd
      -- members
      refine ⟨_, rfl, q, dx4, _, rfl, hq4, guardF_no (by decide +kernel), _, rfl, q, p, g, bm, (i : Int), rfl, gd4.gu, gd.ok, i0, i1, fun lm hlm => ?_⟩
      have k5 := Kp.new (o := .lst ((memI g (i : Int)).map V.int)) hlm
      have hml : (memI g (i : Int)).length ≤ 14 := by
        have := hi_le_lo gd.ok i0 i1
        have := gd.ok.s14
        rw [memI_len]
        omega
      have hfew := healM_few (g := g) gd.ok (D := (scr g D i).1) i0 i1
      -- names
      refine ⟨_, rfl, lm, _, rfl, .inr (SqL.of upd_same), _, rfl, (by show 2 ≤ sizeLine; decide), fun tn htn => ?_⟩
      have k6 := Kp.new (o := .tup [.str "sum", .int (i : Int)]) htn
      refine ⟨Nat.le_trans (show ((memI g (i : Int)).map V.int ++ [V.ref tn]).length ≤ 1000 by simp; omega) (by decide), fun ln hln => ?_⟩
      have k7 := Kp.new (o := .lst ((memI g (i : Int)).map V.int ++ [V.ref tn])) hln
      have k47 := ((k5.trans0 k6).trans0 k7)
      have hnm : Nms K (upd (upd (upd H4 lm (.lst ((memI g (i : Int)).map V.int))) tn (.tup [.str "sum", .int (i : Int)])) ln (.lst ((memI g (i : Int)).map V.int ++ [V.ref tn]))) ((memI g (i : Int)).map V.int ++ [V.ref tn]) (nms g (i : Int)) := by
        exact pair_app (ints_nm _) (.cons ⟨tn, rfl, SqT.of (k7.same _ _ upd_same)⟩ .nil)
      have hys7 := (k3.trans0 k4 |>.trans0 k47).same _ _ hys
      have hxs7 := (k3.trans0 k4 |>.trans0 k47).same _ _ hxs
      have hb7 := k47.same _ _ hb4
      have hl7 := k47.same _ _ tw.bd
      -- lost.extend(..)
      refine ⟨_, rfl, .inl ⟨rfl, _, SqL.of hys7⟩, _, rfl, lb, rfl, ⟨_, SqL.of hl7⟩, fun D8 hD8 => ?_⟩
      refine lc_pure walk_list (by rw [List.length_map]; exact small1000 (by omega)) hD8 (fun _ => true) (fun j v H => ∃ nm, (nms g (i : Int))[(healM g (scr g D i).1 (i : Int)).2.getD j 0]? = some nm ∧ NV K H v nm) (fun j v H H' k ⟨nm, e, r⟩ => ⟨nm, e, r.kp k⟩) (fun H k => k.sqL0 (SqL.of hl7)) ?_ ?_
      · rintro j x H9 H10 hj k9 ⟨rfl, hxj⟩ N F' hN hF
        obtain ⟨i', hij, rfl⟩ := map_at (g := fun j : Nat => V.int (j : Int)) hxj
        have hlt := healM_lt (g := g) (D := (scr g D i).1) (at_ := (i : Int)) i' (List.mem_of_getElem? hij)
        have hlt2 : i' < ((memI g (i : Int)).map V.int ++ [V.ref tn]).length := by simp; omega
        obtain ⟨nm, en, rn⟩ := pair_at (i := 0) hnm (List.getElem?_eq_getElem hlt2)
        refine ⟨rfl, _, rfl, _, rfl, ln, _, _, _, rfl, rfl, SqL.of (k9.same _ _ upd_same), atI_nat (List.getElem?_eq_getElem hlt2), ?_⟩
        exact hN _ _ rfl (Kp.refl _) ⟨nm, by simpa [List.getD_eq_getElem?_getD, hij] using en, rn.kp k9⟩
      · intro H8 acc k8 hacc pr
        rw [filter_all, List.length_map] at pr
        have pl := pick_nms _ pr
        have hal : acc.length ≤ 15 := by
          have := pair_len pl
          rw [this, nmsOf, List.length_map]
          exact hfew.1
        have hys8 := k8.same _ _ hys7
        refine ⟨ll, D8, ys, acc, rfl, rfl, hys8, hacc, Nat.le_trans (show ys.length + acc.length ≤ 2000 by omega) (by decide), ?_⟩
        have k9 := Kp.set (o := .lst (ys ++ acc)) (show Mut (H8 ll) by rw [hys8]; exact True.intro)
        have kz := ((k3.trans0 k4).trans0 k47).trans0 k8
        have kH9 : Kp [w, n] H _ := (k1.trans0 kz).trans k9 fun b hb => .inr (by rw [List.mem_singleton.mp hb]; exact hll0)
        have hlw : ll ≠ w ∧ ll ≠ n ∧ ll ≠ q ∧ ll ≠ p ∧ ll ≠ f := by
          obtain ⟨⟨_, hP⟩, hF, ⟨us, hW, _⟩, ⟨kvs, hN, _⟩, _, _⟩ := gd.dk
          obtain ⟨_, hQ⟩ := gd.gu
          exact ⟨(ne_of_none hW hll0).symm, (ne_of_none hN hll0).symm, (ne_of_none hQ hll0).symm, (ne_of_none hP hll0).symm, (ne_of_none hF hll0).symm⟩
        have hhw : lh ≠ w ∧ lh ≠ n ∧ lh ≠ q ∧ lh ≠ p ∧ lh ≠ f := by
          obtain ⟨⟨_, hP⟩, hF, ⟨us, hW, _⟩, ⟨kvs, hN, _⟩, _, _⟩ := gd.dk
          obtain ⟨_, hQ⟩ := gd.gu
          exact ⟨(ne_of_none hW hlh).symm, (ne_of_none hN hlh).symm, (ne_of_none hQ hlh).symm, (ne_of_none hP hlh).symm, (ne_of_none hF hlh).symm⟩
        have gd9 := (gd1.kp0 kz).kp k9 (by simp [hlw.2.2.1.symm]) (by simp [hlw.2.2.2.1.symm]) (by simp [hlw.2.2.2.2.symm]) (by simp [hlw.1.symm]) (by simp [hlw.2.1.symm])
        have hxs9 := k9.st lh _ (by simp [hne]) (k8.same _ _ hxs7)
        have pys9 : Nms K (upd H8 ll (.lst (ys ++ acc))) (ys ++ acc) ((scr g D i).2.2 ++ nmsOf g (i : Int) (healM g (scr g D i).1 (i : Int)).2) := pair_app ((pys.kp kz).kp k9) (pl.kp k9)
        have lbl : lb ≠ ll := by
          intro z
          have e1 := (k8.same _ _ hl7).symm.trans (z ▸ hys8)
          have e2 : ll ≠ lb := ne_of_none (k3.same _ _ hys) tw.nb
          exact e2 z.symm
        have lb3l : lb3 ≠ ll := fun z => (ne_of_none hys tw3.nb) z.symm
        have hl9 := k9.st lb _ (by simp [lbl]) (k8.same _ _ hl7)
        have hb9 := k9.st lb3 _ (by simp [lb3l]) (k8.same _ _ hb7)
        -- if len(left) == 0 and len(before) > 0
        refine ⟨_, rfl, lb, _, rfl, .inl (SqL.of hl9), rfl, _, rfl, ?_⟩
        -- where the group is left as it is
        have fix : ∀ {σ' : L2.St}, (¬ ((healM g (scr g D i).1 (i : Int)).2 = [] ∧ badI g (scr g D i).1 (i : Int) ≠ [])) → (∃ y3 y4 y5 y6 y7 y8, σ' = [some (V.ref q), some (.ref lh), some (.ref ll), y3, y4, y5, y6, y7, y8, none]) → ((∃ y3 y4 y5 y6 y7 y8, σ' = [some (V.ref q), some (.ref lh), some (.ref ll), y3, y4, y5, y6, y7, y8, none]) ∧ Kp [w, n] H (upd H8 ll (.lst (ys ++ acc))) ∧ DiskAt K a.cd (upd H8 ll (.lst (ys ++ acc))) p f w n bm (scr g D (i + 1)).1 (m + 16 * (i + 1)) ∧
            (∃ xs, upd H8 ll (.lst (ys ++ acc)) lh = some (.lst xs) ∧ Nms K (upd H8 ll (.lst (ys ++ acc))) xs (scr g D (i + 1)).2.1 ∧ xs.length ≤ 15 * (i + 1)) ∧ ∃ ys', upd H8 ll (.lst (ys ++ acc)) ll = some (.lst ys') ∧ Nms K (upd H8 ll (.lst (ys ++ acc))) ys' (scr g D (i + 1)).2.2 ∧ ys'.length ≤ 15 * (i + 1)) := fun hno hσ => by
          have es : scr g D (i + 1) = ((scr g D i).1, (scr g D i).2.1, (scr g D i).2.2 ++ nmsOf g (i : Int) (healM g (scr g D i).1 (i : Int)).2) := by
            show (if _ then _ else _) = _
            rw [if_neg hno]
          rw [es]
          exact ⟨hσ, kH9, gd9.dk.more (by omega), ⟨xs, hxs9, (pxs.kp kz).kp k9, by omega⟩, ys ++ acc, upd_same, pys9, by simp; omega⟩
        refine ite_of (fun e => ?_) (fun e => ?_)
        · have hl0 : (healM g (scr g D i).1 (i : Int)).2 = [] := by
            have := V.int.inj (of_decide_eq_true e)
            simpa using this
          refine ⟨_, rfl, lb3, _, rfl, .inl (SqL.of hb9), _, _, rfl, rfl, _, rfl, ?_⟩
          refine ite_of (fun e2 => ?_) (fun e2 => ?_)
          · have hbn : badI g (scr g D i).1 (i : Int) ≠ [] := by
              intro z
              rw [z] at e2
              simp at e2
            have es : scr g D (i + 1) = (layD g (scr g D i).1 i (healM g (scr g D i).1 i).1.dropLast, (scr g D i).2.1 ++ nmsOf g i (badI g (scr g D i).1 i), (scr g D i).2.2 ++ nmsOf g (i : Int) (healM g (scr g D i).1 (i : Int)).2) := by
              show (if _ then _ else _) = _
              rw [if_pos ⟨hl0, hbn⟩]
            refine ⟨_, rfl, .inl ⟨rfl, _, SqL.of hxs9⟩, _, rfl, lb3, rfl, ⟨_, SqL.of hb9⟩, fun D10 hD10 => ?_⟩
            have hn9 : upd H8 ll (.lst (ys ++ acc)) ln = some (.lst ((memI g (i : Int)).map V.int ++ [V.ref tn])) := by
              have nl : ln ≠ ll := by
                have : (upd (upd H4 lm (.lst ((memI g (i : Int)).map V.int))) tn (.tup [.str "sum", .int (i : Int)])) ll = some (.lst ys) := (k5.trans0 k6).same _ _ ((k3.trans0 k4).same _ _ hys)
                exact (ne_of_none this hln).symm
              exact k9.st ln _ (by simp [nl]) (k8.same _ _ upd_same)
            have hnm9 : Nms K (upd H8 ll (.lst (ys ++ acc))) ((memI g (i : Int)).map V.int ++ [V.ref tn]) (nms g (i : Int)) := (hnm.kp k8).kp k9
            refine lc_pure walk_list (by rw [List.length_map]; exact small1000 (by omega)) hD10 (fun _ => true) (fun j v H => ∃ nm, (nms g (i : Int))[(badI g (scr g D i).1 (i : Int)).getD j 0]? = some nm ∧ NV K H v nm) (fun j v H H' k ⟨nm, e, r⟩ => ⟨nm, e, r.kp k⟩) (fun H k => k.sqL0 (SqL.of hb9)) ?_ ?_
            · rintro j x H10 H11 hj k10 ⟨rfl, hxj⟩ N F' hN hF
              obtain ⟨i', hij, rfl⟩ := map_at (g := fun j : Nat => V.int (j : Int)) hxj
              have hlt := badI_lt (List.mem_of_getElem? hij)
              rw [rdP_len] at hlt
              have hlt2 : i' < ((memI g (i : Int)).map V.int ++ [V.ref tn]).length := by simp; omega
              obtain ⟨nm, en, rn⟩ := pair_at (i := 0) hnm9 (List.getElem?_eq_getElem hlt2)
              refine ⟨rfl, _, rfl, _, rfl, ln, _, _, _, rfl, rfl, SqL.of (k10.same _ _ hn9), atI_nat (List.getElem?_eq_getElem hlt2), ?_⟩
              exact hN _ _ rfl (Kp.refl _) ⟨nm, by simpa [List.getD_eq_getElem?_getD, hij] using en, rn.kp k10⟩
            · intro H10 acc2 k10 hacc2 pr2
              rw [filter_all, List.length_map] at pr2
              have pl2 := pick_nms _ pr2
              have hal2 : acc2.length ≤ 15 := by
                rw [pair_len pl2, nmsOf, List.length_map]
                exact hfew.2
              have hxs10 := k10.same _ _ hxs9
              refine ⟨lh, D10, xs, acc2, rfl, rfl, hxs10, hacc2, Nat.le_trans (show xs.length + acc2.length ≤ 2000 by omega) (by decide), ?_⟩
              have k11 := Kp.set (o := .lst (xs ++ acc2)) (show Mut (H10 lh) by rw [hxs10]; exact True.intro)
              have kH11 : Kp [w, n] H _ := (kH9.trans0 k10).trans k11 fun b hb => .inr (by rw [List.mem_singleton.mp hb]; exact hlh)
              have gd11 := (gd9.kp0 k10).kp k11 (by simp [hhw.2.2.1.symm]) (by simp [hhw.2.2.2.1.symm]) (by simp [hhw.2.2.2.2.symm]) (by simp [hhw.1.symm]) (by simp [hhw.2.1.symm])
              obtain ⟨dx11, hq11⟩ := gd11.gu
              obtain ⟨ps, hps, hpp⟩ := tw.pg
              have lpl : lp ≠ ll := fun z => (ne_of_none (k3.same _ _ hys) tw.np) z.symm
              have lph : lp ≠ lh := fun z => (ne_of_none (k3.same _ _ hxs) tw.np) z.symm
              have hps8 := (k47.trans0 k8).same _ _ hps
              have hps11 := k11.st lp _ (by simp [lph]) (k10.same _ _ (k9.st lp _ (by simp [lpl]) hps8))
              have hpp11 := (((hpp.kp (k47.trans0 k8)).kp k9).kp k10).kp k11
              refine ⟨_, rfl, q, dx11, _, rfl, hq11, guardF_no (by decide +kernel), _, rfl, _, rfl, _, rfl, _, rfl, lp, ps, rfl, SqL.of hps11, fun l12 hl12 => ?_⟩
              have hpl := pair_len hpp
              rw [healM_len] at hpl
              rw [cutV_m1 (by intro z; rw [z] at hpl; simp at hpl)]
              have k12 := Kp.new (o := .lst ps.dropLast) hl12
              have gd12 := gd11.kp0 k12
              have l12w : l12 ≠ w := by
                obtain ⟨_, _, ⟨us, hW, _⟩, _⟩ := gd11.dk
                exact (ne_of_none hW hl12).symm
              refine ⟨q, p, f, w, n, g, bm, _, _, (i : Int), l12, ps.dropLast, (healM g (scr g D i).1 (i : Int)).1.dropLast, rfl, gd12, i0, i1, upd_same, l12w, pair_dropLast (hpp11.kp k12), fun p hp => healM_pg gd1.dk.pg p (List.dropLast_subset _ hp), by simp [healM_len], by omega, fun H13 k13 d13 => ?_⟩
              have hh13 := k13.st lh _ (by simp [hhw.1, hhw.2.1]) (k12.same _ _ (upd_same (H := H10) (a := lh) (o := .lst (xs ++ acc2))))
              have hl13 := k13.st ll _ (by simp [hlw.1, hlw.2.1]) (k12.same _ _ (k11.st ll _ (by simp [hne.symm]) (k10.same _ _ (upd_same (H := H8) (a := ll) (o := .lst (ys ++ acc))))))
              rw [es]
              exact ⟨⟨_, _, _, _, _, _, rfl⟩, (kH11.trans0 k12).trans1 k13, d13.more (by omega), ⟨xs ++ acc2, hh13, (pair_app ((((pxs.kp kz).kp k9).kp k10).kp k11) (pl2.kp k11) |> fun z => (Nms.kp k12 z).kp k13), by simp; omega⟩, ys ++ acc, hl13, ((((pys9.kp k10).kp k11).kp k12).kp k13), by simp; omega⟩
          · exact fix (fun z => z.2 (by
              have e3 : ¬ ((0 : Int) < ((badI g (scr g D i).1 (i : Int)).map fun j => V.int (j : Nat)).length) := of_decide_eq_false e2
              simp at e3
              exact e3)) ⟨_, _, _, _, _, _, rfl⟩
        · exact fix (fun z => by rw [z.1] at e; simp at e) ⟨_, _, _, _, _, _, rfl⟩
    · rintro σ H1 ⟨⟨y3, y4, y5, y6, y7, y8, rfl⟩, k1, d1, ⟨xs, hxs, pxs, lxs⟩, ys, hys, pys, lys⟩
      refine ⟨_, rfl, lh, _, rfl, .inl ⟨SqL.of hxs, fun th hth => ?_⟩⟩
      have k2 := Kp.new (o := .tup xs) hth
      refine ⟨_, rfl, ll, _, rfl, .inl ⟨SqL.of (k2.same _ _ hys), fun tl htl => ⟨(by show 2 ≤ sizeLine; decide), fun t ht => ?_⟩⟩⟩
      have k3 := Kp.new (o := .tup ys) htl
      have k4 := Kp.new (o := .tup [V.ref th, .ref tl]) ht
      have kk := (k2.trans0 k3).trans0 k4
      exact k _ t th tl xs ys (k1.trans0 kk) (d1.kp0 kk) upd_same (SqT.of ((k3.trans0 k4).same _ _ upd_same)) (pxs.kp kk) (SqT.of (k4.same _ _ upd_same)) (pys.kp kk)
end
end K68
set_option Elab.async false
set_option linter.all false
set_option maxRecDepth 100000
set_option maxHeartbeats 4000000
/-! K68L: the law's own draws. -/
namespace K68
open PySem L2 AB
def Dr (H : Hp) (l : Addr) : Prop := ∃ ds : List Int, H l = some (.lst (ds.map V.int))
def IntsL (xs : List V) : Prop := ∃ ds : List Int, xs = ds.map V.int
theorem IntsL.snoc {xs : List V} {n : Int} (h : IntsL xs) : IntsL (xs ++ [.int n]) := by
  obtain ⟨ds, rfl⟩ := h
  exact ⟨ds ++ [n], by simp⟩
def spDraws (K : PySem.W.Frag) : Sp := fun vs H Q _ => ∃ (a : Addr) (ns : List Int), vs = [.ref a] ∧ SqL K H a (ns.map V.int) ∧ ns.length ≤ 63 ∧ ∀ H' p, Kp [] H H' → H p = none → Dr H' p → Q (.ref p) H'
def spTake : Sp := fun vs H Q _ => ∃ (l : Addr) (b : Int), vs = [.ref l, .int b] ∧ Dr H l ∧ 0 < b ∧ ∀ r H', Kp [l] H H' → Dr H' l → 0 ≤ r → r < b → Q (.int r) H'
def spPick (K : PySem.W.Frag) : Sp := fun vs H Q _ => ∃ (l s : Addr) (xs : List V), vs = [.ref l, .ref s] ∧ Dr H l ∧ SqL K H s xs ∧ s ≠ l ∧ xs ≠ [] ∧ xs.length ≤ 100 ∧ ∀ v H', v ∈ xs → Kp [l] H H' → Dr H' l → Q v H'
def spPage (K : PySem.W.Frag) : Sp := fun vs H Q _ => ∃ (l : Addr), vs = [.ref l] ∧ Dr H l ∧ ∀ v ws H', Kp [l] H H' → Dr H' l → TI K H' v ws → isPg ws = true → Q v H'
theorem Dr.mut {H : Hp} {l : Addr} (h : Dr H l) : ∀ b ∈ [l], Mut (H b) := fun b hb => by
  obtain ⟨ds, h⟩ := h
  rw [List.mem_singleton.mp hb, h]
  exact True.intro
theorem Dr.kp {H H' : Hp} {m : List Addr} {l : Addr} (h : Dr H l) (k : Kp m H H') (hl : l ∉ m) : Dr H' l := by
  obtain ⟨ds, h⟩ := h
  exact ⟨ds, k.st _ _ hl h⟩
section
variable {P : Program} {w : World} {K : PySem.W.Frag} {mg : Str → Option Value} {base : Heap} {a : Ad} {f : Addr} {fd : FuncData}
theorem ok_draws (F : Fun K "_law_draws" "_law_draws" s_law_draws f fd) (T : Txt K mg a) : FnOk P w K mg base (L2.CX P w) 1 f fd ["script"] (spDraws K) := by
  refine okT F sc_law_draws (fun vs H Q E h => ?_) (fun cdv A outer s H vs Q E hr tk hp h => ?_)
  · obtain ⟨a, ns, rfl, _⟩ := h
    rfl
  · obtain ⟨sa, ns, rfl, hs, hl, k⟩ := h
    refine ⟨_, (pss_cons (ps_set (i := 1) sc_law_draws.nd rfl (by first | exact Or.inl rfl | exact Or.inr rfl) (pe_lst pa_nil)) (pss_cons (ps_for hp rfl (k_piL K (by rfl) (pi_list (pv 0))) (pg_name (i := 2) sc_law_draws.nd rfl (by first | exact Or.inl rfl | exact Or.inr rfl)) (pss_cons (ps_set (i := 3) sc_law_draws.nd rfl (by first | exact Or.inl rfl | exact Or.inr rfl) (pe_callB call_abs (by rfl) T.n_abs (by decide +kernel) (pa_cons (pv 2) pa_nil))) (C8.pss_cut (ps_if (pt_cmpR op_lt (pv 3) (pe_op op_pow pe_int pe_int) (nomark _)) (pss_cons (ps_set (i := 4) sc_law_draws.nd rfl (by first | exact Or.inl rfl | exact Or.inr rfl) (pe_op op_mod (pe_callTy call_int1 (by rfl) T.n_int (by decide +kernel) (pa_cons (pe_op op_add (pe_op op_mul (pv 3) pe_int) pe_int) pa_nil)) pe_int)) (pss_cons (ps_expr (k_bm K (by rfl) (pe_bm PySem.F.plainAttrs_list PySem.F.slot_list_append PySem.F.type_list_append mt_append (pv 1)  (pa_cons (pe_op op_mod (pe_callTy call_int1 (by rfl) T.n_int (by decide +kernel) (pa_cons (pe_op op_add (pe_op op_mul (pv 4) pe_int) (pv 3)) pa_nil)) pe_int) pa_nil)))) (pss_cons (ps_expr (k_bm K (by rfl) (pe_bm PySem.F.plainAttrs_list PySem.F.slot_list_append PySem.F.type_list_append mt_append (pv 1)  (pa_cons (pe_op op_mod (pe_callTy call_int1 (by rfl) T.n_int (by decide +kernel) (pa_cons (pe_op op_add (pv 4) (pe_op op_fdiv (pv 3) pe_int)) pa_nil)) pe_int) pa_nil)))) (pss_one (ps_set (i := 3) sc_law_draws.nd rfl (by first | exact Or.inl rfl | exact Or.inr rfl) pe_int))))) pss_nil) (pss_one (ps_for hp rfl (pi_range1 (by rfl) T.n_range (pa_cons pe_int pa_nil)) (pg_name (i := 5) sc_law_draws.nd rfl (by first | exact Or.inl rfl | exact Or.inr rfl)) (pss_one (ps_if (pt_cmpR op_gt (pv 3) pe_int (nomark _)) (pss_cons (ps_expr (k_bm K (by rfl) (pe_bm PySem.F.plainAttrs_list PySem.F.slot_list_append PySem.F.type_list_append mt_append (pv 1)  (pa_cons (pe_op op_mod (pe_callTy call_int1 (by rfl) T.n_int (by decide +kernel) (pa_cons (pv 3) pa_nil)) pe_int) pa_nil)))) (pss_one (ps_set (i := 3) sc_law_draws.nd rfl (by first | exact Or.inl rfl | exact Or.inr rfl) (pe_op op_fdiv (pv 3) pe_int)))) pss_nil))))))) (pss_cons (ps_set (i := 6) sc_law_draws.nd rfl (by first | exact Or.inl rfl | exact Or.inr rfl) pe_int) (C8.pss_cut (ps_if (pt_cmpR op_gt (pe_callB (k_len K (by rfl)) (by rfl) T.n_len (by decide +kernel) (pa_cons (pv 0) pa_nil)) pe_int (nomark _)) (pss_one (ps_set (i := 6) sc_law_draws.nd rfl (by first | exact Or.inl rfl | exact Or.inr rfl) (pe_op op_add pe_int (pe_callB call_abs (by rfl) T.n_abs (by decide +kernel) (pa_cons (pe_ix (k_ixL K (by rfl)) (pv 0) pe_int (fun _ _ => rfl)) pa_nil))))) pss_nil) (pss_cons (ps_for hp rfl (pi_range1 (by rfl) T.n_range (pa_cons pe_int pa_nil)) (pg_name (i := 5) sc_law_draws.nd rfl (by first | exact Or.inl rfl | exact Or.inr rfl)) (pss_cons (ps_set (i := 6) sc_law_draws.nd rfl (by first | exact Or.inl rfl | exact Or.inr rfl) (pe_op op_mod (pe_callTy call_int1 (by rfl) T.n_int (by decide +kernel) (pa_cons (pe_op op_add (pe_op op_mul (pv 6) pe_int) pe_int) pa_nil)) pe_int)) (pss_one (ps_expr (k_bm K (by rfl) (pe_bm PySem.F.plainAttrs_list PySem.F.slot_list_append PySem.F.type_list_append mt_append (pv 1)  (pa_cons (pe_op op_fdiv (pv 6) pe_int) pa_nil))))))) (pss_one (ps_ret (k_listRev K (by rfl) (pe_listRev rfl (by rfl) T.n_list (by rfl) T.n_reversed (pv 1)))))))))), ?_⟩
    refine ⟨Nat.zero_le _, fun l hll => ?_⟩
    have k0 := Kp.new (o := .lst []) hll
    -- for cell in script
    refine ⟨_, rfl, sa, rfl, ⟨_, k0.sqL0 hs⟩, ?_⟩
    refine for_it walk_list (fun i σ H' => (∃ y2 y3 y4 y5, σ = [some (.ref sa), some (.ref l), y2, y3, y4, y5, none]) ∧ Kp [] H H' ∧ ∃ ds : List V, H' l = some (.lst ds) ∧ IntsL ds ∧ ds.length ≤ 62 * i)
      ⟨⟨none, none, none, none, rfl⟩, k0, [], upd_same, ⟨[], rfl⟩, Nat.zero_le _⟩ (fun i σ H' _ pv => pv.2.1.sqL0 hs) ?_ ?_
    · rintro i x σ H1 H2 hi ⟨⟨y2, y3, y4, y5, rfl⟩, k1, ds, hd, hdi, hdl⟩ ⟨rfl, hx⟩
      obtain ⟨c, hc, rfl⟩ := map_at (g := V.int) hx
      have hi' : i < ns.length := by simpa using hi
      refine ⟨_, rfl, c, rfl, ?_⟩
      -- if number < 10 ** 18: ..
      refine ⟨fun σ H' => ∃ (nn : Int) (y4 : Option V) (y5 : Option V), σ = [some (.ref sa), some (.ref l), some (.int c), some (.int nn), y4, y5, none] ∧ Kp [] H H' ∧ ∃ ds : List V, H' l = some (.lst ds) ∧ IntsL ds ∧ ds.length ≤ 62 * i + 2, ?_, ?_⟩
      · refine ⟨_, rfl, _, _, rfl, rfl, ⟨by decide, by decide, by decide⟩, _, _, rfl, rfl, _, rfl, ?_⟩
        refine ite_of (fun e => ?_) (fun e => ?_)
        · refine ⟨_, rfl, _, _, rfl, rfl, .inr (by decide), _, _, rfl, rfl, .inl ⟨_, rfl, _, _, rfl, rfl, (show (0 : Int) < 2147483647 by decide), ?_⟩⟩
          refine ⟨_, rfl, .inl ⟨rfl, _, SqL.of hd⟩, _, rfl, _, _, rfl, rfl, .inr (by decide), _, rfl, _, _, rfl, rfl, .inl ⟨_, rfl, _, _, rfl, rfl, (show (0 : Int) < 2147483629 by decide), ?_⟩⟩
          refine ⟨l, _, _, rfl, rfl, hd, (Nat.lt_of_le_of_lt (show ds.length ≤ 100000 by omega) (by decide)), ?_⟩
          refine ⟨_, rfl, .inl ⟨rfl, _, SqL.of upd_same⟩, _, rfl, _, rfl, _, _, rfl, rfl, ⟨by decide, by decide⟩, _, _, rfl, rfl, .inl ⟨_, rfl, _, _, rfl, rfl, (show (0 : Int) < 1000003 by decide), ?_⟩⟩
          refine ⟨l, _, _, rfl, rfl, upd_same, (by simp; exact Nat.lt_of_le_of_lt (show ds.length + 1 ≤ 100000 by omega) (by decide)), ?_⟩
          refine ⟨_, _, _, rfl, ?_, _, upd_same, hdi.snoc.snoc, ?_⟩
          · rw [upd_upd]
            exact k1.trans (Kp.set (by rw [hd]; exact True.intro)) fun b hb => .inr (by rw [List.mem_singleton.mp hb]; exact hll)
          · simp
            omega
        · exact ⟨_, _, _, rfl, k1, ds, hd, hdi, by omega⟩
      · -- for k in range(60)
        rintro σ H3 ⟨nn, y4, y5, rfl, k3, ds3, hd3, hi3, hl3⟩
        refine ⟨_, rfl, by decide, by decide, ?_⟩
        refine for_it walk_range (fun j σ H' => (∃ (nn : Int) (y5 : Option V), σ = [some (.ref sa), some (.ref l), some (.int c), some (.int nn), y4, y5, none]) ∧ Kp [] H H' ∧ ∃ ds : List V, H' l = some (.lst ds) ∧ IntsL ds ∧ ds.length ≤ 62 * i + 2 + j)
          ⟨⟨nn, y5, rfl⟩, k3, ds3, hd3, hi3, hl3⟩ (fun _ _ _ _ _ => trivial) ?_ ?_
        · rintro j v σ H4 H5 hj ⟨⟨nn, y5, rfl⟩, k4, ds4, hd4, hi4, hl4⟩ ⟨rfl, rfl⟩
          have hj' : j < 60 := hj
          refine ⟨_, rfl, _, _, rfl, rfl, _, rfl, ?_⟩
          refine ite_of (fun e => ?_) (fun e => ?_)
          · refine ⟨_, rfl, .inl ⟨rfl, _, SqL.of hd4⟩, _, rfl, .inl ⟨_, rfl, _, _, rfl, rfl, (show (0 : Int) < 997 by decide), ?_⟩⟩
            refine ⟨l, _, _, rfl, rfl, hd4, (Nat.lt_of_le_of_lt (show ds4.length ≤ 100000 by omega) (by decide)), ?_⟩
            refine ⟨_, rfl, _, _, rfl, rfl, ⟨by decide, by decide⟩, ?_⟩
            refine ⟨⟨_, _, rfl⟩, k4.trans (Kp.set (by rw [hd4]; exact True.intro)) fun b hb => .inr (by rw [List.mem_singleton.mp hb]; exact hll), _, upd_same, hi4.snoc, ?_⟩
            simp
            omega
          · exact ⟨⟨_, _, rfl⟩, k4, ds4, hd4, hi4, by omega⟩
        · rintro σ H4 ⟨⟨nn, y5, rfl⟩, k4, ds4, hd4, hi4, hl4⟩
          exact ⟨⟨_, _, _, _, rfl⟩, k4, ds4, hd4, hi4, by have : (60 : Int).toNat = 60 := rfl; omega⟩
    · rintro σ H1 ⟨⟨y2, y3, y4, y5, rfl⟩, k1, ds, hd, hdi, hdl⟩
      have hdl' : ds.length ≤ 62 * 63 := by
        simp at hdl
        omega
      -- seed
      refine ⟨fun σ H' => ∃ sd : Int, σ = [some (.ref sa), some (.ref l), y2, y3, y4, y5, some (.int sd)] ∧ H' = H1, ?_, ?_⟩
      · refine ⟨_, rfl, sa, _, rfl, .inl (k1.sqL0 hs), _, _, rfl, rfl, _, rfl, ?_⟩
        refine ite_of (fun e => ?_) (fun e => ?_)
        · have hpos : 0 < ns.length := by
            have := of_decide_eq_true e
            simp at this
            omega
          refine ⟨_, rfl, sa, _, _, _, rfl, rfl, k1.sqL0 hs, atI_nat (j := 0) (v := .int ns[0]) (by simp [hpos]), _, rfl, _, _, rfl, rfl, ?_⟩
          exact ⟨_, rfl, rfl⟩
        · exact ⟨_, rfl, rfl⟩
      · rintro σ H2 ⟨sd, rfl, rfl⟩
        refine ⟨_, rfl, by decide, by decide, ?_⟩
        refine for_it walk_range (fun j σ H' => (∃ (sd : Int) (y5 : Option V), σ = [some (.ref sa), some (.ref l), y2, y3, y4, y5, some (.int sd)]) ∧ Kp [] H H' ∧ ∃ ds : List V, H' l = some (.lst ds) ∧ IntsL ds ∧ ds.length ≤ 62 * 63 + j)
          ⟨⟨sd, y5, rfl⟩, k1, ds, hd, hdi, hdl'⟩ (fun _ _ _ _ _ => trivial) ?_ ?_
        · rintro j v σ H4 H5 hj ⟨⟨sd, y5, rfl⟩, k4, ds4, hd4, hi4, hl4⟩ ⟨rfl, rfl⟩
          have hj' : j < 3000 := hj
          refine ⟨_, rfl, _, _, rfl, rfl, .inr (by decide), _, _, rfl, rfl, .inl ⟨_, rfl, _, _, rfl, rfl, (show (0 : Int) < 2147483647 by decide), ?_⟩⟩
          refine ⟨_, rfl, .inl ⟨rfl, _, SqL.of hd4⟩, _, rfl, _, _, rfl, rfl, ⟨by decide, by decide⟩, ?_⟩
          refine ⟨l, _, _, rfl, rfl, hd4, (Nat.lt_of_le_of_lt (show ds4.length ≤ 100000 by omega) (by decide)), ?_⟩
          refine ⟨⟨_, _, rfl⟩, k4.trans (Kp.set (by rw [hd4]; exact True.intro)) fun b hb => .inr (by rw [List.mem_singleton.mp hb]; exact hll), _, upd_same, hi4.snoc, ?_⟩
          simp
          omega
        · rintro σ H4 ⟨⟨sd, y5, rfl⟩, k4, ds4, hd4, hi4, hl4⟩
          refine ⟨_, rfl, l, _, rfl, SqL.of hd4, fun p hp => ?_⟩
          exact k _ p (k4.trans0 (Kp.new hp)) (k4.fr _ hp) (by obtain ⟨z, rfl⟩ := hi4; exact ⟨z.reverse, by rw [upd_same, List.map_reverse]⟩)
end
end K68
set_option Elab.async false
set_option linter.all false
set_option maxRecDepth 100000
set_option maxHeartbeats 4000000
/-! K68N: the law's own small defs. -/
namespace K68
open PySem L2 AB
section
variable {P : Program} {w : World} {K : PySem.W.Frag} {mg : Str → Option Value} {base : Heap} {a : Ad} {f : Addr} {fd : FuncData}
theorem ok_take (F : Fun K "_law_take" "_law_take" s_law_take f fd) (T : Txt K mg a) : FnOk P w K mg base (L2.CX P w) 1 f fd ["draws", "bound"] spTake := by
  refine okT F sc_law_take (fun vs H Q E h => ?_) (fun cdv A outer s H vs Q E hr tk hp h => ?_)
  · obtain ⟨l, b, rfl, _⟩ := h
    rfl
  · obtain ⟨l, b, rfl, hd, hb, k⟩ := h
    obtain ⟨ds, hds⟩ := id hd
    refine ⟨_, (pss_cons (ps_if (pt_cmpR op_eq (pe_callB (k_len K (by rfl)) (by rfl) T.n_len (by decide +kernel) (pa_cons (pv 0) pa_nil)) pe_int (nomark _)) (pss_one (ps_ret pe_int)) pss_nil) (pss_one (ps_ret (pe_op op_mod (pe_callTy call_int1 (by rfl) T.n_int (by decide +kernel) (pa_cons (k_bm0 K (by rfl) (pe_bm0 PySem.F.plainAttrs_list PySem.F.slot_list_pop PySem.F.type_list_pop mt_pop (pv 0) )) pa_nil)) (pv 1))))), ?_⟩
    refine ⟨_, rfl, l, _, rfl, .inl (SqL.of hds), rfl, _, rfl, ?_⟩
    refine ite_of (fun e => ?_) (fun e => ?_)
    · exact k 0 H ((Kp.refl H).wide (fun b h => nomatch h) hd.mut) hd (Int.le_refl 0) hb
    · have hpos : 0 < ds.length := by
        have e' := of_decide_eq_false e
        simp at e'
        exact List.length_pos_iff.mpr e'
      have hlast : (ds.map V.int)[(ds.map V.int).length - 1]? = some (.int ds[ds.length - 1]) := by
        have h2 : ds.length - 1 < ds.length := by omega
        simp [h2]
      refine ⟨_, rfl, .inl ⟨rfl, _, SqL.of hds⟩, l, _, _, rfl, rfl, hds, hlast, .inl ⟨_, rfl, _, rfl, _, _, rfl, rfl, hb, ?_⟩⟩
      exact k _ _ (Kp.set (by rw [hds]; exact True.intro)) ⟨ds.dropLast, by rw [upd_same, List.map_dropLast]⟩ (Int.emod_nonneg _ (by omega)) (Int.emod_lt_of_pos _ hb)
theorem ok_pick (F : Fun K "_law_pick" "_law_pick" s_law_pick f fd) (T : Txt K mg a) (G_law_take : GFn P w K mg base 1 "_law_take" ["draws", "bound"] spTake) : FnOk P w K mg base (L2.CX P w) 2 f fd ["draws", "some"] (spPick K) := by
  refine okT F sc_law_pick (fun vs H Q E h => ?_) (fun cdv A outer s H vs Q E hr tk hp h => ?_)
  · obtain ⟨l, so, xs, rfl, _⟩ := h
    rfl
  · obtain ⟨l, so, xs, rfl, hd, hs, hne, hx, hxl, k⟩ := h
    have hpos : 0 < xs.length := List.length_pos_iff.mpr hx
    refine ⟨_, (pss_one (ps_ret (pe_ix (k_ixL K (by rfl)) (pv 1) (pe_cl G_law_take (hr.mono (by decide)) tk (pa_cons (pv 0) (pa_cons (pe_callB (k_len K (by rfl)) (by rfl) T.n_len (by decide +kernel) (pa_cons (pv 1) pa_nil)) pa_nil))) (fun _ _ => rfl)))), ?_⟩
    refine ⟨_, rfl, _, rfl, _, rfl, so, xs, rfl, .inl hs, l, (xs.length : Int), rfl, hd, by omega, fun r H1 k1 hd1 h0 h1 => ?_⟩
    have hlt : r.toNat < xs.length := by omega
    refine ⟨so, xs, r, xs[r.toNat], rfl, rfl, k1.sqL hs (by simp [hne]), at_of (j := r.toNat) (by omega) (List.getElem?_eq_getElem hlt), ?_⟩
    exact k _ H1 (List.getElem_mem hlt) k1 hd1
theorem ok_page (F : Fun K "_law_page" "_law_page" s_law_page f fd) (T : Txt K mg a) (G_law_take : GFn P w K mg base 1 "_law_take" ["draws", "bound"] spTake) (G_law_pick : GFn P w K mg base 2 "_law_pick" ["draws", "some"] (spPick K)) :
    FnOk P w K mg base (L2.CX P w) 3 f fd ["draws"] (spPage K) := by
  refine okT F sc_law_page (fun vs H Q E h => ?_) (fun cdv A outer s H vs Q E hr tk hp h => ?_)
  · obtain ⟨l, rfl, _⟩ := h
    rfl
  · obtain ⟨l, rfl, hd, k⟩ := h
    refine ⟨_, (pss_one (ps_ret (pe_callTy (k_tupOf K (by rfl)) (by rfl) T.n_tuple (by decide +kernel) (pa_cons (pe_lc (own := [("k", 1)]) (g := gName 1) (tt := tYes) (by rfl) sc_law_page.nd (pi_range1 (by rfl) T.n_range (pa_cons pe_int pa_nil)) (blkOk_by (own := [("k", 1)]) (N := N_law_page) (sc := defScope s_law_page) (by decide +kernel)) (fun _ _ _ _ _ => pg_name (i := 1) sc_law_page.nd rfl (Or.inl rfl)) (fun _ _ _ _ _ => pts_nil) (fun _ _ _ _ _ => by exact (pe_cl G_law_pick (hr.mono (by decide)) takes0 (pa_cons (pv 0) (pa_cons (pe_lst (pa_cons pe_int (pa_cons pe_int (pa_cons pe_int (pa_cons pe_int (pa_cons pe_int (pa_cons (pe_cl G_law_take (hr.mono (by decide)) takes0 (pa_cons (pv 0) (pa_cons pe_int pa_nil))) pa_nil))))))) pa_nil))))) pa_nil)))), ?_⟩
    refine ⟨_, rfl, by decide, by decide, fun D hD => ?_⟩
    have nl : l ≠ D := by
      obtain ⟨ds, hds⟩ := hd
      exact ne_of_none hds hD
    refine lc_pair walk_range (show (16 : Int).toNat < sizeLine by decide) hD (fun _ => true) [l] (fun _ H => Dr H l) (fun _ v _ => ∃ n, v = .int n ∧ isW n = true) (fun j v H H' _ r => r) hd.mut (by obtain ⟨ds, h⟩ := hd; exact ⟨ds, by rw [upd_ne nl]; exact h⟩) (fun _ _ _ _ _ => trivial) ?_ ?_
    · rintro j v H1 H2 hj k1 hacc hmu hd1 ⟨rfl, rfl⟩ N F' hN hF
      refine ⟨rfl, _, rfl, _, rfl, l, 60000, rfl, hd1, by decide, fun r H3 k3 hd3 r0 r1 => ?_⟩
      refine ⟨(by show 6 ≤ sizeLine; decide), fun p hp => ?_⟩
      have k4 := Kp.new (o := .lst [.int 0, .int 1, .int 7, .int 255, .int 65535, .int r]) hp
      have np : p ≠ l := by
        obtain ⟨ds, h⟩ := hd3
        exact (ne_of_none h hp).symm
      refine ⟨l, p, [.int 0, .int 1, .int 7, .int 255, .int 65535, .int r], rfl, hd3.kp k4 (by simp), SqL.of upd_same, np, by simp, by simp, fun v H5 hv k5 hd5 => ?_⟩
      have kk := (k3.trans0 k4).trans1 k5
      obtain ⟨acc, hacc⟩ := hacc
      refine hN _ _ rfl kk ?_ hd5.mut ?_ fun acc' => hd5.kp (Kp.set (p := D) (o := .lst acc') ?_) (by simp [nl])
      · rw [hacc]
        exact kk.st D _ (by simp [nl.symm]) hacc
      · simp only [List.mem_cons, List.not_mem_nil, or_false] at hv
        rcases hv with rfl | rfl | rfl | rfl | rfl | rfl
        · exact ⟨_, rfl, by decide⟩
        · exact ⟨_, rfl, by decide⟩
        · exact ⟨_, rfl, by decide⟩
        · exact ⟨_, rfl, by decide⟩
        · exact ⟨_, rfl, by decide⟩
        · exact ⟨_, rfl, isW_iff.mpr ⟨r0, by omega⟩⟩
      · rw [kk.st D _ (by simp [nl.symm]) hacc]
        exact True.intro
    · intro H1 acc k1 hmu hd1 hacc pr
      rw [filter_all] at pr
      have hal := pair_len pr
      obtain ⟨ws, rfl, hw⟩ : ∃ ws : List Int, acc = ws.map V.int ∧ ∀ n ∈ ws, isW n = true := by
        clear hacc hal
        generalize List.range (16 : Int).toNat = js at pr
        induction pr with
        | nil => exact ⟨[], rfl, fun n h => nomatch h⟩
        | cons r t ih =>
          obtain ⟨n, rfl, hn⟩ := r
          obtain ⟨ws, rfl, hw⟩ := ih
          exact ⟨n :: ws, rfl, fun m hm => by
            rcases List.mem_cons.mp hm with e | e
            · rw [e]; exact hn
            · exact hw m e⟩
      refine ⟨D, _, rfl, .inl ⟨SqL.of hacc, fun t ht => ?_⟩⟩
      have k2 := Kp.new (o := .tup (ws.map V.int)) ht
      refine k _ ws _ (k1.trans0 k2) (hd1.kp k2 (by simp)) ⟨t, rfl, SqT.of upd_same⟩ (isPg_iff.mpr ⟨?_, hw⟩)
      simp at hal
      omega
end
end K68
set_option Elab.async false
set_option linter.all false
set_option maxRecDepth 100000
set_option maxHeartbeats 4000000
/-! K68O: the law's own sums and marks. -/
namespace K68
open PySem L2 AB
def spXor : Sp := fun vs H Q _ => ∃ x y : Int, vs = [.int x, .int y] ∧ isW x = true ∧ isW y = true ∧ ∀ H', Kp [] H H' → Q (.int (bx x y)) H'
def spLSum (K : PySem.W.Frag) : Sp := fun vs H Q _ => ∃ t xs ps, vs = [.ref t] ∧ SqT K H t xs ∧ Pgs K H xs ps ∧ (∀ p ∈ ps, isPg p = true) ∧ ∀ H' v, Kp [] H H' → TI K H' v (sumP ps) → Q v H'
theorem xor_step (x y k : Nat) : (x ^^^ y) % 2 ^ (k + 1) = (x ^^^ y) % 2 ^ k + (if x / 2 ^ k % 2 = y / 2 ^ k % 2 then 0 else 2 ^ k) := by
  have h1 : (x ^^^ y) % 2 ^ (k + 1) = (x ^^^ y) % 2 ^ k + 2 ^ k * ((x ^^^ y) / 2 ^ k % 2) := by
    rw [Nat.pow_succ, Nat.mod_mul]
  have hb : ((x ^^^ y).testBit k) = (x.testBit k ^^ y.testBit k) := Nat.testBit_xor ..
  rw [Nat.testBit_eq_decide_div_mod_eq, Nat.testBit_eq_decide_div_mod_eq, Nat.testBit_eq_decide_div_mod_eq] at hb
  rw [h1]
  have a0 : x / 2 ^ k % 2 = 0 ∨ x / 2 ^ k % 2 = 1 := by omega
  have b0 : y / 2 ^ k % 2 = 0 ∨ y / 2 ^ k % 2 = 1 := by omega
  have c0 : (x ^^^ y) / 2 ^ k % 2 = 0 ∨ (x ^^^ y) / 2 ^ k % 2 = 1 := by omega
  rcases a0 with a | a <;> rcases b0 with b | b <;> rcases c0 with c | c <;> simp [a, b, c] at hb ⊢
section
variable {P : Program} {w : World} {K : PySem.W.Frag} {mg : Str → Option Value} {base : Heap} {a : Ad} {f : Addr} {fd : FuncData}
theorem ok_law_mark (F : Fun K "_law_mark" "_law_mark" s_law_mark f fd) (T : Txt K mg a) : FnOk P w K mg base (L2.CX P w) 1 f fd ["page"] (spMarkBy K) := by
  refine okT F sc_law_mark (fun vs H Q E h => ?_) (fun cdv A outer s H vs Q E hr tk hp h => ?_)
  · obtain ⟨v, ws, rfl, _⟩ := h
    rfl
  · obtain ⟨v, ws, rfl, ⟨b, rfl, hq⟩, k⟩ := h
    refine ⟨_, (pss_cons (ps_set (i := 1) sc_law_mark.nd rfl (by first | exact Or.inl rfl | exact Or.inr rfl) pe_int) (pss_cons (ps_for hp rfl (k_piT K (by rfl) (pi_tup (pv 0))) (pg_name (i := 2) sc_law_mark.nd rfl (by first | exact Or.inl rfl | exact Or.inr rfl)) (pss_one (ps_set (i := 1) sc_law_mark.nd rfl (by first | exact Or.inl rfl | exact Or.inr rfl) (pe_op op_mod (pe_callTy call_int1 (by rfl) T.n_int (by decide +kernel) (pa_cons (pe_op op_add (pe_op op_mul (pv 1) pe_int) (pv 2)) pa_nil)) pe_int)))) (pss_one (ps_ret (pv 1))))), ?_⟩
    refine ⟨_, rfl, b, rfl, ⟨_, hq⟩, ?_⟩
    refine for_it walk_tup (fun i σ H' => H' = H ∧ ∃ y, σ = [some (.ref b), some (.int (mark (ws.take i))), y]) ⟨rfl, none, rfl⟩ (fun i σ H' _ p => by rw [p.1]; exact hq) ?_ ?_
    · rintro i x σ H1 H2 hi ⟨rfl, y0, rfl⟩ ⟨rfl, hx⟩
      obtain ⟨n, hn, rfl⟩ := map_at (g := V.int) hx
      refine ⟨_, rfl, _, _, rfl, rfl, .inr (by decide), _, rfl, _, _, rfl, rfl, .inl ⟨_, rfl, _, _, rfl, rfl, (show (0 : Int) < 65521 by decide), ?_⟩⟩
      refine ⟨rfl, some (.int n), ?_⟩
      have e : mark (ws.take (i + 1)) = (mark (ws.take i) * 31 + n) % 65521 := by
        rw [mark, List.take_add_one, hn, List.foldl_append]
        rfl
      rw [e]
      rfl
    · rintro σ H1 ⟨rfl, y0, rfl⟩
      refine ⟨_, rfl, ?_⟩
      rw [List.length_map, List.take_length]
      exact k
theorem ok_law_xor (F : Fun K "_law_xor" "_law_xor" s_law_xor f fd) (T : Txt K mg a) : FnOk P w K mg base (L2.CX P w) 1 f fd ["a", "b"] spXor := by
  refine okT F sc_law_xor (fun vs H Q E h => ?_) (fun cdv A outer s H vs Q E hr tk hp h => ?_)
  · obtain ⟨x, y, rfl, _⟩ := h
    rfl
  · obtain ⟨x, y, rfl, hx, hy, k⟩ := h
    rw [isW_iff] at hx hy
    obtain ⟨X, rfl⟩ : ∃ X : Nat, x = (X : Int) := ⟨x.toNat, by omega⟩
    obtain ⟨Y, rfl⟩ : ∃ Y : Nat, y = (Y : Int) := ⟨y.toNat, by omega⟩
    refine ⟨_, (pss_cons (ps_asg (pe_tup (pa_cons pe_int (pa_cons pe_int pa_nil))) (pg_tup rfl (pgs_cons (pg_name (i := 2) sc_law_xor.nd rfl (by first | exact Or.inl rfl | exact Or.inr rfl)) (pgs_cons (pg_name (i := 3) sc_law_xor.nd rfl (by first | exact Or.inl rfl | exact Or.inr rfl)) pgs_nil)))) (pss_cons (ps_for hp rfl (pi_range1 (by rfl) T.n_range (pa_cons pe_int pa_nil)) (pg_name (i := 4) sc_law_xor.nd rfl (by first | exact Or.inl rfl | exact Or.inr rfl)) (C8.pss_cut (ps_if (pt_cmpR op_ne (pe_op op_mod (pe_callTy call_int1 (by rfl) T.n_int (by decide +kernel) (pa_cons (pe_op op_fdiv (pv 0) (pv 3)) pa_nil)) pe_int) (pe_op op_mod (pe_callTy call_int1 (by rfl) T.n_int (by decide +kernel) (pa_cons (pe_op op_fdiv (pv 1) (pv 3)) pa_nil)) pe_int) (nomark _)) (pss_one (ps_set (i := 2) sc_law_xor.nd rfl (by first | exact Or.inl rfl | exact Or.inr rfl) (pe_op op_add (pv 2) (pv 3)))) pss_nil) (pss_one (ps_set (i := 3) sc_law_xor.nd rfl (by first | exact Or.inl rfl | exact Or.inr rfl) (pe_op op_mul pe_int (pv 3)))))) (pss_one (ps_ret (pv 2))))), ?_⟩
    refine ⟨(by show 2 ≤ sizeLine; decide), fun t ht => ⟨t, _, rfl, SqT.of upd_same, rfl, _, _, rfl, _, _, rfl, rfl, ?_⟩⟩
    have k0 := Kp.new (o := .tup [.int 0, .int 1]) ht
    refine ⟨_, rfl, by decide, by decide, ?_⟩
    refine for_it walk_range (fun i σ H' => H' = upd H t (.tup [.int 0, .int 1]) ∧ ∃ z, σ = [some (.int (X : Int)), some (.int (Y : Int)), some (.int (((X ^^^ Y) % 2 ^ i : Nat) : Int)), some (.int ((2 ^ i : Nat) : Int)), z]) ⟨rfl, none, by rw [Nat.pow_zero, Nat.mod_one]; rfl⟩ (fun _ _ _ _ _ => trivial) ?_ ?_
    · rintro i v σ H1 H2 hi ⟨hH, z, rfl⟩ ⟨rfl, rfl⟩
      have hi' : i < 16 := hi
      have hp0 : 0 < 2 ^ i := Nat.two_pow_pos i
      have hp1 : 2 ^ i ≤ 2 ^ 16 := Nat.pow_le_pow_right (by decide) (by omega)
      have hd : (0 : Int) < ((2 ^ i : Nat) : Int) ∧ ((2 ^ i : Nat) : Int) < 1073741824 := by
        constructor
        · exact Int.ofNat_lt.mpr hp0
        · have : (2 : Nat) ^ i < 1073741824 := Nat.lt_of_le_of_lt hp1 (by decide)
          exact Int.ofNat_lt.mpr this
      refine ⟨fun σ H' => H' = H2 ∧ σ = [some (.int (X : Int)), some (.int (Y : Int)), some (.int (((X ^^^ Y) % 2 ^ (i + 1) : Nat) : Int)), some (.int ((2 ^ i : Nat) : Int)), some (.int (0 + (i : Int)))], ?_, ?_⟩
      · refine ⟨_, rfl, _, rfl, _, _, rfl, rfl, hd, .inl ⟨_, rfl, _, _, rfl, rfl, (show (0 : Int) < 2 by decide), _, rfl, _, rfl, _, _, rfl, rfl, hd, .inl ⟨_, rfl, _, _, rfl, rfl, (show (0 : Int) < 2 by decide), rfl, _, rfl, ?_⟩⟩⟩
        have ex : ((X : Int) / ((2 ^ i : Nat) : Int)) % 2 = ((X / 2 ^ i % 2 : Nat) : Int) := by rw [← Int.natCast_ediv]; rfl
        have ey : ((Y : Int) / ((2 ^ i : Nat) : Int)) % 2 = ((Y / 2 ^ i % 2 : Nat) : Int) := by rw [← Int.natCast_ediv]; rfl
        refine ite_of (fun e => ?_) (fun e => ?_)
        · have hc : X / 2 ^ i % 2 ≠ Y / 2 ^ i % 2 := by
            intro z
            have e' : (!decide (V.int ((X : Int) / ((2 ^ i : Nat) : Int) % 2) = V.int ((Y : Int) / ((2 ^ i : Nat) : Int) % 2))) = true := e
            rw [ex, ey, z] at e'
            simp at e'
          refine ⟨_, rfl, _, rfl, _, _, rfl, rfl, rfl, ?_⟩
          have es := xor_step X Y i
          rw [if_neg hc] at es
          rw [es]
          rfl
        · have hc : X / 2 ^ i % 2 = Y / 2 ^ i % 2 := by
            have e' : (!decide (V.int ((X : Int) / ((2 ^ i : Nat) : Int) % 2) = V.int ((Y : Int) / ((2 ^ i : Nat) : Int) % 2))) = false := e
            rw [ex, ey] at e'
            have e3 : decide (V.int ((X / 2 ^ i % 2 : Nat) : Int) = V.int ((Y / 2 ^ i % 2 : Nat) : Int)) = true := by
              cases h : decide (V.int ((X / 2 ^ i % 2 : Nat) : Int) = V.int ((Y / 2 ^ i % 2 : Nat) : Int)) with
              | true => rfl
              | false => rw [h] at e'; exact absurd e' (by decide)
            exact Int.ofNat.inj (V.int.inj (of_decide_eq_true e3))
          have es := xor_step X Y i
          rw [if_pos hc] at es
          rw [es]
          exact ⟨rfl, rfl⟩
      · rintro σ H3 ⟨rfl, rfl⟩
        refine ⟨_, rfl, _, _, rfl, rfl, .inl (by decide), hH, some (.int (0 + (i : Int))), ?_⟩
        have e2 : (2 : Int) * ((2 ^ i : Nat) : Int) = ((2 ^ (i + 1) : Nat) : Int) := by rw [Nat.pow_succ, Nat.mul_comm]; rfl
        rw [← e2]
        rfl
    · rintro σ H1 ⟨rfl, z, rfl⟩
      refine ⟨_, rfl, ?_⟩
      have e : bx (X : Int) (Y : Int) = (((X ^^^ Y) % 2 ^ (16 : Int).toNat : Nat) : Int) := by
        rw [bx, Bits.bitXor_pp (by omega) (by omega), Int.toNat_natCast, Int.toNat_natCast]
        have : X ^^^ Y < 2 ^ 16 := Nat.xor_lt_two_pow (by omega) (by omega)
        rw [show (16 : Int).toNat = 16 from rfl, Nat.mod_eq_of_lt this]
      rw [e] at k
      exact k _ k0
end
end K68
set_option Elab.async false
set_option linter.all false
set_option maxRecDepth 100000
set_option maxHeartbeats 4000000
/-! K68P: the law's own sums and groups. -/
namespace K68
open PySem L2 AB
/-- p is a new list of the groups' lists -/
structure Grps (H0 H : Hp) (p : Addr) (g : GN) : Prop where
  ls : ∃ as : List Addr, H p = some (.lst (as.map V.ref)) ∧ as.length = g.groups.toNat ∧ H0 p = none ∧ ∀ i (hi : i < as.length), H as[i] = some (.lst ((memI g (i : Int)).map V.int)) ∧ H0 as[i] = none
def spGroups (K : PySem.W.Frag) : Sp := fun vs H Q _ => ∃ (g : GN) (bm : Int), vs = [.int g.many, .int g.size] ∧ g.Ok bm ∧ ∀ H' p, Kp [] H H' → Grps H H' p g → Q (.ref p) H'
theorem rgc_groups {g : GN} {bm : Int} (ok : g.Ok bm) : RgC 0 g.many g.size g.groups.toNat := by
  have s1 := ok.s1
  have s14 := ok.s14
  have m1 := ok.m1
  have mb := ok.mb
  have b4 := ok.b4
  have e1 : Builtin.Range.rangeSize 0 g.many g.size = (g.many - 1) / g.size + 1 := by
    unfold Builtin.Range.rangeSize
    rw [if_pos (by omega), if_pos (by omega), Int.sub_zero]
  have e2 : g.groups = (g.many - 1) / g.size + 1 := by
    rw [ok.gr]
    have d1 := Int.mul_ediv_add_emod (g.many - 1) g.size
    have m0 := Int.emod_nonneg (g.many - 1) (show g.size ≠ 0 by omega)
    have m2 := Int.emod_lt_of_pos (g.many - 1) (show 0 < g.size by omega)
    have : (-g.many) / g.size = -((g.many - 1) / g.size + 1) := by
      have e : -g.many = (g.size - 1 - (g.many - 1) % g.size) + g.size * (-((g.many - 1) / g.size + 1)) := by
        rw [Int.mul_neg, Int.mul_add, Int.mul_one]
        omega
      rw [e, Int.add_mul_ediv_left _ _ (by omega : g.size ≠ 0), Int.ediv_eq_zero_of_lt (by omega) (by omega)]
      omega
    omega
  have q0 : 0 ≤ (g.many - 1) / g.size := Int.ediv_nonneg (by omega) (by omega)
  have q1 : (g.many - 1) / g.size ≤ g.many - 1 := Int.ediv_le_self _ (by omega)
  refine ⟨by omega, by omega, ?_, by rw [e1]; omega⟩
  have q2 : ((g.many - 1) / g.size + 1) * g.size ≤ 4096 * 14 := Int.mul_le_mul (by omega) (by omega) (by omega) (by omega)
  have q3 : 0 ≤ ((g.many - 1) / g.size + 1) * g.size := Int.mul_nonneg (by omega) (by omega)
  unfold Builtin.Range.small
  rw [e1]
  simp only [Builtin.Range.rangeFitsLong, Bool.and_eq_true, Bool.or_eq_true, decide_eq_true_eq, beq_iff_eq, show g.size > 0 by omega, if_true]
  refine ⟨⟨⟨⟨⟨by omega, by omega⟩, by omega, by omega⟩, by omega, by omega⟩, by omega, by omega⟩, .inr ⟨by omega, by omega⟩⟩
section
variable {P : Program} {w : World} {K : PySem.W.Frag} {mg : Str → Option Value} {base : Heap} {a : Ad} {f : Addr} {fd : FuncData}
theorem ok_law_sum (F : Fun K "_law_sum" "_law_sum" s_law_sum f fd) (T : Txt K mg a) (G_law_xor : GFn P w K mg base 1 "_law_xor" ["a", "b"] spXor) : FnOk P w K mg base (L2.CX P w) 2 f fd ["pages"] (spLSum K) := by
  refine okT F sc_law_sum (fun vs H Q E h => ?_) (fun cdv A outer s H vs Q E hr tk hp h => ?_)
  · obtain ⟨t, xs, ps, rfl, _⟩ := h
    rfl
  · obtain ⟨t, xs, ps, rfl, hx, hpg, hps, k⟩ := h
    refine ⟨_, (pss_cons (ps_set (i := 1) sc_law_sum.nd rfl (by first | exact Or.inl rfl | exact Or.inr rfl) (pe_op op_rep (pe_lst (pa_cons pe_int pa_nil)) pe_int)) (pss_cons (ps_for hp rfl (k_piT K (by rfl) (pi_tup (pv 0))) (pg_name (i := 2) sc_law_sum.nd rfl (by first | exact Or.inl rfl | exact Or.inr rfl)) (pss_one (ps_set (i := 1) sc_law_sum.nd rfl (by first | exact Or.inl rfl | exact Or.inr rfl) (pe_lc (own := [("k", 3)]) (g := gName 3) (tt := tYes) (by rfl) sc_law_sum.nd (pi_range1 (by rfl) T.n_range (pa_cons pe_int pa_nil)) (blkOk_by (own := [("k", 3)]) (N := N_law_sum) (sc := defScope s_law_sum) (by decide +kernel)) (fun _ _ _ _ _ => pg_name (i := 3) sc_law_sum.nd rfl (Or.inl rfl)) (fun _ _ _ _ _ => pts_nil) (fun _ _ _ _ _ => by exact (pe_cl G_law_xor (hr.mono (by decide)) takes0 (pa_cons (pe_ix (k_ixL K (by rfl)) (pv 1) (pv 3) (fun _ _ => rfl)) (pa_cons (pe_ix (k_ixT K (by rfl)) (pv 2) (pv 3) (fun _ _ => rfl)) pa_nil)))))))) (pss_one (ps_ret (pe_callTy (k_tupOf K (by rfl)) (by rfl) T.n_tuple (by decide +kernel) (pa_cons (pv 1) pa_nil)))))), ?_⟩
    refine ⟨(by show 1 ≤ sizeLine; decide), fun l0 hl0 => ⟨l0, _, _, rfl, rfl, upd_same, by decide, by decide, by decide, fun p0 hp0 => ?_⟩⟩
    have k0 := (Kp.new (o := .lst [.int 0]) hl0).trans0 (Kp.new (o := .lst (List.replicate (16 : Int).toNat [V.int 0]).flatten) hp0)
    refine ⟨_, rfl, t, rfl, ⟨_, k0.sqT hx⟩, ?_⟩
    refine for_it walk_tup (fun i σ H' => ∃ p y, σ = [some (.ref t), some (.ref p), y, none] ∧ Kp [] H H' ∧ H' p = some (.lst ((sumP (ps.take i)).map V.int))) ⟨p0, none, rfl, k0, upd_same⟩ (fun i σ H' _ ⟨p, y, _, k1, _⟩ => k1.sqT hx) ?_ ?_
    · rintro i x σ H1 H2 hi ⟨p, y, rfl, k1, hp1⟩ ⟨rfl, hxi⟩
      obtain ⟨ws, hw, ⟨b, rfl, hb0⟩, hl⟩ := pair_at (i := 0) hpg hxi
      have hb := k1.sqT hb0
      have hwp : isPg ws = true := hps ws (List.mem_of_getElem? hw)
      have hsp : isPg (sumP (ps.take i)) = true := sumP_pg fun q hq => hps q (List.mem_of_mem_take hq)
      have hsl := (isPg_iff.mp hsp).1
      refine ⟨_, rfl, by decide, by decide, fun D hD => ?_⟩
      refine lc_pure walk_range (show (16 : Int).toNat < sizeLine by decide) hD (fun _ => true) (fun j v _ => v = .int (bx ((sumP (ps.take i)).getD j 0) (ws.getD j 0))) (fun j v H H' _ r => r) (fun _ _ => trivial) ?_ ?_
      · rintro j v H3 H4 hj k3 ⟨rfl, hv⟩ N F' hN hF
        obtain rfl : v = .int (j : Int) := by rw [hv]; exact congrArg V.int (Int.zero_add _)
        have hj' : j < 16 := hj
        have hj1 : j < (sumP (ps.take i)).length := by omega
        have hj2 : j < ws.length := by omega
        refine ⟨rfl, _, rfl, _, rfl, p, _, _, .int (sumP (ps.take i))[j], rfl, rfl, SqL.of (k3.same _ _ hp1), atI_nat (by simp [hj1]), _, rfl, _, rfl, b, _, _, .int ws[j], rfl, rfl, k3.sqT hb, atI_nat (by simp [hj2]), _, _, rfl, isPg_at hsp hj1, isPg_at hwp hj2, fun H5 k5 => ?_⟩
        exact hN _ _ rfl k5 (by simp [hj1, hj2])
      · intro H3 acc k3 hacc pr
        rw [filter_all] at pr
        have e := Paired.eqs pr
        have e16 : (16 : Int).toNat = (sumP (ps.take i)).length := by rw [hsl]; rfl
        rw [e16, map_range_zip (fun i j => Builtin.bitXor i j) V.int 0 0 _ ws (by omega), ← sumP_take hw] at e
        exact ⟨D, _, rfl, k1.trans0 k3, by rw [hacc, e]⟩
    · rintro σ H1 ⟨p, y, rfl, k1, hp1⟩
      rw [pair_len hpg, List.take_length] at hp1
      refine ⟨_, rfl, p, _, rfl, .inl ⟨SqL.of hp1, fun q hq => ?_⟩⟩
      exact k _ _ (k1.trans0 (Kp.new hq)) ⟨q, rfl, SqT.of upd_same⟩
theorem ok_law_groups (F : Fun K "_law_groups" "_law_groups" s_law_groups f fd) (T : Txt K mg a) : FnOk P w K mg base (L2.CX P w) 1 f fd ["many", "size"] (spGroups K) := by
  refine okT F sc_law_groups (fun vs H Q E h => ?_) (fun cdv A outer s H vs Q E hr tk hp h => ?_)
  · obtain ⟨g, bm, rfl, _⟩ := h
    rfl
  · obtain ⟨g, bm, rfl, ok, k⟩ := h
    have s1 := ok.s1
    have s14 := ok.s14
    have mb := ok.mb
    have b4 := ok.b4
    have rg := rgc_groups ok
    have g0 : g.groups.toNat ≤ 4096 := by
      have h := ok.fb
      have := ok.f0
      have := ok.m1
      omega
    refine ⟨_, (pss_one (ps_ret (pe_lc (own := [("first", 2)]) (g := gName 2) (tt := tYes) (by rfl) sc_law_groups.nd (pi_range3 (by rfl) T.n_range (pa_cons pe_int (pa_cons (pv 0) (pa_cons (pv 1) pa_nil)))) (blkOk_by (own := [("first", 2)]) (N := N_law_groups) (sc := defScope s_law_groups) (by decide +kernel)) (fun _ _ _ _ _ => pg_name (i := 2) sc_law_groups.nd rfl (Or.inl rfl)) (fun _ _ _ _ _ => pts_nil) (fun _ _ _ _ _ => by exact (pe_listRg rfl (by rfl) T.n_list (prg_2 (by rfl) T.n_range (pv 2) (pe_callB (call_min2 rfl) (by rfl) T.n_min (by decide +kernel) (pa_cons (pe_op op_add (pv 2) (pv 1)) (pa_cons (pv 0) pa_nil))))))))), ?_⟩
    refine ⟨_, rfl, _, rfl, 0, g.many, g.size, g.groups.toNat, rfl, rg, fun D hD => ?_⟩
    refine lc_pureD walk_rangeC (Nat.lt_of_le_of_lt g0 (by decide)) hD (fun _ => true) (fun j v H' => ∃ l, v = .ref l ∧ H' l = some (.lst ((memI g (j : Int)).map V.int)) ∧ H l = none ∧ l ≠ D) (fun j v H1 H2 k ⟨l, e, h, hn, nd⟩ => ⟨l, e, k.st _ _ (by simp [nd]) h, hn, nd⟩) (fun _ _ => trivial) ?_ ?_
    · rintro j v H3 H4 hj k3 ⟨accD, hDs⟩ ⟨rfl, hv⟩ N F' hN hF
      have j0 : (0 : Int) ≤ (j : Int) := by omega
      have j1 : (j : Int) < g.groups := by omega
      have b1 := lo_nonneg ok j0 j1
      have b2 := lo_lt_hi ok j0 j1
      have b3 := hi_le_many ok j0 j1
      have el : (0 : Int) + (j : Nat) * g.size = lo g (j : Int) := by rw [Int.zero_add]; rfl
      have eh : (if g.many < lo g (j : Int) + g.size then g.many else lo g (j : Int) + g.size) = hi g (j : Int) := by
        unfold hi lo
        rw [Int.add_mul, Int.one_mul]
      obtain rfl : v = .int (lo g (j : Int)) := by rw [hv]; exact congrArg V.int el
      refine ⟨rfl, _, rfl, _, rfl, _, rfl, _, _, rfl, rfl, _, rfl, _, _, rfl, _, _, rfl, rfl, ?_⟩
      show RgOk (lo g (j : Int)) (if g.many < lo g (j : Int) + g.size then g.many else lo g (j : Int) + g.size) ∧ _
      rw [eh]
      refine ⟨⟨by omega, by omega, by omega, by omega, by omega⟩, fun l hl => ?_⟩
      rw [memI_V]
      have k4 := Kp.new (o := .lst ((memI g (j : Int)).map V.int)) hl
      exact hN _ _ rfl k4 ⟨l, rfl, upd_same, k3.fr _ hl, (ne_of_none hDs hl).symm⟩
    · intro H3 acc k3 hacc pr
      rw [filter_all] at pr
      obtain ⟨as, rfl, pr2⟩ := refs_of pr
      have rg2 := range_get pr2
      exact k _ D k3 ⟨as, hacc, rg2.1, hD, fun i hi => ⟨(rg2.2 i hi).1, (rg2.2 i hi).2.1⟩⟩
end
end K68
set_option Elab.async false
set_option linter.all false
set_option maxRecDepth 100000
set_option maxHeartbeats 4000000
/-! K68V: what stands on a guard, by the pages meant and what is damaged; no program here. -/
namespace K68
open PySem L2 AB
def psOf (g : GN) (P : Int → List Int) (at_ : Int) : List (List Int) := (memI g at_).map P
def trueP (g : GN) (P : Int → List Int) (at_ : Int) : List (List Int) := psOf g P at_ ++ [sumP (psOf g P at_)]
/-- the first place of a group -/
def bs (g : GN) (at_ : Int) : Int := g.first + lo g at_ + 2 * at_
structure GI (g : GN) (D : Int → List Int) (P : Int → List Int) (bad : List Nat) (at_ : Int) : Prop where
  mrk : D (marksAt g at_) = marksOf (trueP g P at_)
  nd : bad.Nodup
  ins : ∀ i ∈ bad, i ≤ (memI g at_).length
  ok : ∀ i, i ≤ (memI g at_).length → i ∉ bad → (rdP g D at_).getD i [] = (trueP g P at_).getD i []
  br : ∀ i, i ∈ bad → mark ((rdP g D at_).getD i []) ≠ mark ((trueP g P at_).getD i [])
structure INV (g : GN) (D : Int → List Int) (P : Int → List Int) (bad : Nat → List Nat) : Prop where
  pg : ∀ b, isPg (P b) = true
  gi : ∀ i : Nat, (i : Int) < g.groups → GI g D P (bad i) (i : Int)
theorem trueP_len (g : GN) (P : Int → List Int) (at_ : Int) : (trueP g P at_).length = (memI g at_).length + 1 := by simp [trueP, psOf]
theorem psOf_pg {g : GN} {P : Int → List Int} {at_ : Int} (h : ∀ b, isPg (P b) = true) : ∀ p ∈ psOf g P at_, isPg p = true := by
  intro p hp
  obtain ⟨b, _, rfl⟩ := List.mem_map.mp hp
  exact h b
theorem trueP_pg {g : GN} {P : Int → List Int} {at_ : Int} (h : ∀ b, isPg (P b) = true) : ∀ p ∈ trueP g P at_, isPg p = true := by
  intro p hp
  rcases List.mem_append.mp hp with e | e
  · exact psOf_pg h p e
  · rw [List.mem_singleton.mp e]
    exact sumP_pg (psOf_pg h)
section
variable {g : GN} {bm : Int} (ok : g.Ok bm) {at_ : Int} (h0 : 0 ≤ at_) (h1 : at_ < g.groups)
include ok h0 h1
theorem div_in {b : Int} (hl : lo g at_ ≤ b) (hh : b < hi g at_) : b / g.size = at_ := by
  have := hi_le_lo ok h0 h1
  have s1 := ok.s1
  have e : b = (b - lo g at_) + g.size * at_ := by unfold lo; rw [Int.mul_comm]; omega
  rw [e, Int.add_mul_ediv_left _ _ (by omega : g.size ≠ 0), Int.ediv_eq_zero_of_lt (by omega) (by omega)]
  omega
theorem plc_lo {i : Nat} (hi' : i < (memI g at_).length) : plc g (lo g at_ + (i : Int)) = bs g at_ + i := by
  rw [memI_len] at hi'
  have e := div_in ok h0 h1 (b := lo g at_ + (i : Int)) (by omega) (by omega)
  unfold plc bs
  rw [e]
  omega
theorem mem_hi : (hi g at_ : Int) = lo g at_ + ((memI g at_).length : Nat) := by
  have := lo_lt_hi ok h0 h1
  rw [memI_len]
  omega
theorem sum_pl : sumAt g at_ = bs g at_ + ((memI g at_).length : Nat) := by
  have := lo_lt_hi ok h0 h1
  have e := div_in ok h0 h1 (b := hi g at_ - 1) (by omega) (by omega)
  have := mem_hi ok h0 h1
  unfold sumAt plc bs
  rw [e]
  omega
theorem marks_pl : marksAt g at_ = bs g at_ + ((memI g at_).length : Nat) + 1 := by
  have := sum_pl ok h0 h1
  unfold marksAt
  unfold sumAt at this
  omega
theorem rdP_eq (D : Int → List Int) : rdP g D at_ = (List.range ((memI g at_).length + 1)).map fun i => D (bs g at_ + (i : Nat)) := by
  apply List.ext_getElem
  · simp [rdP]
  · intro i h2 h3
    have h4 : i < (memI g at_).length + 1 := by simpa using h3
    simp only [List.getElem_map, List.getElem_range]
    by_cases c : i < (memI g at_).length
    · have e : (memI g at_)[i]'c = lo g at_ + (i : Nat) := by
        have := memI_at (g := g) (at_ := at_) (i := i) (by rw [← memI_len]; exact c)
        rw [List.getElem?_eq_getElem c] at this
        exact Option.some.inj this
      simp only [rdP]
      rw [List.getElem_append_left (by simpa using c), List.getElem_map, e, plc_lo ok h0 h1 c]
    · have e : i = (memI g at_).length := by omega
      simp only [rdP]
      rw [List.getElem_append_right (by simp; omega)]
      simp only [List.getElem_singleton]
      rw [sum_pl ok h0 h1, e]
theorem rdP_getD (D : Int → List Int) {i : Nat} (h : i ≤ (memI g at_).length) : (rdP g D at_).getD i [] = D (bs g at_ + (i : Nat)) := by
  rw [rdP_eq ok h0 h1, List.getD_eq_getElem?_getD, List.getElem?_map, List.getElem?_range (by omega)]
  rfl
theorem GI.congr {D D' P P' : Int → List Int} {bad : List Nat} (h : GI g D P bad at_) (hD : ∀ i : Nat, i ≤ (memI g at_).length + 1 → D' (bs g at_ + (i : Nat)) = D (bs g at_ + (i : Nat))) (hP : ∀ b ∈ memI g at_, P' b = P b) : GI g D' P' bad at_ := by
  have eP : trueP g P' at_ = trueP g P at_ := by
    have : psOf g P' at_ = psOf g P at_ := List.map_congr_left hP
    unfold trueP
    rw [this]
  have eR : rdP g D' at_ = rdP g D at_ := by
    rw [rdP_eq ok h0 h1, rdP_eq ok h0 h1]
    refine List.map_congr_left fun i hi' => hD i (by have := List.mem_range.mp hi'; omega)
  have eM : D' (marksAt g at_) = D (marksAt g at_) := by
    rw [marks_pl ok h0 h1]
    have := hD ((memI g at_).length + 1) (Nat.le_refl _)
    rw [show bs g at_ + (((memI g at_).length + 1 : Nat) : Int) = bs g at_ + ((memI g at_).length : Nat) + 1 by omega] at this
    exact this
  exact ⟨by rw [eM, eP]; exact h.mrk, h.nd, h.ins, by rw [eR, eP]; exact h.ok, by rw [eR, eP]; exact h.br⟩
/-- the pages of a group are what are bad by their marks -/
theorem GI.badI {D P : Int → List Int} {bad : List Nat} (h : GI g D P bad at_) : badI g D at_ = (List.range ((memI g at_).length + 1)).filter fun i => decide (i ∈ bad) := by
  have hm : ∀ i, i ≤ (memI g at_).length → (marksOf (trueP g P at_)).getD i 0 = mark ((trueP g P at_).getD i []) := fun i hi' => by
    have hl := trueP_len g P at_
    rw [List.getD_eq_getElem?_getD, List.getD_eq_getElem?_getD, marksOf, List.getElem?_append_left (by simp; omega), List.getElem?_map, List.getElem?_eq_getElem (by omega)]
    rfl
  unfold K68.badI
  rw [rdP_len]
  refine List.filter_congr fun i hi' => ?_
  have hi2 := List.mem_range.mp hi'
  rw [h.mrk, hm i (by omega)]
  by_cases c : i ∈ bad
  · rw [decide_eq_true (h.br i c), decide_eq_true c]
  · rw [h.ok i (by omega) c, decide_eq_false (by simp), decide_eq_false c]
theorem GI.perm {D P : Int → List Int} {bad : List Nat} (h : GI g D P bad at_) : (K68.badI g D at_).Perm bad := by
  rw [GI.badI ok h0 h1 h]
  refine (List.perm_ext_iff_of_nodup (List.Pairwise.filter _ List.nodup_range) h.nd).mpr fun i => ?_
  rw [List.mem_filter, List.mem_range, decide_eq_true_eq]
  exact ⟨fun z => z.2, fun z => ⟨by have := h.ins i z; omega, z⟩⟩
theorem GI.eqT {D P : Int → List Int} {bad : List Nat} (h : GI g D P bad at_) (hb : bad = []) : rdP g D at_ = trueP g P at_ := by
  subst hb
  apply List.ext_getElem
  · rw [rdP_len, trueP_len]
  · intro i h2 h3
    have := h.ok i (by rw [rdP_len] at h2; omega) (by simp)
    rw [List.getD_eq_getElem?_getD, List.getD_eq_getElem?_getD, List.getElem?_eq_getElem h2, List.getElem?_eq_getElem h3] at this
    exact this
theorem others_eq {qs : List (List Int)} {i : Nat} (hi' : i < qs.length) : othersP qs i = qs.take i ++ qs.drop (i + 1) := by
  unfold othersP
  have e : (List.range qs.length).filter (fun j => decide (j ≠ i)) = List.range i ++ (List.range (qs.length - (i + 1))).map fun j => j + (i + 1) := by
    have e1 : qs.length = i + (1 + (qs.length - (i + 1))) := by omega
    rw [e1, List.range_add, List.range_add, List.map_append, List.filter_append, List.filter_append]
    have f1 : (List.range i).filter (fun j => decide (j ≠ i)) = List.range i := List.filter_eq_self.mpr fun j hj => by have := List.mem_range.mp hj; simp; omega
    have f2 : ((List.range 1).map (fun x => i + x)).filter (fun j => decide (j ≠ i)) = [] := by simp [List.range_succ]
    have f3 : (((List.range (qs.length - (i + 1))).map fun x => 1 + x).map (fun x => i + x)).filter (fun j => decide (j ≠ i)) = (List.range (i + (1 + (qs.length - (i + 1))) - (i + 1))).map fun j => j + (i + 1) := by
      rw [List.filter_eq_self.mpr]
      · rw [List.map_map, show i + (1 + (qs.length - (i + 1))) - (i + 1) = qs.length - (i + 1) by omega]
        refine List.map_congr_left fun j _ => by simp; omega
      · intro j hj
        simp only [List.mem_map, List.mem_range] at hj
        obtain ⟨x, ⟨y, _, rfl⟩, rfl⟩ := hj
        simp
    rw [f1, f2, f3]
    simp
  rw [e, List.map_append]
  congr 1
  · apply List.ext_getElem
    · simp; omega
    · intro j h2 h3
      simp at h2
      simp [List.getD_eq_getElem?_getD, List.getElem?_eq_getElem (show j < qs.length by omega)]
  · apply List.ext_getElem
    · simp
    · intro j h2 h3
      simp at h2
      simp [List.getD_eq_getElem?_getD, List.getElem?_eq_getElem (show j + (i + 1) < qs.length by omega), Nat.add_comm]
theorem GI.heal1 {D P : Int → List Int} {bad : List Nat} (h : GI g D P bad at_) (hP : ∀ b, isPg (P b) = true) (hb : bad.length = 1) : healM g D at_ = (trueP g P at_, []) := by
  obtain ⟨i, rfl⟩ := List.length_eq_one_iff.mp hb
  have hp := GI.perm ok h0 h1 h
  have e : K68.badI g D at_ = [i] := List.perm_singleton.mp hp
  have hi' := h.ins i (by simp)
  have hq := trueP_pg (g := g) (at_ := at_) hP
  have hi2 : i < (trueP g P at_).length := by rw [trueP_len]; omega
  have h0' : sumP (trueP g P at_) = zeros := sumP_whole (psOf_pg hP)
  have hs := sumP_others hq h0' (List.getElem?_eq_getElem hi2)
  have hoth : othersP (rdP g D at_) i = othersP (trueP g P at_) i := by
    unfold othersP
    rw [rdP_len, trueP_len]
    refine List.map_congr_left fun j hj => ?_
    have hj2 := List.mem_filter.mp hj
    exact h.ok j (by have := List.mem_range.mp hj2.1; omega) (by simpa using hj2.2)
  have hsum : sumP (othersP (rdP g D at_) i) = (trueP g P at_)[i] := by
    rw [hoth, others_eq ok h0 h1 hi2]
    exact hs
  have hmk : (D (marksAt g at_)).getD i 0 = mark ((trueP g P at_)[i]) := by
    rw [h.mrk, List.getD_eq_getElem?_getD, marksOf, List.getElem?_append_left (by simpa using hi2), List.getElem?_map, List.getElem?_eq_getElem hi2]
    rfl
  unfold healM
  rw [e]
  show (if _ then _ else _) = _
  rw [if_pos (by rw [hsum, hmk]), hsum]
  congr 1
  apply List.ext_getElem
  · rw [List.length_set, rdP_len, trueP_len]
  · intro j h2 h3
    rw [List.getElem_set]
    split
    · rename_i c
      subst c
      rfl
    · rename_i c
      have := h.ok j (by rw [List.length_set, rdP_len] at h2; omega) (by simpa using fun z => c z.symm)
      rw [List.length_set] at h2
      rw [List.getD_eq_getElem?_getD, List.getD_eq_getElem?_getD, List.getElem?_eq_getElem h2, List.getElem?_eq_getElem h3] at this
      exact this
theorem GI.heal2 {D P : Int → List Int} {bad : List Nat} (h : GI g D P bad at_) (hb : bad.length ≠ 1) : healM g D at_ = (rdP g D at_, K68.badI g D at_) := by
  have hp := (GI.perm ok h0 h1 h).length_eq
  unfold healM
  split
  · rename_i i e
    rw [e] at hp
    simp at hp
    omega
  · rfl
/-- a page that is not lost is the page meant -/
theorem GI.healOk {D P : Int → List Int} {bad : List Nat} (h : GI g D P bad at_) (hP : ∀ b, isPg (P b) = true) {i : Nat} (hi' : i ≤ (memI g at_).length) (hn : i ∉ (healM g D at_).2) : (healM g D at_).1.getD i [] = (trueP g P at_).getD i [] := by
  by_cases hb : bad.length = 1
  · rw [GI.heal1 ok h0 h1 h hP hb]
  · rw [GI.heal2 ok h0 h1 h hb] at hn ⊢
    refine h.ok i hi' fun z => hn ?_
    exact (GI.perm ok h0 h1 h).mem_iff.mpr z
theorem GI.lostIff {D P : Int → List Int} {bad : List Nat} (h : GI g D P bad at_) (hP : ∀ b, isPg (P b) = true) {i : Nat} : i ∈ (healM g D at_).2 ↔ (i ∈ bad ∧ 1 < bad.length) := by
  by_cases hb : bad.length = 1
  · rw [GI.heal1 ok h0 h1 h hP hb]
    simp
    omega
  · rw [GI.heal2 ok h0 h1 h hb]
    rw [(GI.perm ok h0 h1 h).mem_iff]
    refine ⟨fun z => ⟨z, ?_⟩, fun z => z.1⟩
    have := List.length_pos_of_mem z
    omega
end
end K68
set_option Elab.async false
set_option linter.all false
set_option maxRecDepth 100000
set_option maxHeartbeats 4000000
/-! K68W: laid, damaged, written, gone through; no program here. -/
namespace K68
open PySem L2 AB
theorem layD0_not {g : GN} {x : Int} : ∀ {bl : List Int} {ps : List (List Int)} {D : Int → List Int}, (∀ b ∈ bl, plc g b ≠ x) → layD0 g D bl ps x = D x
  | [], _, _, _ => rfl
  | b :: bl, [], _, _ => rfl
  | b :: bl, p :: ps, D, h => by
    have e : layD0 g D (b :: bl) (p :: ps) = layD0 g (updD D (plc g b) p) bl ps := rfl
    rw [e, layD0_not fun c hc => h c (List.mem_cons_of_mem _ hc)]
    unfold updD
    rw [if_neg (h b List.mem_cons_self).symm]
theorem layD0_at {g : GN} : ∀ {bl : List Int} {ps : List (List Int)} {D : Int → List Int} {i : Nat} {b : Int} {p : List Int}, bl.Pairwise (fun x y => plc g x ≠ plc g y) → bl[i]? = some b → ps[i]? = some p → layD0 g D bl ps (plc g b) = p
  | [], _, _, _, _, _, _, h, _ => by simp at h
  | c :: bl, [], _, _, _, _, _, _, h => by simp at h
  | c :: bl, q :: ps, D, 0, b, p, h, hb, hp => by
    obtain rfl : c = b := by simpa using hb
    obtain rfl : q = p := by simpa using hp
    have e : layD0 g D (c :: bl) (q :: ps) = layD0 g (updD D (plc g c) q) bl ps := rfl
    rw [e, layD0_not fun d hd => ((List.pairwise_cons.mp h).1 d hd).symm]
    unfold updD
    rw [if_pos rfl]
  | c :: bl, q :: ps, D, i + 1, b, p, h, hb, hp => by
    have e : layD0 g D (c :: bl) (q :: ps) = layD0 g (updD D (plc g c) q) bl ps := rfl
    rw [e]
    exact layD0_at (List.pairwise_cons.mp h).2 (by simpa using hb) (by simpa using hp)
section
variable {g : GN} {bm : Int} (ok : g.Ok bm)
include ok
theorem mem_in {at_ : Int} (h0 : 0 ≤ at_) (h1 : at_ < g.groups) {b : Int} (hb : b ∈ memI g at_) : lo g at_ ≤ b ∧ b < hi g at_ ∧ b / g.size = at_ := by
  obtain ⟨i, hi', rfl⟩ := List.mem_map.mp hb
  have hl := List.mem_range.mp hi'
  have := lo_lt_hi ok h0 h1
  exact ⟨by omega, by omega, div_in ok h0 h1 (by omega) (by omega)⟩
theorem plc_inj {at_ : Int} (h0 : 0 ≤ at_) (h1 : at_ < g.groups) : (memI g at_).Pairwise fun x y => plc g x ≠ plc g y := by
  have h : (memI g at_).Pairwise fun x y => x < y := by
    unfold memI
    rw [List.pairwise_map]
    exact List.Pairwise.imp (fun h => by omega) List.pairwise_lt_range
  refine List.Pairwise.imp_of_mem (fun {x y} hx hy hlt => ?_) h
  have e1 := (mem_in ok h0 h1 hx).2.2
  have e2 := (mem_in ok h0 h1 hy).2.2
  unfold plc
  rw [e1, e2]
  omega
theorem layD_at {at_ : Int} (h0 : 0 ≤ at_) (h1 : at_ < g.groups) {D : Int → List Int} {ps : List (List Int)} (hl : ps.length = (memI g at_).length) {i : Nat} (hi' : i < (memI g at_).length) : layD g D at_ ps (bs g at_ + (i : Nat)) = ps.getD i [] := by
  have e1 := sum_pl ok h0 h1
  have e2 := marks_pl ok h0 h1
  unfold layD updD
  rw [if_neg (by omega), if_neg (by omega)]
  rw [← plc_lo ok h0 h1 hi']
  have hb := memI_at (g := g) (at_ := at_) (i := i) (by rw [← memI_len]; exact hi')
  rw [layD0_at (plc_inj ok h0 h1) hb (List.getElem?_eq_getElem (by omega)), List.getD_eq_getElem?_getD, List.getElem?_eq_getElem (by omega)]
  rfl
theorem layD_sum {at_ : Int} (h0 : 0 ≤ at_) (h1 : at_ < g.groups) {D : Int → List Int} {ps : List (List Int)} : layD g D at_ ps (bs g at_ + ((memI g at_).length : Nat)) = sumP ps := by
  have e1 := sum_pl ok h0 h1
  have e2 := marks_pl ok h0 h1
  unfold layD updD
  rw [if_neg (by omega), if_pos (by omega)]
theorem layD_marks {at_ : Int} {D : Int → List Int} {ps : List (List Int)} : layD g D at_ ps (marksAt g at_) = marksOf (ps ++ [sumP ps]) := by
  unfold layD updD
  rw [if_pos rfl]
theorem layD_off {at_ : Int} (h0 : 0 ≤ at_) (h1 : at_ < g.groups) {D : Int → List Int} {ps : List (List Int)} {x : Int} (hx : x < bs g at_ ∨ bs g at_ + ((memI g at_).length : Nat) + 1 < x) : layD g D at_ ps x = D x := by
  have e1 := sum_pl ok h0 h1
  have e2 := marks_pl ok h0 h1
  unfold layD updD
  rw [if_neg (by omega), if_neg (by omega)]
  refine layD0_not fun b hb => ?_
  obtain ⟨m1, m2, m3⟩ := mem_in ok h0 h1 hb
  have m4 := mem_hi ok h0 h1
  unfold plc
  rw [m3]
  unfold bs at *
  omega
theorem GI_lay {at_ : Int} (h0 : 0 ≤ at_) (h1 : at_ < g.groups) {D P : Int → List Int} : GI g (layD g D at_ (psOf g P at_)) P [] at_ := by
  refine ⟨layD_marks ok, List.nodup_nil, by simp, fun i hi' _ => ?_, by simp⟩
  rw [rdP_getD ok h0 h1 _ hi']
  by_cases c : i < (memI g at_).length
  · rw [layD_at ok h0 h1 (by simp [psOf]) c, trueP, List.getD_eq_getElem?_getD, List.getD_eq_getElem?_getD, List.getElem?_append_left (by simpa [psOf] using c)]
  · obtain rfl : i = (memI g at_).length := by omega
    rw [layD_sum ok h0 h1, trueP, List.getD_eq_getElem?_getD, List.getElem?_append_right (by simp [psOf])]
    simp [psOf]
/-- two groups lie apart -/
theorem apart {a1 a2 : Int} (h0 : 0 ≤ a1) (h1 : a1 < g.groups) (k0 : 0 ≤ a2) (k1 : a2 < g.groups) (hne : a1 ≠ a2) {i : Nat} (hi' : i ≤ (memI g a2).length + 1) : bs g a2 + (i : Nat) < bs g a1 ∨ bs g a1 + ((memI g a1).length : Nat) + 1 < bs g a2 + (i : Nat) := by
  have s1 := ok.s1
  have hlo : ∀ {x y : Int}, 0 ≤ x → x < g.groups → x < y → hi g x ≤ lo g y := fun {x y} x0 x1 xy => by
    have e1 := hi_le_lo ok x0 x1
    have e2 : lo g x + g.size = (x + 1) * g.size := by unfold lo; rw [Int.add_mul]; omega
    have e3 : (x + 1) * g.size ≤ y * g.size := Int.mul_le_mul_of_nonneg_right (by omega) (by omega)
    unfold lo at *
    omega
  have m1 := mem_hi ok h0 h1
  have m2 := mem_hi ok k0 k1
  unfold bs
  rcases Int.lt_or_lt_of_ne hne with c | c
  · have := hlo h0 h1 c
    omega
  · have := hlo k0 k1 c
    omega
theorem mem_apart {a1 a2 : Int} (h0 : 0 ≤ a1) (h1 : a1 < g.groups) (k0 : 0 ≤ a2) (k1 : a2 < g.groups) (hne : a1 ≠ a2) {b : Int} (hb : b ∈ memI g a2) : b ∉ memI g a1 := fun z =>
  hne ((mem_in ok h0 h1 z).2.2.symm.trans (mem_in ok k0 k1 hb).2.2)
def setB (bad : Nat → List Nat) (a : Nat) (x : List Nat) : Nat → List Nat := fun i => if i = a then x else bad i
theorem INV.lay {D P P' : Int → List Int} {bad : Nat → List Nat} (h : INV g D P bad) {a : Nat} (ha : (a : Int) < g.groups) (hP : ∀ b, isPg (P' b) = true) (hP' : ∀ b, b ∉ memI g (a : Int) → P' b = P b) : INV g (layD g D (a : Int) (psOf g P' (a : Int))) P' (setB bad a []) := by
  refine ⟨hP, fun i hi' => ?_⟩
  unfold setB
  by_cases c : i = a
  · subst c
    rw [if_pos rfl]
    exact GI_lay ok (by omega) ha
  · rw [if_neg c]
    refine GI.congr ok (by omega) hi' (h.gi i hi') (fun j hj => ?_) (fun b hb => hP' b (mem_apart ok (by omega) ha (by omega) hi' (by omega) hb))
    exact layD_off ok (by omega) ha (apart ok (by omega) ha (by omega) hi' (by omega) hj)
theorem INV.hurt {D P : Int → List Int} {bad : Nat → List Nat} (h : INV g D P bad) {a : Nat} (ha : (a : Int) < g.groups) {i : Nat} (hi' : i ≤ (memI g (a : Int)).length) (hn : i ∉ bad a) {o : List Int} (ho : mark o ≠ mark (D (bs g (a : Int) + (i : Nat)))) : INV g (updD D (bs g (a : Int) + (i : Nat)) o) P (setB bad a (bad a ++ [i])) := by
  refine ⟨h.pg, fun j hj => ?_⟩
  unfold setB
  by_cases c : j = a
  · subst c
    rw [if_pos rfl]
    have z := h.gi j ha
    have h0 : (0 : Int) ≤ (j : Int) := by omega
    have eo : ∀ k, k ≤ (memI g (j : Int)).length → k ≠ i → (rdP g (updD D (bs g (j : Int) + (i : Nat)) o) (j : Int)).getD k [] = (rdP g D (j : Int)).getD k [] := fun k hk hki => by
      rw [rdP_getD ok h0 ha _ hk, rdP_getD ok h0 ha _ hk]
      unfold updD
      rw [if_neg (by omega)]
    refine ⟨?_, ?_, ?_, ?_, ?_⟩
    · rw [← z.mrk]
      have := marks_pl ok h0 ha
      unfold updD
      rw [if_neg (by omega)]
    · rw [List.nodup_append]
      exact ⟨z.nd, by simp, fun x hx y hy e => hn (by rw [List.mem_singleton.mp hy] at e; exact e ▸ hx)⟩
    · intro x hx
      rcases List.mem_append.mp hx with e | e
      · exact z.ins x e
      · rw [List.mem_singleton.mp e]; exact hi'
    · intro k hk hkn
      rw [eo k hk (fun e => hkn (by simp [e]))]
      exact z.ok k hk fun e => hkn (List.mem_append_left _ e)
    · intro k hk
      rcases List.mem_append.mp hk with e | e
      · rw [eo k (z.ins k e) (fun e' => hn (e' ▸ e))]
        exact z.br k e
      · rw [List.mem_singleton.mp e]
        have q := z.ok i hi' hn
        rw [rdP_getD ok h0 ha _ hi'] at q ⊢
        rw [← q]
        unfold updD
        rw [if_pos rfl]
        exact ho
  · rw [if_neg c]
    refine GI.congr ok (by omega) hj (h.gi j hj) (fun k hk => ?_) (fun b hb => rfl)
    have := apart ok (a1 := (a : Int)) (a2 := (j : Int)) (by omega) ha (by omega) hj (by omega) hk
    unfold updD
    rw [if_neg (by omega)]
theorem begin_gi {D : Int → List Int} : ∀ k : Nat, (k : Int) ≤ g.groups → ∀ j : Nat, j < k → GI g (beginD g D k) (fun _ => zeros) [] (j : Int)
  | 0, _, j, hj => absurd hj (Nat.not_lt_zero _)
  | k + 1, hk, j, hj => by
    have e : zerosOf g (k : Int) = psOf g (fun _ => zeros) (k : Int) := rfl
    show GI g (layD g (beginD g D k) (k : Int) (zerosOf g (k : Int))) _ _ _
    rw [e]
    by_cases c : j = k
    · subst c
      exact GI_lay ok (by omega) (by omega)
    · refine GI.congr ok (by omega) (by omega) (begin_gi (D := D) k (by omega) j (by omega)) (fun i hi' => ?_) (fun b hb => rfl)
      exact layD_off ok (by omega) (by omega) (apart ok (by omega) (by omega) (by omega) (by omega) (by omega) hi')
theorem begin_inv {D : Int → List Int} : INV g (beginD g D g.groups.toNat) (fun _ => zeros) (fun _ => []) := by
  refine ⟨fun _ => rfl, fun i hi' => begin_gi ok _ (by omega) i (by omega)⟩
/-- what the law tells of a group -/
def told (g : GN) (bad : Nat → List Nat) (k : Nat) : List Nm := nmsOf g (k : Int) ((List.range ((memI g (k : Int)).length + 1)).filter fun i => decide (i ∈ bad k))
def lawScr (g : GN) (bad : Nat → List Nat) : Nat → List Nm × List Nm
  | 0 => ([], [])
  | k + 1 => if (bad k).length = 1 then ((lawScr g bad k).1 ++ told g bad k, (lawScr g bad k).2) else ((lawScr g bad k).1, (lawScr g bad k).2 ++ told g bad k)
def badScr (bad : Nat → List Nat) (k : Nat) : Nat → List Nat := fun i => if i < k ∧ (bad i).length = 1 then [] else bad i
theorem scr_inv {D P : Int → List Int} {bad : Nat → List Nat} (h : INV g D P bad) : ∀ k : Nat, (k : Int) ≤ g.groups → INV g (scr g D k).1 P (badScr bad k) ∧ (scr g D k).2 = lawScr g bad k
  | 0, _ => ⟨by
    have e : badScr bad 0 = bad := by funext i; simp [badScr]
    rw [e]
    exact h, rfl⟩
  | k + 1, hk => by
    obtain ⟨z, e⟩ := scr_inv h k (by omega)
    have hk' : (k : Int) < g.groups := by omega
    have h0 : (0 : Int) ≤ (k : Int) := by omega
    have zk := z.gi k hk'
    have eb : badScr bad k k = bad k := by simp [badScr]
    rw [eb] at zk
    have e1 : (scr g D k).2.1 = (lawScr g bad k).1 := by rw [e]
    have e2 : (scr g D k).2.2 = (lawScr g bad k).2 := by rw [e]
    have et : nmsOf g (k : Int) (badI g (scr g D k).1 (k : Int)) = told g bad k := by rw [GI.badI ok h0 hk' zk]; rfl
    by_cases c : (bad k).length = 1
    · have hh := GI.heal1 ok h0 hk' zk h.pg c
      have hb : badI g (scr g D k).1 (k : Int) ≠ [] := fun q => by
        have := (GI.perm ok h0 hk' zk).length_eq
        rw [q] at this
        simp at this
        omega
      have es : K68.scr g D (k + 1) = (layD g (K68.scr g D k).1 k (healM g (K68.scr g D k).1 k).1.dropLast, (K68.scr g D k).2.1 ++ nmsOf g k (badI g (K68.scr g D k).1 k), (K68.scr g D k).2.2 ++ nmsOf g k (healM g (K68.scr g D k).1 k).2) := by
        show (if _ then _ else _) = _
        rw [if_pos ⟨by rw [hh], hb⟩]
      rw [es, hh, et, e1, e2]
      have ed : (trueP g P (k : Int)).dropLast = psOf g P (k : Int) := by unfold trueP; simp
      refine ⟨?_, ?_⟩
      · have q := INV.lay ok z (a := k) hk' h.pg (fun b _ => rfl)
        have ef : badScr bad (k + 1) = setB (badScr bad k) k [] := by
          funext i
          unfold badScr setB
          by_cases ci : i = k
          · subst ci
            rw [if_pos ⟨by omega, c⟩, if_pos rfl]
          · rw [if_neg ci]
            show _ = if i < k ∧ (bad i).length = 1 then [] else bad i
            by_cases cl : i < k ∧ (bad i).length = 1
            · rw [if_pos ⟨by omega, cl.2⟩, if_pos cl]
            · rw [if_neg (fun q => cl ⟨by omega, q.2⟩), if_neg cl]
        rw [ef]
        show INV g (layD g _ _ (trueP g P (k : Int)).dropLast) P _
        rw [ed]
        exact q
      · show (_, _) = (if _ then _ else _)
        rw [if_pos c]
        simp [nmsOf]
    · have hh := GI.heal2 ok h0 hk' zk c
      have es : K68.scr g D (k + 1) = ((K68.scr g D k).1, (K68.scr g D k).2.1, (K68.scr g D k).2.2 ++ nmsOf g k (healM g (K68.scr g D k).1 k).2) := by
        show (if _ then _ else _) = _
        rw [if_neg (by rw [hh]; exact fun q => q.2 q.1)]
      rw [es, hh]
      refine ⟨?_, ?_⟩
      · have ef : badScr bad (k + 1) = badScr bad k := by
          funext i
          unfold badScr
          by_cases cl : i < k ∧ (bad i).length = 1
          · rw [if_pos ⟨by omega, cl.2⟩, if_pos cl]
          · rw [if_neg cl, if_neg]
            intro q
            by_cases ci : i = k
            · exact c (ci ▸ q.2)
            · exact cl ⟨by omega, q.2⟩
        rw [ef]
        exact z
      · show (_, _) = (if _ then _ else _)
        rw [if_neg c, et, e1, e2]
theorem healM_any {D P : Int → List Int} {bad : List Nat} {at_ : Int} (h0 : 0 ≤ at_) (h1 : at_ < g.groups) (h : GI g D P bad at_) (hP : ∀ b, isPg (P b) = true) {x : Nat} : (healM g D at_).2.any (fun i => decide (i ≠ x) && decide (i + 1 < (healM g D at_).1.length)) = decide (1 < bad.length ∧ ∃ i ∈ bad, i ≠ x ∧ i ≠ (memI g at_).length) := by
  rw [Bool.eq_iff_iff, List.any_eq_true, decide_eq_true_eq, healM_len]
  constructor
  · rintro ⟨i, hi', q⟩
    simp only [Bool.and_eq_true, decide_eq_true_eq] at q
    have := (GI.lostIff ok h0 h1 h hP).mp hi'
    exact ⟨this.2, i, this.1, q.1, by omega⟩
  · rintro ⟨hl, i, hi', q1, q2⟩
    have := h.ins i hi'
    exact ⟨i, (GI.lostIff ok h0 h1 h hP).mpr ⟨hi', hl⟩, by simp only [Bool.and_eq_true, decide_eq_true_eq]; exact ⟨q1, by omega⟩⟩
theorem healM_put {D P : Int → List Int} {bad : List Nat} {at_ : Int} (h0 : 0 ≤ at_) (h1 : at_ < g.groups) (h : GI g D P bad at_) (hP : ∀ b, isPg (P b) = true) {x : Nat} (hx : x < (memI g at_).length) {ws : List Int} (ha : (healM g D at_).2.any (fun i => decide (i ≠ x) && decide (i + 1 < (healM g D at_).1.length)) = false) : ((healM g D at_).1.set x ws).dropLast = psOf g (updD P (lo g at_ + (x : Nat)) ws) at_ := by
  rw [healM_any ok h0 h1 h hP] at ha
  have ha' := of_decide_eq_false ha
  apply List.ext_getElem
  · simp [psOf, healM_len]
  · intro j h2 h3
    have hj : j < (memI g at_).length := by simpa [psOf] using h3
    have em : (memI g at_)[j] = lo g at_ + (j : Nat) := by
      have := memI_at (g := g) (at_ := at_) (i := j) (by rw [← memI_len]; exact hj)
      rw [List.getElem?_eq_getElem hj] at this
      exact Option.some.inj this
    rw [List.getElem_dropLast, List.getElem_set]
    simp only [psOf, List.getElem_map, em]
    unfold updD
    split
    · rename_i c
      rw [if_pos (by omega)]
    · rename_i c
      rw [if_neg (by omega)]
      have hn : j ∉ (healM g D at_).2 := fun z => by
        have q := (GI.lostIff ok h0 h1 h hP).mp z
        exact ha' ⟨q.2, j, q.1, fun e => c e.symm, by omega⟩
      have q := GI.healOk ok h0 h1 h hP (i := j) (by omega) hn
      rw [List.getD_eq_getElem?_getD, List.getD_eq_getElem?_getD, List.getElem?_eq_getElem (by rw [healM_len]; omega), trueP, List.getElem?_append_left (by simpa [psOf] using hj)] at q
      simp only [Option.getD_some, psOf, List.getElem?_map, List.getElem?_eq_getElem hj, Option.map_some, em] at q
      exact q
theorem told_eq {bad : Nat → List Nat} {k : Nat} : told g bad k = ((List.range (memI g (k : Int)).length).filter fun i => decide (i ∈ bad k)).map (fun i => Sum.inl (lo g (k : Int) + (i : Nat))) ++ (if (memI g (k : Int)).length ∈ bad k then [Sum.inr (k : Int)] else []) := by
  unfold told nmsOf
  rw [List.range_succ, List.filter_append, List.map_append]
  congr 1
  · refine List.map_congr_left fun i hi' => ?_
    have := List.mem_range.mp (List.mem_filter.mp hi').1
    unfold nms
    rw [List.getD_eq_getElem?_getD, List.getElem?_append_left (by simpa using this), List.getElem?_map, memI_at (by rw [← memI_len]; exact this)]
    rfl
  · by_cases c : (memI g (k : Int)).length ∈ bad k
    · rw [if_pos c]
      simp [c, nms]
    · rw [if_neg c]
      simp [c]
end
end K68
set_option Elab.async false
set_option linter.all false
set_option maxRecDepth 100000
set_option maxHeartbeats 4000000
/-! K68Q: a mark, a sum, each with its check. -/
namespace K68
open PySem L2 AB
def spMarkOf (K : PySem.W.Frag) : Sp := fun vs H Q _ => ∃ v ws, vs = [v] ∧ TI K H v ws ∧ isPg ws = true ∧ ∀ H', Kp [] H H' → Q (.int (mark ws)) H'
def spSumOf (K : PySem.W.Frag) : Sp := fun vs H Q _ => ∃ l xs ps, vs = [.ref l] ∧ SqT K H l xs ∧ Pgs K H xs ps ∧ (∀ p ∈ ps, isPg p = true) ∧ ps.length ≤ 1000 ∧ ∀ H' v, Kp [] H H' → TI K H' v (sumP ps) → Q v H'
section
variable {P : Program} {w : World} {K : PySem.W.Frag} {mg : Str → Option Value} {base : Heap} {a : Ad} {f : Addr} {fd : FuncData}
theorem ok_mark_of (F : Fun K "mark_of" "mark_of" s_mark_of f fd) (T : Txt K mg a) (G_check : GFn P w K mg base 1 "check" ["is_right"] (spCheck a.nr)) (G_is_block : GFn P w K mg base 5 "is_block" ["value"] (spIsBlock K)) (G_mark_by : GFn P w K mg base 1 "mark_by" ["words"] (spMarkBy K)) :
    FnOk P w K mg base (L2.CX P w) 6 f fd ["words"] (spMarkOf K) := by
  refine okT F sc_mark_of (fun vs H Q E h => ?_) (fun cdv A outer s H vs Q E hr tk hp h => ?_)
  · obtain ⟨v, ws, rfl, _⟩ := h
    rfl
  · obtain ⟨v, ws, rfl, tv, hw, k⟩ := h
    refine ⟨_, (pss_cons (ps_expr (pe_cl G_check (hr.mono (by decide)) tk (pa_cons (pe_cl G_is_block (hr.mono (by decide)) tk (pa_cons (pv 0) pa_nil)) pa_nil))) (pss_one (ps_ret (pe_cl G_mark_by (hr.mono (by decide)) tk (pa_cons (pv 0) pa_nil))))), ?_⟩
    refine ⟨_, rfl, v, ws, rfl, tv, by rw [isPg_len hw]; decide, fun H1 k1 => ?_⟩
    rw [hw]
    refine ⟨true, rfl, fun _ => ?_, fun z => nomatch z⟩
    exact ⟨_, rfl, v, ws, rfl, tv.kp k1, k _ k1⟩
theorem ok_sum_of (F : Fun K "sum_of" "sum_of" s_sum_of f fd) (T : Txt K mg a) (G_check : GFn P w K mg base 1 "check" ["is_right"] (spCheck a.nr)) (G_is_block : GFn P w K mg base 5 "is_block" ["value"] (spIsBlock K)) (G_sum_by : GFn P w K mg base 1 "sum_by" ["pages"] (spSumBy K)) :
    FnOk P w K mg base (L2.CX P w) 6 f fd ["pages"] (spSumOf K) := by
  refine okT F sc_sum_of (fun vs H Q E h => ?_) (fun cdv A outer s H vs Q E hr tk hp h => ?_)
  · obtain ⟨l, xs, ps, rfl, _⟩ := h
    rfl
  · obtain ⟨l, xs, ps, rfl, hl, pg, hps, hn, k⟩ := h
    have hxl := pair_len pg
    refine ⟨_, (pss_cons (ps_expr (pe_cl G_check (hr.mono (by decide)) tk (pa_cons (pe_and (pe_callB (k_isi K (by rfl)) (by rfl) T.n_isinstance (by decide +kernel) (pa_cons (pv 0) (pa_cons (pe_bltn (v := .ty "tuple") (u := .type "tuple") (by rfl) T.n_tuple (by decide +kernel) rfl) pa_nil))) (pe_one (pe_callB (k_all K (by rfl) rfl) (by rfl) T.n_all (by decide +kernel) (pa_cons (pe_lc (own := [("words", 1)]) (g := gName 1) (tt := tYes) (by rfl) sc_sum_of.nd (k_piT K (by rfl) (pi_tup (pv 0))) (blkOk_by (own := [("words", 1)]) (N := N_sum_of) (sc := defScope s_sum_of) (by decide +kernel)) (fun _ _ _ _ _ => pg_name (i := 1) sc_sum_of.nd rfl (Or.inl rfl)) (fun _ _ _ _ _ => pts_nil) (fun _ _ _ _ _ => by exact (pe_cl G_is_block (hr.mono (by decide)) takes0 (pa_cons (pv 1) pa_nil)))) pa_nil)))) pa_nil))) (pss_one (ps_ret (pe_cl G_sum_by (hr.mono (by decide)) tk (pa_cons (pv 0) pa_nil))))), ?_⟩
    refine ⟨_, rfl, .ref l, .ty "tuple", .type "tuple", .type "tuple", true, rfl, .ty _, TyX.sqT hl, kit_ty (by decide +kernel), true, rfl, iteT ?_⟩
    refine ⟨_, rfl, l, rfl, ⟨_, hl⟩, fun D hD => ?_⟩
    refine lc_pure walk_tup (by rw [hxl]; exact small1000 hn) hD (fun _ => true) (fun j v _ => v = .bl true) (fun j v H H' _ r => r) (fun H k => k.sqT hl) ?_ ?_
    · intro i x H1 H2 hi k1 y N F' hN hF
      obtain ⟨rfl, hx⟩ := y
      obtain ⟨ws, hw, tv, hwl⟩ := pair_at (i := 0) pg hx
      have hp := hps ws (List.mem_of_getElem? hw)
      refine ⟨rfl, _, rfl, x, ws, rfl, tv.kp k1, by rw [hwl]; decide, fun H4 k4 => ?_⟩
      rw [hp]
      exact hN _ _ rfl k4 rfl
    · intro H1 acc k1 hacc p
      rw [filter_all] at p
      have e : acc = (List.replicate acc.length true).map V.bl := by
        have : ∀ (js : List Nat) (acc : List V), Paired (fun j v => v = V.bl true) js acc → acc = (List.replicate acc.length true).map V.bl := by
          intro js acc p
          induction p with
          | nil => rfl
          | cons r t ih =>
            subst r
            simp only [List.length_cons, List.replicate_succ, List.map_cons]
            rw [← ih]
        exact this _ _ p
      refine ⟨D, List.replicate acc.length true, rfl, SqL.of (by rw [hacc, ← e]), ?_⟩
      have e2 : (List.replicate acc.length true).all id = true := by simp [List.all_replicate]
      rw [e2]
      refine ⟨true, rfl, fun _ => ?_, fun z => nomatch z⟩
      exact ⟨_, rfl, l, xs, ps, rfl, .inr (k1.sqT hl), pg.kp k1, fun H2 v k2 tv => k _ v (k1.trans0 k2) tv⟩
end
end K68
set_option Elab.async false
set_option linter.all false
set_option maxRecDepth 100000
set_option maxHeartbeats 4000000
/-! K68R: what the law holds; all looked at. -/
namespace K68
open PySem L2 AB
/-- the name of the i-th of a group -/
def nmV (g : GN) (at_ : Int) (i : Nat) : V := if i < (memI g at_).length then .int (lo g at_ + (i : Nat)) else .str "sum"
theorem flat_nm {g : GN} {at_ : Int} {i : Nat} : flatV (nmV g at_ i) = true := by
  unfold nmV
  split <;> rfl
theorem flat_nms {g : GN} {at_ : Int} {bad : List Nat} : (bad.map (nmV g at_)).all flatV = true := by
  rw [List.all_eq_true]
  intro v hv
  obtain ⟨i, _, rfl⟩ := List.mem_map.mp hv
  exact flat_nm
theorem eqV_nm {g : GN} {at_ : Int} {i j : Nat} (hi' : i ≤ (memI g at_).length) (hj : j ≤ (memI g at_).length) : eqV (nmV g at_ j) (nmV g at_ i) = decide (j = i) := by
  unfold nmV
  split <;> split
  · show ((lo g at_ + (j : Int)) == (lo g at_ + (i : Int))) = _
    rw [Bool.eq_iff_iff]
    simp
    omega
  · show false = _
    rw [decide_eq_false (by omega)]
  · show false = _
    rw [decide_eq_false (by omega)]
  · have e : j = i := by omega
    rw [decide_eq_true e]
    rfl
theorem inV_nm {g : GN} {at_ : Int} {i : Nat} (hi' : i ≤ (memI g at_).length) : ∀ {bad : List Nat}, (∀ j ∈ bad, j ≤ (memI g at_).length) → inV (nmV g at_ i) (bad.map (nmV g at_)) = decide (i ∈ bad)
  | [], _ => rfl
  | j :: bad, h => by
    have ih := inV_nm hi' (bad := bad) fun k hk => h k (List.mem_cons_of_mem _ hk)
    unfold inV at *
    rw [List.map_cons, List.any_cons, ih, eqV_nm hi' (h j List.mem_cons_self)]
    rw [Bool.eq_iff_iff, Bool.or_eq_true, decide_eq_true_eq, decide_eq_true_eq, decide_eq_true_eq, List.mem_cons]
    exact ⟨fun z => z.imp Eq.symm id, fun z => z.imp Eq.symm id⟩
def GrAt (S : List Addr) (H : Hp) (gp : Addr) (g : GN) : Prop := ∃ as : List Addr, H gp = some (.lst (as.map V.ref)) ∧ gp ∉ S ∧ as.length = g.groups.toNat ∧ ∀ i (hi : i < as.length), H as[i] = some (.lst ((memI g (i : Int)).map V.int)) ∧ as[i] ∉ S
def BdAt (S : List Addr) (H : Hp) (bl : Addr) (g : GN) (bad : Nat → List Nat) : Prop := ∃ as : List Addr, H bl = some (.lst (as.map V.ref)) ∧ as.length = g.groups.toNat ∧ ∀ i (hi : i < as.length), H as[i] = some (.lst ((bad i).map (nmV g (i : Int)))) ∧ as[i] ∉ S
def PgAt (K : PySem.W.Frag) (H : Hp) (pl : Addr) (g : GN) (P : Int → List Int) : Prop := ∃ xs : List V, H pl = some (.lst xs) ∧ xs.length = g.many.toNat ∧ ∀ i (hi : i < xs.length), TI K H xs[i] (P (i : Int))
theorem GrAt.kp {S ms : List Addr} {H H' : Hp} {gp : Addr} {g : GN} (h : GrAt S H gp g) (k : Kp ms H H') (hs : ∀ x ∈ ms, x ∈ S) : GrAt S H' gp g := by
  obtain ⟨as, h1, h2, h3, h4⟩ := h
  exact ⟨as, k.st _ _ (fun z => h2 (hs _ z)) h1, h2, h3, fun i hi => ⟨k.st _ _ (fun z => (h4 i hi).2 (hs _ z)) (h4 i hi).1, (h4 i hi).2⟩⟩
theorem BdAt.kp {S ms : List Addr} {H H' : Hp} {bl : Addr} {g : GN} {bad : Nat → List Nat} (h : BdAt S H bl g bad) (k : Kp ms H H') (hs : ∀ x ∈ ms, x ∈ S) (hb : bl ∉ ms) : BdAt S H' bl g bad := by
  obtain ⟨as, h1, h3, h4⟩ := h
  exact ⟨as, k.st _ _ hb h1, h3, fun i hi => ⟨k.st _ _ (fun z => (h4 i hi).2 (hs _ z)) (h4 i hi).1, (h4 i hi).2⟩⟩
theorem PgAt.kp {K : PySem.W.Frag} {ms : List Addr} {H H' : Hp} {pl : Addr} {g : GN} {P : Int → List Int} (h : PgAt K H pl g P) (k : Kp ms H H') (hb : pl ∉ ms) : PgAt K H' pl g P := by
  obtain ⟨xs, h1, h3, h4⟩ := h
  exact ⟨xs, k.st _ _ hb h1, h3, fun i hi => (h4 i hi).kp k⟩
structure LN where
  (q p f w n dl gp pl bl : Addr)
def LN.S (l : LN) : List Addr := [l.w, l.n, l.dl, l.pl, l.bl]
structure LH (K : PySem.W.Frag) (a : Ad) (H : Hp) (l : LN) (g : GN) (bm : Int) (D : Int → List Int) (m : Nat) (P : Int → List Int) (bad : Nat → List Nat) : Prop where
  gd : Gd K a H l.q l.p l.f l.w l.n g bm D m
  gr : GrAt l.S H l.gp g
  pg : PgAt K H l.pl g P
  bd : BdAt l.S H l.bl g bad
  dr : Dr H l.dl
  nd : l.S.Nodup
section
variable {K : PySem.W.Frag} {a : Ad} {H H' : Hp} {l : LN} {g : GN} {bm : Int} {D : Int → List Int} {m : Nat} {P : Int → List Int} {bad : Nat → List Nat} (h : LH K a H l g bm D m P bad)
include h
theorem LH.kp0 (k : Kp [] H H') : LH K a H' l g bm D m P bad :=
  ⟨h.gd.kp0 k, h.gr.kp k (by simp), h.pg.kp k (by simp), h.bd.kp k (by simp) (by simp), h.dr.kp k (by simp), h.nd⟩
/-- a list of the law's own is none of the guard's -/
theorem LH.off {x : Addr} {o : List V} (hx : H x = some (.lst o)) (hw : x ≠ l.w) : l.q ∉ [x] ∧ l.p ∉ [x] ∧ l.f ∉ [x] ∧ l.w ∉ [x] ∧ l.n ∉ [x] := by
  obtain ⟨⟨_, hP⟩, hF, ⟨us, hW, _⟩, ⟨kvs, hN, _⟩, _, _⟩ := h.gd.dk
  obtain ⟨_, hQ⟩ := h.gd.gu
  simp only [List.mem_singleton]
  exact ⟨ne_of hQ hx (by intro z; cases z), ne_of hP hx (by intro z; cases z), ne_of hF hx (by intro z; cases z), hw.symm, ne_of hN hx (by intro z; cases z)⟩
theorem LH.ne : l.dl ≠ l.w ∧ l.dl ≠ l.n ∧ l.pl ≠ l.w ∧ l.pl ≠ l.n ∧ l.pl ≠ l.dl ∧ l.bl ≠ l.w ∧ l.bl ≠ l.n ∧ l.bl ≠ l.dl ∧ l.bl ≠ l.pl := by
  have := h.nd
  simp only [LN.S, List.nodup_cons, List.mem_cons, List.not_mem_nil, or_false, not_or, List.nodup_nil, and_true, not_false_eq_true] at this
  obtain ⟨⟨h1, h2, h3, h4⟩, ⟨h5, h6, h7⟩, ⟨h8, h9⟩, h10⟩ := this
  exact ⟨fun e => h2 e.symm, fun e => h5 e.symm, fun e => h3 e.symm, fun e => h6 e.symm, fun e => h8 e.symm, fun e => h4 e.symm, fun e => h7 e.symm, fun e => h9 e.symm, fun e => h10 e.symm⟩
theorem LH.draw (k : Kp [l.dl] H H') (d : Dr H' l.dl) : LH K a H' l g bm D m P bad := by
  obtain ⟨ds, hd⟩ := h.dr
  have o := h.off hd h.ne.1
  have n := h.ne
  exact ⟨h.gd.kp k o.1 o.2.1 o.2.2.1 o.2.2.2.1 o.2.2.2.2, h.gr.kp k (by simp [LN.S]), h.pg.kp k (by simp [n.2.2.2.2.1]), h.bd.kp k (by simp [LN.S]) (by simp [n.2.2.2.2.2.2.2.1]), d, h.nd⟩
theorem LH.wr {D' : Int → List Int} {m' : Nat} (k : Kp [l.w, l.n] H H') (d : DiskAt K a.cd H' l.p l.f l.w l.n bm D' m') : LH K a H' l g bm D' m' P bad := by
  have n := h.ne
  exact ⟨h.gd.wr k d, h.gr.kp k (by simp [LN.S]), h.pg.kp k (by simp [n.2.2.1, n.2.2.2.1]), h.bd.kp k (by simp [LN.S]) (by simp [n.2.2.2.2.2.1, n.2.2.2.2.2.2.1]), h.dr.kp k (by simp [n.1, n.2.1]), h.nd⟩
theorem LH.putP {xs : List V} (hx : H l.pl = some (.lst xs)) {b : Nat} {v : V} {ws : List Int} (tv : TI K H v ws) : LH K a (upd H l.pl (.lst (xs.set b v))) l g bm D m (updD P (b : Int) ws) bad ∧ Kp [l.pl] H (upd H l.pl (.lst (xs.set b v))) := by
  have n := h.ne
  have k : Kp [l.pl] H (upd H l.pl (.lst (xs.set b v))) := Kp.set (by rw [hx]; exact True.intro)
  have o := h.off hx n.2.2.1
  refine ⟨⟨h.gd.kp k o.1 o.2.1 o.2.2.1 o.2.2.2.1 o.2.2.2.2, h.gr.kp k (by simp [LN.S]), ?_, h.bd.kp k (by simp [LN.S]) (by simp [n.2.2.2.2.2.2.2.2]), h.dr.kp k (by simp [n.2.2.2.2.1.symm]), h.nd⟩, k⟩
  obtain ⟨ys, h1, h2, h3⟩ := h.pg
  obtain rfl : ys = xs := by rw [hx] at h1; cases h1; rfl
  refine ⟨_, upd_same, by rw [List.length_set]; exact h2, fun i hi => ?_⟩
  rw [List.length_set] at hi
  rw [List.getElem_set]
  unfold updD
  split
  · rename_i c
    rw [if_pos (by omega)]
    exact tv.kp k
  · rename_i c
    rw [if_neg (by omega)]
    exact (h3 i hi).kp k
theorem LH.putB {as : List Addr} (hx : H l.bl = some (.lst (as.map V.ref))) {i : Nat} {x : Addr} {js : List Nat} (hj : H x = some (.lst (js.map (nmV g (i : Int))))) (hS : x ∉ l.S) : LH K a (upd H l.bl (.lst ((as.map V.ref).set i (.ref x)))) l g bm D m P (setB bad i js) ∧ Kp [l.bl] H (upd H l.bl (.lst ((as.map V.ref).set i (.ref x)))) := by
  have n := h.ne
  have k : Kp [l.bl] H (upd H l.bl (.lst ((as.map V.ref).set i (.ref x)))) := Kp.set (by rw [hx]; exact True.intro)
  have o := h.off hx n.2.2.2.2.2.1
  refine ⟨⟨h.gd.kp k o.1 o.2.1 o.2.2.1 o.2.2.2.1 o.2.2.2.2, h.gr.kp k (by simp [LN.S]), h.pg.kp k (by simp [n.2.2.2.2.2.2.2.2.symm]), ?_, h.dr.kp k (by simp [n.2.2.2.2.2.2.2.1.symm]), h.nd⟩, k⟩
  obtain ⟨bs, h1, h2, h3⟩ := h.bd
  obtain rfl : bs = as := by
    rw [hx] at h1
    have e : as.map V.ref = bs.map V.ref := HO.lst.inj (Option.some.inj h1)
    exact ((List.map_inj_right (fun _ _ z => by cases z; rfl)).mp e).symm
  have xb : x ≠ l.bl := fun z => hS (by simp [LN.S, z])
  refine ⟨bs.set i x, by rw [upd_same, ← List.map_set], by rw [List.length_set]; exact h2, fun j hj' => ?_⟩
  rw [List.length_set] at hj'
  rw [List.getElem_set]
  unfold setB
  split
  · rename_i c
    subst c
    rw [if_pos rfl]
    exact ⟨k.st _ _ (by simp [xb]) hj, hS⟩
  · rename_i c
    rw [if_neg (fun z => c z.symm)]
    have b3 := (h3 j hj').2
    exact ⟨k.st _ _ (by simp only [List.mem_singleton]; intro z; exact b3 (by simp [LN.S, z])) (h3 j hj').1, b3⟩
end
theorem atI_int {xs : List V} {b : Int} (h0 : 0 ≤ b) (h : b.toNat < xs.length) : atI xs b = some xs[b.toNat] := by
  obtain ⟨n, rfl⟩ := Int.eq_ofNat_of_zero_le h0
  exact atI_nat (by simp only [Int.toNat_natCast] at *; exact List.getElem?_eq_getElem h)
theorem dp_ti {K : PySem.W.Frag} {H : Hp} {v : V} {ws : List Int} (h : TI K H v ws) : Dp K H v (.tuple (ws.map .int)) := by
  obtain ⟨t, rfl, h⟩ := h
  refine .tup h ?_
  clear h
  induction ws with
  | nil => exact .nil
  | cons n ws ih => exact .cons (.int n) ih
theorem shaped_ints (ws : List Int) : SeqAt.shaped (.tuple (ws.map .int)) = true := by
  have h1 : PyData.canLayAll0 (ws.map .int) = true := by
    induction ws with
    | nil => rfl
    | cons n ws ih => rw [List.map_cons, PyData.canLayAll0, ih]; rfl
  have h2 : PyData.depthAll (ws.map .int) ≤ 1 := by
    clear h1
    induction ws with
    | nil => exact Nat.zero_le _
    | cons n ws ih => rw [List.map_cons, PyData.depthAll]; exact Nat.max_le.mpr ⟨by simp [PyData.depth], ih⟩
  unfold SeqAt.shaped
  rw [PyData.canLay0, h1, PyData.depth]
  simp
  omega
theorem eqv_ints (ws us : List Int) : PyData.eqv (.tuple (ws.map .int)) (.tuple (us.map .int)) = decide (ws = us) := by
  rw [PyData.eqv]
  exact PySem.W.ked_eqvAll ws us
def spLooks (K : PySem.W.Frag) (a : Ad) : Sp := fun vs H Q _ => ∃ (l : LN) (g : GN) (bm : Int) (D : Int → List Int) (m : Nat) (P : Int → List Int) (bad : Nat → List Nat), vs = [.ref l.q, .ref l.pl, .ref l.bl, .ref l.gp] ∧ LH K a H l g bm D m P bad ∧ INV g D P bad ∧ bm ≤ 60 ∧ ∀ H', Kp [] H H' → Q (.bl true) H'
section
variable {P : Program} {w : World} {K : PySem.W.Frag} {mg : Str → Option Value} {base : Heap} {a : Ad} {f : Addr} {fd : FuncData}
theorem ok_looks (F : Fun K "_law_looks" "_law_looks" s_law_looks f fd) (T : Txt K mg a) (G_Guard_read : GMt P w K mg base 7 a.cg "read" ["self", "block"] (spRead K a)) :
    FnOk P w K mg base (L2.CX P w) 8 f fd ["guard", "pages", "bad", "groups"] (spLooks K a) := by
  refine okT F sc_law_looks (fun vs H Q E h => ?_) (fun cdv A outer s H vs Q E hr tk hp h => ?_)
  · obtain ⟨l, g, bm, D, m, Pp, bad, rfl, _⟩ := h
    rfl
  · obtain ⟨l, g, bm, D, m, Pp, bad, rfl, lh, inv, hbm, k⟩ := h
    have ok := lh.gd.ok
    have gle : g.groups ≤ 60 := by have := ok.fb; have := ok.f0; have := ok.m1; omega
    have gpos : 0 ≤ g.groups := by
      have := ok.gr
      have := ok.s1
      have : (-g.many) / g.size < 1 := Int.ediv_lt_of_lt_mul (by omega) (by have := ok.m1; omega)
      omega
    refine ⟨_, (pss_cons (ps_for hp rfl (pi_range1 (by rfl) T.n_range (pa_cons (pe_callB (k_len K (by rfl)) (by rfl) T.n_len (by decide +kernel) (pa_cons (pv 3) pa_nil)) pa_nil)) (pg_name (i := 4) sc_law_looks.nd rfl (by first | exact Or.inl rfl | exact Or.inr rfl)) (pss_one (ps_for hp rfl (k_piL K (by rfl) (pi_list (pe_ix (k_ixL K (by rfl)) (pv 3) (pv 4) (fun _ _ => rfl)))) (pg_name (i := 5) sc_law_looks.nd rfl (by first | exact Or.inl rfl | exact Or.inr rfl)) (C8.pss_cut (ps_try_only rfl rfl ⟨rfl, by decide, .inl T.g_NoAnswer⟩ tk (fun W pn xe tk hp => (pss_one (ps_set (i := 6) sc_law_looks.nd rfl (by first | exact Or.inl rfl | exact Or.inr rfl) (pe_mt (pv 0) G_Guard_read (hr.mono (by decide)) tk (pa_cons (pv 5) pa_nil))))) (fun a oe cls d pn _ _ => (pss_one (ps_set (i := 6) sc_law_looks.nd rfl (by first | exact Or.inl rfl | exact Or.inr rfl) pe_non)))) (pss_one (ps_if (pt_cmpR (k_neD K (by rfl) hr.units) (pv 6) (pe_ifExp (PW.pt (pw_and (pt_cmpR (k_in K (by rfl)) (pv 5) (pe_ix (k_ixL K (by rfl)) (pv 2) (pv 4) (fun _ _ => rfl)) (by rfl)) (pw_and1 (pt_cmpR op_gt (pe_callB (k_len K (by rfl)) (by rfl) T.n_len (by decide +kernel) (pa_cons (pe_ix (k_ixL K (by rfl)) (pv 2) (pv 4) (fun _ _ => rfl)) pa_nil)) pe_int (nomark _))))) pe_non (pe_ix (k_ixL K (by rfl)) (pv 1) (pv 5) (fun _ _ => rfl))) (nomark _)) (pss_one (ps_ret pe_bl)) pss_nil)))))) (pss_one (ps_ret pe_bl))), ?_⟩
    obtain ⟨as, hg1, hg2, hg3, hg4⟩ := lh.gr
    obtain ⟨bs, hb1, hb3, hb4⟩ := lh.bd
    refine ⟨_, rfl, l.gp, _, rfl, .inl (SqL.of hg1), _, rfl, by omega, by simp; omega, ?_⟩
    refine for_it walk_range (fun i σ H' => (∃ y4 y5 y6, σ = [some (.ref l.q), some (.ref l.pl), some (.ref l.bl), some (.ref l.gp), y4, y5, y6]) ∧ Kp [] H H')
      ⟨⟨none, none, none, rfl⟩, Kp.refl _⟩ (fun _ _ _ _ _ => trivial) ?_ ?_
    · rintro i v σ H1 H2 hi ⟨⟨y4, y5, y6, rfl⟩, k1⟩ ⟨rfl, hv⟩
      obtain rfl : v = .int (i : Int) := by rw [hv]; exact congrArg V.int (Int.zero_add _)
      have hi1 : i < as.length := by simpa using hi
      have hi2 : i < bs.length := by omega
      have hig : (i : Int) < g.groups := by omega
      have h0 : (0 : Int) ≤ (i : Int) := by omega
      have lh1 := lh.kp0 k1
      have gi := inv.gi i hig
      have hg1' := k1.same _ _ hg1
      have hb1' := k1.same _ _ hb1
      have hm := k1.same _ _ (hg4 i hi1).1
      have hb := k1.same _ _ (hb4 i hi2).1
      refine ⟨_, rfl, _, rfl, l.gp, _, _, _, rfl, rfl, SqL.of hg1', atI_nat (v := .ref as[i]) (by simp [hi1]), as[i], rfl, ⟨_, SqL.of hm⟩, ?_⟩
      refine for_it walk_list (fun j σ H' => (∃ y5 y6, σ = [some (.ref l.q), some (.ref l.pl), some (.ref l.bl), some (.ref l.gp), some (.int (i : Int)), y5, y6]) ∧ Kp [] H H')
        ⟨⟨y5, y6, rfl⟩, k1⟩ (fun j σ H' _ pv => pv.2.sqL0 (SqL.of (hg4 i hi1).1)) ?_ ?_
      · rintro j v σ H3 H4 hj ⟨⟨y5, y6, rfl⟩, k3⟩ ⟨rfl, hv⟩
        obtain ⟨b, hb', rfl⟩ := map_at (g := V.int) hv
        have hjl : j < (memI g (i : Int)).length := (List.getElem?_eq_some_iff.mp hb').1
        rw [memI_at (by rw [← memI_len]; exact hjl)] at hb'
        obtain rfl : lo g (i : Int) + (j : Nat) = b := Option.some.inj hb'
        have lh3 := lh.kp0 k3
        have mh := mem_hi ok h0 hig
        have hle := hi_le_many ok h0 hig
        have hl0 := lo_nonneg ok h0 hig
        have ed := div_in ok h0 hig (b := lo g (i : Int) + (j : Nat)) (by omega) (by omega)
        have em : ((lo g (i : Int) + (j : Nat)) % g.size).toNat = j := by
          have e1 := Int.emod_add_mul_ediv (lo g (i : Int) + (j : Nat)) g.size
          rw [ed] at e1
          have e2 : g.size * (i : Int) = lo g (i : Int) := by unfold lo; rw [Int.mul_comm]
          omega
        obtain ⟨dx, hQ⟩ := lh3.gd.gu
        have lost := GI.lostIff ok h0 hig gi inv.pg (i := j)
        have gb3 := k3.same _ _ (hb4 i hi2).1
        have hbl3 := k3.same _ _ hb1
        -- what is found
        refine ⟨fun σ' H' => Kp [] H H' ∧ ∃ y, σ' = [some (.ref l.q), some (.ref l.pl), some (.ref l.bl), some (.ref l.gp), some (.int (i : Int)), some (.int (lo g (i : Int) + (j : Nat))), some y] ∧ ((y = .non ∧ j ∈ bad i ∧ 1 < (bad i).length) ∨ (TI K H' y (Pp (lo g (i : Int) + (j : Nat))) ∧ ¬ (j ∈ bad i ∧ 1 < (bad i).length))), ?_, ?_⟩
        · refine ⟨_, rfl, l.q, dx, _, rfl, hQ, guardF_no (by decide +kernel), _, rfl, l.q, l.p, l.f, l.w, l.n, g, bm, D, m, _, rfl, lh3.gd, by omega, fun z => absurd z (by omega), fun _ => ⟨fun hL H5 k5 => ?_, fun hL H5 v k5 tv => ?_⟩⟩
          · rw [ed, em] at hL
            refine ⟨true, T.xAA, fun _ c hc => ?_, fun z => nomatch z⟩
            exact ⟨k3.trans0 k5, _, rfl, .inl ⟨rfl, lost.mp hL⟩⟩
          · rw [ed, em] at hL tv
            refine ⟨k3.trans0 k5, _, rfl, .inr ⟨?_, fun z => hL (lost.mpr z)⟩⟩
            rw [GI.healOk ok h0 hig gi inv.pg (Nat.le_of_lt hjl) hL] at tv
            have et : (trueP g Pp (i : Int)).getD j [] = Pp (lo g (i : Int) + (j : Nat)) := by
              rw [trueP, List.getD_eq_getElem?_getD, List.getElem?_append_left (by simpa [psOf] using hjl), psOf, List.getElem?_map, memI_at (by rw [← memI_len]; exact hjl)]
              rfl
            rwa [et] at tv
        · rintro σ' H5 ⟨k5, y, rfl, hy⟩
          have hbl5 := k5.same _ _ hb1
          have gb5 := k5.same _ _ (hb4 i hi2).1
          have lh5 := lh.kp0 k5
          have hnm : (V.int (lo g (i : Int) + (j : Nat))) = nmV g (i : Int) j := by unfold nmV; rw [if_pos hjl]
          refine ⟨_, rfl, ?_⟩
          refine ⟨_, rfl, _, rfl, _, rfl, l.bl, _, _, _, rfl, rfl, SqL.of hbl5, atI_nat (v := .ref bs[i]) (by simp [hi2]), bs[i], _, rfl, .inl (SqL.of gb5), rfl, flat_nms, _, rfl, ?_⟩
          have ei : inV (V.int (lo g (i : Int) + (j : Nat))) ((bad i).map (nmV g (i : Int))) = decide (j ∈ bad i) := by rw [hnm, inV_nm (Nat.le_of_lt hjl) gi.ins]
          have yes : (j ∈ bad i ∧ 1 < (bad i).length) → y = .non := fun z => by
            rcases hy with q | q
            · exact q.1
            · exact absurd z q.2
          have no : ¬ (j ∈ bad i ∧ 1 < (bad i).length) → TI K H5 y (Pp (lo g (i : Int) + (j : Nat))) := fun z => by
            rcases hy with q | q
            · exact absurd q.2 z
            · exact q.1
          obtain ⟨xs, hx1, hx2, hx3⟩ := lh5.pg
          have hbx : (lo g (i : Int) + (j : Nat)).toNat < xs.length := by omega
          have ebx : (((lo g (i : Int) + (j : Nat)).toNat : Nat) : Int) = lo g (i : Int) + (j : Nat) := by omega
          have page : ¬ (j ∈ bad i ∧ 1 < (bad i).length) → ∃ d e, Dp K H5 y d ∧ Dp K H5 xs[(lo g (i : Int) + (j : Nat)).toNat] e ∧ SeqAt.shaped d = true ∧ SeqAt.shaped e = true ∧ (!PyData.eqv d e) = false := fun z => by
            have t2 := hx3 _ hbx
            rw [ebx] at t2
            exact ⟨_, _, dp_ti (no z), dp_ti t2, shaped_ints _, shaped_ints _, by rw [eqv_ints]; simp⟩
          have atx : atI xs (lo g (i : Int) + (j : Nat)) = some xs[(lo g (i : Int) + (j : Nat)).toNat] := atI_int (by omega) hbx
          refine ite_of (fun c1 => ?_) (fun c1 => ?_)
          · refine ⟨_, rfl, _, rfl, l.bl, _, _, _, rfl, rfl, SqL.of hbl5, atI_nat (v := .ref bs[i]) (by simp [hi2]), bs[i], _, rfl, .inl (SqL.of gb5), _, _, rfl, rfl, _, rfl, ?_⟩
            refine ite_of (fun c2 => ?_) (fun c2 => ?_)
            · have z : j ∈ bad i ∧ 1 < (bad i).length := ⟨of_decide_eq_true (ei.symm.trans c1), by have := of_decide_eq_true c2; simp at this; omega⟩
              obtain rfl := yes z
              refine ⟨.none, .none, .non, .non, rfl, rfl, _, rfl, iteF ?_⟩
              exact ⟨⟨_, _, rfl⟩, k5⟩
            · have z : ¬ (j ∈ bad i ∧ 1 < (bad i).length) := fun q => by
                have := of_decide_eq_false c2
                simp at this
                omega
              obtain ⟨d, e, d1, d2, s1, s2, e3⟩ := page z
              refine ⟨_, rfl, _, rfl, l.pl, _, _, _, rfl, rfl, SqL.of hx1, atx, d, e, d1, d2, s1, s2, _, rfl, ?_⟩
              rw [e3]
              exact iteF ⟨⟨_, _, rfl⟩, k5⟩
          · have z : ¬ (j ∈ bad i ∧ 1 < (bad i).length) := fun q => of_decide_eq_false (ei.symm.trans c1) q.1
            obtain ⟨d, e, d1, d2, s1, s2, e3⟩ := page z
            refine ⟨_, rfl, _, rfl, l.pl, _, _, _, rfl, rfl, SqL.of hx1, atx, d, e, d1, d2, s1, s2, _, rfl, ?_⟩
            rw [e3]
            exact iteF ⟨⟨_, _, rfl⟩, k5⟩
      · rintro σ H3 ⟨⟨y5, y6, rfl⟩, k3⟩
        exact ⟨⟨_, _, _, rfl⟩, k3⟩
    · rintro σ H1 ⟨⟨y4, y5, y6, rfl⟩, k1⟩
      exact k _ k1
end
end K68
set_option Elab.async false
set_option linter.all false
set_option maxRecDepth 100000
set_option maxHeartbeats 4000000
/-! K68S: one damaged. -/
namespace K68
open PySem L2 AB
theorem catA_of {K : PySem.W.Frag} {H : Hp} {a b : Addr} {xs ys : List V} {Q : VK} (ha : SqT K H a xs) (hb : SqT K H b ys) (hl : xs.length + ys.length ≤ 1000) (k : ∀ H' t, Kp [] H H' → SqT K H' t (xs ++ ys) → Q (.ref t) H') : rCatA K (.ref a) (.ref b) H Q := by
  refine ⟨a, b, xs, ys, rfl, rfl, ha, hb, Nat.le_trans hl (by decide), fun e => k _ _ (Kp.refl _) (by rw [e]; exact hb), fun _ e => k _ _ (Kp.refl _) (by rw [e, List.append_nil]; exact ha), fun _ _ p hp => k _ _ (Kp.new hp) (SqT.of upd_same)⟩
theorem LH.more {K : PySem.W.Frag} {a : Ad} {H : Hp} {l : LN} {g : GN} {bm : Int} {D : Int → List Int} {m m' : Nat} {P : Int → List Int} {bad : Nat → List Nat} (h : LH K a H l g bm D m P bad) (hm : m ≤ m') : LH K a H l g bm D m' P bad :=
  ⟨⟨h.gd.gu, h.gd.dk.more hm, h.gd.ok⟩, h.gr, h.pg, h.bd, h.dr, h.nd⟩
theorem groups_in {g : GN} {bm : Int} (ok : g.Ok bm) : 1 ≤ g.groups ∧ g.groups ≤ bm := by
  have h1 := ok.gr
  have s1 := ok.s1
  have m1 := ok.m1
  have : (-g.many) / g.size < 0 := Int.ediv_lt_of_lt_mul (by omega) (by omega)
  have := ok.fb
  have := ok.f0
  exact ⟨by omega, by omega⟩
theorem LH.fresh {K : PySem.W.Frag} {a : Ad} {H : Hp} {l : LN} {g : GN} {bm : Int} {D : Int → List Int} {m : Nat} {P : Int → List Int} {bad : Nat → List Nat} (h : LH K a H l g bm D m P bad) {x : Addr} (hx : H x = none) : x ∉ l.S := by
  obtain ⟨_, _, ⟨us, hW, _⟩, ⟨kvs, hN, _⟩, _, _⟩ := h.gd.dk
  obtain ⟨ds, hd⟩ := h.dr
  obtain ⟨xs, hp, _⟩ := h.pg
  obtain ⟨bs, hb, _⟩ := h.bd
  simp only [LN.S, List.mem_cons, List.not_mem_nil, or_false, not_or]
  exact ⟨(ne_of_none hW hx).symm, (ne_of_none hN hx).symm, (ne_of_none hd hx).symm, (ne_of_none hp hx).symm, (ne_of_none hb hx).symm⟩
theorem slA_of {K : PySem.W.Frag} {H : Hp} {a : Addr} {xs : List V} {lo hi : Option Int} {Q : VK} (ha : SqT K H a xs) (k : ∀ H' t, Kp [] H H' → SqT K H' t (cutV xs lo hi) → Q (.ref t) H') : rSlA K (.ref a) lo hi H Q := by
  refine ⟨a, xs, rfl, ha, fun e => k _ _ (Kp.refl _) ?_, fun _ p hp => k _ _ (Kp.new hp) (SqT.of upd_same)⟩
  have e2 : cutV xs lo hi = xs := by
    unfold cutV
    rw [e.1, e.2]
    simp
  rw [e2]
  exact ha
def spDamaged (K : PySem.W.Frag) (a : Ad) : Sp := fun vs H Q _ => ∃ (l : LN) (g : GN) (bm : Int) (D : Int → List Int) (m : Nat) (P : Int → List Int) (bad : Nat → List Nat), vs = [.ref l.dl, .ref l.p, .ref l.q, .ref l.gp, .ref l.bl] ∧ LH K a H l g bm D m P bad ∧ INV g D P bad ∧ bm ≤ 60 ∧ m ≤ 50000 ∧
  ∀ H' D' bad', LH K a H' l g bm D' (m + 1) P bad' → INV g D' P bad' → Q .non H'
section
variable {P : Program} {w : World} {K : PySem.W.Frag} {mg : Str → Option Value} {base : Heap} {a : Ad} {f : Addr} {fd : FuncData}
theorem ok_damaged (F : Fun K "_law_damaged" "_law_damaged" s_law_damaged f fd) (T : Txt K mg a) (G_law_take : GFn P w K mg base 1 "_law_take" ["draws", "bound"] spTake) (G_law_pick : GFn P w K mg base 2 "_law_pick" ["draws", "some"] (spPick K))
    (G_Guard_places_of : GMt P w K mg base 3 a.cg "places_of" ["self", "group"] (spPlacesOf K a)) (G_Guard_place_of : GMt P w K mg base 3 a.cg "place_of" ["self", "block"] (spPlace a)) (G_Disk_read : GMt P w K mg base 4 a.cd "read" ["self", "block"] (spDiskRead K a)) (G_Disk_write : GMt P w K mg base 6 a.cd "write" ["self", "block", "words"] (spDiskWrite K a)) :
    FnOk P w K mg base (L2.CX P w) 7 f fd ["draws", "disk", "guard", "groups", "bad"] (spDamaged K a) := by
  refine okT F sc_law_damaged (fun vs H Q E h => ?_) (fun cdv A outer s H vs Q E hr tk hp h => ?_)
  · obtain ⟨l, g, bm, D, m, Pp, bad, rfl, _⟩ := h
    rfl
  · obtain ⟨l, g, bm, D, m, Pp, bad, rfl, lh, inv, hbm, hm, k⟩ := h
    have ok := lh.gd.ok
    have gin := groups_in ok
    obtain ⟨as, hg1, hg2, hg3, hg4⟩ := lh.gr
    obtain ⟨bs, hb1, hb3, hb4⟩ := lh.bd
    have nd := lh.ne
    refine ⟨_, (pss_cons (ps_set (i := 5) sc_law_damaged.nd rfl (by first | exact Or.inl rfl | exact Or.inr rfl) (pe_cl G_law_take (hr.mono (by decide)) tk (pa_cons (pv 0) (pa_cons (pe_callB (k_len K (by rfl)) (by rfl) T.n_len (by decide +kernel) (pa_cons (pv 3) pa_nil)) pa_nil)))) (pss_cons (ps_set (i := 6) sc_law_damaged.nd rfl (by first | exact Or.inl rfl | exact Or.inr rfl) (pe_cl G_law_pick (hr.mono (by decide)) tk (pa_cons (pv 0) (pa_cons (pe_op op_cat (pe_ix (k_ixL K (by rfl)) (pv 3) (pv 5) (fun _ _ => rfl)) (pe_lst (pa_cons pe_str pa_nil))) pa_nil)))) (C8.pss_cut (ps_set (i := 7) sc_law_damaged.nd rfl (by first | exact Or.inl rfl | exact Or.inr rfl) (pe_ifExp (pt_cmpR op_eq (pv 6) pe_str (nomark _)) (pe_ix (k_ixT K (by rfl)) (pe_mt (pv 2) G_Guard_places_of (hr.mono (by decide)) tk (pa_cons (pv 5) pa_nil)) pe_int (fun _ _ => rfl)) (pe_mt (pv 2) G_Guard_place_of (hr.mono (by decide)) tk (pa_cons (pv 6) pa_nil)))) (pss_cons (ps_set (i := 8) sc_law_damaged.nd rfl (by first | exact Or.inl rfl | exact Or.inr rfl) (pe_mt (pv 1) G_Disk_read (hr.mono (by decide)) tk (pa_cons (pv 7) pa_nil))) (pss_cons (ps_set (i := 9) sc_law_damaged.nd rfl (by first | exact Or.inl rfl | exact Or.inr rfl) (pe_cl G_law_take (hr.mono (by decide)) tk (pa_cons (pv 0) (pa_cons pe_int pa_nil)))) (C8.pss_cut (ps_set (i := 10) sc_law_damaged.nd rfl (by first | exact Or.inl rfl | exact Or.inr rfl) (pe_op (k_catA K (by rfl)) (pe_op (k_catA K (by rfl)) (pe_slice (k_slT K (by rfl)) (pv 8) po_none (po_some (pv 9))) (pe_tup (pa_cons (pe_op op_mod (pe_callTy call_int1 (by rfl) T.n_int (by decide +kernel) (pa_cons (pe_op op_add (pe_ix (k_ixT K (by rfl)) (pv 8) (pv 9) (fun _ _ => rfl)) pe_int) pa_nil)) pe_int) pa_nil))) (pe_slice (k_slT K (by rfl)) (pv 8) (po_some (pe_op op_add (pv 9) pe_int)) po_none))) (pss_one (ps_if (pt_cmpR (k_nin K (by rfl)) (pv 6) (pe_ix (k_ixL K (by rfl)) (pv 4) (pv 5) (fun _ _ => rfl)) (by rfl)) (pss_cons (ps_expr (pe_mt (pv 1) G_Disk_write (hr.mono (by decide)) tk (pa_cons (pv 7) (pa_cons (pv 10) pa_nil)))) (pss_one (ps_asg (pe_op op_cat (pe_ix (k_ixL K (by rfl)) (pv 4) (pv 5) (fun _ _ => rfl)) (pe_lst (pa_cons (pv 6) pa_nil))) (pg_sub (pv 4) (pv 5) set_list)))) pss_nil)))))))), ?_⟩
    refine ⟨_, rfl, _, rfl, l.gp, _, rfl, .inl (SqL.of hg1), l.dl, _, rfl, lh.dr, by simp; omega, fun r H1 k1 d1 r0 r1 => ?_⟩
    obtain ⟨i, rfl⟩ := Int.eq_ofNat_of_zero_le r0
    have hi1 : i < as.length := by simpa using r1
    have hi2 : i < bs.length := by omega
    have hig : (i : Int) < g.groups := by omega
    have h0 : (0 : Int) ≤ (i : Int) := by omega
    have gi := inv.gi i hig
    have lh1 := lh.draw k1 d1
    have dS : ∀ x ∈ [l.dl], x ∈ l.S := by simp [LN.S]
    have hg1' := k1.st l.gp _ (fun z => hg2 (dS _ z)) hg1
    have hgi := k1.st as[i] _ (fun z => (hg4 i hi1).2 (dS _ z)) (hg4 i hi1).1
    -- what = _law_pick(draws, groups[at] + ['sum'])
    refine ⟨_, rfl, _, rfl, _, rfl, l.gp, _, _, _, rfl, rfl, SqL.of hg1', atI_nat (v := .ref as[i]) (by simp [hi1]), (by show 1 ≤ sizeLine; decide), fun ls hls => ?_⟩
    have k2 := Kp.new (o := .lst [.str "sum"]) hls
    have hml : (memI g (i : Int)).length ≤ 14 := by
      have := hi_le_lo ok h0 hig
      have := ok.s14
      rw [memI_len]
      omega
    refine ⟨as[i], ls, _, _, rfl, rfl, k2.same _ _ hgi, upd_same, Nat.le_trans (show ((memI g (i : Int)).map V.int).length + 1 ≤ 1000 by simp; omega) (by decide), fun lc hlc => ?_⟩
    have k3 := Kp.new (o := .lst ((memI g (i : Int)).map V.int ++ [.str "sum"])) hlc
    have lh3 := (lh1.kp0 k2).kp0 k3
    refine ⟨l.dl, lc, _, rfl, lh3.dr, SqL.of upd_same, fun z => (lh1.kp0 k2).fresh hlc (by simp [LN.S, z]), by simp, by simp; omega, fun v H4 hv k4 d4 => ?_⟩
    have lh4 := lh3.draw k4 d4
    obtain ⟨j, hj, rfl⟩ : ∃ j, j ≤ (memI g (i : Int)).length ∧ v = nmV g (i : Int) j := by
      rcases List.mem_append.mp hv with e | e
      · obtain ⟨b, hb, rfl⟩ := List.mem_map.mp e
        obtain ⟨j, hj, rfl⟩ := List.mem_map.mp hb
        have := List.mem_range.mp hj
        rw [← memI_len] at this
        exact ⟨j, Nat.le_of_lt this, by unfold nmV; rw [if_pos this]⟩
      · rw [List.mem_singleton.mp e]
        exact ⟨_, Nat.le_refl _, by unfold nmV; rw [if_neg (by omega)]⟩
    have kAll := ((k1.trans0 k2).trans0 k3).trans1 k4
    have mh := mem_hi ok h0 hig
    have hle := hi_le_many ok h0 hig
    have hl0 := lo_nonneg ok h0 hig
    -- place
    refine ⟨fun σ' H5 => Kp [] H4 H5 ∧ σ' = [some (.ref l.dl), some (.ref l.p), some (.ref l.q), some (.ref l.gp), some (.ref l.bl), some (.int (i : Int)), some (nmV g (i : Int) j), some (.int (K68.bs g (i : Int) + (j : Nat))), none, none, none], ?_, ?_⟩
    · obtain ⟨dx, hQ⟩ := lh4.gd.gu
      by_cases c : j < (memI g (i : Int)).length
      · have en : nmV g (i : Int) j = .int (lo g (i : Int) + (j : Nat)) := by unfold nmV; rw [if_pos c]
        rw [en]
        refine ⟨_, rfl, rfl, _, rfl, iteF ?_⟩
        refine ⟨_, rfl, l.q, dx, _, rfl, hQ, guardF_no (by decide +kernel), _, rfl, l.q, l.p, g, bm, _, rfl, lh4.gd.gu, ok, by omega, by omega, ?_⟩
        rw [plc_lo ok h0 hig c]
        exact ⟨Kp.refl _, rfl⟩
      · have ej : j = (memI g (i : Int)).length := by omega
        have en : nmV g (i : Int) j = .str "sum" := by unfold nmV; rw [if_neg c]
        rw [en]
        refine ⟨_, rfl, rfl, _, rfl, iteT ?_⟩
        refine ⟨_, rfl, l.q, dx, _, rfl, hQ, guardF_no (by decide +kernel), _, rfl, l.q, l.p, g, bm, _, rfl, lh4.gd.gu, ok, h0, fun _ H5 t k5 ht => ?_, fun z => absurd z (by omega)⟩
        refine ⟨t, _, 0, _, rfl, rfl, SqT.of ht, rfl, ?_⟩
        rw [sum_pl ok h0 hig, ← ej]
        exact ⟨k5, rfl⟩
    · rintro σ' H5 ⟨k5, rfl⟩
      have lh5 := lh4.kp0 k5
      have hs := sum_pl ok h0 hig
      have hpl : 0 ≤ K68.bs g (i : Int) + (j : Nat) ∧ K68.bs g (i : Int) + (j : Nat) < bm := by
        have hpos := lo_lt_hi ok h0 hig
        have q := plc_in ok (b := K68.hi g (i : Int) - 1) (by omega) (by omega)
        unfold sumAt at hs
        have q2 := plc_in ok (b := lo g (i : Int)) (by omega) (by omega)
        have e0 := plc_lo ok h0 hig (i := 0) (by rw [memI_len]; omega)
        have e1 : lo g (i : Int) + ((0 : Nat) : Int) = lo g (i : Int) := by omega
        rw [e1] at e0
        exact ⟨by omega, by omega⟩
      obtain ⟨dx, hQ⟩ := lh5.gd.gu
      obtain ⟨dy, hP⟩ := lh5.gd.dk.ob
      -- page, k
      refine ⟨_, rfl, l.p, dy, _, rfl, hP, diskF_no (by decide +kernel), _, rfl, l.p, l.f, l.w, l.n, bm, _, D, m, rfl, lh5.gd.dk, hpl.1, hpl.2, fun v tv => ?_⟩
      refine ⟨_, rfl, l.dl, 16, rfl, lh5.dr, by decide, fun r H6 k6 d6 r0 r16 => ?_⟩
      have lh6 := lh5.draw k6 d6
      obtain ⟨t, rfl, ht⟩ := tv.kp k6
      have hpg := lh5.gd.dk.pg (K68.bs g (i : Int) + (j : Nat))
      generalize hws : D (K68.bs g (i : Int) + (j : Nat)) = ws at *
      obtain ⟨kk, rfl⟩ := Int.eq_ofNat_of_zero_le r0
      have hlw := (isPg_iff.mp hpg).1
      have hkk : kk < ws.length := by omega
      -- other
      refine ⟨fun σ' H7 => Kp [] H6 H7 ∧ ∃ t', SqT K H7 t' ((ws.take kk ++ (ws[kk] + 1) % 60000 :: ws.drop (kk + 1)).map V.int) ∧ σ' = [some (.ref l.dl), some (.ref l.p), some (.ref l.q), some (.ref l.gp), some (.ref l.bl), some (.int (i : Int)), some (nmV g (i : Int) j), some (.int (K68.bs g (i : Int) + (j : Nat))), some (.ref t), some (.int (kk : Int)), some (.ref t')], ?_, ?_⟩
      · refine ⟨_, rfl, _, rfl, _, rfl, slA_of ht fun H7 t7 k7 ht7 => ?_⟩
        have e1 : cutV (ws.map V.int) none (some (kk : Int)) = (ws.take kk).map V.int := by
          unfold cutV
          rw [HT.sIx_none, HT.sIx_nat, List.length_map]
          simp [Nat.min_eq_left (Nat.le_of_lt hkk)]
        rw [e1] at ht7
        refine ⟨_, rfl, _, rfl, t, _, _, _, rfl, rfl, k7.sqT ht, atI_nat (v := .int ws[kk]) (by simp [hkk]), _, _, rfl, rfl, .inl ⟨_, rfl, _, _, rfl, rfl, (show (0 : Int) < 60000 by decide), (by show 1 ≤ sizeLine; decide), fun t8 ht8 => ?_⟩⟩
        have k8 := Kp.new (o := .tup [V.int ((ws[kk] + 1) % 60000)]) ht8
        refine catA_of (k8.sqT ht7) (SqT.of upd_same) (by simp; omega) fun H9 t9 k9 ht9 => ?_
        refine ⟨_, rfl, _, rfl, _, _, rfl, rfl, _, rfl, ?_⟩
        unfold tNoPart
        dsimp only
        show rSlA K (.ref t) (some ((kk : Int) + 1)) none _ _
        refine slA_of (k9.sqT (k8.sqT (k7.sqT ht))) fun H10 t10 k10 ht10 => ?_
        have e2 : cutV (ws.map V.int) (some ((kk : Int) + 1)) none = (ws.drop (kk + 1)).map V.int := by
          unfold cutV
          rw [HT.sIx_none, show (kk : Int) + 1 = ((kk + 1 : Nat) : Int) by omega, HT.sIx_nat, List.length_map, Nat.min_eq_left (by omega), ← List.map_drop, List.take_of_length_le (by simp)]
        rw [e2] at ht10
        refine catA_of (k10.sqT ht9) ht10 (by simp; omega) fun H11 t11 k11 ht11 => ?_
        refine ⟨((k7.trans0 k8).trans0 k9).trans0 (k10.trans0 k11), t11, ?_, rfl⟩
        simpa using ht11
      · rintro σ' H7 ⟨k7, t', ht', rfl⟩
        have lh7 := lh6.kp0 k7
        have kAll7 := ((kAll.trans0 k5).trans1 k6).trans0 k7
        have hb7 := kAll7.st l.bl _ (by simp [nd.2.2.2.2.2.2.2.1]) hb1
        have hbi7 := kAll7.st bs[i] _ (fun z => (hb4 i hi2).2 (dS _ z)) (hb4 i hi2).1
        refine ⟨_, rfl, _, rfl, _, rfl, l.bl, _, _, _, rfl, rfl, SqL.of hb7, atI_nat (v := .ref bs[i]) (by simp [hi2]), bs[i], _, rfl, .inl (SqL.of hbi7), flat_nm, flat_nms, _, rfl, ?_⟩
        have ei : inV (nmV g (i : Int) j) ((bad i).map (nmV g (i : Int))) = decide (j ∈ bad i) := inV_nm hj gi.ins
        refine ite_of (fun c1 => ?_) (fun c1 => ?_)
        · have hnb : j ∉ bad i := by
            have q : (!inV (nmV g (i : Int) j) ((bad i).map (nmV g (i : Int)))) = true := c1
            rw [ei] at q
            simpa using q
          obtain ⟨dy, hP⟩ := lh7.gd.dk.ob
          have hww : ∀ n ∈ ws, isW n = true := (isPg_iff.mp hpg).2
          have hpg2 : isPg (ws.take kk ++ (ws[kk] + 1) % 60000 :: ws.drop (kk + 1)) = true := by
            refine isPg_iff.mpr ⟨by simp; omega, fun n hn => ?_⟩
            rcases List.mem_append.mp hn with e | e
            · exact hww n (List.mem_of_mem_take e)
            · rcases List.mem_cons.mp e with e | e
              · rw [e, isW_iff]
                omega
              · exact hww n (List.mem_of_mem_drop e)
          refine ⟨_, rfl, l.p, dy, _, rfl, hP, diskF_no (by decide +kernel), _, rfl, _, rfl, l.p, l.f, l.w, l.n, bm, _, D, m, .ref t', _, rfl, lh7.gd.dk, hpl.1, hpl.2, by omega, ⟨t', rfl, ht'⟩, hpg2, fun H8 k8 d8 => ?_⟩
          have lh8 := lh7.wr k8 d8
          have wS : ∀ x ∈ [l.w, l.n], x ∈ l.S := by simp [LN.S]
          have hb8 := k8.st l.bl _ (by simp [nd.2.2.2.2.2.1, nd.2.2.2.2.2.2.1]) hb7
          have hbi8 := k8.st bs[i] _ (fun z => (hb4 i hi2).2 (wS _ z)) hbi7
          refine ⟨_, rfl, _, rfl, l.bl, _, _, _, rfl, rfl, SqL.of hb8, atI_nat (v := .ref bs[i]) (by simp [hi2]), _, rfl, (by show 1 ≤ sizeLine; decide), fun l9 hl9 => ?_⟩
          have k9 := Kp.new (o := .lst [nmV g (i : Int) j]) hl9
          have hbl : (bad i).length ≤ 15 := by
            have q := (GI.perm ok h0 hig gi).length_eq
            have := (healM_few (g := g) ok (D := D) h0 hig).2
            omega
          refine ⟨bs[i], l9, _, _, rfl, rfl, k9.same _ _ hbi8, upd_same, Nat.le_trans (show ((bad i).map (nmV g (i : Int))).length + 1 ≤ 1000 by simp; omega) (by decide), fun l10 hl10 => ?_⟩
          have k10 := Kp.new (o := .lst ((bad i).map (nmV g (i : Int)) ++ [nmV g (i : Int) j])) hl10
          have lh10 := (lh8.kp0 k9).kp0 k10
          have hb10 := k10.same _ _ (k9.same _ _ hb8)
          refine ⟨_, rfl, _, rfl, l.bl, _, _, i, rfl, rfl, hb10, ixN_nat (by simp [hi2]), ?_⟩
          have fin := (lh10.putB hb10 (i := i) (x := l10) (js := bad i ++ [j]) (by rw [upd_same, List.map_append]; rfl) ((lh8.kp0 k9).fresh hl10)).1
          refine k _ _ _ fin (INV.hurt ok inv hig hj hnb ?_)
          rw [hws]
          have ew : ws = ws.take kk ++ ws[kk] :: ws.drop (kk + 1) := by rw [List.getElem_cons_drop, List.take_append_drop]
          conv => rhs; rw [ew]
          have w0 := isW_iff.mp (hww _ (List.getElem_mem hkk))
          exact mark_bent (by omega)
        · have hnb : j ∈ bad i := by
            have q : (!inV (nmV g (i : Int) j) ((bad i).map (nmV g (i : Int)))) = false := c1
            rw [ei] at q
            simpa using q
          exact k _ _ _ (lh7.more (by omega)) inv
end
end K68
set_option Elab.async false
set_option linter.all false
set_option maxRecDepth 100000
set_option maxHeartbeats 4000000
/-! K68T: all gone through, by the law. -/
namespace K68
open PySem L2 AB
def nmD : Nm → PyData
  | .inl b => .int b
  | .inr g => .tuple [.str "sum", .int g]
theorem dp_nm {K : PySem.W.Frag} {H : Hp} {v : V} {nm : Nm} (h : NV K H v nm) : Dp K H v (nmD nm) := by
  cases nm with
  | inl b =>
    obtain rfl : v = .int b := h
    exact .int b
  | inr g =>
    obtain ⟨t, rfl, h⟩ := h
    exact .tup h (.cons (.str _) (.cons (.int _) .nil))
theorem dp_nms {K : PySem.W.Frag} {H : Hp} {t : Addr} {xs : List V} {ns : List Nm} (h : SqT K H t xs) (p : Nms K H xs ns) : Dp K H (.ref t) (.tuple (ns.map nmD)) := by
  refine .tup h ?_
  clear h
  unfold Nms at p
  induction p with
  | nil => exact .nil
  | cons r _ ih => exact .cons (dp_nm r) ih
theorem lay_nms (ns : List Nm) : PyData.canLayAll0 (ns.map nmD) = true := by
  induction ns with
  | nil => rfl
  | cons n ns ih =>
    rw [List.map_cons, PyData.canLayAll0, ih]
    cases n with
    | inl b => rfl
    | inr b =>
      simp only [nmD, PyData.canLay0, PyData.canLayAll0, Bool.and_true]
      decide +kernel
theorem depth_nms (ns : List Nm) : PyData.depthAll (ns.map nmD) ≤ 3 := by
  induction ns with
  | nil => exact Nat.zero_le _
  | cons n ns ih =>
    rw [List.map_cons, PyData.depthAll]
    refine Nat.max_le.mpr ⟨?_, ih⟩
    cases n <;> simp [nmD, PyData.depth, PyData.depthAll]
theorem shaped_two (hs ls : List Nm) : SeqAt.shaped (.tuple [.tuple (hs.map nmD), .tuple (ls.map nmD)]) = true := by
  have h1 := depth_nms hs
  have h2 := depth_nms ls
  simp only [SeqAt.shaped, PyData.canLay0, PyData.canLayAll0, lay_nms, PyData.depth, PyData.depthAll, Bool.and_true, Bool.true_and, decide_eq_true_eq]
  refine decide_eq_true ?_
  omega
theorem eqv_two (hs ls : List Nm) : PyData.eqv (.tuple [.tuple (hs.map nmD), .tuple (ls.map nmD)]) (.tuple [.tuple (hs.map nmD), .tuple (ls.map nmD)]) = true :=
  PySem.SeqAt.eqv_refl _ (by simp only [PyData.canLay0, PyData.canLayAll0, lay_nms, Bool.and_true])
theorem badScr_yes {bad : Nat → List Nat} {k : Nat} (c : (bad k).length = 1) : setB (badScr bad k) k [] = badScr bad (k + 1) := by
  funext i
  unfold badScr setB
  by_cases ci : i = k
  · subst ci
    rw [if_pos rfl, if_pos ⟨by omega, c⟩]
  · rw [if_neg ci]
    show (if i < k ∧ (bad i).length = 1 then [] else bad i) = _
    by_cases cl : i < k ∧ (bad i).length = 1
    · rw [if_pos cl, if_pos ⟨by omega, cl.2⟩]
    · rw [if_neg cl, if_neg (fun q => cl ⟨by omega, q.2⟩)]
theorem badScr_no {bad : Nat → List Nat} {k : Nat} (c : ¬ (bad k).length = 1) : badScr bad k = badScr bad (k + 1) := by
  funext i
  unfold badScr
  by_cases cl : i < k ∧ (bad i).length = 1
  · rw [if_pos cl, if_pos ⟨by omega, cl.2⟩]
  · rw [if_neg cl, if_neg]
    intro q
    by_cases ci : i = k
    · exact c (ci ▸ q.2)
    · exact cl ⟨by omega, q.2⟩
def spScrubbed (K : PySem.W.Frag) (a : Ad) : Sp := fun vs H Q _ => ∃ (l : LN) (g : GN) (bm : Int) (D : Int → List Int) (m : Nat) (P : Int → List Int) (bad : Nat → List Nat), vs = [.ref l.q, .ref l.bl, .ref l.gp] ∧ LH K a H l g bm D m P bad ∧ INV g D P bad ∧ bm ≤ 60 ∧ m ≤ 40000 ∧
  ∀ H' D' bad', LH K a H' l g bm D' (m + 1000) P bad' → INV g D' P bad' → Q (.bl true) H'
section
variable {P : Program} {w : World} {K : PySem.W.Frag} {mg : Str → Option Value} {base : Heap} {a : Ad} {f : Addr} {fd : FuncData}
theorem ok_scrubbed (F : Fun K "_law_is_scrubbed" "_law_is_scrubbed" s_law_is_scrubbed f fd) (T : Txt K mg a) (G_Guard_scrub : GMt P w K mg base 8 a.cg "scrub" ["self"] (spScrub K a)) :
    FnOk P w K mg base (L2.CX P w) 9 f fd ["guard", "bad", "groups"] (spScrubbed K a) := by
  refine okT F sc_law_is_scrubbed (fun vs H Q E h => ?_) (fun cdv A outer s H vs Q E hr tk hp h => ?_)
  · obtain ⟨l, g, bm, D, m, Pp, bad, rfl, _⟩ := h
    rfl
  · obtain ⟨l, g, bm, D, m, Pp, bad, rfl, lh, inv, hbm, hm, k⟩ := h
    have ok := lh.gd.ok
    have gin := groups_in ok
    have nd := lh.ne
    refine ⟨_, (pss_cons (ps_par (i := 3) (j := 4) (by rfl) sc_law_is_scrubbed.nd rfl rfl (by decide) rfl rfl (pa_cons (pe_lst pa_nil) (pa_cons (pe_lst pa_nil) pa_nil)) (by rfl)) (pss_cons (ps_for hp rfl (pi_range1 (by rfl) T.n_range (pa_cons (pe_callB (k_len K (by rfl)) (by rfl) T.n_len (by decide +kernel) (pa_cons (pv 2) pa_nil)) pa_nil)) (pg_name (i := 5) sc_law_is_scrubbed.nd rfl (by first | exact Or.inl rfl | exact Or.inr rfl)) (C8.pss_cut (ps_set (i := 6) sc_law_is_scrubbed.nd rfl (by first | exact Or.inl rfl | exact Or.inr rfl) (pe_op op_cat (pe_lc (own := [("block", 7)]) (g := gName 7) (by rfl) sc_law_is_scrubbed.nd (k_piL K (by rfl) (pi_list (pe_ix (k_ixL K (by rfl)) (pv 2) (pv 5) (fun _ _ => rfl)))) (blkOk_by (own := [("block", 7)]) (N := N_law_is_scrubbed) (sc := defScope s_law_is_scrubbed) (by decide +kernel)) (fun _ _ _ _ _ => pg_name (i := 7) sc_law_is_scrubbed.nd rfl (Or.inl rfl)) (fun _ _ _ _ _ => by exact pts_one (pt_cmpR (k_in K (by rfl)) (pv 7) (pe_ix (k_ixL K (by rfl)) (pv 1) (pv 5) (fun _ _ => rfl)) (by rfl))) (fun _ _ _ _ _ => by exact (pv 7))) (pe_ifExp (pt_cmpR (k_in K (by rfl)) pe_str (pe_ix (k_ixL K (by rfl)) (pv 1) (pv 5) (fun _ _ => rfl)) (by rfl)) (pe_lst (pa_cons (pe_tup (pa_cons pe_str (pa_cons (pv 5) pa_nil))) pa_nil)) (pe_lst pa_nil)))) (pss_one (ps_if (pt_cmpR op_eq (pe_callB (k_len K (by rfl)) (by rfl) T.n_len (by decide +kernel) (pa_cons (pe_ix (k_ixL K (by rfl)) (pv 1) (pv 5) (fun _ _ => rfl)) pa_nil)) pe_int (nomark _)) (pss_one (ps_asg (pe_tup (pa_cons (pe_op op_cat (pv 3) (pv 6)) (pa_cons (pe_lst pa_nil) pa_nil))) (pg_tup rfl (pgs_cons (pg_name (i := 3) sc_law_is_scrubbed.nd rfl (by first | exact Or.inl rfl | exact Or.inr rfl)) (pgs_cons (pg_sub (pv 1) (pv 5) set_list) pgs_nil))))) (pss_one (ps_set (i := 4) sc_law_is_scrubbed.nd rfl (by first | exact Or.inl rfl | exact Or.inr rfl) (pe_op op_cat (pv 4) (pv 6)))))))) (pss_one (ps_ret (pe_cmpR (k_eqD K (by rfl) hr.units) (pe_mt0 (pv 0) G_Guard_scrub (hr.mono (by decide)) tk) (pe_tup (pa_cons (pe_callTy (k_tupOf K (by rfl)) (by rfl) T.n_tuple (by decide +kernel) (pa_cons (pv 3) pa_nil)) (pa_cons (pe_callTy (k_tupOf K (by rfl)) (by rfl) T.n_tuple (by decide +kernel) (pa_cons (pv 4) pa_nil)) pa_nil))) (nomark _)))))), ?_⟩
    refine ⟨Nat.zero_le _, fun lh0 hlh => ⟨Nat.zero_le _, fun ll hll => ⟨_, _, rfl, ?_⟩⟩⟩
    have kh := Kp.new (o := .lst []) hlh
    have kl := Kp.new (o := .lst []) hll
    have lz := (lh.kp0 kh).kp0 kl
    obtain ⟨as, hg1, hg2, hg3, hg4⟩ := lz.gr
    refine ⟨_, rfl, l.gp, _, rfl, .inl (SqL.of hg1), _, rfl, by omega, by simp; omega, ?_⟩
    refine for_it walk_range (fun i σ H' => i ≤ as.length ∧ (∃ y5 y6 hl ll xs ys, σ = [some (.ref l.q), some (.ref l.bl), some (.ref l.gp), some (.ref hl), some (.ref ll), y5, y6, none] ∧ hl ∉ l.S ∧ ll ∉ l.S ∧ H' hl = some (.lst xs) ∧ H' ll = some (.lst ys) ∧ Nms K H' xs (lawScr g bad i).1 ∧ Nms K H' ys (lawScr g bad i).2 ∧ xs.length ≤ 15 * i ∧ ys.length ≤ 15 * i) ∧ LH K a H' l g bm D m Pp (badScr bad i) ∧ Kp [l.bl] (upd (upd H lh0 (.lst [])) ll (.lst [])) H')
      ⟨Nat.zero_le _, ⟨none, none, lh0, ll, [], [], rfl, lh.fresh hlh, (lh.kp0 kh).fresh hll, kl.same _ _ upd_same, upd_same, .nil, .nil, Nat.zero_le _, Nat.zero_le _⟩, by
        have e : badScr bad 0 = bad := by funext i; simp [badScr]
        rw [e]
        exact lz, (Kp.refl _).wide (fun b h => nomatch h) (fun b hb => by
          obtain ⟨bs, hb1, _⟩ := lz.bd
          rw [List.mem_singleton.mp hb, hb1]
          exact True.intro)⟩ (fun _ _ _ _ _ => trivial) ?_ ?_
    · rintro i v σ Hx H1 hi ⟨_, ⟨y5, y6, hl, ll', xs, ys, rfl, hlS, llS, hxs, hys, pxs, pys, lxs, lys⟩, lh1, k1⟩ ⟨rfl, hv⟩
      obtain rfl : v = .int (i : Int) := by rw [hv]; exact congrArg V.int (Int.zero_add _)
      have hi1 : i < as.length := by simpa using hi
      have hig : (i : Int) < g.groups := by omega
      have h0 : (0 : Int) ≤ (i : Int) := by omega
      have gi := inv.gi i hig
      have eb : badScr bad i i = bad i := by simp [badScr]
      have bS : ∀ x ∈ [l.bl], x ∈ l.S := by simp [LN.S]
      have hg1' := k1.st l.gp _ (fun z => hg2 (bS _ z)) hg1
      have hgi := k1.st as[i] _ (fun z => (hg4 i hi1).2 (bS _ z)) (hg4 i hi1).1
      obtain ⟨bs, hb1, hb3, hb4⟩ := lh1.bd
      have hi2 : i < bs.length := by omega
      have hbi := (hb4 i hi2).1
      rw [eb] at hbi
      have hml : (memI g (i : Int)).length ≤ 14 := by
        have := hi_le_lo ok h0 hig
        have := ok.s14
        rw [memI_len]
        omega
      -- told
      refine ⟨fun σ' H3 => Kp [] H1 H3 ∧ ∃ tl zs, σ' = [some (.ref l.q), some (.ref l.bl), some (.ref l.gp), some (.ref hl), some (.ref ll'), some (.int (i : Int)), some (.ref tl), none] ∧ H3 tl = some (.lst zs) ∧ Nms K H3 zs (told g bad i) ∧ zs.length ≤ 15, ?_, ?_⟩
      · refine ⟨_, rfl, _, rfl, l.gp, _, _, _, rfl, rfl, SqL.of hg1', atI_nat (v := .ref as[i]) (by simp [hi1]), as[i], rfl, ⟨_, SqL.of hgi⟩, fun D3 hD3 => ?_⟩
        refine lc_pure walk_list (by rw [List.length_map]; exact small1000 (by omega)) hD3 (fun j => decide (j ∈ bad i)) (fun j v _ => v = .int (lo g (i : Int) + (j : Nat))) (fun j v H H' _ r => r) (fun H k => k.sqL0 (SqL.of hgi)) ?_ ?_
        · rintro j x H3 H4 hj k3 ⟨rfl, hx⟩ N F' hN hF
          obtain ⟨b, hb, rfl⟩ := map_at (g := V.int) hx
          have hjl : j < (memI g (i : Int)).length := (List.getElem?_eq_some_iff.mp hb).1
          rw [memI_at (by rw [← memI_len]; exact hjl)] at hb
          obtain rfl : lo g (i : Int) + (j : Nat) = b := Option.some.inj hb
          have hnm : (V.int (lo g (i : Int) + (j : Nat))) = nmV g (i : Int) j := by unfold nmV; rw [if_pos hjl]
          have ei : inV (V.int (lo g (i : Int) + (j : Nat))) ((bad i).map (nmV g (i : Int))) = decide (j ∈ bad i) := by rw [hnm, inV_nm (Nat.le_of_lt hjl) gi.ins]
          refine ⟨rfl, _, rfl, _, rfl, _, rfl, l.bl, _, _, _, rfl, rfl, SqL.of (k3.same _ _ hb1), atI_nat (v := .ref bs[i]) (by simp [hi2]), bs[i], _, rfl, .inl (SqL.of (k3.same _ _ hbi)), rfl, flat_nms, _, rfl, ?_⟩
          refine ite_of (fun e => ?_) (fun e => ?_)
          · exact ⟨_, rfl, hN _ _ (ei.symm.trans e) (Kp.refl _) rfl⟩
          · exact hF _ (ei.symm.trans e) (Kp.refl _)
        · intro H3 acc k3 hacc pr
          rw [List.length_map] at pr
          have eacc := Paired.eqs pr
          have hbi3 := k3.same _ _ hbi
          have ei : inV (.str "sum") ((bad i).map (nmV g (i : Int))) = decide ((memI g (i : Int)).length ∈ bad i) := by
            have hnm : (V.str "sum") = nmV g (i : Int) (memI g (i : Int)).length := by unfold nmV; rw [if_neg (Nat.lt_irrefl _)]
            rw [hnm, inV_nm (Nat.le_refl _) gi.ins]
          have pn : Nms K H3 acc (((List.range (memI g (i : Int)).length).filter fun j => decide (j ∈ bad i)).map (fun j => Sum.inl (lo g (i : Int) + (j : Nat)))) := by
            rw [eacc]
            generalize (List.range (memI g (i : Int)).length).filter (fun j => decide (j ∈ bad i)) = js
            induction js with
            | nil => exact .nil
            | cons j js ih => exact .cons rfl ih
          have hal : acc.length ≤ 14 := by
            rw [eacc, List.length_map]
            refine Nat.le_trans (List.length_filter_le _ _) ?_
            rw [List.length_range]
            exact hml
          refine ⟨_, rfl, _, rfl, l.bl, _, _, _, rfl, rfl, SqL.of (k3.same _ _ hb1), atI_nat (v := .ref bs[i]) (by simp [hi2]), bs[i], _, rfl, .inl (SqL.of hbi3), rfl, flat_nms, _, rfl, ?_⟩
          refine ite_of (fun e => ?_) (fun e => ?_)
          · have hin : (memI g (i : Int)).length ∈ bad i := of_decide_eq_true (ei.symm.trans e)
            refine ⟨_, rfl, (by show 2 ≤ sizeLine; decide), fun t ht => ⟨(by show 1 ≤ sizeLine; decide), fun l4 hl4 => ?_⟩⟩
            have k4 := Kp.new (o := .tup [.str "sum", .int (i : Int)]) ht
            have k5 := Kp.new (o := .lst [V.ref t]) hl4
            refine ⟨D3, l4, _, _, rfl, rfl, k5.same _ _ (k4.same _ _ hacc), upd_same, Nat.le_trans (show acc.length + 1 ≤ 1000 by omega) (by decide), fun l6 hl6 => ?_⟩
            have k6 := Kp.new (o := .lst (acc ++ [V.ref t])) hl6
            refine ⟨((k3.trans0 k4).trans0 k5).trans0 k6, l6, _, rfl, upd_same, ?_, by simp; omega⟩
            rw [told_eq ok, if_pos hin]
            exact pair_app (((pn.kp k4).kp k5).kp k6) (.cons ⟨t, rfl, SqT.of (k6.same _ _ (k5.same _ _ upd_same))⟩ .nil)
          · have hin : (memI g (i : Int)).length ∉ bad i := of_decide_eq_false (ei.symm.trans e)
            refine ⟨Nat.zero_le _, fun l4 hl4 => ?_⟩
            have k5 := Kp.new (o := .lst []) hl4
            refine ⟨D3, l4, _, _, rfl, rfl, k5.same _ _ hacc, upd_same, Nat.le_trans (show acc.length + 0 ≤ 1000 by omega) (by decide), fun l6 hl6 => ?_⟩
            have k6 := Kp.new (o := .lst (acc ++ [])) hl6
            refine ⟨(k3.trans0 k5).trans0 k6, l6, _, rfl, upd_same, ?_, by simp; omega⟩
            rw [told_eq ok, if_neg hin]
            exact pair_app ((pn.kp k5).kp k6) .nil
      · rintro σ' H3 ⟨k3, tl, zs, rfl, htl, pzs, lzs⟩
        have lh3 := lh1.kp0 k3
        have hb1' := k3.same _ _ hb1
        have hbi' := k3.same _ _ hbi
        have hxs3 := k3.same _ _ hxs
        have hys3 := k3.same _ _ hys
        refine ⟨_, rfl, _, rfl, l.bl, _, _, _, rfl, rfl, SqL.of hb1', atI_nat (v := .ref bs[i]) (by simp [hi2]), bs[i], _, rfl, .inl (SqL.of hbi'), rfl, _, rfl, ?_⟩
        refine ite_of (fun e => ?_) (fun e => ?_)
        · have c : (bad i).length = 1 := by
            have := V.int.inj (of_decide_eq_true e)
            rw [List.length_map] at this
            omega
          refine ⟨_, rfl, _, rfl, hl, tl, _, _, rfl, rfl, hxs3, htl, Nat.le_trans (show xs.length + zs.length ≤ 10000 by omega) (by decide), fun l4 hl4 => ?_⟩
          have k4 := Kp.new (o := .lst (xs ++ zs)) hl4
          refine ⟨Nat.zero_le _, fun l5 hl5 => ⟨(by show 2 ≤ sizeLine; decide), fun t ht => ?_⟩⟩
          have k5 := Kp.new (o := .lst []) hl5
          have k6 := Kp.new (o := .tup [V.ref l4, .ref l5]) ht
          have k46 := (k4.trans0 k5).trans0 k6
          have lh6 := ((lh3.kp0 k4).kp0 k5).kp0 k6
          have hb6 := k46.same _ _ hb1'
          refine ⟨t, _, rfl, SqT.of upd_same, rfl, _, _, rfl, _, _, rfl, _, rfl, _, rfl, l.bl, _, _, i, rfl, rfl, hb6, ixN_nat (by simp [hi2]), rfl, ?_⟩
          have z := lh6.putB hb6 (i := i) (x := l5) (js := []) (k6.same _ _ upd_same) ((lh3.kp0 k4).fresh hl5)
          rw [badScr_yes c] at z
          refine ⟨hi1, ⟨_, _, l4, ll', xs ++ zs, ys, rfl, lh3.fresh hl4, llS, z.2.st l4 _ (fun q => lh3.fresh hl4 (bS _ q)) (k6.same _ _ (k5.same _ _ upd_same)), z.2.st ll' _ (fun q => llS (bS _ q)) (k46.same _ _ hys3), ?_, ?_, by simp; omega, by omega⟩, z.1, ((k1.trans0 k3).trans0 k46).trans1 z.2⟩
          · rw [show lawScr g bad (i + 1) = _ from if_pos c]
            exact pair_app (((pxs.kp k3).kp k46).kp z.2) ((pzs.kp k46).kp z.2)
          · rw [show lawScr g bad (i + 1) = _ from if_pos c]
            exact ((pys.kp k3).kp k46).kp z.2
        · have c : ¬ (bad i).length = 1 := by
            intro c
            have : ¬ (V.int (((bad i).map (nmV g (i : Int))).length : Nat) = .int 1) := of_decide_eq_false e
            rw [List.length_map, c] at this
            exact this rfl
          refine ⟨_, rfl, _, rfl, ll', tl, _, _, rfl, rfl, hys3, htl, Nat.le_trans (show ys.length + zs.length ≤ 10000 by omega) (by decide), fun l4 hl4 => ?_⟩
          have k4 := Kp.new (o := .lst (ys ++ zs)) hl4
          have lh4 := lh3.kp0 k4
          rw [badScr_no c] at lh4
          refine ⟨hi1, ⟨_, _, hl, l4, xs, ys ++ zs, rfl, hlS, lh3.fresh hl4, k4.same _ _ hxs3, upd_same, ?_, ?_, by omega, by simp; omega⟩, lh4, (k1.trans0 k3).trans0 k4⟩
          · rw [show lawScr g bad (i + 1) = _ from if_neg c]
            exact (pxs.kp k3).kp k4
          · rw [show lawScr g bad (i + 1) = _ from if_neg c]
            exact pair_app ((pys.kp k3).kp k4) (pzs.kp k4)
    · rintro σ H1 ⟨_, ⟨y5, y6, hl, ll', xs, ys, rfl, hlS, llS, hxs, hys, pxs, pys, lxs, lys⟩, lh1, k1⟩
      have en : (((as.map V.ref).length : Nat) : Int).toNat = g.groups.toNat := by simp; omega
      rw [en] at pxs pys lh1 lxs lys
      obtain ⟨dx, hQ⟩ := lh1.gd.gu
      have hs := scr_inv ok inv g.groups.toNat (by omega)
      refine ⟨_, rfl, l.q, dx, _, rfl, hQ, guardF_no (by decide +kernel), l.q, l.p, l.f, l.w, l.n, g, bm, D, m, rfl, lh1.gd, by omega, by omega, fun H2 t th tl us vs k2 d2 ht hth pth htl ptl => ?_⟩
      rw [hs.2] at pth ptl
      have lh2 := lh1.wr k2 d2
      have wS : ∀ x ∈ [l.w, l.n], x ∈ l.S := by simp [LN.S]
      have hxs2 := k2.st hl _ (fun z => hlS (wS _ z)) hxs
      have hys2 := k2.st ll' _ (fun z => llS (wS _ z)) hys
      refine ⟨_, rfl, hl, _, rfl, .inl ⟨SqL.of hxs2, fun t3 ht3 => ?_⟩⟩
      have k3 := Kp.new (o := .tup xs) ht3
      refine ⟨_, rfl, ll', _, rfl, .inl ⟨SqL.of (k3.same _ _ hys2), fun t4 ht4 => ⟨(by show 2 ≤ sizeLine; decide), fun t5 ht5 => ?_⟩⟩⟩
      have k4 := Kp.new (o := .tup ys) ht4
      have k5 := Kp.new (o := .tup [V.ref t3, .ref t4]) ht5
      have kk := (k3.trans0 k4).trans0 k5
      refine ⟨_, _, .tup (SqT.of (kk.same _ _ ht)) (.cons (dp_nms (kk.sqT hth) (pth.kp kk)) (.cons (dp_nms (kk.sqT htl) (ptl.kp kk)) .nil)), .tup (SqT.of upd_same) (.cons (dp_nms (SqT.of (k5.same _ _ (k4.same _ _ upd_same))) ((pxs.kp k2).kp kk)) (.cons (dp_nms (SqT.of (k5.same _ _ upd_same)) ((pys.kp k2).kp kk)) .nil)), shaped_two _ _, shaped_two _ _, ?_⟩
      rw [eqv_two]
      exact k _ _ _ ((lh2.kp0 kk).more (by omega)) hs.1
end
end K68
set_option Elab.async false
set_option linter.all false
set_option maxRecDepth 100000
set_option maxHeartbeats 4000000
/-! K68U: one written, by the law. -/
namespace K68
open PySem L2 AB
theorem flat_dp {K : PySem.W.Frag} {g : GN} {at_ : Int} : ∀ (js : List Nat), ∃ ds, (∀ H, DpAll K H (js.map (nmV g at_)) ds) ∧ PyData.canLayAll0 ds = true ∧ PyData.depthAll ds ≤ 1 ∧ ds.length = js.length
  | [] => ⟨[], fun _ => .nil, rfl, Nat.zero_le _, rfl⟩
  | j :: js => by
    obtain ⟨ds, h1, h2, h3, h4⟩ := flat_dp (K := K) (g := g) (at_ := at_) js
    by_cases c : j < (memI g at_).length
    · refine ⟨.int (lo g at_ + (j : Nat)) :: ds, ?_, ?_, ?_, by simp [h4]⟩
      · rw [List.map_cons]
        refine fun H => .cons ?_ (h1 H)
        unfold nmV
        rw [if_pos c]
        exact .int _
      · rw [PyData.canLayAll0, h2]
        rfl
      · rw [PyData.depthAll]
        exact Nat.max_le.mpr ⟨by simp [PyData.depth], h3⟩
    · refine ⟨.str "sum" :: ds, ?_, ?_, ?_, by simp [h4]⟩
      · rw [List.map_cons]
        refine fun H => .cons ?_ (h1 H)
        unfold nmV
        rw [if_neg c]
        exact .str _
      · rw [PyData.canLayAll0, h2]
        decide +kernel
      · rw [PyData.depthAll]
        exact Nat.max_le.mpr ⟨by simp [PyData.depth], h3⟩
def spWritten (K : PySem.W.Frag) (a : Ad) : Sp := fun vs H Q _ => ∃ (l : LN) (g : GN) (bm : Int) (D : Int → List Int) (m : Nat) (P : Int → List Int) (bad : Nat → List Nat), vs = [.ref l.dl, .ref l.q, .ref l.pl, .ref l.bl, .ref l.gp, .int g.size] ∧ LH K a H l g bm D m P bad ∧ INV g D P bad ∧ bm ≤ 60 ∧ m ≤ 50000 ∧
  ∀ H' D' P' bad', LH K a H' l g bm D' (m + 16) P' bad' → INV g D' P' bad' → Q (.bl true) H'
section
variable {P : Program} {w : World} {K : PySem.W.Frag} {mg : Str → Option Value} {base : Heap} {a : Ad} {f : Addr} {fd : FuncData}
theorem ok_written (F : Fun K "_law_written" "_law_written" s_law_written f fd) (T : Txt K mg a) (G_law_take : GFn P w K mg base 1 "_law_take" ["draws", "bound"] spTake) (G_law_page : GFn P w K mg base 3 "_law_page" ["draws"] (spPage K)) (G_Guard_write : GMt P w K mg base 8 a.cg "write" ["self", "block", "words"] (spWrite K a)) :
    FnOk P w K mg base (L2.CX P w) 9 f fd ["draws", "guard", "pages", "bad", "groups", "size"] (spWritten K a) := by
  refine okT F sc_law_written (fun vs H Q E h => ?_) (fun cdv A outer s H vs Q E hr tk hp h => ?_)
  · obtain ⟨l, g, bm, D, m, Pp, bad, rfl, _⟩ := h
    rfl
  · obtain ⟨l, g, bm, D, m, Pp, bad, rfl, lh, inv, hbm, hm, k⟩ := h
    have ok := lh.gd.ok
    have gin := groups_in ok
    have nd := lh.ne
    have m1 := ok.m1
    have s1 := ok.s1
    have s14 := ok.s14
    refine ⟨_, (pss_cons (ps_asg (pe_tup (pa_cons (pe_cl G_law_take (hr.mono (by decide)) tk (pa_cons (pv 0) (pa_cons (pe_callB (k_len K (by rfl)) (by rfl) T.n_len (by decide +kernel) (pa_cons (pv 2) pa_nil)) pa_nil))) (pa_cons (pe_cl G_law_page (hr.mono (by decide)) tk (pa_cons (pv 0) pa_nil)) pa_nil))) (pg_tup rfl (pgs_cons (pg_name (i := 6) sc_law_written.nd rfl (by first | exact Or.inl rfl | exact Or.inr rfl)) (pgs_cons (pg_name (i := 7) sc_law_written.nd rfl (by first | exact Or.inl rfl | exact Or.inr rfl)) pgs_nil)))) (pss_cons (ps_set (i := 8) sc_law_written.nd rfl (by first | exact Or.inl rfl | exact Or.inr rfl) (pe_op op_fdiv (pv 6) (pv 5))) (pss_cons (ps_setLc (i := 9) (own := [("one", 11)]) (g := gName 11) (by rfl) sc_law_written.nd rfl rfl (sw_true rfl rfl rfl (by decide +kernel)) (k_piL K (by rfl) (pi_list (pe_ix (k_ixL K (by rfl)) (pv 3) (pv 8) (fun _ _ => rfl)))) (blkOk_by (own := [("one", 11)]) (N := N_law_written) (sc := defScope s_law_written) (by decide +kernel)) (fun _ _ _ _ _ => pg_name (i := 11) sc_law_written.nd rfl (Or.inl rfl)) (fun _ _ _ _ _ => by exact pts_one (pt_cmpR (k_nin K (by rfl)) (pv 11) (pe_lst (pa_cons (pv 6) (pa_cons pe_str pa_nil))) (by rfl))) (fun _ _ _ _ _ => by exact (pv 11))) (C8.pss_cut (ps_set (i := 10) sc_law_written.nd rfl (by first | exact Or.inl rfl | exact Or.inr rfl) (pe_and (pe_cmpR op_gt (pe_callB (k_len K (by rfl)) (by rfl) T.n_len (by decide +kernel) (pa_cons (pe_ix (k_ixL K (by rfl)) (pv 3) (pv 8) (fun _ _ => rfl)) pa_nil)) pe_int (nomark _)) (pe_one (pe_cmpR (k_neD K (by rfl) hr.units) (pv 9) (pe_lst pa_nil) (nomark _))))) (pss_cons (ps_try_only rfl rfl ⟨rfl, by decide, .inl T.g_NoAnswer⟩ tk (fun W pn xe tk hp => (pss_one (ps_expr (pe_mt (pv 1) G_Guard_write (hr.mono (by decide)) tk (pa_cons (pv 6) (pa_cons (pv 7) pa_nil)))))) (fun a oe cls d pn _ _ => (pss_one (ps_ret (pv 10))))) (pss_cons (ps_asg (pe_tup (pa_cons (pv 7) (pa_cons (pe_lst pa_nil) pa_nil))) (pg_tup rfl (pgs_cons (pg_sub (pv 2) (pv 6) set_list) (pgs_cons (pg_sub (pv 3) (pv 8) set_list) pgs_nil)))) (pss_one (ps_ret (pe_not (pv 10)))))))))), ?_⟩
    obtain ⟨xs, hx1, hx2, hx3⟩ := lh.pg
    obtain ⟨bs, hb1, hb3, hb4⟩ := lh.bd
    refine ⟨_, rfl, _, rfl, l.pl, _, rfl, .inl (SqL.of hx1), l.dl, _, rfl, lh.dr, by omega, fun r H1 k1 d1 r0 r1 => ?_⟩
    have lh1 := lh.draw k1 d1
    refine ⟨_, rfl, l.dl, rfl, d1, fun v ws H2 k2 d2 tv hpg => ⟨(by show 2 ≤ sizeLine; decide), fun t ht => ?_⟩⟩
    have lh2 := lh1.draw k2 d2
    have k3 := Kp.new (o := .tup [V.int r, v]) ht
    have lh3 := lh2.kp0 k3
    have k13 := (k1.trans1 k2).trans0 k3
    have dS : ∀ x ∈ [l.dl], x ∈ l.S := by simp [LN.S]
    have hrm : r < g.many := by omega
    have gi0 := grp_in ok r0 hrm
    have ix := idx_in ok r0 hrm
    obtain ⟨i, hi⟩ := Int.eq_ofNat_of_zero_le gi0.1
    have hig : (i : Int) < g.groups := by omega
    have h0 : (0 : Int) ≤ (i : Int) := by omega
    have gi := inv.gi i hig
    have hi2 : i < bs.length := by omega
    rw [hi] at ix
    have hb3' := k13.st l.bl _ (by simp [nd.2.2.2.2.2.2.2.1]) hb1
    have hbi := k13.st bs[i] _ (fun z => (hb4 i hi2).2 (dS _ z)) (hb4 i hi2).1
    have hx3' := k13.st l.pl _ (by simp [nd.2.2.2.2.1]) hx1
    have hnm : (V.int r) = nmV g (i : Int) (r % g.size).toNat := by
      unfold nmV
      rw [if_pos ix.1]
      have q := ix.2.1
      rw [memI_at (by rw [← memI_len]; exact ix.1)] at q
      rw [Option.some.inj q]
    have hbl : (bad i).length ≤ 15 := by
      have q := (GI.perm ok h0 hig gi).length_eq
      have := (healM_few (g := g) ok (D := D) h0 hig).2
      omega
    refine ⟨t, _, rfl, SqT.of upd_same, rfl, _, _, rfl, _, _, rfl, rfl, ?_⟩
    -- at
    refine ⟨_, rfl, _, rfl, _, _, rfl, rfl, ⟨by omega, by omega⟩, ?_⟩
    dsimp only
    rw [hi]
    -- others
    refine ⟨_, rfl, _, rfl, l.bl, _, _, _, rfl, rfl, SqL.of hb3', atI_nat (v := .ref bs[i]) (by simp [hi2]), bs[i], rfl, ⟨_, SqL.of hbi⟩, fun D4 hD4 => ?_⟩
    refine lc_pure walk_list (by rw [List.length_map]; exact small1000 (by omega)) hD4 (fun j => decide ((bad i).getD j 0 ≠ (r % g.size).toNat ∧ (bad i).getD j 0 ≠ (memI g (i : Int)).length)) (fun j v _ => v = nmV g (i : Int) ((bad i).getD j 0)) (fun j v H H' _ r => r) (fun H k => k.sqL0 (SqL.of hbi)) ?_ ?_
    · rintro j x H5 H4 hj k4 ⟨rfl, hxj⟩ N F' hN hF
      obtain ⟨b, hb, rfl⟩ := map_at (g := nmV g (i : Int)) hxj
      have eg : (bad i).getD j 0 = b := by simp [List.getD_eq_getElem?_getD, hb]
      have hbl' := gi.ins b (List.mem_of_getElem? hb)
      refine ⟨rfl, _, rfl, _, rfl, (by show 2 ≤ sizeLine; decide), fun l5 hl5 => ?_⟩
      have k5 := Kp.new (o := .lst [V.int r, .str "sum"]) hl5
      have e2 : [V.int r, V.str "sum"] = [(r % g.size).toNat, (memI g (i : Int)).length].map (nmV g (i : Int)) := by
        rw [List.map_cons, List.map_cons, ← hnm]
        unfold nmV
        rw [if_neg (Nat.lt_irrefl _)]
        rfl
      have ei : inV (nmV g (i : Int) b) [V.int r, .str "sum"] = decide (b ∈ [(r % g.size).toNat, (memI g (i : Int)).length]) := by
        rw [e2, inV_nm hbl' (by
          intro q hq
          rcases List.mem_cons.mp hq with e | e
          · rw [e]; exact Nat.le_of_lt ix.1
          · rw [List.mem_singleton.mp e]; exact Nat.le_refl _)]
      refine ⟨l5, _, rfl, .inl (SqL.of upd_same), flat_nm, rfl, _, rfl, ?_⟩
      refine ite_of (fun e => ?_) (fun e => ?_)
      · have q : (!inV (nmV g (i : Int) b) [V.int r, .str "sum"]) = true := e
        rw [ei] at q
        refine ⟨_, rfl, hN _ _ ?_ k5 (by rw [eg])⟩
        rw [eg]
        simpa using q
      · have q : (!inV (nmV g (i : Int) b) [V.int r, .str "sum"]) = false := e
        rw [ei] at q
        refine hF _ ?_ k5
        rw [eg]
        simp at q
        simp
        exact q
    · intro H4 acc k4 hacc pr
      rw [List.length_map] at pr
      have eacc : acc = ((bad i).filter fun b => decide (b ≠ (r % g.size).toNat ∧ b ≠ (memI g (i : Int)).length)).map (nmV g (i : Int)) := by
        have q := Paired.eqs pr
        rw [q]
        have e1 : ∀ (bl : List Nat) (p : Nat → Bool), ((List.range bl.length).filter fun j => p (bl.getD j 0)).map (fun j => nmV g (i : Int) (bl.getD j 0)) = (bl.filter p).map (nmV g (i : Int)) := by
          intro bl p
          have e3 : bl = (List.range bl.length).map fun j => bl.getD j 0 := by
            apply List.ext_getElem
            · simp
            · intro j h1 h2
              simp [List.getD_eq_getElem?_getD, List.getElem?_eq_getElem h1]
          conv => rhs; rw [e3, List.filter_map, List.map_map]
          rfl
        exact e1 (bad i) fun b => decide (b ≠ (r % g.size).toNat ∧ b ≠ (memI g (i : Int)).length)
      have k34 := k4
      have lh4 := lh3.kp0 k4
      have hb4' := k4.same _ _ hb3'
      have hbi4 := k4.same _ _ hbi
      have hx4 := k4.same _ _ hx3'
      have tv4 := (tv.kp k3).kp k4
      -- due
      refine ⟨fun σ' H5 => Kp [] H4 H5 ∧ σ' = [some (.ref l.dl), some (.ref l.q), some (.ref l.pl), some (.ref l.bl), some (.ref l.gp), some (.int g.size), some (.int r), some v, some (.int (i : Int)), some (.ref D4), some (.bl (decide (1 < (bad i).length ∧ ∃ b ∈ bad i, b ≠ (r % g.size).toNat ∧ b ≠ (memI g (i : Int)).length))), none], ?_, ?_⟩
      · refine ⟨_, rfl, _, rfl, l.bl, _, _, _, rfl, rfl, SqL.of hb4', atI_nat (v := .ref bs[i]) (by simp [hi2]), bs[i], _, rfl, .inl (SqL.of hbi4), _, _, rfl, rfl, _, rfl, ?_⟩
        refine ite_of (fun e => ?_) (fun e => ?_)
        · have h1 : 1 < (bad i).length := by
            have := of_decide_eq_true e
            simp at this
            omega
          obtain ⟨ds, dd, dl1, dd1, dlen⟩ := flat_dp (K := K) (g := g) (at_ := (i : Int)) ((bad i).filter fun b => decide (b ≠ (r % g.size).toNat ∧ b ≠ (memI g (i : Int)).length))
          refine ⟨_, rfl, Nat.zero_le _, fun l5 hl5 => ?_⟩
          have k5 := Kp.new (o := .lst []) hl5
          have e5 : (!PyData.eqv (.list ds) (.list [])) = decide (1 < (bad i).length ∧ ∃ b ∈ bad i, b ≠ (r % g.size).toNat ∧ b ≠ (memI g (i : Int)).length) := by
            rw [PyData.eqv]
            cases ds with
            | nil =>
              have q : (bad i).filter (fun b => decide (b ≠ (r % g.size).toNat ∧ b ≠ (memI g (i : Int)).length)) = [] := List.eq_nil_of_length_eq_zero dlen.symm
              rw [PyData.eqvAll, decide_eq_false]
              · rfl
              · rintro ⟨_, b, hb, hc⟩
                exact absurd (decide_eq_true hc) (List.filter_eq_nil_iff.mp q b hb)
            | cons d ds =>
              have q : 0 < ((bad i).filter (fun b => decide (b ≠ (r % g.size).toNat ∧ b ≠ (memI g (i : Int)).length))).length := by rw [← dlen]; simp
              obtain ⟨b, hb⟩ := List.exists_mem_of_length_pos q
              have hb2 := List.mem_filter.mp hb
              rw [PyData.eqvAll, decide_eq_true ⟨h1, b, hb2.1, of_decide_eq_true hb2.2⟩]
              rfl
          refine ⟨.list ds, .list [], .lst (SqL.of (by rw [k5.same _ _ hacc, eacc])) (dd _), .lst (SqL.of upd_same) .nil, ?_, rfl, ?_⟩
          · simp only [SeqAt.shaped, PyData.canLay0, PyData.depth, dl1, Bool.true_and]
            exact decide_eq_true (by omega)
          · rw [e5]
            exact ⟨k5, rfl⟩
        · have h1 : ¬ (1 < (bad i).length) := by
            have := of_decide_eq_false e
            simp at this
            omega
          rw [decide_eq_false (fun z => h1 z.1)]
          exact ⟨Kp.refl _, rfl⟩
      · rintro σ' H5 ⟨k5, rfl⟩
        have lh5 := lh4.kp0 k5
        obtain ⟨dx, hQ⟩ := lh5.gd.gu
        have hany := healM_any ok h0 hig gi inv.pg (x := (r % g.size).toNat)
        refine ⟨_, rfl, l.q, dx, _, rfl, hQ, guardF_no (by decide +kernel), _, rfl, _, rfl, l.q, l.p, l.f, l.w, l.n, g, bm, D, m, r, v, ws, rfl, lh5.gd, r0, hrm, tv4.kp k5, by rw [isPg_len hpg]; decide, by omega, fun z => (by rw [hpg] at z; exact nomatch z), fun _ => ⟨fun hA H6 k6 => ?_, fun hA H6 k6 d6 => ?_⟩⟩
        · rw [hi, hany] at hA
          refine ⟨true, T.xAA, fun _ c hc => ?_, fun z => nomatch z⟩
          refine ⟨_, rfl, ?_⟩
          rw [hA]
          exact k _ _ _ _ ((lh5.kp0 k6).more (by omega)) inv
        · rw [hi] at hA d6
          have hput := healM_put ok h0 hig gi inv.pg ix.1 (ws := ws) hA
          have er : lo g (i : Int) + ((r % g.size).toNat : Nat) = r := by
            have q := ix.2.1
            rw [memI_at (by rw [← memI_len]; exact ix.1)] at q
            exact Option.some.inj q
          rw [hput, er] at d6
          rw [hany] at hA
          have lh6 := lh5.wr k6 d6
          have hx6 := k6.st l.pl _ (by simp [nd.2.2.1, nd.2.2.2.1]) (k5.same _ _ hx4)
          have hb6 := k6.st l.bl _ (by simp [nd.2.2.2.2.2.1, nd.2.2.2.2.2.2.1]) (k5.same _ _ hb4')
          have tv6 := (tv4.kp k5).kp k6
          refine ⟨_, rfl, Nat.zero_le _, fun l7 hl7 => ⟨(by show 2 ≤ sizeLine; decide), fun t8 ht8 => ?_⟩⟩
          have k7 := Kp.new (o := .lst []) hl7
          have k8 := Kp.new (o := .tup [v, .ref l7]) ht8
          have lh8 := (lh6.kp0 k7).kp0 k8
          have hx8 := k8.same _ _ (k7.same _ _ hx6)
          have hb8 := k8.same _ _ (k7.same _ _ hb6)
          obtain ⟨rn, rfl⟩ := Int.eq_ofNat_of_zero_le r0
          have z := lh8.putP hx8 (b := rn) ((tv6.kp k7).kp k8)
          have hb9 := z.2.st l.bl _ (by simp [nd.2.2.2.2.2.2.2.2]) hb8
          have l7S := lh6.fresh hl7
          have z2 := z.1.putB hb9 (i := i) (x := l7) (js := []) (z.2.st l7 _ (fun q => l7S (by simp only [List.mem_singleton] at q; simp [LN.S, q])) (k8.same _ _ upd_same)) l7S
          refine ⟨t8, _, rfl, SqT.of upd_same, rfl, _, _, rfl, _, rfl, _, rfl, l.pl, _, _, rn, rfl, rfl, hx8, ixN_nat (by omega), _, _, rfl, _, rfl, _, rfl, l.bl, _, _, i, rfl, rfl, hb9, ixN_nat (by simp [hi2]), rfl, ?_⟩
          refine ⟨_, rfl, _, rfl, ?_⟩
          rw [hA]
          refine k _ _ _ _ z2.1 (INV.lay ok inv hig (fun b => ?_) (fun b hb => ?_))
          · unfold updD
            split
            · exact hpg
            · exact inv.pg b
          · unfold updD
            rw [if_neg]
            intro e
            exact hb (by rw [e]; exact List.mem_of_getElem? ix.2.1)
end
end K68
set_option Elab.async false
set_option linter.all false
set_option maxRecDepth 100000
set_option maxHeartbeats 8000000
/-! K68X: the law. -/
namespace K68
open PySem L2 AB
/-- an int is no object of an own class -/
theorem kit_no {K : PySem.W.Frag} {C : Addr} (hd : PySem.W.hasDictIn K C = true) (ht : PySem.W.typeIn K (.ref C) = some (.type "type")) (hs : PySem.W.subIn K (.type "int") (.ref C) = some false) : PySem.W.kitOne K (.type "int") (.ref C) = some false := by
  obtain ⟨cd, hc, _⟩ := PySem.W.any_some hd
  unfold PySem.W.kitOne PySem.W.kitCls
  rw [if_neg (by simp)]
  dsimp only
  rw [hc, ht, hs]
  rfl
/-- several except clauses, as one word -/
def tTryM (K : PySem.W.Frag) (Wout : WX) (l : List (Value × (Addr → Value → Option Addr → TS))) (tb : WX → TS) : TS := fun D σ H => tb (wMany K Wout D l) D σ H
theorem ps_tryM {X : Cx} {body : List Stmt} {h₀ : ExceptHandler} {hds : List ExceptHandler} {l : List (Value × (Addr → Value → Option Addr → TS))} {pos : Pos} {tb : WX → TS} {Wout : WX} (hs : X.stack = X.env :: X.outer) (hf : X.env.frame = some X.env.locals) (tk : Takes X Wout)
    (hb : ∀ (W : WX) (pn : List (Addr × Obj)) (xe : Value → Shared → Prop), Takes (X.tr pn xe) W → PassesOwn (model X.prog X.w) X.A X.env xe → PSs (X.tr pn xe) body (tb W))
    (hh : HdsOk X (h₀ :: hds) l) : PS X (.Try body (h₀ :: hds) [] [] pos) (tTryM X.K Wout l tb) := ps_try_many hs hf tk hb hh
def mkG (r1 r2 r3 : Int) : GN := ⟨r3, 1 + r1, 1 + r2, -((-(1 + r1)) / (1 + r2))⟩
theorem mkG_ok {r1 r2 r3 : Int} (a0 : 0 ≤ r1) (a1 : r1 < 14) (b0 : 0 ≤ r2) (b1 : r2 < 5) (c0 : 0 ≤ r3) (c1 : r3 < 6) : (mkG r1 r2 r3).Ok 60 := by
  have h : r2 = 0 ∨ r2 = 1 ∨ r2 = 2 ∨ r2 = 3 ∨ r2 = 4 := by omega
  refine ⟨?_, ?_, ?_, ?_, ?_, ?_, by decide, rfl⟩ <;> simp only [mkG]
  · omega
  · omega
  · omega
  · omega
  · omega
  · rcases h with rfl | rfl | rfl | rfl | rfl <;> omega
def exp6 : List Str := ["right", "right", "right", "there", "right", "there"]
def spLaw (K : PySem.W.Frag) : Sp := fun vs H Q _ => ∃ (sa : Addr) (ns : List Int), vs = [.ref sa] ∧ SqL K H sa (ns.map V.int) ∧ ns.length ≤ 63 ∧ ∀ H', Q (.bl true) H'
section
variable {P : Program} {w : World} {K : PySem.W.Frag} {mg : Str → Option Value} {base : Heap} {a : Ad} {f : Addr} {fd : FuncData}
theorem ok_law (F : Fun K "law" "law" s_law f fd) (T : Txt K mg a) (G_law_draws : GFn P w K mg base 1 "_law_draws" ["script"] (spDraws K)) (G_law_take : GFn P w K mg base 1 "_law_take" ["draws", "bound"] spTake) (G_law_groups : GFn P w K mg base 1 "_law_groups" ["many", "size"] (spGroups K))
    (G_Disk_init : GMk P w K mg base 3 a.cd "Disk" ["self", "many"] (spDiskInit K a.cd)) (G_Guard_init : GMk P w K mg base 3 a.cg "Guard" ["self", "disk", "first", "many", "group"] (spGuardInit K a)) (G_Guard_begin : GMt P w K mg base 8 a.cg "begin" ["self"] (spBegin K a))
    (G_law_written : GFn P w K mg base 9 "_law_written" ["draws", "guard", "pages", "bad", "groups", "size"] (spWritten K a)) (G_law_damaged : GFn P w K mg base 7 "_law_damaged" ["draws", "disk", "guard", "groups", "bad"] (spDamaged K a)) (G_law_is_scrubbed : GFn P w K mg base 9 "_law_is_scrubbed" ["guard", "bad", "groups"] (spScrubbed K a)) (G_law_looks : GFn P w K mg base 8 "_law_looks" ["guard", "pages", "bad", "groups"] (spLooks K a))
    (G_law_page : GFn P w K mg base 3 "_law_page" ["draws"] (spPage K)) (G_sum_of : GFn P w K mg base 6 "sum_of" ["pages"] (spSumOf K)) (G_law_sum : GFn P w K mg base 2 "_law_sum" ["pages"] (spLSum K)) (G_mark_of : GFn P w K mg base 6 "mark_of" ["words"] (spMarkOf K)) (G_law_mark : GFn P w K mg base 1 "_law_mark" ["page"] (spMarkBy K))
    (G_Guard_read : GMt P w K mg base 7 a.cg "read" ["self", "block"] (spRead K a)) (G_Guard_write : GMt P w K mg base 8 a.cg "write" ["self", "block", "words"] (spWrite K a)) (G_Guard_places_of : GMt P w K mg base 3 a.cg "places_of" ["self", "group"] (spPlacesOf K a)) :
    FnOk P w K mg base (L2.CX P w) 10 f fd ["script"] (spLaw K) := by
  refine okT F sc_law (fun vs H Q E h => ?_) (fun cdv A outer s H vs Q E hr tk hp h => ?_)
  · obtain ⟨sa, ns, rfl, _⟩ := h
    rfl
  · obtain ⟨sa, ns, rfl, hs, hlen, k⟩ := h
    refine ⟨_, (pss_cons (ps_set (i := 1) sc_law.nd rfl (by first | exact Or.inl rfl | exact Or.inr rfl) (pe_cl G_law_draws (hr.mono (by decide)) tk (pa_cons (pv 0) pa_nil))) (pss_cons (ps_par3 (i := 2) (j := 3) (l := 4) (by rfl) sc_law.nd rfl rfl rfl (by decide) (by decide) (by decide) rfl rfl rfl (pa_cons (pe_op op_add pe_int (pe_cl G_law_take (hr.mono (by decide)) tk (pa_cons (pv 1) (pa_cons pe_int pa_nil)))) (pa_cons (pe_op op_add pe_int (pe_cl G_law_take (hr.mono (by decide)) tk (pa_cons (pv 1) (pa_cons pe_int pa_nil)))) (pa_cons (pe_cl G_law_take (hr.mono (by decide)) tk (pa_cons (pv 1) (pa_cons pe_int pa_nil))) pa_nil))) (by rfl)) (pss_cons (ps_set (i := 5) sc_law.nd rfl (by first | exact Or.inl rfl | exact Or.inr rfl) (pe_cl G_law_groups (hr.mono (by decide)) tk (pa_cons (pv 2) (pa_cons (pv 3) pa_nil)))) (pss_cons (ps_set (i := 6) sc_law.nd rfl (by first | exact Or.inl rfl | exact Or.inr rfl) (pe_mk G_Disk_init (hr.mono (by decide)) tk (pa_cons pe_int pa_nil))) (pss_cons (ps_par3 (i := 7) (j := 8) (l := 9) (by rfl) sc_law.nd rfl rfl rfl (by decide) (by decide) (by decide) rfl rfl rfl (pa_cons (pe_mk G_Guard_init (hr.mono (by decide)) tk (pa_cons (pv 6) (pa_cons (pv 4) (pa_cons (pv 2) (pa_cons (pv 3) pa_nil))))) (pa_cons (pe_op op_rep (pe_lst (pa_cons (pe_op (k_repT K (by rfl)) (pe_tup (pa_cons pe_int pa_nil)) pe_int) pa_nil)) (pv 2)) (pa_cons (pe_lc (own := [("group", 15)]) (g := gName 15) (tt := tYes) (by rfl) sc_law.nd (k_piL K (by rfl) (pi_list (pv 5))) (blkOk_by (own := [("group", 15)]) (N := N_law) (sc := defScope s_law) (by decide +kernel)) (fun _ _ _ _ _ => pg_name (i := 15) sc_law.nd rfl (Or.inl rfl)) (fun _ _ _ _ _ => pts_nil) (fun _ _ _ _ _ => by exact (pe_lst pa_nil))) pa_nil))) (by rfl)) (pss_cons (ps_expr (pe_mt0 (pv 7) G_Guard_begin (hr.mono (by decide)) tk)) (pss_cons (ps_for hp rfl (pi_range1 (by rfl) T.n_range (pa_cons pe_int pa_nil)) (pg_name (i := 10) sc_law.nd rfl (by first | exact Or.inl rfl | exact Or.inr rfl)) (pss_cons (ps_set (i := 11) sc_law.nd rfl (by first | exact Or.inl rfl | exact Or.inr rfl) (pe_cl G_law_take (hr.mono (by decide)) tk (pa_cons (pv 1) (pa_cons pe_int pa_nil)))) (C8.pss_cut (ps_if (pt_cmpR op_lt (pv 11) pe_int (nomark _)) (pss_one (ps_if (pt_not (pt_val (pe_cl G_law_written (hr.mono (by decide)) tk (pa_cons (pv 1) (pa_cons (pv 7) (pa_cons (pv 8) (pa_cons (pv 9) (pa_cons (pv 5) (pa_cons (pv 3) pa_nil))))))))) (pss_one (ps_ret pe_bl)) pss_nil)) (pss_one (ps_if (pt_cmpR op_lt (pv 11) pe_int (nomark _)) (pss_one (ps_expr (pe_cl G_law_damaged (hr.mono (by decide)) tk (pa_cons (pv 1) (pa_cons (pv 6) (pa_cons (pv 7) (pa_cons (pv 5) (pa_cons (pv 9) pa_nil)))))))) (pss_one (ps_if (pt_not (pt_val (pe_cl G_law_is_scrubbed (hr.mono (by decide)) tk (pa_cons (pv 7) (pa_cons (pv 9) (pa_cons (pv 5) pa_nil)))))) (pss_one (ps_ret pe_bl)) pss_nil))))) (pss_one (ps_if (pt_not (pt_val (pe_cl G_law_looks (hr.mono (by decide)) tk (pa_cons (pv 7) (pa_cons (pv 8) (pa_cons (pv 9) (pa_cons (pv 5) pa_nil))))))) (pss_one (ps_ret pe_bl)) pss_nil))))) (pss_cons (ps_set (i := 12) sc_law.nd rfl (by first | exact Or.inl rfl | exact Or.inr rfl) (pe_callTy (k_tupOf K (by rfl)) (by rfl) T.n_tuple (by decide +kernel) (pa_cons (pe_lc (own := [("k", 16)]) (g := gName 16) (tt := tYes) (by rfl) sc_law.nd (pi_range1 (by rfl) T.n_range (pa_cons (pe_cl G_law_take (hr.mono (by decide)) tk (pa_cons (pv 1) (pa_cons pe_int pa_nil))) pa_nil)) (blkOk_by (own := [("k", 16)]) (N := N_law) (sc := defScope s_law) (by decide +kernel)) (fun _ _ _ _ _ => pg_name (i := 16) sc_law.nd rfl (Or.inl rfl)) (fun _ _ _ _ _ => pts_nil) (fun _ _ _ _ _ => by exact (pe_cl G_law_page (hr.mono (by decide)) takes0 (pa_cons (pv 1) pa_nil)))) pa_nil))) (pss_cons (ps_if (PW.pt (pw_or (pt_cmpR (k_neD K (by rfl) hr.units) (pe_cl G_sum_of (hr.mono (by decide)) tk (pa_cons (pv 12) pa_nil)) (pe_cl G_law_sum (hr.mono (by decide)) tk (pa_cons (pv 12) pa_nil)) (nomark _)) (pw_or1 (pt_cmpR (k_neD K (by rfl) hr.units) (pe_lc (own := [("page", 17)]) (g := gName 17) (by rfl) sc_law.nd (k_piT K (by rfl) (pi_tup (pv 12))) (blkOk_by (own := [("page", 17)]) (N := N_law) (sc := defScope s_law) (by decide +kernel)) (fun _ _ _ _ _ => pg_name (i := 17) sc_law.nd rfl (Or.inl rfl)) (fun _ _ _ _ _ => by exact pts_one (pt_cmpR op_ne (pe_cl G_mark_of (hr.mono (by decide)) takes0 (pa_cons (pv 17) pa_nil)) (pe_cl G_law_mark (hr.mono (by decide)) takes0 (pa_cons (pv 17) pa_nil)) (nomark _))) (fun _ _ _ _ _ => by exact (pv 17))) (pe_lst pa_nil) (nomark _))))) (pss_one (ps_ret pe_bl)) pss_nil) (pss_cons (ps_set (i := 13) sc_law.nd rfl (by first | exact Or.inl rfl | exact Or.inr rfl) (pe_lst pa_nil)) (pss_cons (ps_for hp rfl (pi_range1 (by rfl) T.n_range (pa_cons pe_int pa_nil)) (pg_name (i := 14) sc_law.nd rfl (by first | exact Or.inl rfl | exact Or.inr rfl)) (pss_one (ps_tryM rfl rfl tk (fun W pn xe tk hp => (pss_one (ps_if (pt_cmpR op_lt (pv 14) pe_int (nomark _)) (pss_one (ps_expr (pe_mk G_Guard_init (hr.mono (by decide)) tk (pa_cons (pe_ix (k_ixL K (by rfl)) (pe_lst (pa_cons pe_int (pa_cons (pv 6) (pa_cons (pv 6) pa_nil)))) (pv 14) (fun _ _ => rfl)) (pa_cons (pe_ix (k_ixL K (by rfl)) (pe_lst (pa_cons pe_int (pa_cons pe_int (pa_cons pe_int pa_nil)))) (pv 14) (fun _ _ => rfl)) (pa_cons (pe_ix (k_ixL K (by rfl)) (pe_lst (pa_cons pe_int (pa_cons pe_int (pa_cons pe_int pa_nil)))) (pv 14) (fun _ _ => rfl)) (pa_cons (pe_ix (k_ixL K (by rfl)) (pe_lst (pa_cons pe_int (pa_cons pe_int (pa_cons pe_int pa_nil)))) (pv 14) (fun _ _ => rfl)) pa_nil))))))) (pss_one (ps_if (pt_cmpR op_eq (pv 14) pe_int (nomark _)) (pss_one (ps_expr (pe_mt (pv 7) G_Guard_read (hr.mono (by decide)) tk (pa_cons (pv 2) pa_nil)))) (pss_one (ps_if (pt_cmpR op_eq (pv 14) pe_int (nomark _)) (pss_one (ps_expr (pe_mt (pv 7) G_Guard_write (hr.mono (by decide)) tk (pa_cons pe_int (pa_cons (pe_op (k_repT K (by rfl)) (pe_tup (pa_cons pe_int pa_nil)) pe_int) pa_nil))))) (pss_one (ps_expr (pe_mt (pv 7) G_Guard_places_of (hr.mono (by decide)) tk (pa_cons (pe_callB (k_len K (by rfl)) (by rfl) T.n_len (by decide +kernel) (pa_cons (pv 5) pa_nil)) pa_nil))))))))))) (HdsOk.cons ⟨rfl, by decide, .inl T.g_NotThere⟩ (fun a oe cls d pn _ _ => (pss_one (ps_expr (k_bm K (by rfl) (pe_bm PySem.F.plainAttrs_list PySem.F.slot_list_append PySem.F.type_list_append mt_append (pv 13)  (pa_cons pe_str pa_nil)))))) (HdsOk.cons ⟨rfl, by decide, .inl T.g_NotRight⟩ (fun a oe cls d pn _ _ => (pss_one (ps_expr (k_bm K (by rfl) (pe_bm PySem.F.plainAttrs_list PySem.F.slot_list_append PySem.F.type_list_append mt_append (pv 13)  (pa_cons pe_str pa_nil)))))) HdsOk.nil))))) (pss_one (ps_ret (pe_cmpR (k_eqD K (by rfl) hr.units) (pv 13) (pe_lst (pa_cons pe_str (pa_cons pe_str (pa_cons pe_str (pa_cons pe_str (pa_cons pe_str (pa_cons pe_str pa_nil))))))) (nomark _))))))))))))))), ?_⟩
    refine ⟨_, rfl, sa, ns, rfl, hs, hlen, fun H1 dl k1 hdl d1 => ?_⟩
    refine ⟨_, rfl, dl, 14, rfl, d1, by decide, fun r1 H2 k2 d2 a0 a1 => ⟨_, _, rfl, rfl, _, rfl, dl, 5, rfl, d2, by decide, fun r2 H3 k3 d3 b0 b1 => ⟨_, _, rfl, rfl, _, rfl, dl, 6, rfl, d3, by decide, fun r3 H4 k4 d4 c0 c1 => ⟨_, _, _, rfl, ?_⟩⟩⟩⟩
    have ok := mkG_ok a0 a1 b0 b1 c0 c1
    have gm : (mkG r1 r2 r3).many = 1 + r1 := rfl
    have gs : (mkG r1 r2 r3).size = 1 + r2 := rfl
    have gf : (mkG r1 r2 r3).first = r3 := rfl
    have gg : (mkG r1 r2 r3).groups = -((-(1 + r1)) / (1 + r2)) := rfl
    have gin := groups_in ok
    -- groups, disk
    refine ⟨_, rfl, _, rfl, mkG r1 r2 r3, 60, rfl, ok, fun H5 gp k5 hg => ?_⟩
    refine fun p dx hp0 hdx hne => ⟨p, dx, 60, rfl, upd_same, by decide, by decide, fun H6 f w n k6 dk hf hw hn => ⟨rfl, ?_⟩⟩
    have kN : Kp [] H5 (upd (upd H5 dx (.own p)) p (.ins a.cd dx [])) := (Kp.new hdx).trans0 (Kp.new (by rw [upd_ne hne.symm]; exact hp0))
    have kD : Kp [] H5 H6 := kN.trans k6 fun b hb => .inr (by rw [List.mem_singleton.mp hb]; exact hp0)
    have dr5 := d4.kp k5 (by simp)
    have dr6 := dr5.kp kD (by simp)
    -- guard
    refine ⟨_, rfl, _, rfl, _, rfl, _, rfl, fun q qx hq0 hqx hqn => ?_⟩
    have kG : Kp [] H6 (upd (upd H6 qx (.own q)) q (.ins a.cg qx [])) := (Kp.new hqx).trans0 (Kp.new (by rw [upd_ne hqn.symm]; exact hq0))
    refine ⟨q, qx, .ref p, r3, 1 + r1, 1 + r2, rfl, upd_same, .inr ⟨p, f, w, n, 60, _, 0, rfl, dk.kp0 kG, by decide, fun _ H7 k7 gu => ⟨rfl, ?_⟩, fun z => absurd ⟨ok.s1, ok.s14, ok.m1, ok.mb, ok.f0, ok.fb⟩ z⟩⟩
    have kG7 : Kp [] H6 H7 := kG.trans k7 fun b hb => .inr (by rw [List.mem_singleton.mp hb]; exact hq0)
    have dk7 := dk.kp0 kG7
    have gd7 : Gd K a H7 q p f w n (mkG r1 r2 r3) 60 (fun _ => zeros) 0 := ⟨gu, dk7, ok⟩
    have dr7 := dr6.kp kG7 (by simp)
    -- pages
    refine ⟨(by show 1 ≤ sizeLine; decide), fun t0 ht0 => ⟨t0, 16, [.int 0], rfl, rfl, SqT.of upd_same, by simp, by decide, by decide, by simp, fun t1 ht1 => ⟨(by show 1 ≤ sizeLine; decide), fun l2 hl2 => ⟨_, rfl, l2, 1 + r1, [.ref t1], rfl, rfl, upd_same, by omega, by omega, Nat.le_trans (show [V.ref t1].length * (1 + r1).toNat ≤ 1000 by simp; omega) (by decide), fun pl hpl => ?_⟩⟩⟩⟩
    have p1 := Kp.new (o := .tup [V.int 0]) ht0
    have p2 := Kp.new (o := .tup (List.replicate (16 : Int).toNat [V.int 0]).flatten) ht1
    have p3 := Kp.new (o := .lst [V.ref t1]) hl2
    have p4 := Kp.new (o := .lst (List.replicate (1 + r1).toNat [V.ref t1]).flatten) hpl
    have kP := ((p1.trans0 p2).trans0 p3).trans0 p4
    have gd8 := gd7.kp0 kP
    have dr8 := dr7.kp kP (by simp)
    have hz : ∀ H', Kp [] (upd (upd (upd (upd H7 t0 (.tup [V.int 0])) t1 (.tup (List.replicate (16 : Int).toNat [V.int 0]).flatten)) l2 (.lst [V.ref t1])) pl (.lst (List.replicate (1 + r1).toNat [V.ref t1]).flatten)) H' → TI K H' (.ref t1) zeros := fun H' k' => ⟨t1, rfl, SqT.of (k'.same _ _ (p4.same _ _ (p3.same _ _ upd_same)))⟩
    obtain ⟨as, hg1, hg3, hg0, hg4⟩ := hg.ls
    have kGP := (kD.trans0 kG7).trans0 kP
    have hg1' := kGP.same _ _ hg1
    obtain ⟨⟨pdx, hP8⟩, hF8, ⟨us8, hW8, _⟩, ⟨kvs8, hN8, _⟩, _, _⟩ := gd8.dk
    obtain ⟨ds8, hD8⟩ := id dr8
    -- bad
    refine ⟨_, rfl, gp, rfl, ⟨_, SqL.of hg1'⟩, fun bl hbl => ?_⟩
    refine lc_pureD walk_list (by rw [List.length_map]; exact small1000 (by omega)) hbl (fun _ => true) (fun j v H' => ∃ x, v = .ref x ∧ H' x = some (.lst []) ∧ x ∉ [w, n, dl, pl, bl]) (fun j v H H' k ⟨x, e, h, hn⟩ => ⟨x, e, k.st _ _ (by simp only [List.mem_singleton]; intro z; exact hn (by simp [z])) h, hn⟩) (fun H k => k.sqL0 (SqL.of hg1')) ?_ ?_
    · rintro j x H9 H10 hj k9 ⟨acc9, hacc9⟩ ⟨rfl, hx⟩ N F' hN hF
      refine ⟨rfl, Nat.zero_le _, fun x hx => hN _ _ rfl (Kp.new hx) ⟨x, rfl, upd_same, ?_⟩⟩
      simp only [List.mem_cons, List.not_mem_nil, or_false, not_or]
      exact ⟨(ne_of_none (k9.same _ _ hW8) hx).symm, (ne_of_none (k9.same _ _ hN8) hx).symm, (ne_of_none (k9.same _ _ hD8) hx).symm, (ne_of_none (k9.same _ _ upd_same) hx).symm, (ne_of_none hacc9 hx).symm⟩
    · intro H9 acc k9 hacc pr
      rw [filter_all] at pr
      obtain ⟨bs, rfl, pr2⟩ := refs_of pr
      have rg2 := range_get pr2
      have gd9 := gd8.kp0 k9
      have dr9 := dr8.kp k9 (by simp)
      have hpl9 := k9.same _ _ (upd_same (H := upd (upd (upd H7 t0 (.tup [V.int 0])) t1 (.tup (List.replicate (16 : Int).toNat [V.int 0]).flatten)) l2 (.lst [V.ref t1])) (a := pl) (o := .lst (List.replicate (1 + r1).toNat [V.ref t1]).flatten))
      have hW9 := k9.same _ _ hW8
      have hN9 := k9.same _ _ hN8
      have hD9 := k9.same _ _ hD8
      have n1 : w ≠ n := ne_of hW8 hN8 (by intro z; cases z)
      obtain ⟨us6, hW6, _⟩ := dk.wt
      have n3 : w ≠ pl := ne_of_none ((kG7.trans0 ((p1.trans0 p2).trans0 p3)).same _ _ hW6) hpl
      have n4 : w ≠ bl := ne_of_none hW8 hbl
      have n5 : n ≠ dl := ne_of hN8 hD8 (by intro z; cases z)
      have n6 : n ≠ pl := ne_of hN8 upd_same (by intro z; cases z)
      have n7 : n ≠ bl := ne_of_none hN8 hbl
      have n8 : dl ≠ pl := by
        obtain ⟨ds7, h7⟩ := dr7
        exact ne_of_none (((p1.trans0 p2).trans0 p3).same _ _ h7) hpl
      have n9 : dl ≠ bl := ne_of_none hD8 hbl
      have n10 : pl ≠ bl := ne_of_none (upd_same (H := upd (upd (upd H7 t0 (.tup [V.int 0])) t1 (.tup (List.replicate (16 : Int).toNat [V.int 0]).flatten)) l2 (.lst [V.ref t1])) (a := pl) (o := .lst (List.replicate (1 + r1).toNat [V.ref t1]).flatten)) hbl
      have fresh5 : ∀ x, (∃ o, H5 x = some o) → x ≠ w ∧ x ≠ n ∧ x ≠ pl ∧ x ≠ bl := fun x ⟨o, hx⟩ => by
        have e1 : H5 w = none := kN.fr _ hw
        have e2 : H5 n = none := kN.fr _ hn
        have e3 := kGP.same _ _ hx
        exact ⟨ne_of_none hx e1, ne_of_none hx e2, ne_of_none ((kD.trans0 kG7).trans0 ((p1.trans0 p2).trans0 p3) |>.same _ _ hx) hpl, ne_of_none e3 hbl⟩
      have n2 : w ≠ dl := by
        obtain ⟨ds5, h5⟩ := dr5
        exact (fresh5 dl ⟨_, h5⟩).1.symm
      have hdl4 : ∃ o, H4 dl = some o := by obtain ⟨ds, h⟩ := d4; exact ⟨_, h⟩
      have lh : LH K a H9 ⟨q, p, f, w, n, dl, gp, pl, bl⟩ (mkG r1 r2 r3) 60 (fun _ => zeros) 0 (fun _ => zeros) (fun _ => []) := by
        refine ⟨gd9, ⟨as, k9.same _ _ hg1', ?_, hg3, fun i hi => ⟨(kGP.trans0 k9).same _ _ (hg4 i hi).1, ?_⟩⟩, ⟨_, hpl9, by simp [gm], fun i hi => ?_⟩, ⟨bs, hacc, by simpa [hg3] using rg2.1, fun i hi => ⟨?_, ?_⟩⟩, dr9, ?_⟩
        · have h5 := fresh5 gp ⟨_, hg1⟩
          have h6 : gp ≠ dl := by
            obtain ⟨o, ho⟩ := hdl4
            exact (ne_of_none ho hg0).symm
          simp only [LN.S, List.mem_cons, List.not_mem_nil, or_false, not_or]
          exact ⟨h5.1, h5.2.1, h6, h5.2.2.1, h5.2.2.2⟩
        · have h5 := fresh5 as[i] ⟨_, (hg4 i hi).1⟩
          have h6 : as[i] ≠ dl := by
            obtain ⟨o, ho⟩ := hdl4
            exact (ne_of_none ho (hg4 i hi).2).symm
          simp only [LN.S, List.mem_cons, List.not_mem_nil, or_false, not_or]
          exact ⟨h5.1, h5.2.1, h6, h5.2.2.1, h5.2.2.2⟩
        · have e : (List.replicate (1 + r1).toNat [V.ref t1]).flatten = List.replicate (1 + r1).toNat (V.ref t1) := by
            generalize (1 + r1).toNat = m
            induction m with
            | zero => rfl
            | succ m ih => rw [List.replicate_succ, List.flatten_cons, ih]; rfl
          have e2 : ((List.replicate (1 + r1).toNat [V.ref t1]).flatten)[i] = V.ref t1 := by simp only [e, List.getElem_replicate]
          rw [e2]
          exact hz _ k9
        · exact (rg2.2 i hi).1
        · exact (rg2.2 i hi).2
        · simp only [LN.S, List.nodup_cons, List.mem_cons, List.not_mem_nil, or_false, not_or, List.nodup_nil, and_true, not_false_eq_true]
          exact ⟨⟨n1, n2, n3, n4⟩, ⟨n5, n6, n7⟩, ⟨n8, n9⟩, n10⟩
      refine ⟨_, _, _, rfl, ?_⟩
      generalize hl : (⟨q, p, f, w, n, dl, gp, pl, bl⟩ : LN) = l at lh
      obtain rfl : q = l.q := by rw [← hl]
      obtain rfl : p = l.p := by rw [← hl]
      obtain rfl : dl = l.dl := by rw [← hl]
      obtain rfl : gp = l.gp := by rw [← hl]
      obtain rfl : pl = l.pl := by rw [← hl]
      obtain rfl : bl = l.bl := by rw [← hl]
      clear hl
      have gi15 : (mkG r1 r2 r3).groups.toNat ≤ 60 := by omega
      obtain ⟨dxq, hQ9⟩ := lh.gd.gu
      -- begin
      refine ⟨_, rfl, l.q, dxq, _, rfl, hQ9, guardF_no (by decide +kernel), l.q, l.p, l.f, l.w, l.n, mkG r1 r2 r3, 60, _, 0, rfl, lh.gd, by omega, by decide, fun H11 k11 d11 => ?_⟩
      have lhB := (lh.wr k11 d11).more (m' := 1000) (by omega)
      have invB := begin_inv (D := fun _ => zeros) ok
      -- the turns
      refine ⟨_, rfl, by decide, by decide, ?_⟩
      refine for_it walk_range (fun i σ H' => (∃ y10 y11, σ = [some (.ref sa), some (.ref l.dl), some (.int (1 + r1)), some (.int (1 + r2)), some (.int r3), some (.ref l.gp), some (.ref l.p), some (.ref l.q), some (.ref l.pl), some (.ref l.bl), y10, y11, none, none, none, none, none, none]) ∧ ∃ D m Pp bad, LH K a H' l (mkG r1 r2 r3) 60 D m Pp bad ∧ INV (mkG r1 r2 r3) D Pp bad ∧ m ≤ 1000 + 1000 * i)
        ⟨⟨none, none, rfl⟩, _, _, _, _, lhB, invB, Nat.le_refl _⟩ (fun _ _ _ _ _ => trivial) ?_ ?_
      · rintro i v σ Hx H1 hi ⟨⟨y10, y11, rfl⟩, D, m, Pp, bad, lh1, inv1, hm⟩ ⟨rfl, hv⟩
        have hi22 : i < 22 := hi
        refine ⟨_, rfl, l.dl, 7, rfl, lh1.dr, by decide, fun r H2 k2 d2 q0 q1 => ?_⟩
        have lh2 := lh1.draw k2 d2
        refine ⟨fun σ' H' => (∃ y10 y11, σ' = [some (.ref sa), some (.ref l.dl), some (.int (1 + r1)), some (.int (1 + r2)), some (.int r3), some (.ref l.gp), some (.ref l.p), some (.ref l.q), some (.ref l.pl), some (.ref l.bl), y10, y11, none, none, none, none, none, none]) ∧ ∃ D m Pp bad, LH K a H' l (mkG r1 r2 r3) 60 D m Pp bad ∧ INV (mkG r1 r2 r3) D Pp bad ∧ m ≤ 1000 + 1000 * (i + 1), ?_, ?_⟩
        · refine ⟨_, rfl, _, _, rfl, rfl, _, rfl, ?_⟩
          refine ite_of (fun e => ?_) (fun e => ?_)
          · refine ⟨_, rfl, _, rfl, _, rfl, _, rfl, _, rfl, _, rfl, l, mkG r1 r2 r3, 60, D, m, Pp, bad, rfl, lh2, inv1, by decide, by omega, fun H3 D3 P3 bad3 lh3 inv3 => ⟨true, rfl, iteF ?_⟩⟩
            exact ⟨⟨_, _, rfl⟩, _, _, _, _, lh3, inv3, by omega⟩
          · refine ⟨_, rfl, _, _, rfl, rfl, _, rfl, ?_⟩
            refine ite_of (fun e2 => ?_) (fun e2 => ?_)
            · refine ⟨_, rfl, _, rfl, _, rfl, _, rfl, _, rfl, l, mkG r1 r2 r3, 60, D, m, Pp, bad, rfl, lh2, inv1, by decide, by omega, fun H3 D3 bad3 lh3 inv3 => ?_⟩
              exact ⟨⟨_, _, rfl⟩, _, _, _, _, lh3, inv3, by omega⟩
            · refine ⟨_, rfl, _, rfl, _, rfl, l, mkG r1 r2 r3, 60, D, m, Pp, bad, rfl, lh2, inv1, by decide, by omega, fun H3 D3 bad3 lh3 inv3 => ⟨true, rfl, iteF ?_⟩⟩
              exact ⟨⟨_, _, rfl⟩, _, _, _, _, lh3, inv3, by omega⟩
        · rintro σ' H3 ⟨⟨z10, z11, rfl⟩, D3, m3, P3, bad3, lh3, inv3, hm3⟩
          refine ⟨_, rfl, _, rfl, _, rfl, _, rfl, l, mkG r1 r2 r3, 60, D3, m3, P3, bad3, rfl, lh3, inv3, by decide, fun H4 k4 => ⟨true, rfl, iteF ?_⟩⟩
          exact ⟨⟨_, _, rfl⟩, _, _, _, _, lh3.kp0 k4, inv3, hm3⟩
      · rintro σ H1 ⟨⟨y10, y11, rfl⟩, D, m, Pp, bad, lh1, inv1, hm⟩
        -- some
        refine ⟨_, rfl, l.dl, 4, rfl, lh1.dr, by decide, fun r H2 k2 d2 q0 q1 => ⟨_, rfl, by omega, by omega, fun Dl hDl => ?_⟩⟩
        have lh2 := lh1.draw k2 d2
        have nl : l.dl ≠ Dl := by
          obtain ⟨ds, hds⟩ := d2
          exact ne_of_none hds hDl
        refine lc_pair walk_range (Nat.lt_of_le_of_lt (show r.toNat ≤ 100 by omega) (by decide)) hDl (fun _ => true) [l.dl] (fun _ H => Dr H l.dl) (fun _ v H => ∃ ws, TI K H v ws ∧ isPg ws = true) (fun j v H H' k r => by obtain ⟨ws, r, z⟩ := r; exact ⟨ws, r.kp k, z⟩) d2.mut (by obtain ⟨ds, h⟩ := d2; exact ⟨ds, by rw [upd_ne nl]; exact h⟩) (fun _ _ _ _ _ => trivial) ?_ ?_
        · rintro j v H3 H4 hj k3 hacc hmu hd3 ⟨rfl, hv⟩ N F' hN hF
          obtain ⟨acc, hacc⟩ := hacc
          refine ⟨rfl, _, rfl, l.dl, rfl, hd3, fun v ws H5 k5 d5 tv hp => ?_⟩
          exact hN _ _ rfl k5 (k5.st _ _ (by simp [nl.symm]) hacc |>.trans hacc.symm) d5.mut ⟨ws, tv, hp⟩ fun acc' => d5.kp (Kp.set (p := Dl) (o := .lst acc') (by rw [k5.st Dl _ (by simp [nl.symm]) hacc]; exact True.intro)) (by simp [nl])
        · intro H3 acc k3 hmu hd3 hacc pr
          rw [filter_all] at pr
          have lh3 := lh2.draw k3 hd3
          have hal := pair_len pr
          rw [List.length_range] at hal
          obtain ⟨ps, pgs, hps⟩ : ∃ ps, Pgs K H3 acc ps ∧ ∀ p ∈ ps, isPg p = true := by
            clear hacc hal
            generalize List.range r.toNat = js at pr
            induction pr with
            | nil => exact ⟨[], .nil, fun p h => nomatch h⟩
            | cons r t ih =>
              obtain ⟨ws, r, z⟩ := r
              obtain ⟨ps, pgs, hps⟩ := ih
              exact ⟨ws :: ps, .cons ⟨r, isPg_len z⟩ pgs, fun p hp => by
                rcases List.mem_cons.mp hp with e | e
                · rw [e]; exact z
                · exact hps p e⟩
          have hpl := pair_len pgs
          refine ⟨Dl, _, rfl, .inl ⟨SqL.of hacc, fun ts hts => ?_⟩⟩
          have k4 := Kp.new (o := .tup acc) hts
          have lh4 := lh3.kp0 k4
          have hq4 : SqT K (upd H3 ts (.tup acc)) ts acc := SqT.of upd_same
          have pgs4 := pgs.kp k4
          -- the sums and marks
          refine ⟨_, rfl, ts, acc, ps, rfl, hq4, pgs4, hps, by omega, fun H5 v5 k5 t5 => ⟨_, rfl, ts, acc, ps, rfl, k5.sqT hq4, pgs4.kp k5, hps, fun H6 v6 k6 t6 => ⟨_, _, dp_ti (t5.kp k6), dp_ti t6, shaped_ints _, shaped_ints _, _, rfl, ?_⟩⟩⟩
          rw [eqv_ints]
          have k56 := k5.trans0 k6
          refine ite_of (fun e => absurd e (by simp)) (fun _ => ?_)
          refine ⟨_, rfl, ts, rfl, ⟨_, k56.sqT hq4⟩, fun D7 hD7 => ?_⟩
          refine lc_pure walk_tup (by rw [hpl]; exact small1000 (by omega)) hD7 (fun _ => false) (fun j v _ => True) (fun j v H H' _ r => r) (fun H k => k.sqT (k56.sqT hq4)) ?_ ?_
          · intro j x H8 H9 hj k8 y N F' hN hF
            obtain ⟨rfl, hx⟩ := y
            obtain ⟨ws, hw, tv, hwl⟩ := pair_at (i := 0) pgs4 hx
            have hp' := hps ws (List.mem_of_getElem? hw)
            have tv8 := (tv.kp k56).kp k8
            refine ⟨rfl, _, rfl, x, ws, rfl, tv8, hp', fun H10 k10 => ⟨_, rfl, x, ws, rfl, tv8.kp k10, rfl, _, rfl, ?_⟩⟩
            refine ite_of (fun e => absurd e (by simp)) (fun _ => hF _ rfl k10)
          · intro H8 acc8 k8 hacc8 pr8
            have e8 : acc8 = [] := by
              have : ((List.range acc.length).filter fun _ => false) = [] := by simp
              rw [this] at pr8
              cases pr8
              rfl
            subst e8
            refine ⟨Nat.zero_le _, fun l9 hl9 => ?_⟩
            have k9 := Kp.new (o := .lst []) hl9
            refine ⟨.list [], .list [], .lst (SqL.of (k9.same _ _ hacc8)) .nil, .lst (SqL.of upd_same) .nil, rfl, rfl, _, rfl, iteF ?_⟩
            have k49 := (k56.trans0 k8).trans0 k9
            have lh9 := lh4.kp0 k49
            -- found
            refine ⟨Nat.zero_le _, fun fl hfl => ?_⟩
            have kF := Kp.new (o := .lst []) hfl
            have lhF := lh9.kp0 kF
            obtain ⟨as', hgp, _, hgl, _⟩ := lhF.gr
            have nq : fl ≠ l.q ∧ fl ≠ l.p ∧ fl ≠ l.f ∧ fl ≠ l.w ∧ fl ≠ l.n ∧ fl ≠ l.gp := by
              obtain ⟨⟨_, hP⟩, hF, ⟨us, hW, _⟩, ⟨kvs, hN, _⟩, _, _⟩ := lh9.gd.dk
              obtain ⟨_, hQ⟩ := lh9.gd.gu
              obtain ⟨_, hG, _⟩ := lh9.gr
              exact ⟨(ne_of_none hQ hfl).symm, (ne_of_none hP hfl).symm, (ne_of_none hF hfl).symm, (ne_of_none hW hfl).symm, (ne_of_none hN hfl).symm, (ne_of_none hG hfl).symm⟩
            refine ⟨_, rfl, by decide, by decide, ?_⟩
            refine for_it walk_range (fun i σ H' => (∃ y14, σ = [some (.ref sa), some (.ref l.dl), some (.int (1 + r1)), some (.int (1 + r2)), some (.int r3), some (.ref l.gp), some (.ref l.p), some (.ref l.q), some (.ref l.pl), some (.ref l.bl), y10, y11, some (.ref ts), some (.ref fl), y14, none, none, none]) ∧ Gd K a H' l.q l.p l.f l.w l.n (mkG r1 r2 r3) 60 D m ∧ H' l.gp = some (.lst (as'.map V.ref)) ∧ H' fl = some (.lst ((exp6.take i).map V.str)))
              ⟨⟨none, rfl⟩, lhF.gd, hgp, upd_same⟩ (fun _ _ _ _ _ => trivial) ?_ ?_
            · rintro i v σ Hx HA hi ⟨⟨y14, rfl⟩, gdA, hgA, hfA⟩ ⟨rfl, hv⟩
              obtain rfl : v = .int (i : Int) := by rw [hv]; exact congrArg V.int (Int.zero_add _)
              have hi6 : i < 6 := hi
              -- a word is put behind
              have put : ∀ (HB : Hp) (z : Str), Kp [] HA HB → exp6[i]? = some z → HB fl = some (.lst ((exp6.take i).map V.str)) ∧ ((exp6.take i).map V.str).length < sizeLine ∧ Gd K a (upd HB fl (.lst ((exp6.take i).map V.str ++ [.str z]))) l.q l.p l.f l.w l.n (mkG r1 r2 r3) 60 D m ∧ upd HB fl (.lst ((exp6.take i).map V.str ++ [.str z])) l.gp = some (.lst (as'.map V.ref)) ∧ upd HB fl (.lst ((exp6.take i).map V.str ++ [.str z])) fl = some (.lst ((exp6.take (i + 1)).map V.str)) := fun HB z kB hz => by
                have hB := kB.same _ _ hfA
                have kS : Kp [fl] HB (upd HB fl (.lst ((exp6.take i).map V.str ++ [.str z]))) := Kp.set (by rw [hB]; exact True.intro)
                refine ⟨hB, Nat.lt_of_le_of_lt (show ((exp6.take i).map V.str).length ≤ 6 by simp; omega) (by decide), (gdA.kp0 kB).kp kS (by simp [nq.1.symm]) (by simp [nq.2.1.symm]) (by simp [nq.2.2.1.symm]) (by simp [nq.2.2.2.1.symm]) (by simp [nq.2.2.2.2.1.symm]), kS.st _ _ (by simp [nq.2.2.2.2.2.symm]) (kB.same _ _ hgA), ?_⟩
                rw [upd_same, List.take_add_one, hz, List.map_append]
                rfl
              have hcase : i = 0 ∨ i = 1 ∨ i = 2 ∨ i = 3 ∨ i = 4 ∨ i = 5 := by omega
              rcases hcase with rfl | rfl | rfl | rfl | rfl | rfl
              · refine ⟨_, rfl, _, _, rfl, rfl, _, rfl, iteT ?_⟩
                refine ⟨_, rfl, _, rfl, (by show 3 ≤ sizeLine; decide), fun b1 hb1 => ⟨_, rfl, b1, _, _, _, rfl, rfl, SqL.of upd_same, rfl, (by show 3 ≤ sizeLine; decide), fun b2 hb2 => ⟨_, rfl, b2, _, _, _, rfl, rfl, SqL.of upd_same, rfl, (by show 3 ≤ sizeLine; decide), fun b3 hb3 => ⟨_, rfl, b3, _, _, _, rfl, rfl, SqL.of upd_same, rfl, (by show 3 ≤ sizeLine; decide), fun b4 hb4 => ⟨_, rfl, b4, _, _, _, rfl, rfl, SqL.of upd_same, rfl, ?_⟩⟩⟩⟩⟩
                have kB := (((Kp.new (o := .lst [V.int 5, .ref l.p, .ref l.p]) hb1).trans0 (Kp.new (o := .lst [V.int 0, .int 58, .int 0]) hb2)).trans0 (Kp.new (o := .lst [V.int 1, .int 3, .int 1]) hb3)).trans0 (Kp.new (o := .lst [V.int 1, .int 1, .int 15]) hb4)
                refine fun q2 qx2 hq2 hqx2 hqn2 => ?_
                have kQ := (kB.trans0 (Kp.new (o := .own q2) hqx2)).trans0 (Kp.new (o := .ins a.cg qx2 []) (by rw [upd_ne hqn2.symm]; exact hq2))
                exact ⟨q2, qx2, .int 5, 0, 1, 1, rfl, upd_same, .inl ⟨5, rfl, ⟨false, T.xRT, (fun z => nomatch z), fun _ => ⟨true, T.xRR, fun _ c hc => ⟨_, rfl, .inl ⟨rfl, _, SqL.of (put _ "right" kQ rfl).1⟩, fl, _, _, rfl, rfl, (put _ "right" kQ rfl).1, (put _ "right" kQ rfl).2.1, ⟨_, rfl⟩, (put _ "right" kQ rfl).2.2.1, (put _ "right" kQ rfl).2.2.2.1, (put _ "right" kQ rfl).2.2.2.2⟩, fun z => nomatch z⟩⟩⟩⟩
              · refine ⟨_, rfl, _, _, rfl, rfl, _, rfl, iteT ?_⟩
                refine ⟨_, rfl, _, rfl, (by show 3 ≤ sizeLine; decide), fun b1 hb1 => ⟨_, rfl, b1, _, _, _, rfl, rfl, SqL.of upd_same, rfl, (by show 3 ≤ sizeLine; decide), fun b2 hb2 => ⟨_, rfl, b2, _, _, _, rfl, rfl, SqL.of upd_same, rfl, (by show 3 ≤ sizeLine; decide), fun b3 hb3 => ⟨_, rfl, b3, _, _, _, rfl, rfl, SqL.of upd_same, rfl, (by show 3 ≤ sizeLine; decide), fun b4 hb4 => ⟨_, rfl, b4, _, _, _, rfl, rfl, SqL.of upd_same, rfl, ?_⟩⟩⟩⟩⟩
                have kB := (((Kp.new (o := .lst [V.int 5, .ref l.p, .ref l.p]) hb1).trans0 (Kp.new (o := .lst [V.int 0, .int 58, .int 0]) hb2)).trans0 (Kp.new (o := .lst [V.int 1, .int 3, .int 1]) hb3)).trans0 (Kp.new (o := .lst [V.int 1, .int 1, .int 15]) hb4)
                refine fun q2 qx2 hq2 hqx2 hqn2 => ?_
                have kQ := (kB.trans0 (Kp.new (o := .own q2) hqx2)).trans0 (Kp.new (o := .ins a.cg qx2 []) (by rw [upd_ne hqn2.symm]; exact hq2))
                exact ⟨q2, qx2, .ref l.p, 58, 3, 1, rfl, upd_same, .inr ⟨l.p, l.f, l.w, l.n, 60, D, m, rfl, (gdA.kp0 kQ).dk, by decide, fun z => absurd z (by decide), fun _ => ⟨false, T.xRT, (fun z => nomatch z), fun _ => ⟨true, T.xRR, fun _ c hc => ⟨_, rfl, .inl ⟨rfl, _, SqL.of (put _ "right" kQ rfl).1⟩, fl, _, _, rfl, rfl, (put _ "right" kQ rfl).1, (put _ "right" kQ rfl).2.1, ⟨_, rfl⟩, (put _ "right" kQ rfl).2.2.1, (put _ "right" kQ rfl).2.2.2.1, (put _ "right" kQ rfl).2.2.2.2⟩, fun z => nomatch z⟩⟩⟩⟩
              · refine ⟨_, rfl, _, _, rfl, rfl, _, rfl, iteT ?_⟩
                refine ⟨_, rfl, _, rfl, (by show 3 ≤ sizeLine; decide), fun b1 hb1 => ⟨_, rfl, b1, _, _, _, rfl, rfl, SqL.of upd_same, rfl, (by show 3 ≤ sizeLine; decide), fun b2 hb2 => ⟨_, rfl, b2, _, _, _, rfl, rfl, SqL.of upd_same, rfl, (by show 3 ≤ sizeLine; decide), fun b3 hb3 => ⟨_, rfl, b3, _, _, _, rfl, rfl, SqL.of upd_same, rfl, (by show 3 ≤ sizeLine; decide), fun b4 hb4 => ⟨_, rfl, b4, _, _, _, rfl, rfl, SqL.of upd_same, rfl, ?_⟩⟩⟩⟩⟩
                have kB := (((Kp.new (o := .lst [V.int 5, .ref l.p, .ref l.p]) hb1).trans0 (Kp.new (o := .lst [V.int 0, .int 58, .int 0]) hb2)).trans0 (Kp.new (o := .lst [V.int 1, .int 3, .int 1]) hb3)).trans0 (Kp.new (o := .lst [V.int 1, .int 1, .int 15]) hb4)
                refine fun q2 qx2 hq2 hqx2 hqn2 => ?_
                have kQ := (kB.trans0 (Kp.new (o := .own q2) hqx2)).trans0 (Kp.new (o := .ins a.cg qx2 []) (by rw [upd_ne hqn2.symm]; exact hq2))
                exact ⟨q2, qx2, .ref l.p, 0, 1, 15, rfl, upd_same, .inr ⟨l.p, l.f, l.w, l.n, 60, D, m, rfl, (gdA.kp0 kQ).dk, by decide, fun z => absurd z (by decide), fun _ => ⟨false, T.xRT, (fun z => nomatch z), fun _ => ⟨true, T.xRR, fun _ c hc => ⟨_, rfl, .inl ⟨rfl, _, SqL.of (put _ "right" kQ rfl).1⟩, fl, _, _, rfl, rfl, (put _ "right" kQ rfl).1, (put _ "right" kQ rfl).2.1, ⟨_, rfl⟩, (put _ "right" kQ rfl).2.2.1, (put _ "right" kQ rfl).2.2.2.1, (put _ "right" kQ rfl).2.2.2.2⟩, fun z => nomatch z⟩⟩⟩⟩
              · refine ⟨_, rfl, _, _, rfl, rfl, _, rfl, iteF ?_⟩
                refine ⟨_, rfl, rfl, _, rfl, iteT ?_⟩
                obtain ⟨dxA, hQA⟩ := gdA.gu
                refine ⟨_, rfl, l.q, dxA, _, rfl, hQA, guardF_no (by decide +kernel), _, rfl, l.q, l.p, l.f, l.w, l.n, mkG r1 r2 r3, 60, D, m, 1 + r1, rfl, gdA, by omega, fun _ => ?_, fun z => absurd z (by omega)⟩
                exact ⟨true, T.xTT, fun _ c hc => ⟨_, rfl, .inl ⟨rfl, _, SqL.of (put _ "there" (Kp.refl _) rfl).1⟩, fl, _, _, rfl, rfl, (put _ "there" (Kp.refl _) rfl).1, (put _ "there" (Kp.refl _) rfl).2.1, ⟨_, rfl⟩, (put _ "there" (Kp.refl _) rfl).2.2.1, (put _ "there" (Kp.refl _) rfl).2.2.2.1, (put _ "there" (Kp.refl _) rfl).2.2.2.2⟩, fun z => nomatch z⟩
              · refine ⟨_, rfl, _, _, rfl, rfl, _, rfl, iteF ?_⟩
                refine ⟨_, rfl, rfl, _, rfl, iteF ?_⟩
                refine ⟨_, rfl, rfl, _, rfl, iteT ?_⟩
                obtain ⟨dxA, hQA⟩ := gdA.gu
                refine ⟨_, rfl, l.q, dxA, _, rfl, hQA, guardF_no (by decide +kernel), (by show 1 ≤ sizeLine; decide), fun u0 hu0 => ⟨u0, 15, [.int 1], rfl, rfl, SqT.of upd_same, by simp, by decide, by decide, by simp, fun u1 hu1 => ?_⟩⟩
                have kB := (Kp.new (o := .tup [V.int 1]) hu0).trans0 (Kp.new (o := .tup (List.replicate (15 : Int).toNat [V.int 1]).flatten) hu1)
                refine ⟨l.q, l.p, l.f, l.w, l.n, mkG r1 r2 r3, 60, D, m, 0, .ref u1, List.replicate 15 1, rfl, gdA.kp0 kB, by decide, by omega, ⟨u1, rfl, SqT.of upd_same⟩, by decide, by omega, fun _ HC kC => ?_, fun z => absurd z (by decide)⟩
                exact ⟨false, T.xRT, (fun z => nomatch z), fun _ => ⟨true, T.xRR, fun _ c hc => ⟨_, rfl, .inl ⟨rfl, _, SqL.of (put _ "right" (kB.trans0 kC) rfl).1⟩, fl, _, _, rfl, rfl, (put _ "right" (kB.trans0 kC) rfl).1, (put _ "right" (kB.trans0 kC) rfl).2.1, ⟨_, rfl⟩, (put _ "right" (kB.trans0 kC) rfl).2.2.1, (put _ "right" (kB.trans0 kC) rfl).2.2.2.1, (put _ "right" (kB.trans0 kC) rfl).2.2.2.2⟩, fun z => nomatch z⟩⟩
              · refine ⟨_, rfl, _, _, rfl, rfl, _, rfl, iteF ?_⟩
                refine ⟨_, rfl, rfl, _, rfl, iteF ?_⟩
                refine ⟨_, rfl, rfl, _, rfl, iteF ?_⟩
                obtain ⟨dxA, hQA⟩ := gdA.gu
                refine ⟨_, rfl, l.q, dxA, _, rfl, hQA, guardF_no (by decide +kernel), _, rfl, l.gp, _, rfl, .inl (SqL.of hgA), l.q, l.p, mkG r1 r2 r3, 60, _, rfl, gdA.gu, ok, by omega, fun z => absurd z (by simp; omega), fun _ => ?_⟩
                exact ⟨true, T.xTT, fun _ c hc => ⟨_, rfl, .inl ⟨rfl, _, SqL.of (put _ "there" (Kp.refl _) rfl).1⟩, fl, _, _, rfl, rfl, (put _ "there" (Kp.refl _) rfl).1, (put _ "there" (Kp.refl _) rfl).2.1, ⟨_, rfl⟩, (put _ "there" (Kp.refl _) rfl).2.2.1, (put _ "there" (Kp.refl _) rfl).2.2.2.1, (put _ "there" (Kp.refl _) rfl).2.2.2.2⟩, fun z => nomatch z⟩
            · rintro σ HA ⟨⟨y14, rfl⟩, gdA, hgA, hfA⟩
              refine ⟨_, rfl, (by show 6 ≤ sizeLine; decide), fun lz hlz => ?_⟩
              have kZ := Kp.new (o := .lst [V.str "right", .str "right", .str "right", .str "there", .str "right", .str "there"]) hlz
              have dS : ∀ (H : Hp) (xs : List Str), DpAll K H (xs.map V.str) (xs.map PyData.str) := fun H xs => by
                induction xs with
                | nil => exact .nil
                | cons x xs ih => exact .cons (.str x) ih
              refine ⟨.list (exp6.map .str), .list (exp6.map .str), .lst (SqL.of (kZ.same _ _ hfA)) (dS _ exp6), .lst (SqL.of upd_same) (dS _ exp6), by decide +kernel, by decide +kernel, ?_⟩
              have e : PyData.eqv (.list (exp6.map .str)) (.list (exp6.map .str)) = true := by decide +kernel
              rw [e]
              exact k _
end
end K68
set_option Elab.async false
set_option linter.all false
set_option maxRecDepth 100000
set_option maxHeartbeats 8000000
namespace K68
open PySem L2 AB
theorem all_mk {l : PySem.W.OpenLaw} {w : World} {K : PySem.W.Frag} {h : Heap} {mg : Str → Option Value} {fa C_Disk C_Guard C_NotRight C_NotThere C_NoAnswer Z_ZEROS_disk Z_ZEROS_guards f0 f1 f2 f3 f4 f5 f6 f7 f8 f9 f10 f11 f12 f13 f14 f15 f16 f17 f18 f19 f20 f21 f22 f23 f24 f25 f26 f27 f28 f29 f30 f31 f32 f33 f34 f35 f36 f37 f38 f39 f40 : Addr} (X : K.In h) (G : h.Ns mainGlobals mg) (hfa : mg "law" = some (.ref fa))
    {od0 an0 od1 an1 od2 an2 od3 an3 od4 an4 od5 an5 od6 an6 od7 an7 od8 an8 od9 an9 od10 an10 od11 an11 od12 an12 od13 an13 od14 an14 od15 an15 od16 an16 od17 an17 od18 an18 od19 an19 od20 an20 od21 an21 od22 an22 od23 an23 od24 an24 od25 an25 od26 an26 od27 an27 od28 an28 od29 an29 od30 an30 od31 an31 od32 an32 od33 an33 od34 an34 od35 an35 od36 an36 od37 an37 od38 an38 od39 an39 od40 an40 : Option Addr} {sl0 sl1 sl2 sl3 sl4 sl5 sl6 sl7 sl8 sl9 sl10 sl11 sl12 sl13 sl14 sl15 sl16 sl17 sl18 sl19 sl20 sl21 sl22 sl23 sl24 sl25 sl26 sl27 sl28 sl29 sl30 sl31 sl32 sl33 sl34 sl35 sl36 sl37 sl38 sl39 sl40 : Array (Option Value)} {oc0 kV0 dc0 pm0 cd0 ct0 oc1 kV1 dc1 pm1 cd1 ct1 oc2 kV2 dc2 pm2 cd2 ct2 oc3 kV3 dc3 pm3 cd3 ct3 oc4 kV4 dc4 pm4 cd4 ct4 oc5 kV5 dc5 pm5 cd5 ct5 oc6 kV6 dc6 pm6 cd6 ct6 oc7 kV7 dc7 pm7 cd7 ct7 oc8 kV8 dc8 pm8 cd8 ct8 oc9 kV9 dc9 pm9 cd9 ct9 oc10 kV10 dc10 pm10 cd10 ct10 oc11 kV11 dc11 pm11 cd11 ct11 oc12 kV12 dc12 pm12 cd12 ct12 oc13 kV13 dc13 pm13 cd13 ct13 oc14 kV14 dc14 pm14 cd14 ct14 oc15 kV15 dc15 pm15 cd15 ct15 oc16 kV16 dc16 pm16 cd16 ct16 oc17 kV17 dc17 pm17 cd17 ct17 oc18 kV18 dc18 pm18 cd18 ct18 oc19 kV19 dc19 pm19 cd19 ct19 oc20 kV20 dc20 pm20 cd20 ct20 oc21 kV21 dc21 pm21 cd21 ct21 oc22 kV22 dc22 pm22 cd22 ct22 oc23 kV23 dc23 pm23 cd23 ct23 oc24 kV24 dc24 pm24 cd24 ct24 oc25 kV25 dc25 pm25 cd25 ct25 oc26 kV26 dc26 pm26 cd26 ct26 oc27 kV27 dc27 pm27 cd27 ct27 oc28 kV28 dc28 pm28 cd28 ct28 oc29 kV29 dc29 pm29 cd29 ct29 oc30 kV30 dc30 pm30 cd30 ct30 oc31 kV31 dc31 pm31 cd31 ct31 oc32 kV32 dc32 pm32 cd32 ct32 oc33 kV33 dc33 pm33 cd33 ct33 oc34 kV34 dc34 pm34 cd34 ct34 oc35 kV35 dc35 pm35 cd35 ct35 oc36 kV36 dc36 pm36 cd36 ct36 oc37 kV37 dc37 pm37 cd37 ct37 oc38 kV38 dc38 pm38 cd38 ct38 oc39 kV39 dc39 pm39 cd39 ct39 oc40 kV40 dc40 pm40 cd40 ct40 : Value}
    {tc_ZEROS_disk : Value} {td_ZEROS_disk : Option Addr} {ti_ZEROS_disk : Array Value} {tn_ZEROS_disk : Nat} {ts_ZEROS_disk : Array (Option Value)}
    {tc_ZEROS_guards : Value} {td_ZEROS_guards : Option Addr} {ti_ZEROS_guards : Array Value} {tn_ZEROS_guards : Nat} {ts_ZEROS_guards : Array (Option Value)}
    {t_MOST_WORD t_PAGE_tables t_MOST_BLOCKS t_MOST_GROUP t_BASE t_PRIME t_WRITE t_SUM : Tok}
    (a_Disk : PySem.W.nsIn K mainGlobals "Disk" = some (some (.ref C_Disk)))
    (a_Guard : PySem.W.nsIn K mainGlobals "Guard" = some (some (.ref C_Guard)))
    (a_NotRight : PySem.W.nsIn K mainGlobals "NotRight" = some (some (.ref C_NotRight)))
    (a_NotThere : PySem.W.nsIn K mainGlobals "NotThere" = some (some (.ref C_NotThere)))
    (a_NoAnswer : PySem.W.nsIn K mainGlobals "NoAnswer" = some (some (.ref C_NoAnswer)))
    (v_MOST_WORD : PySem.W.nsIn K mainGlobals "MOST_WORD" = some (some (.int 65535 t_MOST_WORD)))
    (v_PAGE_tables : PySem.W.nsIn K mainGlobals "PAGE_tables" = some (some (.int 16 t_PAGE_tables)))
    (v_MOST_BLOCKS : PySem.W.nsIn K mainGlobals "MOST_BLOCKS" = some (some (.int 4096 t_MOST_BLOCKS)))
    (v_MOST_GROUP : PySem.W.nsIn K mainGlobals "MOST_GROUP" = some (some (.int 14 t_MOST_GROUP)))
    (v_BASE : PySem.W.nsIn K mainGlobals "BASE" = some (some (.int 31 t_BASE)))
    (v_PRIME : PySem.W.nsIn K mainGlobals "PRIME" = some (some (.int 65521 t_PRIME)))
    (v_WRITE : PySem.W.nsIn K mainGlobals "WRITE" = some (some (.str "write" t_WRITE)))
    (v_SUM : PySem.W.nsIn K mainGlobals "SUM" = some (some (.str "sum" t_SUM)))
    (v_ZEROS_disk : PySem.W.nsIn K mainGlobals "ZEROS_disk" = some (some (.ref Z_ZEROS_disk)))
    (w_ZEROS_disk : K.lookup Z_ZEROS_disk = some ⟨tc_ZEROS_disk, td_ZEROS_disk, .seq ti_ZEROS_disk tn_ZEROS_disk, ts_ZEROS_disk⟩)
    (x_ZEROS_disk : tc_ZEROS_disk = .type "tuple")
    (y_ZEROS_disk : Vals (zeros.map V.int) ti_ZEROS_disk.toList)
    (z_ZEROS_disk : ti_ZEROS_disk.size ≤ sizeLine)
    (v_ZEROS_guards : PySem.W.nsIn K mainGlobals "ZEROS_guards" = some (some (.ref Z_ZEROS_guards)))
    (w_ZEROS_guards : K.lookup Z_ZEROS_guards = some ⟨tc_ZEROS_guards, td_ZEROS_guards, .seq ti_ZEROS_guards tn_ZEROS_guards, ts_ZEROS_guards⟩)
    (x_ZEROS_guards : tc_ZEROS_guards = .type "tuple")
    (y_ZEROS_guards : Vals (zeros.map V.int) ti_ZEROS_guards.toList)
    (z_ZEROS_guards : ti_ZEROS_guards.size ≤ sizeLine)
    (a0 : PySem.W.nsIn K mainGlobals "is_integer" = some (some (.ref f0)))
    (l0 : K.lookup f0 = some ⟨oc0, od0, .func (PySem.W.fnOf "is_integer" "is_integer" (defArgs s_is_integer) (defBody s_is_integer) (defScope s_is_integer) .none kV0 dc0 pm0 an0 cd0 ct0), sl0⟩)
    (c0 : PySem.W.codeIn K cd0 "is_integer" = true)
    (k0 : PySem.W.keepIn K (.ref f0) = true)
    (a1 : PySem.W.nsIn K mainGlobals "is_within" = some (some (.ref f1)))
    (l1 : K.lookup f1 = some ⟨oc1, od1, .func (PySem.W.fnOf "is_within" "is_within" (defArgs s_is_within) (defBody s_is_within) (defScope s_is_within) .none kV1 dc1 pm1 an1 cd1 ct1), sl1⟩)
    (c1 : PySem.W.codeIn K cd1 "is_within" = true)
    (k1 : PySem.W.keepIn K (.ref f1) = true)
    (a2 : PySem.W.nsIn K mainGlobals "is_word" = some (some (.ref f2)))
    (l2 : K.lookup f2 = some ⟨oc2, od2, .func (PySem.W.fnOf "is_word" "is_word" (defArgs s_is_word) (defBody s_is_word) (defScope s_is_word) .none kV2 dc2 pm2 an2 cd2 ct2), sl2⟩)
    (c2 : PySem.W.codeIn K cd2 "is_word" = true)
    (k2 : PySem.W.keepIn K (.ref f2) = true)
    (a3 : PySem.W.nsIn K mainGlobals "check" = some (some (.ref f3)))
    (l3 : K.lookup f3 = some ⟨oc3, od3, .func (PySem.W.fnOf "check" "check" (defArgs s_check) (defBody s_check) (defScope s_check) .none kV3 dc3 pm3 an3 cd3 ct3), sl3⟩)
    (c3 : PySem.W.codeIn K cd3 "check" = true)
    (k3 : PySem.W.keepIn K (.ref f3) = true)
    (a4 : PySem.W.nsIn K mainGlobals "check_there" = some (some (.ref f4)))
    (l4 : K.lookup f4 = some ⟨oc4, od4, .func (PySem.W.fnOf "check_there" "check_there" (defArgs s_check_there) (defBody s_check_there) (defScope s_check_there) .none kV4 dc4 pm4 an4 cd4 ct4), sl4⟩)
    (c4 : PySem.W.codeIn K cd4 "check_there" = true)
    (k4 : PySem.W.keepIn K (.ref f4) = true)
    (a5 : PySem.W.nsIn K mainGlobals "are_words" = some (some (.ref f5)))
    (l5 : K.lookup f5 = some ⟨oc5, od5, .func (PySem.W.fnOf "are_words" "are_words" (defArgs s_are_words) (defBody s_are_words) (defScope s_are_words) .none kV5 dc5 pm5 an5 cd5 ct5), sl5⟩)
    (c5 : PySem.W.codeIn K cd5 "are_words" = true)
    (k5 : PySem.W.keepIn K (.ref f5) = true)
    (a6 : PySem.W.nsIn K mainGlobals "is_block" = some (some (.ref f6)))
    (l6 : K.lookup f6 = some ⟨oc6, od6, .func (PySem.W.fnOf "is_block" "is_block" (defArgs s_is_block) (defBody s_is_block) (defScope s_is_block) .none kV6 dc6 pm6 an6 cd6 ct6), sl6⟩)
    (c6 : PySem.W.codeIn K cd6 "is_block" = true)
    (k6 : PySem.W.keepIn K (.ref f6) = true)
    (a7 : PySem.W.nsIn K mainGlobals "mark_by" = some (some (.ref f7)))
    (l7 : K.lookup f7 = some ⟨oc7, od7, .func (PySem.W.fnOf "mark_by" "mark_by" (defArgs s_mark_by) (defBody s_mark_by) (defScope s_mark_by) .none kV7 dc7 pm7 an7 cd7 ct7), sl7⟩)
    (c7 : PySem.W.codeIn K cd7 "mark_by" = true)
    (k7 : PySem.W.keepIn K (.ref f7) = true)
    (a8 : PySem.W.nsIn K mainGlobals "sum_by" = some (some (.ref f8)))
    (l8 : K.lookup f8 = some ⟨oc8, od8, .func (PySem.W.fnOf "sum_by" "sum_by" (defArgs s_sum_by) (defBody s_sum_by) (defScope s_sum_by) .none kV8 dc8 pm8 an8 cd8 ct8), sl8⟩)
    (c8 : PySem.W.codeIn K cd8 "sum_by" = true)
    (k8 : PySem.W.keepIn K (.ref f8) = true)
    (a9 : PySem.W.findIn K (.ref C_Disk) "__init__" = some (some (.ref f9)))
    (i9 : PySem.W.isFn K (.ref f9) = true)
    (l9 : K.lookup f9 = some ⟨oc9, od9, .func (PySem.W.fnOf "__init__" "Disk.__init__" (defArgs s_Disk_init) (defBody s_Disk_init) (defScope s_Disk_init) .none kV9 dc9 pm9 an9 cd9 ct9), sl9⟩)
    (c9 : PySem.W.codeIn K cd9 "Disk.__init__" = true)
    (k9 : PySem.W.keepIn K (.ref f9) = true)
    (a10 : PySem.W.findIn K (.ref C_Disk) "need_block" = some (some (.ref f10)))
    (i10 : PySem.W.isFn K (.ref f10) = true)
    (l10 : K.lookup f10 = some ⟨oc10, od10, .func (PySem.W.fnOf "need_block" "Disk.need_block" (defArgs s_Disk_need_block) (defBody s_Disk_need_block) (defScope s_Disk_need_block) .none kV10 dc10 pm10 an10 cd10 ct10), sl10⟩)
    (c10 : PySem.W.codeIn K cd10 "Disk.need_block" = true)
    (k10 : PySem.W.keepIn K (.ref f10) = true)
    (a11 : PySem.W.findIn K (.ref C_Disk) "read" = some (some (.ref f11)))
    (i11 : PySem.W.isFn K (.ref f11) = true)
    (l11 : K.lookup f11 = some ⟨oc11, od11, .func (PySem.W.fnOf "read" "Disk.read" (defArgs s_Disk_read) (defBody s_Disk_read) (defScope s_Disk_read) .none kV11 dc11 pm11 an11 cd11 ct11), sl11⟩)
    (c11 : PySem.W.codeIn K cd11 "Disk.read" = true)
    (k11 : PySem.W.keepIn K (.ref f11) = true)
    (a12 : PySem.W.findIn K (.ref C_Disk) "write" = some (some (.ref f12)))
    (i12 : PySem.W.isFn K (.ref f12) = true)
    (l12 : K.lookup f12 = some ⟨oc12, od12, .func (PySem.W.fnOf "write" "Disk.write" (defArgs s_Disk_write) (defBody s_Disk_write) (defScope s_Disk_write) .none kV12 dc12 pm12 an12 cd12 ct12), sl12⟩)
    (c12 : PySem.W.codeIn K cd12 "Disk.write" = true)
    (k12 : PySem.W.keepIn K (.ref f12) = true)
    (a13 : PySem.W.findIn K (.ref C_Guard) "members" = some (some (.ref f13)))
    (i13 : PySem.W.isFn K (.ref f13) = true)
    (l13 : K.lookup f13 = some ⟨oc13, od13, .func (PySem.W.fnOf "members" "Guard.members" (defArgs s_Guard_members) (defBody s_Guard_members) (defScope s_Guard_members) .none kV13 dc13 pm13 an13 cd13 ct13), sl13⟩)
    (c13 : PySem.W.codeIn K cd13 "Guard.members" = true)
    (k13 : PySem.W.keepIn K (.ref f13) = true)
    (a14 : PySem.W.findIn K (.ref C_Guard) "place" = some (some (.ref f14)))
    (i14 : PySem.W.isFn K (.ref f14) = true)
    (l14 : K.lookup f14 = some ⟨oc14, od14, .func (PySem.W.fnOf "place" "Guard.place" (defArgs s_Guard_place) (defBody s_Guard_place) (defScope s_Guard_place) .none kV14 dc14 pm14 an14 cd14 ct14), sl14⟩)
    (c14 : PySem.W.codeIn K cd14 "Guard.place" = true)
    (k14 : PySem.W.keepIn K (.ref f14) = true)
    (a15 : PySem.W.findIn K (.ref C_Guard) "places" = some (some (.ref f15)))
    (i15 : PySem.W.isFn K (.ref f15) = true)
    (l15 : K.lookup f15 = some ⟨oc15, od15, .func (PySem.W.fnOf "places" "Guard.places" (defArgs s_Guard_places) (defBody s_Guard_places) (defScope s_Guard_places) .none kV15 dc15 pm15 an15 cd15 ct15), sl15⟩)
    (c15 : PySem.W.codeIn K cd15 "Guard.places" = true)
    (k15 : PySem.W.keepIn K (.ref f15) = true)
    (a16 : PySem.W.findIn K (.ref C_Guard) "places_of" = some (some (.ref f16)))
    (i16 : PySem.W.isFn K (.ref f16) = true)
    (l16 : K.lookup f16 = some ⟨oc16, od16, .func (PySem.W.fnOf "places_of" "Guard.places_of" (defArgs s_Guard_places_of) (defBody s_Guard_places_of) (defScope s_Guard_places_of) .none kV16 dc16 pm16 an16 cd16 ct16), sl16⟩)
    (c16 : PySem.W.codeIn K cd16 "Guard.places_of" = true)
    (k16 : PySem.W.keepIn K (.ref f16) = true)
    (a17 : PySem.W.findIn K (.ref C_Guard) "place_of" = some (some (.ref f17)))
    (i17 : PySem.W.isFn K (.ref f17) = true)
    (l17 : K.lookup f17 = some ⟨oc17, od17, .func (PySem.W.fnOf "place_of" "Guard.place_of" (defArgs s_Guard_place_of) (defBody s_Guard_place_of) (defScope s_Guard_place_of) .none kV17 dc17 pm17 an17 cd17 ct17), sl17⟩)
    (c17 : PySem.W.codeIn K cd17 "Guard.place_of" = true)
    (k17 : PySem.W.keepIn K (.ref f17) = true)
    (a18 : PySem.W.findIn K (.ref C_Guard) "__init__" = some (some (.ref f18)))
    (i18 : PySem.W.isFn K (.ref f18) = true)
    (l18 : K.lookup f18 = some ⟨oc18, od18, .func (PySem.W.fnOf "__init__" "Guard.__init__" (defArgs s_Guard_init) (defBody s_Guard_init) (defScope s_Guard_init) .none kV18 dc18 pm18 an18 cd18 ct18), sl18⟩)
    (c18 : PySem.W.codeIn K cd18 "Guard.__init__" = true)
    (k18 : PySem.W.keepIn K (.ref f18) = true)
    (a19 : PySem.W.findIn K (.ref C_Guard) "lay" = some (some (.ref f19)))
    (i19 : PySem.W.isFn K (.ref f19) = true)
    (l19 : K.lookup f19 = some ⟨oc19, od19, .func (PySem.W.fnOf "lay" "Guard.lay" (defArgs s_Guard_lay) (defBody s_Guard_lay) (defScope s_Guard_lay) .none kV19 dc19 pm19 an19 cd19 ct19), sl19⟩)
    (c19 : PySem.W.codeIn K cd19 "Guard.lay" = true)
    (k19 : PySem.W.keepIn K (.ref f19) = true)
    (a20 : PySem.W.findIn K (.ref C_Guard) "begin" = some (some (.ref f20)))
    (i20 : PySem.W.isFn K (.ref f20) = true)
    (l20 : K.lookup f20 = some ⟨oc20, od20, .func (PySem.W.fnOf "begin" "Guard.begin" (defArgs s_Guard_begin) (defBody s_Guard_begin) (defScope s_Guard_begin) .none kV20 dc20 pm20 an20 cd20 ct20), sl20⟩)
    (c20 : PySem.W.codeIn K cd20 "Guard.begin" = true)
    (k20 : PySem.W.keepIn K (.ref f20) = true)
    (a21 : PySem.W.findIn K (.ref C_Guard) "read_group" = some (some (.ref f21)))
    (i21 : PySem.W.isFn K (.ref f21) = true)
    (l21 : K.lookup f21 = some ⟨oc21, od21, .func (PySem.W.fnOf "read_group" "Guard.read_group" (defArgs s_Guard_read_group) (defBody s_Guard_read_group) (defScope s_Guard_read_group) .none kV21 dc21 pm21 an21 cd21 ct21), sl21⟩)
    (c21 : PySem.W.codeIn K cd21 "Guard.read_group" = true)
    (k21 : PySem.W.keepIn K (.ref f21) = true)
    (a22 : PySem.W.findIn K (.ref C_Guard) "healed" = some (some (.ref f22)))
    (i22 : PySem.W.isFn K (.ref f22) = true)
    (l22 : K.lookup f22 = some ⟨oc22, od22, .func (PySem.W.fnOf "healed" "Guard.healed" (defArgs s_Guard_healed) (defBody s_Guard_healed) (defScope s_Guard_healed) .none kV22 dc22 pm22 an22 cd22 ct22), sl22⟩)
    (c22 : PySem.W.codeIn K cd22 "Guard.healed" = true)
    (k22 : PySem.W.keepIn K (.ref f22) = true)
    (a23 : PySem.W.findIn K (.ref C_Guard) "read" = some (some (.ref f23)))
    (i23 : PySem.W.isFn K (.ref f23) = true)
    (l23 : K.lookup f23 = some ⟨oc23, od23, .func (PySem.W.fnOf "read" "Guard.read" (defArgs s_Guard_read) (defBody s_Guard_read) (defScope s_Guard_read) .none kV23 dc23 pm23 an23 cd23 ct23), sl23⟩)
    (c23 : PySem.W.codeIn K cd23 "Guard.read" = true)
    (k23 : PySem.W.keepIn K (.ref f23) = true)
    (a24 : PySem.W.findIn K (.ref C_Guard) "write" = some (some (.ref f24)))
    (i24 : PySem.W.isFn K (.ref f24) = true)
    (l24 : K.lookup f24 = some ⟨oc24, od24, .func (PySem.W.fnOf "write" "Guard.write" (defArgs s_Guard_write) (defBody s_Guard_write) (defScope s_Guard_write) .none kV24 dc24 pm24 an24 cd24 ct24), sl24⟩)
    (c24 : PySem.W.codeIn K cd24 "Guard.write" = true)
    (k24 : PySem.W.keepIn K (.ref f24) = true)
    (a25 : PySem.W.findIn K (.ref C_Guard) "scrub" = some (some (.ref f25)))
    (i25 : PySem.W.isFn K (.ref f25) = true)
    (l25 : K.lookup f25 = some ⟨oc25, od25, .func (PySem.W.fnOf "scrub" "Guard.scrub" (defArgs s_Guard_scrub) (defBody s_Guard_scrub) (defScope s_Guard_scrub) .none kV25 dc25 pm25 an25 cd25 ct25), sl25⟩)
    (c25 : PySem.W.codeIn K cd25 "Guard.scrub" = true)
    (k25 : PySem.W.keepIn K (.ref f25) = true)
    (a26 : PySem.W.nsIn K mainGlobals "_law_draws" = some (some (.ref f26)))
    (l26 : K.lookup f26 = some ⟨oc26, od26, .func (PySem.W.fnOf "_law_draws" "_law_draws" (defArgs s_law_draws) (defBody s_law_draws) (defScope s_law_draws) .none kV26 dc26 pm26 an26 cd26 ct26), sl26⟩)
    (c26 : PySem.W.codeIn K cd26 "_law_draws" = true)
    (k26 : PySem.W.keepIn K (.ref f26) = true)
    (a27 : PySem.W.nsIn K mainGlobals "_law_take" = some (some (.ref f27)))
    (l27 : K.lookup f27 = some ⟨oc27, od27, .func (PySem.W.fnOf "_law_take" "_law_take" (defArgs s_law_take) (defBody s_law_take) (defScope s_law_take) .none kV27 dc27 pm27 an27 cd27 ct27), sl27⟩)
    (c27 : PySem.W.codeIn K cd27 "_law_take" = true)
    (k27 : PySem.W.keepIn K (.ref f27) = true)
    (a28 : PySem.W.nsIn K mainGlobals "_law_pick" = some (some (.ref f28)))
    (l28 : K.lookup f28 = some ⟨oc28, od28, .func (PySem.W.fnOf "_law_pick" "_law_pick" (defArgs s_law_pick) (defBody s_law_pick) (defScope s_law_pick) .none kV28 dc28 pm28 an28 cd28 ct28), sl28⟩)
    (c28 : PySem.W.codeIn K cd28 "_law_pick" = true)
    (k28 : PySem.W.keepIn K (.ref f28) = true)
    (a29 : PySem.W.nsIn K mainGlobals "_law_page" = some (some (.ref f29)))
    (l29 : K.lookup f29 = some ⟨oc29, od29, .func (PySem.W.fnOf "_law_page" "_law_page" (defArgs s_law_page) (defBody s_law_page) (defScope s_law_page) .none kV29 dc29 pm29 an29 cd29 ct29), sl29⟩)
    (c29 : PySem.W.codeIn K cd29 "_law_page" = true)
    (k29 : PySem.W.keepIn K (.ref f29) = true)
    (a30 : PySem.W.nsIn K mainGlobals "_law_mark" = some (some (.ref f30)))
    (l30 : K.lookup f30 = some ⟨oc30, od30, .func (PySem.W.fnOf "_law_mark" "_law_mark" (defArgs s_law_mark) (defBody s_law_mark) (defScope s_law_mark) .none kV30 dc30 pm30 an30 cd30 ct30), sl30⟩)
    (c30 : PySem.W.codeIn K cd30 "_law_mark" = true)
    (k30 : PySem.W.keepIn K (.ref f30) = true)
    (a31 : PySem.W.nsIn K mainGlobals "_law_xor" = some (some (.ref f31)))
    (l31 : K.lookup f31 = some ⟨oc31, od31, .func (PySem.W.fnOf "_law_xor" "_law_xor" (defArgs s_law_xor) (defBody s_law_xor) (defScope s_law_xor) .none kV31 dc31 pm31 an31 cd31 ct31), sl31⟩)
    (c31 : PySem.W.codeIn K cd31 "_law_xor" = true)
    (k31 : PySem.W.keepIn K (.ref f31) = true)
    (a32 : PySem.W.nsIn K mainGlobals "_law_sum" = some (some (.ref f32)))
    (l32 : K.lookup f32 = some ⟨oc32, od32, .func (PySem.W.fnOf "_law_sum" "_law_sum" (defArgs s_law_sum) (defBody s_law_sum) (defScope s_law_sum) .none kV32 dc32 pm32 an32 cd32 ct32), sl32⟩)
    (c32 : PySem.W.codeIn K cd32 "_law_sum" = true)
    (k32 : PySem.W.keepIn K (.ref f32) = true)
    (a33 : PySem.W.nsIn K mainGlobals "_law_groups" = some (some (.ref f33)))
    (l33 : K.lookup f33 = some ⟨oc33, od33, .func (PySem.W.fnOf "_law_groups" "_law_groups" (defArgs s_law_groups) (defBody s_law_groups) (defScope s_law_groups) .none kV33 dc33 pm33 an33 cd33 ct33), sl33⟩)
    (c33 : PySem.W.codeIn K cd33 "_law_groups" = true)
    (k33 : PySem.W.keepIn K (.ref f33) = true)
    (a34 : PySem.W.nsIn K mainGlobals "mark_of" = some (some (.ref f34)))
    (l34 : K.lookup f34 = some ⟨oc34, od34, .func (PySem.W.fnOf "mark_of" "mark_of" (defArgs s_mark_of) (defBody s_mark_of) (defScope s_mark_of) .none kV34 dc34 pm34 an34 cd34 ct34), sl34⟩)
    (c34 : PySem.W.codeIn K cd34 "mark_of" = true)
    (k34 : PySem.W.keepIn K (.ref f34) = true)
    (a35 : PySem.W.nsIn K mainGlobals "sum_of" = some (some (.ref f35)))
    (l35 : K.lookup f35 = some ⟨oc35, od35, .func (PySem.W.fnOf "sum_of" "sum_of" (defArgs s_sum_of) (defBody s_sum_of) (defScope s_sum_of) .none kV35 dc35 pm35 an35 cd35 ct35), sl35⟩)
    (c35 : PySem.W.codeIn K cd35 "sum_of" = true)
    (k35 : PySem.W.keepIn K (.ref f35) = true)
    (a36 : PySem.W.nsIn K mainGlobals "_law_looks" = some (some (.ref f36)))
    (l36 : K.lookup f36 = some ⟨oc36, od36, .func (PySem.W.fnOf "_law_looks" "_law_looks" (defArgs s_law_looks) (defBody s_law_looks) (defScope s_law_looks) .none kV36 dc36 pm36 an36 cd36 ct36), sl36⟩)
    (c36 : PySem.W.codeIn K cd36 "_law_looks" = true)
    (k36 : PySem.W.keepIn K (.ref f36) = true)
    (a37 : PySem.W.nsIn K mainGlobals "_law_damaged" = some (some (.ref f37)))
    (l37 : K.lookup f37 = some ⟨oc37, od37, .func (PySem.W.fnOf "_law_damaged" "_law_damaged" (defArgs s_law_damaged) (defBody s_law_damaged) (defScope s_law_damaged) .none kV37 dc37 pm37 an37 cd37 ct37), sl37⟩)
    (c37 : PySem.W.codeIn K cd37 "_law_damaged" = true)
    (k37 : PySem.W.keepIn K (.ref f37) = true)
    (a38 : PySem.W.nsIn K mainGlobals "_law_is_scrubbed" = some (some (.ref f38)))
    (l38 : K.lookup f38 = some ⟨oc38, od38, .func (PySem.W.fnOf "_law_is_scrubbed" "_law_is_scrubbed" (defArgs s_law_is_scrubbed) (defBody s_law_is_scrubbed) (defScope s_law_is_scrubbed) .none kV38 dc38 pm38 an38 cd38 ct38), sl38⟩)
    (c38 : PySem.W.codeIn K cd38 "_law_is_scrubbed" = true)
    (k38 : PySem.W.keepIn K (.ref f38) = true)
    (a39 : PySem.W.nsIn K mainGlobals "_law_written" = some (some (.ref f39)))
    (l39 : K.lookup f39 = some ⟨oc39, od39, .func (PySem.W.fnOf "_law_written" "_law_written" (defArgs s_law_written) (defBody s_law_written) (defScope s_law_written) .none kV39 dc39 pm39 an39 cd39 ct39), sl39⟩)
    (c39 : PySem.W.codeIn K cd39 "_law_written" = true)
    (k39 : PySem.W.keepIn K (.ref f39) = true)
    (a40 : PySem.W.nsIn K mainGlobals "law" = some (some (.ref f40)))
    (l40 : K.lookup f40 = some ⟨oc40, od40, .func (PySem.W.fnOf "law" "law" (defArgs s_law) (defBody s_law) (defScope s_law) .none kV40 dc40 pm40 an40 cd40 ct40), sl40⟩)
    (c40 : PySem.W.codeIn K cd40 "law" = true)
    (k40 : PySem.W.keepIn K (.ref f40) = true)
    (pg_Disk : PySem.W.plainGet K C_Disk Str.empty = true)
    (hd_Disk : PySem.W.hasDictIn K C_Disk = true)
    (po_Disk : PySem.W.plainOver K C_Disk = true)
    (sa_Disk : PySem.W.findIn K (.ref C_Disk) "__setattr__" = some (some (.builtin "object.__setattr__")))
    (mk_Disk : PySem.W.makesIn K C_Disk = true)
    (kc_Disk : PySem.W.keepIn K (.ref C_Disk) = true)
    (n_Disk_blocks_many : PySem.W.findIn K (.ref C_Disk) "blocks_many" = some none)
    (n_Disk_fixed_blocks : PySem.W.findIn K (.ref C_Disk) "fixed_blocks" = some none)
    (n_Disk_waits : PySem.W.findIn K (.ref C_Disk) "waits" = some none)
    (n_Disk_newest : PySem.W.findIn K (.ref C_Disk) "newest" = some none)
    (pg_Guard : PySem.W.plainGet K C_Guard Str.empty = true)
    (hd_Guard : PySem.W.hasDictIn K C_Guard = true)
    (po_Guard : PySem.W.plainOver K C_Guard = true)
    (sa_Guard : PySem.W.findIn K (.ref C_Guard) "__setattr__" = some (some (.builtin "object.__setattr__")))
    (mk_Guard : PySem.W.makesIn K C_Guard = true)
    (kc_Guard : PySem.W.keepIn K (.ref C_Guard) = true)
    (n_Guard_disk : PySem.W.findIn K (.ref C_Guard) "disk" = some none)
    (n_Guard_first : PySem.W.findIn K (.ref C_Guard) "first" = some none)
    (n_Guard_many : PySem.W.findIn K (.ref C_Guard) "many" = some none)
    (n_Guard_size : PySem.W.findIn K (.ref C_Guard) "size" = some none)
    (n_Guard_groups : PySem.W.findIn K (.ref C_Guard) "groups" = some none)
    (ex_NotRight : PySem.W.excIn K C_NotRight [.type "ValueError", .type "Exception", .type "BaseException", .type "object"] "ValueError.__new__" = true)
    (ek_NotRight : PySem.W.keepIn K (.ref C_NotRight) = true)
    (eb_NotRight : PySem.W.subIn K (.ref C_NotRight) (.type "BaseException") = some true)
    (et_NotRight : PySem.W.typeIn K (.ref C_NotRight) = some (.type "type"))
    (eh_NotRight : PySem.W.hasDictIn K C_NotRight = true)
    (ex_NotThere : PySem.W.excIn K C_NotThere [.type "ValueError", .type "Exception", .type "BaseException", .type "object"] "ValueError.__new__" = true)
    (ek_NotThere : PySem.W.keepIn K (.ref C_NotThere) = true)
    (eb_NotThere : PySem.W.subIn K (.ref C_NotThere) (.type "BaseException") = some true)
    (et_NotThere : PySem.W.typeIn K (.ref C_NotThere) = some (.type "type"))
    (eh_NotThere : PySem.W.hasDictIn K C_NotThere = true)
    (ex_NoAnswer : PySem.W.excIn K C_NoAnswer [.type "ValueError", .type "Exception", .type "BaseException", .type "object"] "ValueError.__new__" = true)
    (ek_NoAnswer : PySem.W.keepIn K (.ref C_NoAnswer) = true)
    (eb_NoAnswer : PySem.W.subIn K (.ref C_NoAnswer) (.type "BaseException") = some true)
    (et_NoAnswer : PySem.W.typeIn K (.ref C_NoAnswer) = some (.type "type"))
    (eh_NoAnswer : PySem.W.hasDictIn K C_NoAnswer = true)
    (s_NoAnswer_NoAnswer : PySem.W.subIn K (.ref C_NoAnswer) (.ref C_NoAnswer) = some true)
    (s_NotThere_NotThere : PySem.W.subIn K (.ref C_NotThere) (.ref C_NotThere) = some true)
    (s_NotRight_NotThere : PySem.W.subIn K (.ref C_NotRight) (.ref C_NotThere) = some false)
    (s_NotRight_NotRight : PySem.W.subIn K (.ref C_NotRight) (.ref C_NotRight) = some true)
    (iD1 : PySem.W.findIn K (.ref C_Disk) "__class__" = some (some (.builtin "object.__class__")))
    (iD2 : PySem.W.specialIn K (.builtin "object.__class__") "__get__" = some (some (.builtin "getset_descriptor.__get__")))
    (iD3 : PySem.W.takesIn K (.builtin "object.__class__") = some true)
    (iD4 : PySem.W.mroIn K C_Disk (.type "object") = some true)
    (tDisk : PySem.W.typeIn K (.ref C_Disk) = some (.type "type"))
    (sDisk : PySem.W.subIn K (.type "int") (.ref C_Disk) = some false)
    (free_isinstance : PySem.W.nsIn K mainGlobals "isinstance" = some none)
    (free_int : PySem.W.nsIn K mainGlobals "int" = some none)
    (free_bool : PySem.W.nsIn K mainGlobals "bool" = some none)
    (free_tuple : PySem.W.nsIn K mainGlobals "tuple" = some none)
    (free_list : PySem.W.nsIn K mainGlobals "list" = some none)
    (free_all : PySem.W.nsIn K mainGlobals "all" = some none)
    (free_any : PySem.W.nsIn K mainGlobals "any" = some none)
    (free_len : PySem.W.nsIn K mainGlobals "len" = some none)
    (free_min : PySem.W.nsIn K mainGlobals "min" = some none)
    (free_abs : PySem.W.nsIn K mainGlobals "abs" = some none)
    (free_range : PySem.W.nsIn K mainGlobals "range" = some none)
    (free_zip : PySem.W.nsIn K mainGlobals "zip" = some none)
    (free_enumerate : PySem.W.nsIn K mainGlobals "enumerate" = some none)
    (free_reversed : PySem.W.nsIn K mainGlobals "reversed" = some none) :
    ∃ fd : FuncData, (∀ (s : Shared) (v : Value), BindsTo s fd ⟨[v], []⟩ [("script", v)]) ∧ ∀ base : Heap, K.In base → base.Ns mainGlobals mg → FnOk l.prog w K mg base (L2.CX l.prog w) 10 fa fd ["script"] (spLaw K) := by
  have e := hfa.symm.trans (PySem.W.mg_of X G a40)
  cases e
  have T : Txt K mg ⟨C_NotRight, C_NotThere, C_NoAnswer, C_Disk, C_Guard, Z_ZEROS_disk, Z_ZEROS_guards⟩ := {
    eNR := ⟨ex_NotRight, PySem.W.mg_of X G a_NotRight, ek_NotRight, eb_NotRight, et_NotRight⟩
    eNT := ⟨ex_NotThere, PySem.W.mg_of X G a_NotThere, ek_NotThere, eb_NotThere, et_NotThere⟩
    eNA := ⟨ex_NoAnswer, PySem.W.mg_of X G a_NoAnswer, ek_NoAnswer, eb_NoAnswer, et_NoAnswer⟩
    cD := ⟨pg_Disk, hd_Disk, po_Disk, sa_Disk⟩
    cG := ⟨pg_Guard, hd_Guard, po_Guard, sa_Guard⟩
    aD := fun f hf => by
      simp only [List.mem_cons, List.not_mem_nil, or_false] at hf
      rcases hf with rfl | rfl | rfl | rfl
      · exact n_Disk_blocks_many
      · exact n_Disk_fixed_blocks
      · exact n_Disk_waits
      · exact n_Disk_newest
    aG := fun f hf => by
      simp only [List.mem_cons, List.not_mem_nil, or_false] at hf
      rcases hf with rfl | rfl | rfl | rfl | rfl
      · exact n_Guard_disk
      · exact n_Guard_first
      · exact n_Guard_many
      · exact n_Guard_size
      · exact n_Guard_groups
    xAA := PySem.W.exm_ref eb_NoAnswer eh_NoAnswer et_NoAnswer s_NoAnswer_NoAnswer
    xTT := PySem.W.exm_ref eb_NotThere eh_NotThere et_NotThere s_NotThere_NotThere
    xRT := PySem.W.exm_ref eb_NotThere eh_NotThere et_NotThere s_NotRight_NotThere
    xRR := PySem.W.exm_ref eb_NotRight eh_NotRight et_NotRight s_NotRight_NotRight
    c_MOST_WORD := ⟨_, PySem.W.mg_of X G v_MOST_WORD, ⟨_, rfl⟩⟩
    c_PAGE_tables := ⟨_, PySem.W.mg_of X G v_PAGE_tables, ⟨_, rfl⟩⟩
    c_MOST_BLOCKS := ⟨_, PySem.W.mg_of X G v_MOST_BLOCKS, ⟨_, rfl⟩⟩
    c_MOST_GROUP := ⟨_, PySem.W.mg_of X G v_MOST_GROUP, ⟨_, rfl⟩⟩
    c_BASE := ⟨_, PySem.W.mg_of X G v_BASE, ⟨_, rfl⟩⟩
    c_PRIME := ⟨_, PySem.W.mg_of X G v_PRIME, ⟨_, rfl⟩⟩
    c_WRITE := ⟨_, PySem.W.mg_of X G v_WRITE, ⟨_, rfl⟩⟩
    c_SUM := ⟨_, PySem.W.mg_of X G v_SUM, ⟨_, rfl⟩⟩
    c_ZEROS_disk := ⟨_, PySem.W.mg_of X G v_ZEROS_disk, rfl⟩
    c_ZEROS_guards := ⟨_, PySem.W.mg_of X G v_ZEROS_guards, rfl⟩
    z_disk := fun _ => .inr ⟨_, _, _, w_ZEROS_disk, x_ZEROS_disk, rfl, z_ZEROS_disk, y_ZEROS_disk⟩
    z_guards := fun _ => .inr ⟨_, _, _, w_ZEROS_guards, x_ZEROS_guards, rfl, z_ZEROS_guards, y_ZEROS_guards⟩
    g_Disk := PySem.W.mg_of X G a_Disk
    g_Guard := PySem.W.mg_of X G a_Guard
    iD1 := iD1, iD2 := iD2, iD3 := iD3, iD4 := iD4, kDD := if_pos (beq_self_eq_true _), kID := kit_no hd_Disk tDisk sDisk
    n_isinstance := PySem.W.mg_none_of X G free_isinstance
    n_int := PySem.W.mg_none_of X G free_int
    n_bool := PySem.W.mg_none_of X G free_bool
    n_tuple := PySem.W.mg_none_of X G free_tuple
    n_list := PySem.W.mg_none_of X G free_list
    n_all := PySem.W.mg_none_of X G free_all
    n_any := PySem.W.mg_none_of X G free_any
    n_len := PySem.W.mg_none_of X G free_len
    n_min := PySem.W.mg_none_of X G free_min
    n_abs := PySem.W.mg_none_of X G free_abs
    n_range := PySem.W.mg_none_of X G free_range
    n_zip := PySem.W.mg_none_of X G free_zip
    n_enumerate := PySem.W.mg_none_of X G free_enumerate
    n_reversed := PySem.W.mg_none_of X G free_reversed }
  have F0 := fun_mk (st := s_is_integer) l0 c0 k0
  have b0 := F0.binds (ps := ["value"]) fun _ _ _ _ _ _ us hl => match us, hl with | [_], _ => rfl
  have F1 := fun_mk (st := s_is_within) l1 c1 k1
  have b1 := F1.binds (ps := ["value", "low", "high"]) fun _ _ _ _ _ _ us hl => match us, hl with | [_, _, _], _ => rfl
  have F2 := fun_mk (st := s_is_word) l2 c2 k2
  have b2 := F2.binds (ps := ["value"]) fun _ _ _ _ _ _ us hl => match us, hl with | [_], _ => rfl
  have F3 := fun_mk (st := s_check) l3 c3 k3
  have b3 := F3.binds (ps := ["is_right"]) fun _ _ _ _ _ _ us hl => match us, hl with | [_], _ => rfl
  have F4 := fun_mk (st := s_check_there) l4 c4 k4
  have b4 := F4.binds (ps := ["is_there"]) fun _ _ _ _ _ _ us hl => match us, hl with | [_], _ => rfl
  have F5 := fun_mk (st := s_are_words) l5 c5 k5
  have b5 := F5.binds (ps := ["value"]) fun _ _ _ _ _ _ us hl => match us, hl with | [_], _ => rfl
  have F6 := fun_mk (st := s_is_block) l6 c6 k6
  have b6 := F6.binds (ps := ["value"]) fun _ _ _ _ _ _ us hl => match us, hl with | [_], _ => rfl
  have F7 := fun_mk (st := s_mark_by) l7 c7 k7
  have b7 := F7.binds (ps := ["words"]) fun _ _ _ _ _ _ us hl => match us, hl with | [_], _ => rfl
  have F8 := fun_mk (st := s_sum_by) l8 c8 k8
  have b8 := F8.binds (ps := ["pages"]) fun _ _ _ _ _ _ us hl => match us, hl with | [_], _ => rfl
  have F9 := fun_mk (st := s_Disk_init) l9 c9 k9
  have b9 := F9.binds (ps := ["self", "many"]) fun _ _ _ _ _ _ us hl => match us, hl with | [_, _], _ => rfl
  have F10 := fun_mk (st := s_Disk_need_block) l10 c10 k10
  have b10 := F10.binds (ps := ["self", "block"]) fun _ _ _ _ _ _ us hl => match us, hl with | [_, _], _ => rfl
  have F11 := fun_mk (st := s_Disk_read) l11 c11 k11
  have b11 := F11.binds (ps := ["self", "block"]) fun _ _ _ _ _ _ us hl => match us, hl with | [_, _], _ => rfl
  have F12 := fun_mk (st := s_Disk_write) l12 c12 k12
  have b12 := F12.binds (ps := ["self", "block", "words"]) fun _ _ _ _ _ _ us hl => match us, hl with | [_, _, _], _ => rfl
  have F13 := fun_mk (st := s_Guard_members) l13 c13 k13
  have b13 := F13.binds (ps := ["self", "group"]) fun _ _ _ _ _ _ us hl => match us, hl with | [_, _], _ => rfl
  have F14 := fun_mk (st := s_Guard_place) l14 c14 k14
  have b14 := F14.binds (ps := ["self", "block"]) fun _ _ _ _ _ _ us hl => match us, hl with | [_, _], _ => rfl
  have F15 := fun_mk (st := s_Guard_places) l15 c15 k15
  have b15 := F15.binds (ps := ["self", "group"]) fun _ _ _ _ _ _ us hl => match us, hl with | [_, _], _ => rfl
  have F16 := fun_mk (st := s_Guard_places_of) l16 c16 k16
  have b16 := F16.binds (ps := ["self", "group"]) fun _ _ _ _ _ _ us hl => match us, hl with | [_, _], _ => rfl
  have F17 := fun_mk (st := s_Guard_place_of) l17 c17 k17
  have b17 := F17.binds (ps := ["self", "block"]) fun _ _ _ _ _ _ us hl => match us, hl with | [_, _], _ => rfl
  have F18 := fun_mk (st := s_Guard_init) l18 c18 k18
  have b18 := F18.binds (ps := ["self", "disk", "first", "many", "group"]) fun _ _ _ _ _ _ us hl => match us, hl with | [_, _, _, _, _], _ => rfl
  have F19 := fun_mk (st := s_Guard_lay) l19 c19 k19
  have b19 := F19.binds (ps := ["self", "group", "pages"]) fun _ _ _ _ _ _ us hl => match us, hl with | [_, _, _], _ => rfl
  have F20 := fun_mk (st := s_Guard_begin) l20 c20 k20
  have b20 := F20.binds (ps := ["self"]) fun _ _ _ _ _ _ us hl => match us, hl with | [_], _ => rfl
  have F21 := fun_mk (st := s_Guard_read_group) l21 c21 k21
  have b21 := F21.binds (ps := ["self", "group"]) fun _ _ _ _ _ _ us hl => match us, hl with | [_, _], _ => rfl
  have F22 := fun_mk (st := s_Guard_healed) l22 c22 k22
  have b22 := F22.binds (ps := ["self", "group"]) fun _ _ _ _ _ _ us hl => match us, hl with | [_, _], _ => rfl
  have F23 := fun_mk (st := s_Guard_read) l23 c23 k23
  have b23 := F23.binds (ps := ["self", "block"]) fun _ _ _ _ _ _ us hl => match us, hl with | [_, _], _ => rfl
  have F24 := fun_mk (st := s_Guard_write) l24 c24 k24
  have b24 := F24.binds (ps := ["self", "block", "words"]) fun _ _ _ _ _ _ us hl => match us, hl with | [_, _, _], _ => rfl
  have F25 := fun_mk (st := s_Guard_scrub) l25 c25 k25
  have b25 := F25.binds (ps := ["self"]) fun _ _ _ _ _ _ us hl => match us, hl with | [_], _ => rfl
  have F26 := fun_mk (st := s_law_draws) l26 c26 k26
  have b26 := F26.binds (ps := ["script"]) fun _ _ _ _ _ _ us hl => match us, hl with | [_], _ => rfl
  have F27 := fun_mk (st := s_law_take) l27 c27 k27
  have b27 := F27.binds (ps := ["draws", "bound"]) fun _ _ _ _ _ _ us hl => match us, hl with | [_, _], _ => rfl
  have F28 := fun_mk (st := s_law_pick) l28 c28 k28
  have b28 := F28.binds (ps := ["draws", "some"]) fun _ _ _ _ _ _ us hl => match us, hl with | [_, _], _ => rfl
  have F29 := fun_mk (st := s_law_page) l29 c29 k29
  have b29 := F29.binds (ps := ["draws"]) fun _ _ _ _ _ _ us hl => match us, hl with | [_], _ => rfl
  have F30 := fun_mk (st := s_law_mark) l30 c30 k30
  have b30 := F30.binds (ps := ["page"]) fun _ _ _ _ _ _ us hl => match us, hl with | [_], _ => rfl
  have F31 := fun_mk (st := s_law_xor) l31 c31 k31
  have b31 := F31.binds (ps := ["a", "b"]) fun _ _ _ _ _ _ us hl => match us, hl with | [_, _], _ => rfl
  have F32 := fun_mk (st := s_law_sum) l32 c32 k32
  have b32 := F32.binds (ps := ["pages"]) fun _ _ _ _ _ _ us hl => match us, hl with | [_], _ => rfl
  have F33 := fun_mk (st := s_law_groups) l33 c33 k33
  have b33 := F33.binds (ps := ["many", "size"]) fun _ _ _ _ _ _ us hl => match us, hl with | [_, _], _ => rfl
  have F34 := fun_mk (st := s_mark_of) l34 c34 k34
  have b34 := F34.binds (ps := ["words"]) fun _ _ _ _ _ _ us hl => match us, hl with | [_], _ => rfl
  have F35 := fun_mk (st := s_sum_of) l35 c35 k35
  have b35 := F35.binds (ps := ["pages"]) fun _ _ _ _ _ _ us hl => match us, hl with | [_], _ => rfl
  have F36 := fun_mk (st := s_law_looks) l36 c36 k36
  have b36 := F36.binds (ps := ["guard", "pages", "bad", "groups"]) fun _ _ _ _ _ _ us hl => match us, hl with | [_, _, _, _], _ => rfl
  have F37 := fun_mk (st := s_law_damaged) l37 c37 k37
  have b37 := F37.binds (ps := ["draws", "disk", "guard", "groups", "bad"]) fun _ _ _ _ _ _ us hl => match us, hl with | [_, _, _, _, _], _ => rfl
  have F38 := fun_mk (st := s_law_is_scrubbed) l38 c38 k38
  have b38 := F38.binds (ps := ["guard", "bad", "groups"]) fun _ _ _ _ _ _ us hl => match us, hl with | [_, _, _], _ => rfl
  have F39 := fun_mk (st := s_law_written) l39 c39 k39
  have b39 := F39.binds (ps := ["draws", "guard", "pages", "bad", "groups", "size"]) fun _ _ _ _ _ _ us hl => match us, hl with | [_, _, _, _, _, _], _ => rfl
  have F40 := fun_mk (st := s_law) l40 c40 k40
  refine ⟨PySem.W.fnOf "law" "law" (defArgs s_law) (defBody s_law) (defScope s_law) .none kV40 dc40 pm40 an40 cd40 ct40, fun s v => .of_eq rfl, fun base _ _ => ?_⟩
  have G_is_integer := GFn.mk ⟨_, _, ok_is_integer (P := l.prog) (w := w) (base := base) F0 T, PySem.W.mg_of X G a0, k0, b0⟩
  have G_is_within := GFn.mk ⟨_, _, ok_is_within (P := l.prog) (w := w) (base := base) F1 T G_is_integer, PySem.W.mg_of X G a1, k1, b1⟩
  have G_is_word := GFn.mk ⟨_, _, ok_is_word (P := l.prog) (w := w) (base := base) F2 T G_is_within, PySem.W.mg_of X G a2, k2, b2⟩
  have G_check := GFn.mk ⟨_, _, ok_check (P := l.prog) (w := w) (base := base) F3 T, PySem.W.mg_of X G a3, k3, b3⟩
  have G_check_there := GFn.mk ⟨_, _, ok_check_there (P := l.prog) (w := w) (base := base) F4 T, PySem.W.mg_of X G a4, k4, b4⟩
  have G_are_words := GFn.mk ⟨_, _, ok_are_words (P := l.prog) (w := w) (base := base) F5 T G_is_word, PySem.W.mg_of X G a5, k5, b5⟩
  have G_is_block := GFn.mk ⟨_, _, ok_is_block (P := l.prog) (w := w) (base := base) F6 T G_are_words, PySem.W.mg_of X G a6, k6, b6⟩
  have G_mark_by := GFn.mk ⟨_, _, ok_mark_by (P := l.prog) (w := w) (base := base) F7 T, PySem.W.mg_of X G a7, k7, b7⟩
  have G_sum_by := GFn.mk ⟨_, _, ok_sum_by (P := l.prog) (w := w) (base := base) F8 T, PySem.W.mg_of X G a8, k8, b8⟩
  have G_Disk_init := GMk.mk ⟨_, _, ok_disk_init (P := l.prog) (w := w) (base := base) F9 T G_check G_is_within, PySem.W.mg_of X G a_Disk, ⟨mk_Disk, a9, i9, kc_Disk⟩, b9⟩
  have G_Disk_need_block := GMt.mk ⟨_, _, ok_need_block (P := l.prog) (w := w) (base := base) F10 T G_check_there G_is_within, T.cD, ⟨a10, i10, k10⟩, b10⟩
  have G_Disk_read := GMt.mk ⟨_, _, ok_disk_read (P := l.prog) (w := w) (base := base) F11 T G_Disk_need_block, T.cD, ⟨a11, i11, k11⟩, b11⟩
  have G_Disk_write := GMt.mk ⟨_, _, ok_disk_write (P := l.prog) (w := w) (base := base) F12 T G_Disk_need_block G_check G_is_block, T.cD, ⟨a12, i12, k12⟩, b12⟩
  have G_Guard_members := GMt.mk ⟨_, _, ok_members (P := l.prog) (w := w) (base := base) F13 T, T.cG, ⟨a13, i13, k13⟩, b13⟩
  have G_Guard_place := GMt.mk ⟨_, _, ok_place (P := l.prog) (w := w) (base := base) F14 T, T.cG, ⟨a14, i14, k14⟩, b14⟩
  have G_Guard_places := GMt.mk ⟨_, _, ok_places (P := l.prog) (w := w) (base := base) F15 T G_Guard_members G_Guard_place, T.cG, ⟨a15, i15, k15⟩, b15⟩
  have G_Guard_places_of := GMt.mk ⟨_, _, ok_places_of (P := l.prog) (w := w) (base := base) F16 T G_check_there G_is_within G_Guard_places, T.cG, ⟨a16, i16, k16⟩, b16⟩
  have G_Guard_place_of := GMt.mk ⟨_, _, ok_place_of (P := l.prog) (w := w) (base := base) F17 T G_check_there G_is_within G_Guard_place, T.cG, ⟨a17, i17, k17⟩, b17⟩
  have G_Guard_init := GMk.mk ⟨_, _, ok_guard_init (P := l.prog) (w := w) (base := base) F18 T G_check G_is_within, PySem.W.mg_of X G a_Guard, ⟨mk_Guard, a18, i18, kc_Guard⟩, b18⟩
  have G_Guard_lay := GMt.mk ⟨_, _, ok_lay (P := l.prog) (w := w) (base := base) F19 T G_Guard_members G_Guard_place G_Guard_places G_Disk_write G_sum_by G_mark_by, T.cG, ⟨a19, i19, k19⟩, b19⟩
  have G_Guard_begin := GMt.mk ⟨_, _, ok_begin (P := l.prog) (w := w) (base := base) F20 T G_Guard_members G_Guard_lay, T.cG, ⟨a20, i20, k20⟩, b20⟩
  have G_Guard_read_group := GMt.mk ⟨_, _, ok_read_group (P := l.prog) (w := w) (base := base) F21 T G_Guard_members G_Guard_place G_Guard_places G_Disk_read G_mark_by, T.cG, ⟨a21, i21, k21⟩, b21⟩
  have G_Guard_healed := GMt.mk ⟨_, _, ok_healed (P := l.prog) (w := w) (base := base) F22 T G_Guard_read_group G_Guard_places G_Disk_read G_mark_by G_sum_by, T.cG, ⟨a22, i22, k22⟩, b22⟩
  have G_Guard_read := GMt.mk ⟨_, _, ok_read (P := l.prog) (w := w) (base := base) F23 T G_check_there G_is_within G_Guard_healed, T.cG, ⟨a23, i23, k23⟩, b23⟩
  have G_Guard_write := GMt.mk ⟨_, _, ok_write (P := l.prog) (w := w) (base := base) F24 T G_check_there G_check G_is_within G_is_block G_Guard_healed G_Guard_lay, T.cG, ⟨a24, i24, k24⟩, b24⟩
  have G_Guard_scrub := GMt.mk ⟨_, _, ok_scrub (P := l.prog) (w := w) (base := base) F25 T G_Guard_read_group G_Guard_healed G_Guard_members G_Guard_lay, T.cG, ⟨a25, i25, k25⟩, b25⟩
  have G_law_draws := GFn.mk ⟨_, _, ok_draws (P := l.prog) (w := w) (base := base) F26 T, PySem.W.mg_of X G a26, k26, b26⟩
  have G_law_take := GFn.mk ⟨_, _, ok_take (P := l.prog) (w := w) (base := base) F27 T, PySem.W.mg_of X G a27, k27, b27⟩
  have G_law_pick := GFn.mk ⟨_, _, ok_pick (P := l.prog) (w := w) (base := base) F28 T G_law_take, PySem.W.mg_of X G a28, k28, b28⟩
  have G_law_page := GFn.mk ⟨_, _, ok_page (P := l.prog) (w := w) (base := base) F29 T G_law_take G_law_pick, PySem.W.mg_of X G a29, k29, b29⟩
  have G_law_mark := GFn.mk ⟨_, _, ok_law_mark (P := l.prog) (w := w) (base := base) F30 T, PySem.W.mg_of X G a30, k30, b30⟩
  have G_law_xor := GFn.mk ⟨_, _, ok_law_xor (P := l.prog) (w := w) (base := base) F31 T, PySem.W.mg_of X G a31, k31, b31⟩
  have G_law_sum := GFn.mk ⟨_, _, ok_law_sum (P := l.prog) (w := w) (base := base) F32 T G_law_xor, PySem.W.mg_of X G a32, k32, b32⟩
  have G_law_groups := GFn.mk ⟨_, _, ok_law_groups (P := l.prog) (w := w) (base := base) F33 T, PySem.W.mg_of X G a33, k33, b33⟩
  have G_mark_of := GFn.mk ⟨_, _, ok_mark_of (P := l.prog) (w := w) (base := base) F34 T G_check G_is_block G_mark_by, PySem.W.mg_of X G a34, k34, b34⟩
  have G_sum_of := GFn.mk ⟨_, _, ok_sum_of (P := l.prog) (w := w) (base := base) F35 T G_check G_is_block G_sum_by, PySem.W.mg_of X G a35, k35, b35⟩
  have G_law_looks := GFn.mk ⟨_, _, ok_looks (P := l.prog) (w := w) (base := base) F36 T G_Guard_read, PySem.W.mg_of X G a36, k36, b36⟩
  have G_law_damaged := GFn.mk ⟨_, _, ok_damaged (P := l.prog) (w := w) (base := base) F37 T G_law_take G_law_pick G_Guard_places_of G_Guard_place_of G_Disk_read G_Disk_write, PySem.W.mg_of X G a37, k37, b37⟩
  have G_law_is_scrubbed := GFn.mk ⟨_, _, ok_scrubbed (P := l.prog) (w := w) (base := base) F38 T G_Guard_scrub, PySem.W.mg_of X G a38, k38, b38⟩
  have G_law_written := GFn.mk ⟨_, _, ok_written (P := l.prog) (w := w) (base := base) F39 T G_law_take G_law_page G_Guard_write, PySem.W.mg_of X G a39, k39, b39⟩
  exact ok_law (P := l.prog) (w := w) (base := base) F40 T G_law_draws G_law_take G_law_groups G_Disk_init G_Guard_init G_Guard_begin G_law_written G_law_damaged G_law_is_scrubbed G_law_looks G_law_page G_sum_of G_law_sum G_mark_of G_law_mark G_Guard_read G_Guard_write G_Guard_places_of
end K68
set_option Elab.async false
set_option linter.all false
set_option maxRecDepth 100000
set_option maxHeartbeats 8000000
open PySem PySem.W PyProof.Rows
set_option maxRecDepth 100000 in
set_option maxHeartbeats 40000000 in
theorem PySem.Challenge.cw_airheld_k68_whole_guarded_blocks_healed_holds : PySem.Challenge.rw_airheld_k68_whole_guarded_blocks_healed.Holds := by
  w_on; o_law; k_head; (case hw => w_witness2)
  k_fill
  refine L2.walk_of (l := PySem.Challenge.rw_airheld_k68_whole_guarded_blocks_healed) (n := 63) (k := 10) (x := "script") (CX := fun w => L2.CX PySem.Challenge.rw_airheld_k68_whole_guarded_blocks_healed.prog w) (sp := fun w => K68.spLaw _) rfl (by decide) rfl ⟨rfl, by decide, by decide⟩ (fun w h Y => PySem.W.kIn_of Y) ?F (fun _ _ a ns hl _ hS => ⟨a, ns, rfl, hS, hl, fun _ => rfl⟩) fun _ _ _ _ _ z => (by obtain ⟨_, _, _, _, _, _, _, _, _, _, _, _, z⟩ := z; exact z)
  case F =>
    intro w mg fa h KX G hmg
    refine' K68.all_mk KX G hmg ?a_Disk ?a_Guard ?a_NotRight ?a_NotThere ?a_NoAnswer ?v_MOST_WORD ?v_PAGE_tables ?v_MOST_BLOCKS ?v_MOST_GROUP ?v_BASE ?v_PRIME ?v_WRITE ?v_SUM ?v_ZEROS_disk ?w_ZEROS_disk ?x_ZEROS_disk ?y_ZEROS_disk ?z_ZEROS_disk ?v_ZEROS_guards ?w_ZEROS_guards ?x_ZEROS_guards ?y_ZEROS_guards ?z_ZEROS_guards ?a0 ?l0 ?c0 ?k0 ?a1 ?l1 ?c1 ?k1 ?a2 ?l2 ?c2 ?k2 ?a3 ?l3 ?c3 ?k3 ?a4 ?l4 ?c4 ?k4 ?a5 ?l5 ?c5 ?k5 ?a6 ?l6 ?c6 ?k6 ?a7 ?l7 ?c7 ?k7 ?a8 ?l8 ?c8 ?k8 ?a9 ?i9 ?l9 ?c9 ?k9 ?a10 ?i10 ?l10 ?c10 ?k10 ?a11 ?i11 ?l11 ?c11 ?k11 ?a12 ?i12 ?l12 ?c12 ?k12 ?a13 ?i13 ?l13 ?c13 ?k13 ?a14 ?i14 ?l14 ?c14 ?k14 ?a15 ?i15 ?l15 ?c15 ?k15 ?a16 ?i16 ?l16 ?c16 ?k16 ?a17 ?i17 ?l17 ?c17 ?k17 ?a18 ?i18 ?l18 ?c18 ?k18 ?a19 ?i19 ?l19 ?c19 ?k19 ?a20 ?i20 ?l20 ?c20 ?k20 ?a21 ?i21 ?l21 ?c21 ?k21 ?a22 ?i22 ?l22 ?c22 ?k22 ?a23 ?i23 ?l23 ?c23 ?k23 ?a24 ?i24 ?l24 ?c24 ?k24 ?a25 ?i25 ?l25 ?c25 ?k25 ?a26 ?l26 ?c26 ?k26 ?a27 ?l27 ?c27 ?k27 ?a28 ?l28 ?c28 ?k28 ?a29 ?l29 ?c29 ?k29 ?a30 ?l30 ?c30 ?k30 ?a31 ?l31 ?c31 ?k31 ?a32 ?l32 ?c32 ?k32 ?a33 ?l33 ?c33 ?k33 ?a34 ?l34 ?c34 ?k34 ?a35 ?l35 ?c35 ?k35 ?a36 ?l36 ?c36 ?k36 ?a37 ?l37 ?c37 ?k37 ?a38 ?l38 ?c38 ?k38 ?a39 ?l39 ?c39 ?k39 ?a40 ?l40 ?c40 ?k40 ?pg_Disk ?hd_Disk ?po_Disk ?sa_Disk ?mk_Disk ?kc_Disk ?n_Disk_blocks_many ?n_Disk_fixed_blocks ?n_Disk_waits ?n_Disk_newest ?pg_Guard ?hd_Guard ?po_Guard ?sa_Guard ?mk_Guard ?kc_Guard ?n_Guard_disk ?n_Guard_first ?n_Guard_many ?n_Guard_size ?n_Guard_groups ?ex_NotRight ?ek_NotRight ?eb_NotRight ?et_NotRight ?eh_NotRight ?ex_NotThere ?ek_NotThere ?eb_NotThere ?et_NotThere ?eh_NotThere ?ex_NoAnswer ?ek_NoAnswer ?eb_NoAnswer ?et_NoAnswer ?eh_NoAnswer ?s_NoAnswer_NoAnswer ?s_NotThere_NotThere ?s_NotRight_NotThere ?s_NotRight_NotRight ?iD1 ?iD2 ?iD3 ?iD4 ?tDisk ?sDisk ?free_isinstance ?free_int ?free_bool ?free_tuple ?free_list ?free_all ?free_any ?free_len ?free_min ?free_abs ?free_range ?free_zip ?free_enumerate ?free_reversed
    (case a_Disk => k_is)
    (case a_Guard => k_is)
    (case a_NotRight => k_is)
    (case a_NotThere => k_is)
    (case a_NoAnswer => k_is)
    (case v_MOST_WORD => k_is)
    (case v_PAGE_tables => k_is)
    (case v_MOST_BLOCKS => k_is)
    (case v_MOST_GROUP => k_is)
    (case v_BASE => k_is)
    (case v_PRIME => k_is)
    (case v_WRITE => k_is)
    (case v_SUM => k_is)
    (case v_ZEROS_disk => k_is)
    (case w_ZEROS_disk => k_is)
    (case x_ZEROS_disk => rfl)
    (case y_ZEROS_disk => exact (.cons ⟨_, rfl⟩ (.cons ⟨_, rfl⟩ (.cons ⟨_, rfl⟩ (.cons ⟨_, rfl⟩ (.cons ⟨_, rfl⟩ (.cons ⟨_, rfl⟩ (.cons ⟨_, rfl⟩ (.cons ⟨_, rfl⟩ (.cons ⟨_, rfl⟩ (.cons ⟨_, rfl⟩ (.cons ⟨_, rfl⟩ (.cons ⟨_, rfl⟩ (.cons ⟨_, rfl⟩ (.cons ⟨_, rfl⟩ (.cons ⟨_, rfl⟩ (.cons ⟨_, rfl⟩ .nil)))))))))))))))))
    (case z_ZEROS_disk => show 16 ≤ sizeLine; decide)
    (case v_ZEROS_guards => k_is)
    (case w_ZEROS_guards => k_is)
    (case x_ZEROS_guards => rfl)
    (case y_ZEROS_guards => exact (.cons ⟨_, rfl⟩ (.cons ⟨_, rfl⟩ (.cons ⟨_, rfl⟩ (.cons ⟨_, rfl⟩ (.cons ⟨_, rfl⟩ (.cons ⟨_, rfl⟩ (.cons ⟨_, rfl⟩ (.cons ⟨_, rfl⟩ (.cons ⟨_, rfl⟩ (.cons ⟨_, rfl⟩ (.cons ⟨_, rfl⟩ (.cons ⟨_, rfl⟩ (.cons ⟨_, rfl⟩ (.cons ⟨_, rfl⟩ (.cons ⟨_, rfl⟩ (.cons ⟨_, rfl⟩ .nil)))))))))))))))))
    (case z_ZEROS_guards => show 16 ≤ sizeLine; decide)
    (case a0 => k_is)
    (case l0 => k_is)
    (case c0 => k_is)
    (case k0 => k_is)
    (case a1 => k_is)
    (case l1 => k_is)
    (case c1 => k_is)
    (case k1 => k_is)
    (case a2 => k_is)
    (case l2 => k_is)
    (case c2 => k_is)
    (case k2 => k_is)
    (case a3 => k_is)
    (case l3 => k_is)
    (case c3 => k_is)
    (case k3 => k_is)
    (case a4 => k_is)
    (case l4 => k_is)
    (case c4 => k_is)
    (case k4 => k_is)
    (case a5 => k_is)
    (case l5 => k_is)
    (case c5 => k_is)
    (case k5 => k_is)
    (case a6 => k_is)
    (case l6 => k_is)
    (case c6 => k_is)
    (case k6 => k_is)
    (case a7 => k_is)
    (case l7 => k_is)
    (case c7 => k_is)
    (case k7 => k_is)
    (case a8 => k_is)
    (case l8 => k_is)
    (case c8 => k_is)
    (case k8 => k_is)
    (case a9 => k_is)
    (case i9 => k_is)
    (case l9 => k_is)
    (case c9 => k_is)
    (case k9 => k_is)
    (case a10 => k_is)
    (case i10 => k_is)
    (case l10 => k_is)
    (case c10 => k_is)
    (case k10 => k_is)
    (case a11 => k_is)
    (case i11 => k_is)
    (case l11 => k_is)
    (case c11 => k_is)
    (case k11 => k_is)
    (case a12 => k_is)
    (case i12 => k_is)
    (case l12 => k_is)
    (case c12 => k_is)
    (case k12 => k_is)
    (case a13 => k_is)
    (case i13 => k_is)
    (case l13 => k_is)
    (case c13 => k_is)
    (case k13 => k_is)
    (case a14 => k_is)
    (case i14 => k_is)
    (case l14 => k_is)
    (case c14 => k_is)
    (case k14 => k_is)
    (case a15 => k_is)
    (case i15 => k_is)
    (case l15 => k_is)
    (case c15 => k_is)
    (case k15 => k_is)
    (case a16 => k_is)
    (case i16 => k_is)
    (case l16 => k_is)
    (case c16 => k_is)
    (case k16 => k_is)
    (case a17 => k_is)
    (case i17 => k_is)
    (case l17 => k_is)
    (case c17 => k_is)
    (case k17 => k_is)
    (case a18 => k_is)
    (case i18 => k_is)
    (case l18 => k_is)
    (case c18 => k_is)
    (case k18 => k_is)
    (case a19 => k_is)
    (case i19 => k_is)
    (case l19 => k_is)
    (case c19 => k_is)
    (case k19 => k_is)
    (case a20 => k_is)
    (case i20 => k_is)
    (case l20 => k_is)
    (case c20 => k_is)
    (case k20 => k_is)
    (case a21 => k_is)
    (case i21 => k_is)
    (case l21 => k_is)
    (case c21 => k_is)
    (case k21 => k_is)
    (case a22 => k_is)
    (case i22 => k_is)
    (case l22 => k_is)
    (case c22 => k_is)
    (case k22 => k_is)
    (case a23 => k_is)
    (case i23 => k_is)
    (case l23 => k_is)
    (case c23 => k_is)
    (case k23 => k_is)
    (case a24 => k_is)
    (case i24 => k_is)
    (case l24 => k_is)
    (case c24 => k_is)
    (case k24 => k_is)
    (case a25 => k_is)
    (case i25 => k_is)
    (case l25 => k_is)
    (case c25 => k_is)
    (case k25 => k_is)
    (case a26 => k_is)
    (case l26 => k_is)
    (case c26 => k_is)
    (case k26 => k_is)
    (case a27 => k_is)
    (case l27 => k_is)
    (case c27 => k_is)
    (case k27 => k_is)
    (case a28 => k_is)
    (case l28 => k_is)
    (case c28 => k_is)
    (case k28 => k_is)
    (case a29 => k_is)
    (case l29 => k_is)
    (case c29 => k_is)
    (case k29 => k_is)
    (case a30 => k_is)
    (case l30 => k_is)
    (case c30 => k_is)
    (case k30 => k_is)
    (case a31 => k_is)
    (case l31 => k_is)
    (case c31 => k_is)
    (case k31 => k_is)
    (case a32 => k_is)
    (case l32 => k_is)
    (case c32 => k_is)
    (case k32 => k_is)
    (case a33 => k_is)
    (case l33 => k_is)
    (case c33 => k_is)
    (case k33 => k_is)
    (case a34 => k_is)
    (case l34 => k_is)
    (case c34 => k_is)
    (case k34 => k_is)
    (case a35 => k_is)
    (case l35 => k_is)
    (case c35 => k_is)
    (case k35 => k_is)
    (case a36 => k_is)
    (case l36 => k_is)
    (case c36 => k_is)
    (case k36 => k_is)
    (case a37 => k_is)
    (case l37 => k_is)
    (case c37 => k_is)
    (case k37 => k_is)
    (case a38 => k_is)
    (case l38 => k_is)
    (case c38 => k_is)
    (case k38 => k_is)
    (case a39 => k_is)
    (case l39 => k_is)
    (case c39 => k_is)
    (case k39 => k_is)
    (case a40 => k_is)
    (case l40 => k_is)
    (case c40 => k_is)
    (case k40 => k_is)
    (case pg_Disk => k_is)
    (case hd_Disk => k_is)
    (case po_Disk => k_is)
    (case sa_Disk => k_is)
    (case mk_Disk => k_is)
    (case kc_Disk => k_is)
    (case n_Disk_blocks_many => k_is)
    (case n_Disk_fixed_blocks => k_is)
    (case n_Disk_waits => k_is)
    (case n_Disk_newest => k_is)
    (case pg_Guard => k_is)
    (case hd_Guard => k_is)
    (case po_Guard => k_is)
    (case sa_Guard => k_is)
    (case mk_Guard => k_is)
    (case kc_Guard => k_is)
    (case n_Guard_disk => k_is)
    (case n_Guard_first => k_is)
    (case n_Guard_many => k_is)
    (case n_Guard_size => k_is)
    (case n_Guard_groups => k_is)
    (case ex_NotRight => k_exc)
    (case ek_NotRight => k_is)
    (case eb_NotRight => k_is)
    (case et_NotRight => k_is)
    (case eh_NotRight => k_is)
    (case ex_NotThere => k_exc)
    (case ek_NotThere => k_is)
    (case eb_NotThere => k_is)
    (case et_NotThere => k_is)
    (case eh_NotThere => k_is)
    (case ex_NoAnswer => k_exc)
    (case ek_NoAnswer => k_is)
    (case eb_NoAnswer => k_is)
    (case et_NoAnswer => k_is)
    (case eh_NoAnswer => k_is)
    (case s_NoAnswer_NoAnswer => first | rfl | k_is)
    (case s_NotThere_NotThere => first | rfl | k_is)
    (case s_NotRight_NotThere => first | rfl | k_is)
    (case s_NotRight_NotRight => first | rfl | k_is)
    (case iD1 => k_is)
    (case iD2 => k_is)
    (case iD3 => k_is)
    (case iD4 => k_is)
    (case tDisk => k_is)
    (case sDisk => k_is)
    (case free_isinstance => k_is)
    (case free_int => k_is)
    (case free_bool => k_is)
    (case free_tuple => k_is)
    (case free_list => k_is)
    (case free_all => k_is)
    (case free_any => k_is)
    (case free_len => k_is)
    (case free_min => k_is)
    (case free_abs => k_is)
    (case free_range => k_is)
    (case free_zip => k_is)
    (case free_enumerate => k_is)
    (case free_reversed => k_is)
