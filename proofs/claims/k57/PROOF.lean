import PyProof.Rows.All
import Wide.All
import OpenK.AllK
import Wide.FinOn
import PyProof.EqAt
import PyProof.EqKinds
import PyProof.TupleCall
import PyProof.ZipIter
import KE.GoesMore
import KE.GoesEnum
import KE.GoesZip
import HandS.ForMost
import HandS.ForExc
import HandS.TryMany
import HandS.Star
import HandS.IsInst
import HandS.Conv
import HandS.TupAny
import HandS.TupMul
import HandS.Style
import HandS.Wide
import KE.KDictList
import HandS.Rev
import HandS.Flow
import HandS.Walk
import HandS.DictComp
import HandS.Iter
import HandS.ListItems
import PySem.Challenge.RW_airheld_k57_whole_nodes_message_by_messa
import HandS.Codes
import HandS.Small
import HandS.ExcIs
set_option Elab.async false
set_option linter.all false
set_option maxRecDepth 100000
set_option maxHeartbeats 4000000
/-! AB: own short rules over the hand layer: callees as one fact, with what they raise at the slots; attributes as targets; zip of a list and a tuple. -/
namespace AB
open PySem PySem.Spec PyProof.Rows L2

section
variable (P : Program) (w : World) (K : PySem.W.Frag) (mg : Str → Option Value) (base : Heap)
/-- the global def x keeps the promise sp -/
structure GFn (k : Nat) (x : Str) (ps : List Str) (sp : Sp) : Prop where
  ex : ∃ f fd, FnOk P w K mg base (L2.CX P w) k f fd ps sp ∧ mg x = some (.ref f) ∧ PySem.W.keepIn K (.ref f) = true ∧ Binds K fd ps []
/-- the method m of the class at C keeps the promise sp -/
structure GMt (k : Nat) (C : Addr) (m : Str) (ps : List Str) (sp : Sp) : Prop where
  ex : ∃ f fd, FnOk P w K mg base (L2.CX P w) k f fd ps sp ∧ Cls K C ∧ Meth K C m f ∧ Binds K fd ps []
/-- the class x at C is made by an __init__ with the promise sp -/
structure GMk (k : Nat) (C : Addr) (x : Str) (ps : List Str) (sp : Sp) : Prop where
  ex : ∃ f fd, FnOk P w K mg base (L2.CX P w) k f fd ps sp ∧ mg x = some (.ref C) ∧ Mk K C f ∧ Binds K fd ps []
end

section
variable {X : Cx} {k : Nat} {C : Addr} {ps : List Str} {sp : Sp} {W : WX} {x m : Str} {p pos apos : Pos} {e o : Expr} {es : List Expr} {ta : TE} {t : TA}
def tCl (sp : Sp) (W : WX) (t : TA) : TE := fun σ H Q => t σ H fun vs H1 => sp vs H1 Q (WE W σ)
theorem pe_cl (G : GFn X.prog X.w X.K X.mg X.base k x ps sp) (hr : Room k X.A) (tk : Takes X W) (ha : PA X (e :: es) t) (hg : Gl X x := by rfl)
    (hdb : (x == ("__debug__" : Str)) = false := by decide) (he : starEach (e :: es) X.env = (false, eval e X.env) :: starEach es X.env := by rfl) (hpl : (backTo pos (starEach es X.env)).any (·.1) = false := by rfl) :
    PE X (.Call (.Name x p) (e :: es) [] pos) (tCl sp W t) := by
  obtain ⟨f, fd, F, hm, hk, hb⟩ := G.ex
  exact pe_callS F hr hg hm hk hb (fun σ => passAt tk σ) ha hdb he hpl
theorem pe_cl0 (G : GFn X.prog X.w X.K X.mg X.base k x ps sp) (hr : Room k X.A) (tk : Takes X W) (hg : Gl X x := by rfl)
    (hdb : (x == ("__debug__" : Str)) = false := by decide) :
    PE X (.Call (.Name x p) [] [] pos) (tCl sp W tNil) := by
  obtain ⟨f, fd, F, hm, hk, hb⟩ := G.ex
  refine ⟨fun pins s σ H Q I h => ?_⟩
  refine wpAny_Call_Name_kw (ld_glob I hg hm ?_ hdb)
  exact PySem.W.callWith_K0 I.kIn hk (run_fnS (us := []) F hr hb (passAt tk σ) I .nil h)

def tMt (C : Addr) (m : Str) (sp : Sp) (W : WX) (ta : TE) (t : TA) : TE := fun σ H Q => ta σ H fun x H1 => ∃ a dx fs, x = .ref a ∧ H1 a = some (.ins C dx fs) ∧ fs.lookup m = none ∧
  t σ H1 fun vs H2 => sp (x :: vs) H2 Q (WE W σ)
theorem pe_mt {pl : Sem Bool} (he : PE X o ta) (G : GMt X.prog X.w X.K X.mg X.base k C m ps sp) (hr : Room k X.A) (tk : Takes X W) (ha : PA X (e :: es) t)
    (hst : starEach (e :: es) X.env = (false, eval e X.env) :: starEach es X.env := by rfl) (hpl : (backTo pos (starEach es X.env)).any (·.1) = false := by rfl)
    (ht : eval (.Call (.Attribute o m apos) (e :: es) [] pos) X.env = (do
      let ov ← eval o X.env
      standAt apos.atName
      let (f, first) ← holding [ov] (getMethod ov m pl)
      callWith pos f first (backTo pos (starEach (e :: es) X.env)) (backToKw pos (keywordEach [] X.env))) := by rfl) :
    PE X (.Call (.Attribute o m apos) (e :: es) [] pos) (tMt C m sp W ta t) := by
  obtain ⟨f, fd, F, c, hm, hb⟩ := G.ex
  refine ⟨fun pins s σ H Q I h => ?_⟩
  refine PySem.W.methodCall_KW (pl := pl) (thn (he.run pins s σ H _ I h) fun u s1 ⟨x, H1, I1, rx, a, dx, fs, ex, ea, l, q⟩ => ?_) ht
  subst ex
  obtain rfl : u = Value.ref a := rx
  refine getmeth_ok I1 ea c hm l ?_
  refine PySem.W.callWith_K (first := [.ref a]) (h₀ := X.base) I.ok.mod.kin hm.kp (thn (ha.run pos pins s1 σ H1 _ I1 q) fun us s2 ⟨vs, H2, I2, r, q2⟩ => ⟨I2.kIn, ?_⟩) hst hpl
  exact run_fnS (us := .ref a :: us) (vs := .ref a :: vs) F hr hb (passAt tk σ) I2 (.cons rfl r) q2
theorem pe_mt0 {pl : Sem Bool} (he : PE X o ta) (G : GMt X.prog X.w X.K X.mg X.base k C m ps sp) (hr : Room k X.A) (tk : Takes X W)
    (ht : eval (.Call (.Attribute o m apos) [] [] pos) X.env = (do
      let ov ← eval o X.env
      standAt apos.atName
      let (f, first) ← holding [ov] (getMethod ov m pl)
      callWith pos f first (backTo pos (starEach [] X.env)) (backToKw pos (keywordEach [] X.env))) := by rfl) :
    PE X (.Call (.Attribute o m apos) [] [] pos) (tMt C m sp W ta tNil) := by
  obtain ⟨f, fd, F, c, hm, hb⟩ := G.ex
  refine ⟨fun pins s σ H Q I h => ?_⟩
  refine PySem.W.methodCall_KW (pl := pl) (thn (he.run pins s σ H _ I h) fun u s1 ⟨x, H1, I1, rx, a, dx, fs, ex, ea, l, q⟩ => ?_) ht
  subst ex
  obtain rfl : u = Value.ref a := rx
  refine getmeth_ok I1 ea c hm l ?_
  exact PySem.W.callWith_K0 (first := [.ref a]) I1.kIn hm.kp (run_fnS (us := [.ref a]) (vs := [.ref a]) F hr hb (passAt tk σ) I1 (.cons rfl .nil) q)

def tMk (C : Addr) (sp : Sp) (W : WX) (t : TA) : TE := fun σ H Q => t σ H fun vs H1 => ∀ x dx, H1 x = none → H1 dx = none → dx ≠ x →
  sp (.ref x :: vs) (upd (upd H1 dx (.own x)) x (.ins C dx [])) (fun v H2 => v = .non ∧ Q (.ref x) H2) (WE W σ)
theorem run_mk {f : Addr} {fd : FuncData} {pins : List (Addr × Obj)} {σ : L2.St} {H : Hp} {s : Shared} {Q : VK} {us : List Value} {vs : List V} (M : Mk X.K C f) (F : FnOk X.prog X.w X.K X.mg X.base (L2.CX X.prog X.w) k f fd ps sp) (hr : Room (k + 1) X.A) (hb : Binds X.K fd ps [])
    (tk : Takes X W) (I : Inv X pins σ H s) (r : Vals vs us)
    (h : ∀ x dx, H x = none → H dx = none → dx ≠ x → sp (.ref x :: vs) (upd (upd H dx (.own x)) x (.ins C dx [])) (fun v H2 => v = .non ∧ Q (.ref x) H2) (WE W σ)) :
    wpAny (model X.prog X.w) X.A (call (.ref C) us) (EP X pins σ Q) X.xe s := by
  have hq := h (s.heap.objs.size + 1) s.heap.objs.size (I.hok.fresh (Nat.le_succ _)) (I.hok.fresh (Nat.le_refl _)) (Nat.ne_of_lt (Nat.lt_succ_self _))
  have I2 := Inv.made (C := C) I
  have r2 : Vals (V.ref (s.heap.objs.size + 1) :: vs) (Value.ref (s.heap.objs.size + 1) :: us) := .cons rfl r
  have hl : (Value.ref (s.heap.objs.size + 1) :: us ++ []).length = ps.length := by
    have e := r2.length
    rw [F.len _ _ _ _ hq] at e
    simpa using e.symm
  have b := hb _ (Value.ref (s.heap.objs.size + 1) :: us) I2.kIn hl
  rw [List.append_nil] at b
  refine wpAny_call (make_map (f := f) I.kIn M.makes M.init (beq_iff_eq.mp M.fn) (codeAny_mono (F.run _ X.stack _ _ ⟨Value.ref (s.heap.objs.size + 1) :: us, []⟩ (Value.ref (s.heap.objs.size + 1) :: us) _ _ (WE W σ) (hr.make C us [])
    (I2.env0.make C us []) b r2 hq) fun r s' hq' => ?_))
  cases r with
  | error e => exact passAt tk σ pins _ _ e s' I2 hq'
  | ok fl =>
    cases fl with
    | ret u =>
      obtain ⟨v, H', I3, rv, ev, q3⟩ := I2.after hq'
      subst ev
      exact ⟨rv, ⟨V.ref (s.heap.objs.size + 1), H', I3, rfl, q3⟩⟩
    | next => exact False.elim hq'
    | brk => exact False.elim hq'
    | cont => exact False.elim hq'
theorem pe_mk (G : GMk X.prog X.w X.K X.mg X.base k C x ps sp) (hr : Room (k + 1) X.A) (tk : Takes X W) (ha : PA X (e :: es) t) (hg : Gl X x := by rfl)
    (hdb : (x == ("__debug__" : Str)) = false := by decide) (he : starEach (e :: es) X.env = (false, eval e X.env) :: starEach es X.env := by rfl) (hpl : (backTo pos (starEach es X.env)).any (·.1) = false := by rfl) :
    PE X (.Call (.Name x p) (e :: es) [] pos) (tMk C sp W t) := by
  obtain ⟨f, fd, F, hm, M, hb⟩ := G.ex
  refine ⟨fun pins s σ H Q I h => ?_⟩
  refine wpAny_Call_Name_kw (ld_glob I hg hm ?_ hdb)
  refine PySem.W.callWith_K (h₀ := X.base) I.ok.mod.kin M.kp (thn (ha.run pos pins s σ H _ I h) fun us s1 ⟨vs, H1, I1, r, q⟩ => ⟨I1.kIn, ?_⟩) he hpl
  exact run_mk M F hr hb tk I1 r q

/-- o.f as a target -/
def gFld (K : PySem.W.Frag) (ta : TE) (f : Str) : TG := fun v σ H Q => ta σ H fun x H2 => ∃ a C dx fs, x = .ref a ∧ H2 a = some (.ins C dx fs) ∧ Cls K C ∧ NoAttr K C f ∧ fs.length < 1000 ∧
  Q σ (upd H2 a (.ins C dx (putF f v fs)))
theorem pg_fld {f : Str} (ho : PE X o ta) : PG X (.Attribute o f pos) (gFld X.K ta f) := by
  refine ⟨fun pins s σ H v u Q I r h => ?_⟩
  rw [assign_Attribute]
  refine wpAny_bind (wpAny_holding (thn (ho.run pins s σ H _ I h) fun ov s1 ⟨x, H1, I1, r1, a, C, dx, fs, ex, ea, c, n, l, q1⟩ => ?_))
  subst ex
  obtain rfl : ov = Value.ref a := r1
  refine wpAny_bind (wpAny_standAt (wpAny_bind (wpAny_holding (setattr_ok I1 ea c n l r fun s3 I3 => ?_))))
  exact wpAny_release ⟨σ, _, I3, q1⟩
/-- a constant of the module -/
def GC (mg : Str → Option Value) (x : Str) (v : V) : Prop := ∃ u, mg x = some u ∧ RelV v u
theorem pe_gv {v : V} (h : GC X.mg x v) (hg : Gl X x := by rfl) (hdb : (x == ("__debug__" : Str)) = false := by decide) : PE X (.Name x pos) (tC v) := by
  obtain ⟨u, hm, r⟩ := h
  exact pe_glob hg hm r hdb
end

/-! ### heaps: what is kept but for m, whose things may change -/
structure Kp (m : List Addr) (H H' : Hp) : Prop where
  st : ∀ b o, b ∉ m → H b = some o → H' b = some o
  mu : ∀ b, b ∈ m → Mut (H b)
  fr : ∀ b, H' b = none → H b = none
section
variable {m m' : List Addr} {H H1 H' : Hp} {K : PySem.W.Frag} {a p : Addr} {xs : List V} {o : HO}
theorem Kp.refl (H : Hp) : Kp [] H H := ⟨fun _ _ _ h => h, fun b h => (nomatch h), fun _ h => h⟩
theorem Kp.same (k : Kp [] H H') : Same H H' := fun b o h => k.st b o (by simp) h
theorem Kp.trans (k : Kp m H H1) (k' : Kp m' H1 H') (h : ∀ b, b ∈ m' → b ∈ m ∨ H b = none) : Kp m H H' := by
  refine ⟨fun b o hb e => k'.st b o (fun hm => ?_) (k.st b o hb e), k.mu, fun b e => k.fr b (k'.fr b e)⟩
  rcases h b hm with h | h
  · exact hb h
  · rw [e] at h; cases h
theorem Kp.trans0 (k : Kp m H H1) (k' : Kp [] H1 H') : Kp m H H' := k.trans k' fun b h => by cases h
theorem Kp.trans1 (k : Kp m H H1) (k' : Kp m H1 H') : Kp m H H' := k.trans k' fun b h => .inl h
theorem Kp.new (h : H p = none) : Kp [] H (upd H p o) := ⟨fun b u _ e => (by rw [upd_ne (ne_of_none e h)]; exact e), fun b h => (nomatch h), fun b e => by
  by_cases hb : b = p
  · rw [hb]; exact h
  · rw [upd_ne hb] at e; exact e⟩
theorem Kp.set (h : Mut (H p)) : Kp [p] H (upd H p o) := ⟨fun b u hb e => (by rw [upd_ne (by simpa using hb)]; exact e), fun b hb => (by rw [List.mem_singleton.mp hb]; exact h), fun b e => by
  by_cases hb : b = p
  · rw [hb, upd_same] at e; cases e
  · rw [upd_ne hb] at e; exact e⟩
theorem Kp.wide (k : Kp m H H') (h : ∀ b, b ∈ m → b ∈ m') (hm : ∀ b, b ∈ m' → Mut (H b)) : Kp m' H H' := ⟨fun b o hb e => k.st b o (fun z => hb (h b z)) e, hm, k.fr⟩
theorem Kp.ofSame (h : Same H H') : Kp [] H H' := ⟨fun b o _ e => h b o e, fun b h => (nomatch h), fun b e => h.free e⟩
theorem Kp.sqT (k : Kp m H H') (h : SqT K H a xs) : SqT K H' a xs := by
  rcases h with (h | ⟨o, h⟩) | h
  · exact .inl (.inl (k.st _ _ (fun z => by have q := k.mu _ z; rw [h] at q; exact q) h))
  · exact .inl (.inr ⟨o, k.st _ _ (fun z => by have q := k.mu _ z; rw [h] at q; exact q) h⟩)
  · exact .inr h
theorem Kp.sqL (k : Kp m H H') (h : SqL K H a xs) (ha : a ∉ m) : SqL K H' a xs := by
  rcases h with (h | ⟨o, h⟩) | h
  · exact .inl (.inl (k.st _ _ ha h))
  · exact .inl (.inr ⟨o, k.st _ _ ha h⟩)
  · exact .inr h
theorem Kp.sqL0 (k : Kp [] H H') (h : SqL K H a xs) : SqL K H' a xs := k.sqL h (by simp)
theorem Kp.some (k : Kp m H H') (h : H a = some o) : ∃ u, H' a = some u := by
  cases e : H' a with
  | none => have q := k.fr a e; rw [h] at q; cases q
  | some u => exact ⟨u, rfl⟩
end

/-! ### a def that may raise, with what its body needs -/
section
variable {P : Program} {w : World} {K : PySem.W.Frag} {mg : Str → Option Value} {base : Heap}
theorem okT {x qual : Str} {st : Stmt} {f : Addr} {fd : FuncData} {N ps : List Str} {k : Nat} {sp : Sp} (F : Fun K x qual st f fd) (S : FnScope N ps (defScope st)) (len : ∀ vs H Q E, sp vs H Q E → vs.length = ps.length)
    (hbody : ∀ (cdv : Value) (A : Around) (outer : List Env) (s : Shared) (H : Hp) (vs : List V) (Q : VK) (E : XK), Room k (A.deeper (envOfC qual (defScope st) s.heap.objs.size f cdv)) →
      Takes (cxOf (L2.CX P w) P w K mg base N qual (defScope st) f cdv A outer s H E) (fun cls d _ H => E cls d H) →
      PassesOwn (model P w) (A.deeper (envOfC qual (defScope st) s.heap.objs.size f cdv)) (envOfC qual (defScope st) s.heap.objs.size f cdv) (cxOf (L2.CX P w) P w K mg base N qual (defScope st) f cdv A outer s H E).xe → sp vs H Q E →
      ∃ t, PSs (cxOf (L2.CX P w) P w K mg base N qual (defScope st) f cdv A outer s H E) (defBody st) t ∧ t { nx := fun _ H' => Q .non H', rt := Q } (start N vs) H) : FnOk P w K mg base (L2.CX P w) (k + 1) f fd ps sp :=
  F.okX S len fun cdv A outer s H vs Q E hr h => hbody cdv A outer s H vs Q E hr (takes_of rfl rfl rfl rfl) (passes_of rfl) h
end
end AB
set_option Elab.async false
set_option linter.all false
set_option maxRecDepth 100000
set_option maxHeartbeats 4000000
/-! ABzip: zip of a list and a tuple. -/
namespace AB
open PySem PySem.Spec PyProof.Rows L2
def ItzM (K : PySem.W.Frag) (a b : Addr) : It :=
  ⟨fun i H => ∃ (xs ys : List V) (x y : V), SqL K H a xs ∧ SqT K H b ys ∧ xs[i]? = some x ∧ ys[i]? = some y,
    fun i H v H' => ∃ T x y, v = .ref T ∧ H T = none ∧ H' = upd H T (.tup [x, y]) ∧ (∀ xs, SqL K H a xs → xs[i]? = some x) ∧ ∀ ys, SqT K H b ys → ys[i]? = some y,
    fun i H => ∃ xs ys : List V, SqL K H a xs ∧ SqT K H b ys ∧ xs.length = ys.length ∧ xs.length = i⟩
theorem zipM_item {prog : Program} {w : World} {A : Around} {E : Value → Shared → Prop} {s : Shared} {z TI TO i1 i2 l1 l2 : Addr} {k : Nat} {xs ys : Array Value} {a1 a2 : Value} {Q : Option Value → Shared → Prop} (hh : A.handled = none)
    (S : ZipSep2 z TI TO i1 i2 [i1, l1] [i2, l2])
    (hz : IsZip s.heap z TI TO .none) (hTI : IsTupOf2 s.heap TI (.ref i1) (.ref i2)) (hTO : IsTupOf2 s.heap TO a1 a2) (h1 : s.heap.IsListIter i1 l1 k) (h2 : s.heap.IsTupleIter i2 l2 k) (hl1 : s.heap.IsList l1 xs) (hl2 : s.heap.IsTuple l2 ys)
    (n1 : l1 ≠ i1) (n2 : l2 ≠ i2) (hx : k < xs.size) (hy : k < ys.size)
    (hQ : ∀ x1 x2 h' tk, xs[k]? = some x1 → ys[k]? = some x2 → IsZip h' z TI TO (rawInt s.heap.objs.size) → IsTupOf2 h' TO x1 x2 → h'.IsListIter i1 l1 (k + 1) → h'.IsTupleIter i2 l2 (k + 1) → IsTupOf2 h' s.heap.objs.size x1 x2 → h'.objs.size = s.heap.objs.size + 1 →
      (∀ c o, c ≠ z → c ≠ TO → c ≠ i1 → c ≠ i2 → s.heap.get? c = some o → h'.get? c = some o) → Q (some (.ref s.heap.objs.size)) { s with heap := h', toks := tk }) :
    wpAny (model prog w) A (pyNext (.ref z)) Q E s := by
  have hT : s.TypeIs (.ref z) "zip" := ⟨_, hz, rfl⟩
  unfold pyNext
  exact wpAny_bind (wpAny_attempt (wpAny_callSpecial?_slot (name := Str.ofString "__next__") hT F.slot_zip_next
    (wpAny_call_entry F.slot_zip_next hT F.entry_zip_next
      (zipD2_next_item (P1 := fun i v => xs[i]? = some v) (P2 := fun i v => ys[i]? = some v) (St1 := fun i h => h.IsListIter i1 l1 i ∧ h.IsList l1 xs) (St2 := fun i h => h.IsTupleIter i2 l2 i ∧ h.IsTuple l2 ys) S (Draws.list (by exact hh) i1 l1 n1 xs) (Draws.tuple (by exact hh) i2 l2 n2 ys) hz hTI hTO ⟨h1, hl1⟩ ⟨h2, hl2⟩ hx hy
        fun x1 x2 h' tk p1 p2 a1 a2 a3 a4 a5 a6 a7 => wpAny_pure (hQ x1 x2 h' tk p1 p2 a1 a2 a3.1 a4.1 a5 a6 a7)) (F.args_zip_next_1 _))))
theorem zipM_end {prog : Program} {w : World} {A : Around} {E : Value → Shared → Prop} {s : Shared} {z TI TO i1 i2 l1 l2 : Addr} {k : Nat} {xs ys : Array Value} {a1 a2 : Value} {Q : Option Value → Shared → Prop} (hh : A.handled = none)
    (S : ZipSep2 z TI TO i1 i2 [i1, l1] [i2, l2])
    (hz : IsZip s.heap z TI TO .none) (hTI : IsTupOf2 s.heap TI (.ref i1) (.ref i2)) (hTO : IsTupOf2 s.heap TO a1 a2) (h1 : s.heap.IsListIter i1 l1 k) (h2 : s.heap.IsTupleIter i2 l2 k) (hl1 : s.heap.IsList l1 xs) (hl2 : s.heap.IsTuple l2 ys)
    (n1 : l1 ≠ i1) (n2 : l2 ≠ i2) (hx : k = xs.size) (hy : k = ys.size)
    (hQ : ∀ h' tk, (∀ c o, c ≠ z → c ≠ TO → c ≠ i1 → c ≠ i2 → s.heap.get? c = some o → h'.get? c = some o) → Q none { s with heap := h', toks := tk }) :
    wpAny (model prog w) A (pyNext (.ref z)) Q E s := by
  have hT : s.TypeIs (.ref z) "zip" := ⟨_, hz, rfl⟩
  unfold pyNext
  refine wpAny_bind (wpAny_attempt (wpAny_callSpecial?_slot (name := Str.ofString "__next__") hT F.slot_zip_next
    (wpAny_call_entry F.slot_zip_next hT F.entry_zip_next
      (zipD2_next_end (P1 := fun i v => xs[i]? = some v) (P2 := fun i v => ys[i]? = some v) (St1 := fun i h => h.IsListIter i1 l1 i ∧ h.IsList l1 xs) (St2 := fun i h => h.IsTupleIter i2 l2 i ∧ h.IsTuple l2 ys) S (Draws.list (by exact hh) i1 l1 n1 xs) (Draws.tuple (by exact hh) i2 l2 n2 ys) hz hTI hTO ⟨h1, hl1⟩ ⟨h2, hl2⟩
        (Nat.le_of_eq hx) (Nat.le_of_eq hy) (.inl hx) fun h' tk e hk he => ?_) (F.args_zip_next_1 _))))
  obtain ⟨o, ho, hc⟩ := he
  refine wpAny_bind (wpAny_isInstance (T := "StopIteration") (b := true) ⟨o, ho, hc⟩ isSubtype_stop ?_)
  exact wpAny_pure (hQ _ _ hk)
theorem turn_zipM {P : Program} {w : World} {K : PySem.W.Frag} {elts : List Expr} {kk : Nat} {tpos : Pos} {a b z TI TO i1 i2 : Addr} (S : ZipSep2 z TI TO i1 i2 [i1, a] [i2, b]) (n1 : a ≠ i1) (n2 : b ≠ i2) :
    Turn P w K (.Tuple elts kk tpos) (ItzM K a b) [z, TI, TO, i1, i2] z (fun i h => IsZip h z TI TO .none ∧ IsTupOf2 h TI (.ref i1) (.ref i2) ∧ (∃ x y, IsTupOf2 h TO x y) ∧ h.IsListIter i1 a i ∧ h.IsTupleIter i2 b i) where
  mem := by simp
  obj := fun i h st c hc => by
    obtain ⟨hz, hTI, ⟨x, y, hTO⟩, ⟨o1, e1, _, d1⟩, ⟨o2, e2, _, d2⟩⟩ := st
    have e' : c = z ∨ c = TI ∨ c = TO ∨ c = i1 ∨ c = i2 := by simpa using hc
    rcases e' with q | q | q | q | q
    · rw [q]; exact ⟨_, hz, fun v q => nomatch q⟩
    · rw [q]; exact ⟨_, hTI, fun v q => nomatch q⟩
    · rw [q]; exact ⟨_, hTO, fun v q => nomatch q⟩
    · rw [q]; exact ⟨o1, e1, fun v q => by rw [d1] at q; cases q⟩
    · rw [q]; exact ⟨o2, e2, fun v q => by rw [d2] at q; cases q⟩
  keep := fun i h h' st k => by
    obtain ⟨hz, hTI, ⟨x, y, hTO⟩, h1, h2⟩ := st
    exact ⟨k z (by simp) _ hz, k TI (by simp) _ hTI, ⟨x, y, k TO (by simp) _ hTO⟩, h1.at fun o q => k i1 (by simp) o q, h2.at fun o q => k i2 (by simp) o q⟩
  item := by
    intro X hP hw hK hc i pins s σ H E I hf st hg
    subst hP hw hK
    obtain ⟨hz, hTI, ⟨x0, y0, hTO⟩, h1, h2⟩ := st
    obtain ⟨xs, ys, x, y, hqx, hqy, hx, hy⟩ := hg
    obtain ⟨its, rv, p, _⟩ := I.list hqx
    obtain ⟨its2, rv2, p2, _⟩ := I.tuple hqy
    obtain ⟨u, hu, ru⟩ := rv.get hx
    obtain ⟨u2, hu2, ru2⟩ := rv2.get hy
    have hzl : z < s.heap.objs.size := Heap.lt_size hz
    have lx : i < its.length := (List.getElem?_eq_some_iff.mp hu).1
    have ly : i < its2.length := (List.getElem?_eq_some_iff.mp hu2).1
    refine zipM_item (I.ok.hd hc) S hz hTI hTO h1 h2 p.isList p2 n1 n2 (by simpa using lx) (by simpa using ly) fun x1 x2 h' tk e1 e2 z' TO' h1' h2' hT hsz hk => ?_
    have f1 : x1 = u := by
      have q : its[i]? = some x1 := by simpa using e1
      rw [hu] at q
      exact (Option.some.inj q).symm
    have f2 : x2 = u2 := by
      have q : its2[i]? = some x2 := by simpa using e2
      rw [hu2] at q
      exact (Option.some.inj q).symm
    subst f1 f2
    refine ⟨_, rfl, wpAny_letOwnedTupleGo_zip (s := { s with heap := h', toks := tk }) z' fun h'' z'' sb => ?_⟩
    have hT2 : h''.get? s.heap.objs.size = some { cls := .type "tuple", data := .seq #[x1, x2] } := (sb.2 _ (Nat.ne_of_gt hzl)).trans hT
    have new : ObjOk X.prog X.w (upd H s.heap.objs.size (.tup [x, y])) h'' s.heap.objs.size (.tup [x, y]) :=
      ⟨by show 2 ≤ sizeLine; decide, [x1, x2], .cons ru (.cons ru2 .nil), ⟨_, hT2, rfl, _, rfl⟩⟩
    have I1 : Inv X pins σ (upd H s.heap.objs.size (.tup [x, y])) { s with heap := h'', toks := tk } :=
      I.turnedNew (t' := tk) (ch := [z, TI, TO, i1, i2]) (fun c o hb q => (sb.2 c (fun q' => hb (by simp [q']))).trans (hk c o (fun q' => hb (by simp [q'])) (fun q' => hb (by simp [q'])) (fun q' => hb (by simp [q'])) (fun q' => hb (by simp [q'])) q)) hf (Nat.le_refl _) new
    refine ⟨.ref s.heap.objs.size, _, I1, rfl, ⟨_, x, y, rfl, I.hok.fresh (Nat.le_refl _), rfl, fun l hl => by rw [I.list_inj hl hqx]; exact hx, fun l hl => by rw [I.tuple_inj hl hqy]; exact hy⟩, ⟨z'', ?_, ⟨x1, x2, ?_⟩, ?_, ?_⟩, fun c hcm => ?_⟩
    · exact (sb.2 _ S.TIz).trans (hk _ _ S.TIz S.TITO S.TIi1 S.TIi2 hTI)
    · exact (sb.2 _ S.TOz).trans TO'
    · exact h1'.at fun o q => (sb.2 _ S.zi1.symm).trans q
    · exact h2'.at fun o q => (sb.2 _ S.zi2.symm).trans q
    · have hlt : c < s.heap.objs.size := by
        have e' : c = z ∨ c = TI ∨ c = TO ∨ c = i1 ∨ c = i2 := by simpa using hcm
        rcases e' with q | q | q | q | q
        · rw [q]; exact hzl
        · rw [q]; exact Heap.lt_size hTI
        · rw [q]; exact Heap.lt_size hTO
        · rw [q]; obtain ⟨_, e1, _⟩ := h1; exact Heap.lt_size e1
        · rw [q]; obtain ⟨_, e2, _⟩ := h2; exact Heap.lt_size e2
      rw [upd_ne (Nat.ne_of_lt hlt)]
      exact (hf c hcm).1
  done := by
    intro X hP hw hK hc i pins s σ H E I hf st hg
    subst hP hw hK
    obtain ⟨hz, hTI, ⟨x0, y0, hTO⟩, h1, h2⟩ := st
    obtain ⟨xs, ys, hqx, hqy, hl, hend⟩ := hg
    obtain ⟨its, rv, p, _⟩ := I.list hqx
    obtain ⟨its2, rv2, p2, _⟩ := I.tuple hqy
    have l1 := rv.length
    have l2 := rv2.length
    exact zipM_end (I.ok.hd hc) S hz hTI hTO h1 h2 p.isList p2 n1 n2 (by simp; omega) (by simp; omega) fun h' tk hk => ⟨rfl, I.turnedL (t' := tk) (ch := [z, TI, TO, i1, i2]) (fun c o hb q =>
      hk c o (fun q' => hb (by simp [q'])) (fun q' => hb (by simp [q'])) (fun q' => hb (by simp [q'])) (fun q' => hb (by simp [q'])) q) hf⟩
  self := fun A i s Q E st h => wpAny_pyIter_zip st.1 h
def iZipM (K : PySem.W.Frag) (ta : TA) : TI := fun σ H R => ta σ H fun vs H1 => ∃ a b xs ys, vs = [.ref a, .ref b] ∧ SqL K H1 a xs ∧ SqT K H1 b ys ∧ R (ItzM K a b) H1
theorem pi_zipM {X : Cx} {e e2 : Expr} {ta : TA} {p pos tpos : Pos} {elts : List Expr} {kk : Nat} (hg : Gl X "zip") (hm : X.mg "zip" = none) (ha : PA X [e, e2] ta)
    (hs : starEach [e, e2] X.env = (false, eval e X.env) :: starEach [e2] X.env := by rfl) (hpl : (backTo pos (starEach [e2] X.env)).any (·.1) = false := by rfl) :
    PI X (.Tuple elts kk tpos) (.Call (.Name "zip" p) [e, e2] [] pos) (iZipM X.K ta) := by
  refine ⟨fun pins s σ H R I h => ?_⟩
  refine Call_ (ld_blt I hg hm PyProof.Rows.boot_zip (PyProof.Rows.callWith_type1 (thn (ha.run pos pins s σ H _ I h) fun us s1 ⟨vs, H1, I1, r1, q1⟩ => ?_) hs hpl))
  obtain ⟨a, b, xs, ys, ex, hqx, hqy, q⟩ := q1
  subst ex
  cases r1 with
  | cons r rr =>
    cases rr with
    | cons r' rr =>
      cases rr
      cases r
      cases r'
      obtain ⟨its, rv, p1, _⟩ := I1.list hqx
      obtain ⟨its2, rv2, p2, _⟩ := I1.tuple hqy
      have la : a < s1.heap.objs.size := p1.lt
      have lb : b < s1.heap.objs.size := p2.lt
      refine zip_begins2 (begins_list a its.toArray) (begins_tuple b its2.toArray) p1.isList p2 fun h' hz hTI hTO h1 h2 hsz hk => wpAny_pyIter_zip hz ?_
      have I2 : Inv X pins σ H1 { s1 with heap := h' } := I1.kept (t' := s1.toks) hk
      have S := zip_sep2 (N := s1.heap.objs.size) (fp1 := [a]) (fp2 := [b]) (by simpa using la) (by simpa using lb)
      refine ⟨s1.heap.objs.size + 4, [s1.heap.objs.size + 4, s1.heap.objs.size + 2, s1.heap.objs.size + 3, s1.heap.objs.size, s1.heap.objs.size + 1], _, _, H1, rfl, I2, turn_zipM S (Nat.ne_of_lt la) (Nat.ne_of_lt (Nat.lt_succ_of_lt lb)), ⟨hz, hTI, ⟨_, _, hTO⟩, ⟨_, h1, rfl, rfl⟩, ⟨_, h2, rfl, rfl⟩⟩, fun c hcm => ?_, q⟩
      have e' : c = s1.heap.objs.size + 4 ∨ c = s1.heap.objs.size + 2 ∨ c = s1.heap.objs.size + 3 ∨ c = s1.heap.objs.size ∨ c = s1.heap.objs.size + 1 := by simpa using hcm
      have hle : s1.heap.objs.size ≤ c := by
        rcases e' with z | z | z | z | z
        · rw [z]; exact Nat.le_add_right _ _
        · rw [z]; exact Nat.le_add_right _ _
        · rw [z]; exact Nat.le_add_right _ _
        · rw [z]; exact Nat.le_refl _
        · rw [z]; exact Nat.le_add_right _ _
      exact I1.fpOk hle (I1.hok.fresh hle)
end AB
set_option Elab.async false
set_option linter.all false
set_option maxRecDepth 100000
set_option maxHeartbeats 4000000
/-! ABrev: list(reversed(a list)). -/
namespace AB
open PySem PySem.Spec PyProof.Rows L2
section
variable {prog : Program} {w : World} {A : Around} {E : Value → Shared → Prop} {s : Shared}
theorem ext_rev {R : Result → Shared → Prop} {S it l : Addr} {items : Array Value} (hh : A.handled = none) (hit : s.heap.IsRevIter it l ((items.size : Int) - 1)) (hl : s.heap.IsList l items) (hne : l ≠ it) (hSi : S ≠ it) (hSl : S ≠ l) (res : Value) (c₀ : Nat)
    (hS : s.heap.get? S = some { cls := .type "list", data := .seq #[] c₀ }) (hn : items.size ≤ sizeLine)
    (hR : ∀ h' tk acc' c', (∀ b o, b ≠ S → b ≠ it → s.heap.get? b = some o → h'.get? b = some o) → h'.get? S = some { cls := .type "list", dict := none, data := .seq acc' c', slots := #[] } →
      ItemsOf (fun i v => items[items.size - 1 - i]? = some v) acc' items.size → R (.ok (.ret res)) { s with heap := h', toks := tk }) :
    wpAny (model prog w) A.in1 (Builtin.List.listExtendWith (.ref S) (.ref it) res)
      (fun fin s' => match fin with | .done f => R (.ok f) s' | .again c' => c'.quiet = true ∧ codeAny (model prog w) A c' R s') (fun e s' => R (.error e) s') s := by
  have W := (Walks.listRev (prog := prog) (w := w) (A := A.in1) (show A.in1.handled = none from hh) it l hne items).toS
  have hSf : S ∉ [it, l] := by simp only [List.mem_cons, List.not_mem_nil, or_false, not_or]; exact ⟨hSi, hSl⟩
  have hT : s.TypeIs (.ref it) "list_reverseiterator" := hit.typeIs
  have h1 : Builtin.List.listSameRef (.ref S) (.ref it) = false := by simp [Builtin.List.listSameRef, hSi]
  unfold Builtin.List.listExtendWith
  refine wpAny_bind (wpAny_typeOf hT ?_)
  rw [if_neg (by rw [h1]; decide)]
  refine wpAny_bind (wpAny_pyIter_revIter hit ?_)
  refine wpAny_bind (wpAny_holding ?_)
  unfold Builtin.List.listLengthHint
  refine wpAny_bind (wpAny_specialOf hT RT.nolen_lri ?_)
  show wpAny _ A.in1 (specialOf (Value.ref it) (Str.ofString "__length_hint__") >>= _) _ _ _
  refine wpAny_bind (wpAny_specialOf hT RT.hint_lri ?_)
  generalize hid : ("list_reverseiterator.__length_hint__" : String) = id0
  wp_delta
  rw [show splitId id0 = some ("list_reverseiterator", "__length_hint__") from by subst hid; decide +kernel]
  subst hid
  refine wpAny_bind (wpAny_isInstance (b := true) hT (by rw [isSubtype_type]; kernel_rfl) ?_)
  refine wpAny_pure ?_
  rw [if_neg (by decide)]
  have e0 : ((items.size : Nat) : Int) - 1 - ((0 : Nat) : Int) = (items.size : Int) - 1 := by omega
  refine wpAny_pure ⟨plainId_quiet F.plain_extend_loop _, codeAny_extend_loopS W hn _ hSf _ items.size 0 _ _ _ rfl (Nat.zero_le _) ⟨Nat.zero_le _, by rw [e0]; exact hit, hl⟩ hS (ItemsOf.nil _) fun s' acc' c' hm hS' hacc => ?_⟩
  rw [Moved.eq_with hm]
  refine hR s'.heap s'.toks acc' c' (fun b o hb hb2 e => hm.heap b o (fun hmem => ?_) e) hS' hacc
  rcases List.mem_cons.mp hmem with e' | hmem
  · exact hb e'
  · exact hb2 (List.mem_singleton.mp hmem)
theorem call_list_rev {it l : Addr} {items : Array Value} {Q : Value → Shared → Prop} (hh : A.handled = none) (hit : s.heap.IsRevIter it l ((items.size : Int) - 1)) (hl : s.heap.IsList l items) (hne : l ≠ it) (hn : items.size ≤ sizeLine)
    (hQ : ∀ (h' : Heap) (tk : Nat) (acc : Array Value) (c : Nat), (∀ b o, b ≠ it → s.heap.get? b = some o → h'.get? b = some o) → ItemsOf (fun i v => items[items.size - 1 - i]? = some v) acc items.size →
      h'.get? s.heap.objs.size = some { cls := .type "list", data := .seq acc c } → Q (.ref s.heap.objs.size) { s with heap := h', toks := tk }) :
    wpAny (model prog w) A (call (.type "list") [.ref it]) Q E s := by
  refine callType_codes (Q₁ := fun obj s₁ => obj = .ref s.heap.objs.size ∧ s₁ = { s with heap := s.heap.push { cls := .type "list", data := .seq #[] } }) PySem.F.called_list (PySem.F.typeCall_list_1 _) PySem.F.entry_list_init
    (code_list_new _ ⟨rfl, rfl⟩) fun obj s₁ h₁ => ?_
  obtain ⟨rfl, rfl⟩ := h₁
  have hS : (s.heap.push { cls := .type "list", data := .seq #[] }).get? s.heap.objs.size = some { cls := .type "list", data := .seq #[] } := Heap.get?_push_size _ rfl
  have hSi : s.heap.objs.size ≠ it := by
    obtain ⟨o, ho, _⟩ := hit
    exact Nat.ne_of_gt (Heap.lt_size ho)
  have hSl : s.heap.objs.size ≠ l := by
    obtain ⟨o, ho, _⟩ := hl
    exact Nat.ne_of_gt (Heap.lt_size ho)
  refine ⟨⟨_, hS, rfl⟩, PySem.F.args_list_init_2 _ _, ?_⟩
  show wpAny _ _ (do let old ← Builtin.List.listItems (.ref s.heap.objs.size); Builtin.List.listUpdate (.ref s.heap.objs.size) (fun _ => #[]); letGo old.toList.reverse; Builtin.List.listExtendWith (.ref s.heap.objs.size) (.ref it) .none) _ _ _
  refine wpAny_bind ?_
  unfold Builtin.List.listItems
  refine wpAny_bind (wpAny_seqItems hS rfl (wpAny_pure ?_))
  show wpAny _ _ (updateSeq s.heap.objs.size (fun _ => #[]) >>= fun _ => letGo (#[] : Array Value).toList.reverse >>= fun _ => Builtin.List.listExtendWith (.ref s.heap.objs.size) (.ref it) .none) _ _ _
  refine wpAny_bind (wpAny_updateSeq hS rfl ?_)
  have hS₂ := Heap.get?_update_self (Obj.mapSeq (fun _ => (#[] : Array Value))) hS rfl
  have oth : ∀ b o, b ≠ s.heap.objs.size → s.heap.get? b = some o → ((s.heap.push { cls := .type "list", data := .seq #[] }).update s.heap.objs.size (Obj.mapSeq (fun _ => (#[] : Array Value)))).get? b = some o :=
    fun b o hb e => (Heap.get?_update_other _ _ (Ne.symm hb)).trans (Heap.get?_push_of_some _ e)
  refine wpAny_bind (wpAny_letGo ?_)
  refine ext_rev (A := A.in1) hh (hit.at fun o e => oth _ _ hSi.symm e) (hl.at fun o e => oth _ _ hSl.symm e) hne hSi hSl .none _ hS₂ hn fun h' tk acc' c' hk hS' hacc => ?_
  exact ⟨rfl, hQ h' tk acc' c' (fun b o hb e => hk b o (Nat.ne_of_lt (Heap.lt_size e)) hb (oth b o (Nat.ne_of_lt (Heap.lt_size e)) e)) hacc hS'⟩
end
def tListRev (K : PySem.W.Frag) (te : TE) : TE := fun σ H Q => te σ H fun x H1 => ∃ a xs, x = .ref a ∧ SqL K H1 a xs ∧ ∀ p, H1 p = none → Q (.ref p) (upd H1 p (.lst xs.reverse))
theorem pe_listRev {X : Cx} {e : Expr} {te : TE} {p p2 pos pos2 : Pos} (hc : X.calm = true) (hg : Gl X "list") (hm : X.mg "list" = none) (hg2 : Gl X "reversed") (hm2 : X.mg "reversed" = none) (he : PE X e te)
    (hs : starEach [e] X.env = (false, eval e X.env) :: starEach [] X.env := by rfl)
    (hs2 : starEach [.Call (.Name "reversed" p2) [e] [] pos2] X.env = (false, eval (.Call (.Name "reversed" p2) [e] [] pos2) X.env) :: starEach [] X.env := by rfl) :
    PE X (.Call (.Name "list" p) [.Call (.Name "reversed" p2) [e] [] pos2] [] pos) (tListRev X.K te) := by
  refine ⟨fun pins s σ H Q I h => ?_⟩
  refine Call_ (ld_blt I hg hm PyProof.Rows.boot_list (PyProof.Rows.callWith_type1 (args_cons (Call_ (ld_blt I hg2 hm2 PyProof.Rows.boot_reversed (PyProof.Rows.callWith_type1 (args_cons (thn (he.run pins s σ H _ I h) fun u s1 ⟨v, H1, I1, r1, q1⟩ => args_nil ?_) hs) hs rfl))) hs2) hs2 rfl))
  obtain ⟨a, xs, ev, hq, q⟩ := q1
  subst ev
  obtain rfl : u = Value.ref a := r1
  obtain ⟨its, rv, p', hz⟩ := I1.list hq
  refine call_reversed_list p'.isList (args_nil ?_)
  have k0 : ∀ b o, s1.heap.get? b = some o → (s1.heap.push (revObj a ((its.toArray.size : Int) - 1))).get? b = some o := fun b o e => Heap.get?_push_of_some _ e
  have I2 : Inv X pins σ H1 { s1 with heap := s1.heap.push (revObj a ((its.toArray.size : Int) - 1)) } := I1.kept (t' := s1.toks) k0
  obtain ⟨f0, f1, f2, f3, f4, f5⟩ := I1.fpOk (H' := H1) (b := s1.heap.objs.size) (Nat.le_refl _) (I1.hok.fresh (Nat.le_refl _))
  have hl := p'.isList
  obtain ⟨ol, hol, _⟩ := id hl
  have hne : a ≠ s1.heap.objs.size := Nat.ne_of_lt (Heap.lt_size hol)
  have hn : its.toArray.size ≤ sizeLine := by rw [List.size_toArray, ← rv.length]; exact hz
  refine call_list_rev (s := { s1 with heap := s1.heap.push (revObj a ((its.toArray.size : Int) - 1)) }) (I1.ok.hd hc) ⟨_, Heap.get?_push_size _ rfl, rfl, rfl⟩ (hl.push _) hne hn fun h' tk acc c hk hi hS => ?_
  have kk : ∀ b o, s1.heap.get? b = some o → h'.get? b = some o := fun b o e => hk b o (Nat.ne_of_lt (Heap.lt_size e)) (k0 b o e)
  have hS1 : s1.heap.objs.size ≤ (s1.heap.push (revObj a ((its.toArray.size : Int) - 1))).objs.size := by rw [Heap.size_push]; exact Nat.le_succ _
  exact ⟨.ref _, upd H1 _ (.lst xs.reverse), I1.laid (t' := tk) kk hS1 (show ObjOk X.prog X.w _ _ _ (.lst xs.reverse) from ⟨by rw [List.length_reverse]; exact hz, acc.toList, c, RT.vals_rev rv hi, by rw [Array.toArray_toList]; exact hS⟩), rfl, q _ (I1.hok.fresh hS1)⟩
end AB
set_option Elab.async false
set_option linter.all false
set_option maxRecDepth 100000
set_option maxHeartbeats 4000000
/-! ABk: the hand layer's rules with the written part K said, so that they may stand within a comprehension. -/
namespace AB
open PySem L2
section
variable {X : Cx} (K : PySem.W.Frag) (h : X.K = K)
include h
theorem k_ixL : IxR X (rIxL K) := h ▸ ix_list
theorem k_ixT : IxR X (rIxT K) := h ▸ ix_tup
theorem k_len : CallR X (.builtin "len") (fun xs H Q => ∃ p ys, xs = [.ref p] ∧ (SqL K H p ys ∨ SqT K H p ys) ∧ Q (.int ys.length) H) := h ▸ call_len_seq
theorem k_isi : CallR X (.builtin "isinstance") (rIsi K) := h ▸ call_isi
theorem k_isiT : CallR X (.builtin "isinstance") (rIsiT K) := h ▸ call_isiT
theorem k_all (hc : X.calm = true) : CallR X (.builtin "all") (rAll K) := h ▸ cr_all hc
theorem k_any (hc : X.calm = true) : CallR X (.builtin "any") (rAny K) := h ▸ cr_any hc
theorem k_sum (hc : X.calm = true) : CallR X (.builtin "sum") (rSum K) := h ▸ cr_sum hc
theorem k_in : OpR X (compareOp .In) (rIn K false) := h ▸ op_in_seq
theorem k_nin : OpR X (compareOp .NotIn) (rIn K true) := h ▸ op_notIn_seq
theorem k_eqD (hu : X.A.units + 64 < cLine) : OpR X (compareOp .Eq) (rEqD K) := h ▸ op_eqD hu
theorem k_neD (hu : X.A.units + 64 < cLine) : OpR X (compareOp .NotEq) (rNeD K) := h ▸ op_neD hu
theorem k_catA : OpR X (binaryOp .Add) (rCatA K) := h ▸ op_catA
theorem k_repT : OpR X (binaryOp .Mult) (rRepT K) := h ▸ op_repT
theorem k_slL : SlR X (rSlL K) := h ▸ sl_list
theorem k_slT : SlR X (rSlA K) := h ▸ sl_tupA
theorem k_listOf : CallR X (.type "list") (fun xs H Q => ∃ p ys, xs = [.ref p] ∧ (SqL K H p ys ∨ SqT K H p ys) ∧ ∀ l, H l = none → Q (.ref l) (upd H l (.lst ys))) := h ▸ call_list_of
theorem k_tupOf : CallR X (.type "tuple") (fun xs H Q => ∃ p ys, xs = [.ref p] ∧ ((SqL K H p ys ∧ ∀ l, H l = none → Q (.ref l) (upd H l (.tup ys))) ∨ (SqT K H p ys ∧ Q (.ref p) H))) := h ▸ call_tuple_of
theorem k_fld {e : Expr} {f : Str} {ta : TE} (p : PE X e (tFld X.K ta f)) : PE X e (tFld K ta f) := h ▸ p
theorem k_bm {e : Expr} {T : String} {r : V → List V → Hp → VK → Prop} {to : TE} {t : TA} (p : PE X e (tBM X.K T r to t)) : PE X e (tBM K T r to t) := h ▸ p
theorem k_bm0 {e : Expr} {T : String} {r : V → List V → Hp → VK → Prop} {to : TE} (p : PE X e (tBM0 X.K T r to)) : PE X e (tBM0 K T r to) := h ▸ p
theorem k_tru {e : Expr} {ta : TE} (p : PT X e (fun σ H Q => ta σ H fun x H' => ∃ k, TruV X.K x H' k ∧ Q k H')) : PT X e (fun σ H Q => ta σ H fun x H' => ∃ k, TruV K x H' k ∧ Q k H') := h ▸ p
theorem k_notT {e : Expr} {ta : TE} (p : PE X e (tNotT X.K ta)) : PE X e (tNotT K ta) := h ▸ p
theorem k_star {es : List Expr} {te : TE} {t : TA} (p : PA X es (StX.tStar X.K te t)) : PA X es (StX.tStar K te t) := h ▸ p
theorem k_listRev {e : Expr} {te : TE} (p : PE X e (tListRev X.K te)) : PE X e (tListRev K te) := h ▸ p
theorem k_piL {tg l : Expr} {tl : TE} (p : PI X tg l (iList X.K tl)) : PI X tg l (iList K tl) := h ▸ p
theorem k_piT {tg l : Expr} {tl : TE} (p : PI X tg l (iTup X.K tl)) : PI X tg l (iTup K tl) := h ▸ p
theorem k_piEnum {tg l : Expr} {ta : TA} (p : PI X tg l (iEnum X.K ta)) : PI X tg l (iEnum K ta) := h ▸ p
theorem k_piZip {tg l : Expr} {ta : TA} (p : PI X tg l (iZip X.K ta)) : PI X tg l (iZip K ta) := h ▸ p
theorem k_piZipM {tg l : Expr} {ta : TA} (p : PI X tg l (iZipM X.K ta)) : PI X tg l (iZipM K ta) := h ▸ p
theorem k_piRev {tg l : Expr} {ta : TA} (p : PI X tg l (iRev X.K ta)) : PI X tg l (iRev K ta) := h ▸ p
theorem k_gfld {e : Expr} {f : Str} {ta : TE} (p : PG X e (gFld X.K ta f)) : PG X e (gFld K ta f) := h ▸ p
end
end AB
set_option Elab.async false
set_option linter.all false
set_option maxRecDepth 100000
set_option maxHeartbeats 4000000
/-! ABlc: comprehensions by what each item is; types of sequences. -/
namespace AB
open PySem L2
theorem TyX.sqT {K : PySem.W.Frag} {H : Hp} {a : Addr} {xs : List V} (h : SqT K H a xs) : TyX K H (.ref a) (.type "tuple") := by
  rcases h with (h | ⟨o, h⟩) | ⟨o, its, n, hk, hc, _⟩
  · exact .base (.tup h)
  · exact .fTuple h
  · exact .kTuple hk hc
theorem TyX.sqL {K : PySem.W.Frag} {H : Hp} {a : Addr} {xs : List V} (h : SqL K H a xs) : TyX K H (.ref a) (.type "list") := by
  rcases h with (h | ⟨o, h⟩) | ⟨o, its, n, hk, hc, _⟩
  · exact .base (.lst h)
  · exact .base (.frz h)
  · exact .kList hk hc
theorem walk_zipM {K : PySem.W.Frag} {a b : Addr} {xs ys : List V} (hn : xs.length = ys.length) : Walk (ItzM K a b) xs.length (fun H => SqL K H a xs ∧ SqT K H b ys) (YPair (fun i => xs[i]?) (fun i => ys[i]?)) := by
  refine ⟨fun i _ hi q => ?_, fun _ q => ⟨xs, ys, q.1, q.2, hn, rfl⟩, fun i H v H' _ q y => ?_⟩
  · have h2 : i < ys.length := by omega
    exact ⟨xs, ys, xs[i], ys[i], q.1, q.2, by simp [hi], by simp [h2]⟩
  · obtain ⟨T, x, z, h1, h2, h3, h4, h5⟩ := y
    exact ⟨T, x, z, h1, h2, h3, h4 xs q.1, h5 ys q.2⟩
theorem Paired.imp {α β : Type} {R R' : α → β → Prop} (h : ∀ a b, R a b → R' a b) : ∀ {xs : List α} {ys : List β}, Paired R xs ys → Paired R' xs ys
  | _, _, .nil => .nil
  | _, _, .cons r t => .cons (h _ _ r) (Paired.imp h t)
theorem Paired.snoc {α β : Type} {R : α → β → Prop} {a : α} {b : β} : ∀ {xs : List α} {ys : List β}, Paired R xs ys → R a b → Paired R (xs ++ [a]) (ys ++ [b])
  | _, _, .nil, h => .cons h .nil
  | _, _, .cons r t, h => .cons r (Paired.snoc t h)
theorem filter_range_succ (keep : Nat → Bool) (i : Nat) : (List.range (i + 1)).filter keep = if keep i = true then (List.range i).filter keep ++ [i] else (List.range i).filter keep := by
  rw [List.range_succ, List.filter_append]
  cases h : keep i <;> simp [h]
/-- a comprehension: the list's items are Rel of the turns kept -/
theorem lc_pair {J : It} {n : Nat} {G : Hp → Prop} {Y : Nat → Hp → V → Hp → Prop} (w : Walk J n G Y) {g : TG} {tt : TT} {te : TE} {vs : List Nat} {σ : L2.St} {H1 : Hp} {D : Addr} {Qd : Hp → Prop} (hn : n < sizeLine) (hD : H1 D = none)
    (keep : Nat → Bool) (m : List Addr) (S : Nat → Hp → Prop) (Rel : Nat → V → Hp → Prop) (mono : ∀ j v H H', Kp (D :: m) H H' → Rel j v H → Rel j v H') (hm : ∀ b ∈ m, Mut (H1 b))
    (h0 : S 0 (upd H1 D (.lst []))) (hG : ∀ i H, i ≤ n → Kp m H1 H → S i H → G H)
    (hs : ∀ i x H H', i < n → Kp m H1 H → (∃ acc, H D = some (.lst acc)) → (∀ b ∈ m, Mut (H b)) → S i H → Y i H x H' → ∀ (N : V → Hp → Prop) (F : Hp → Prop),
      (∀ y H4, keep i = true → Kp m H H4 → H4 D = H D → (∀ b ∈ m, Mut (H4 b)) → Rel i y H4 → (∀ acc, S (i + 1) (upd H4 D (.lst acc))) → N y H4) →
      (∀ H3, keep i = false → Kp m H H3 → H3 D = H D → (∀ b ∈ m, Mut (H3 b)) → S (i + 1) H3 → F H3) →
      g x (wipe σ vs) H' fun σ2 H2 => wipe σ2 vs = wipe σ vs ∧ tt σ2 H2 fun b H3 => if b = true then te σ2 H3 N else F H3)
    (hd : ∀ H acc, Kp m H1 H → (∀ b ∈ m, Mut (H b)) → S n H → H D = some (.lst acc) → Paired (fun j y => Rel j y H) ((List.range n).filter keep) acc → Qd H) :
    ∃ W : Nat → Nat → Hp → Prop, (∃ m, W 0 m (upd H1 D (.lst []))) ∧ ∀ i m H, W i m H →
      (J.stop i H ∧ Qd H) ∨ (J.go i H ∧ ∃ Nx : Hp → Prop, (∀ H', Nx H' → ∃ m', m' < m ∧ W (i + 1) m' H') ∧ ∀ x H', J.yld i H x H' → g x (wipe σ vs) H' fun σ2 H2 => wipe σ2 vs = wipe σ vs ∧ tt σ2 H2 fun b H3 =>
        if b = true then te σ2 H3 fun y H4 => ∃ acc, H4 D = some (.lst acc) ∧ acc.length < sizeLine ∧ Nx (upd H4 D (.lst (acc ++ [y]))) else Nx H3) := by
  have hDm : D ∉ m := fun z => by have q := hm D z; rw [hD] at q; exact q
  refine lc_it w (fun i H => Kp m H1 H ∧ (∀ b ∈ m, Mut (H b)) ∧ S i H ∧ ∃ acc, H D = some (.lst acc) ∧ acc.length ≤ i ∧ Paired (fun j y => Rel j y H) ((List.range i).filter keep) acc) ?_ (fun i H hi p => hG i H hi p.1 p.2.2.1) ?_ ?_
  · refine ⟨(Kp.new hD).wide (fun b h => nomatch h) hm, fun b hb => ?_, h0, [], upd_same, Nat.le_refl _, .nil⟩
    rw [upd_ne (fun z : b = D => hDm (by rw [← z]; exact hb))]
    exact hm b hb
  · intro i x H H' hi p y
    obtain ⟨k, hmu, hS, acc, hacc, hl, hp⟩ := p
    refine hs i x H H' hi k ⟨acc, hacc⟩ hmu hS y _ _ (fun v H4 hk k4 hD4 hm4 hr hS4 => ?_) (fun H3 hk k3 hD3 hm3 hS3 => ?_)
    · have hD4' : H4 D = some (.lst acc) := hD4.trans hacc
      have kk : Kp m H1 H4 := k.trans1 k4
      have muD : ∀ b ∈ D :: m, Mut (H4 b) := fun b hb => by
        rcases List.mem_cons.mp hb with e | e
        · rw [e, hD4']; exact True.intro
        · exact hm4 b e
      have kD : Kp (D :: m) H4 (upd H4 D (.lst (acc ++ [v]))) := (Kp.set (by rw [hD4']; exact True.intro)).wide (fun b hb => by rw [List.mem_singleton.mp hb]; simp) muD
      have muH : ∀ b ∈ D :: m, Mut (H b) := fun b hb => by
        rcases List.mem_cons.mp hb with e | e
        · rw [e, hacc]; exact True.intro
        · exact hmu b e
      refine ⟨acc, hD4', by omega, ⟨kk.trans (Kp.set (by rw [hD4']; exact True.intro)) fun b hb => .inr (by rw [List.mem_singleton.mp hb]; exact hD), fun b hb => ?_, hS4 _, acc ++ [v], upd_same, by simp; omega, ?_⟩⟩
      · rw [upd_ne (fun z : b = D => hDm (by rw [← z]; exact hb))]
        exact hm4 b hb
      · rw [filter_range_succ, if_pos hk]
        exact Paired.snoc (Paired.imp (fun j y r => mono j y H4 _ kD (mono j y H H4 (k4.wide (fun b hb => by simp [hb]) muH) r)) hp) (mono i v H4 _ kD hr)
    · refine ⟨k.trans1 k3, hm3, hS3, acc, hD3.trans hacc, by omega, ?_⟩
      rw [filter_range_succ, if_neg (by rw [hk]; exact Bool.false_ne_true)]
      refine Paired.imp (fun j y r => mono j y H H3 (k3.wide (fun b hb => by simp [hb]) fun b hb => ?_) r) hp
      rcases List.mem_cons.mp hb with e | e
      · rw [e, hacc]; exact True.intro
      · exact hmu b e
  · intro H p
    obtain ⟨k, hmu, hS, acc, hacc, hl, hp⟩ := p
    exact hd H acc k hmu hS hacc hp
/-- .. where nothing changes -/
theorem lc_pure {J : It} {n : Nat} {G : Hp → Prop} {Y : Nat → Hp → V → Hp → Prop} (w : Walk J n G Y) {g : TG} {tt : TT} {te : TE} {vs : List Nat} {σ : L2.St} {H1 : Hp} {D : Addr} {Qd : Hp → Prop} (hn : n < sizeLine) (hD : H1 D = none)
    (keep : Nat → Bool) (Rel : Nat → V → Hp → Prop) (mono : ∀ j v H H', Kp [D] H H' → Rel j v H → Rel j v H') (hG : ∀ H, Kp [] H1 H → G H)
    (hs : ∀ i x H H', i < n → Kp [] H1 H → Y i H x H' → ∀ (N : V → Hp → Prop) (F : Hp → Prop), (∀ y H4, keep i = true → Kp [] H H4 → Rel i y H4 → N y H4) → (∀ H3, keep i = false → Kp [] H H3 → F H3) →
      g x (wipe σ vs) H' fun σ2 H2 => wipe σ2 vs = wipe σ vs ∧ tt σ2 H2 fun b H3 => if b = true then te σ2 H3 N else F H3)
    (hd : ∀ H acc, Kp [] H1 H → H D = some (.lst acc) → Paired (fun j y => Rel j y H) ((List.range n).filter keep) acc → Qd H) :
    ∃ W : Nat → Nat → Hp → Prop, (∃ m, W 0 m (upd H1 D (.lst []))) ∧ ∀ i m H, W i m H →
      (J.stop i H ∧ Qd H) ∨ (J.go i H ∧ ∃ Nx : Hp → Prop, (∀ H', Nx H' → ∃ m', m' < m ∧ W (i + 1) m' H') ∧ ∀ x H', J.yld i H x H' → g x (wipe σ vs) H' fun σ2 H2 => wipe σ2 vs = wipe σ vs ∧ tt σ2 H2 fun b H3 =>
        if b = true then te σ2 H3 fun y H4 => ∃ acc, H4 D = some (.lst acc) ∧ acc.length < sizeLine ∧ Nx (upd H4 D (.lst (acc ++ [y]))) else Nx H3) := by
  refine lc_pair w hn hD keep [] (fun _ _ => True) Rel mono (fun b h => nomatch h) trivial (fun i H _ k _ => hG H k) ?_ (fun H acc k _ _ h p => hd H acc k h p)
  intro i x H H' hi k hacc _ _ y N F hN hF
  obtain ⟨acc, hacc⟩ := hacc
  exact hs i x H H' hi k y N F (fun y H4 hk k4 r => hN y H4 hk k4 ((k4.st D _ (by simp) hacc).trans hacc.symm) (fun b h => nomatch h) r fun _ => trivial)
    (fun H3 hk k3 => hF H3 hk k3 ((k3.st D _ (by simp) hacc).trans hacc.symm) (fun b h => nomatch h) trivial)
theorem Paired.eqs {α : Type} {β : Type} {f : α → β} : ∀ {xs : List α} {ys : List β}, Paired (fun a b => b = f a) xs ys → ys = xs.map f
  | _, _, .nil => rfl
  | _, _, .cons r t => by rw [r, Paired.eqs t]; rfl
theorem map_range_getD {α β : Type} (g : α → β) (d : α) (xs : List α) : (List.range xs.length).map (fun j => g (xs.getD j d)) = xs.map g := by
  apply List.ext_getElem
  · simp
  · intro i h1 h2
    simp at h1
    simp [h1]
theorem map_range_zip {α β γ δ : Type} (f : α → β → γ) (g : γ → δ) (d : α) (e : β) (xs : List α) (ys : List β) (h : xs.length = ys.length) : (List.range xs.length).map (fun j => g (f (xs.getD j d) (ys.getD j e))) = (List.zipWith f xs ys).map g := by
  apply List.ext_getElem
  · simp [h]
  · intro i h1 h2
    simp at h1
    have h3 : i < ys.length := by omega
    simp [h1, h3]
theorem map_at {α β : Type} {g : α → β} {xs : List α} {j : Nat} {x : β} (h : (xs.map g)[j]? = some x) : ∃ n, xs[j]? = some n ∧ x = g n := by
  rw [List.getElem?_map] at h
  obtain ⟨n, e, r⟩ := Option.map_eq_some_iff.mp h
  exact ⟨n, e, r.symm⟩
theorem ite_of {b : Bool} {A B : Prop} (h1 : b = true → A) (h2 : b = false → B) : if b = true then A else B := by
  cases b with
  | true => exact h1 rfl
  | false => exact h2 rfl
theorem filter_all (n : Nat) : (List.range n).filter (fun _ => true) = List.range n := by simp
/-- .. where nothing changes, the new list in sight -/
theorem lc_pureD {J : It} {n : Nat} {G : Hp → Prop} {Y : Nat → Hp → V → Hp → Prop} (w : Walk J n G Y) {g : TG} {tt : TT} {te : TE} {vs : List Nat} {σ : L2.St} {H1 : Hp} {D : Addr} {Qd : Hp → Prop} (hn : n < sizeLine) (hD : H1 D = none)
    (keep : Nat → Bool) (Rel : Nat → V → Hp → Prop) (mono : ∀ j v H H', Kp [D] H H' → Rel j v H → Rel j v H') (hG : ∀ H, Kp [] H1 H → G H)
    (hs : ∀ i x H H', i < n → Kp [] H1 H → (∃ acc, H D = some (.lst acc)) → Y i H x H' → ∀ (N : V → Hp → Prop) (F : Hp → Prop), (∀ y H4, keep i = true → Kp [] H H4 → Rel i y H4 → N y H4) → (∀ H3, keep i = false → Kp [] H H3 → F H3) →
      g x (wipe σ vs) H' fun σ2 H2 => wipe σ2 vs = wipe σ vs ∧ tt σ2 H2 fun b H3 => if b = true then te σ2 H3 N else F H3)
    (hd : ∀ H acc, Kp [] H1 H → H D = some (.lst acc) → Paired (fun j y => Rel j y H) ((List.range n).filter keep) acc → Qd H) :
    ∃ W : Nat → Nat → Hp → Prop, (∃ m, W 0 m (upd H1 D (.lst []))) ∧ ∀ i m H, W i m H →
      (J.stop i H ∧ Qd H) ∨ (J.go i H ∧ ∃ Nx : Hp → Prop, (∀ H', Nx H' → ∃ m', m' < m ∧ W (i + 1) m' H') ∧ ∀ x H', J.yld i H x H' → g x (wipe σ vs) H' fun σ2 H2 => wipe σ2 vs = wipe σ vs ∧ tt σ2 H2 fun b H3 =>
        if b = true then te σ2 H3 fun y H4 => ∃ acc, H4 D = some (.lst acc) ∧ acc.length < sizeLine ∧ Nx (upd H4 D (.lst (acc ++ [y]))) else Nx H3) := by
  refine lc_pair w hn hD keep [] (fun _ _ => True) Rel mono (fun b h => nomatch h) trivial (fun i H _ k _ => hG H k) ?_ (fun H acc k _ _ h p => hd H acc k h p)
  intro i x H H' hi k hacc _ _ y N F hN hF
  have hacc0 := hacc
  obtain ⟨acc, hacc⟩ := hacc
  exact hs i x H H' hi k hacc0 y N F (fun y H4 hk k4 r => hN y H4 hk k4 ((k4.st D _ (by simp) hacc).trans hacc.symm) (fun b h => nomatch h) r fun _ => trivial)
    (fun H3 hk k3 => hF H3 hk k3 ((k3.st D _ (by simp) hacc).trans hacc.symm) (fun b h => nomatch h) trivial)
/-- items that are addresses -/
theorem refs_of {R : Nat → Addr → Prop} : ∀ {js : List Nat} {acc : List V}, Paired (fun j v => ∃ l, v = V.ref l ∧ R j l) js acc → ∃ as : List Addr, acc = as.map V.ref ∧ Paired R js as
  | _, _, .nil => ⟨[], rfl, .nil⟩
  | _, _, .cons r t => by
    obtain ⟨l, e, h⟩ := r
    obtain ⟨as, e2, h2⟩ := refs_of t
    exact ⟨l :: as, by rw [e, e2]; rfl, .cons h h2⟩
theorem paired_get {α β : Type} {R : α → β → Prop} : ∀ {xs : List α} {ys : List β}, Paired R xs ys → ∀ i (h1 : i < xs.length) (h2 : i < ys.length), R xs[i] ys[i]
  | _, _, .nil, i, h, _ => by simp at h
  | _, _, .cons r t, 0, _, _ => r
  | _, _, .cons r t, i + 1, h1, h2 => paired_get t i (by simpa using h1) (by simpa using h2)
theorem range_get {β : Type} {R : Nat → β → Prop} {n : Nat} {ys : List β} (h : Paired R (List.range n) ys) : ys.length = n ∧ ∀ i (h2 : i < ys.length), R i ys[i] := by
  have hl := Paired.length h
  rw [List.length_range] at hl
  refine ⟨hl.symm, fun i h2 => ?_⟩
  have := paired_get h i (by simp; omega) h2
  simpa using this
end AB
set_option Elab.async false
set_option linter.all false
set_option maxRecDepth 100000
set_option maxHeartbeats 4000000
/-! ABdc: dict comprehensions with told keys and values; what was locked. -/
namespace AB
open PySem PySem.Spec PyProof.Rows L2
theorem kp_unlock {H H' : Hp} {d : Addr} {u : HO} {od : Obj} (h : H d = some u) (k : Kp [] (upd H d (.frz od u)) H') : Kp [] H (upd H' d u) := by
  refine ⟨fun b o _ e => ?_, fun b h => (nomatch h), fun b e => ?_⟩
  · by_cases c : b = d
    · subst c
      rw [h] at e
      rw [upd_same]
      exact e
    · rw [upd_ne c]
      exact k.same _ _ (by rw [upd_ne c]; exact e)
  · by_cases c : b = d
    · rw [c, upd_same] at e
      cases e
    · rw [upd_ne c] at e
      have := k.fr b e
      rwa [upd_ne c] at this
theorem val_none {kv : Nat → Key × V} {n i : Nat} (hi : i < n) (nd : ∀ i j, i < n → j < n → (kv i).1 = (kv j).1 → i = j) : ∀ m, m ≤ i → valV ((List.range m).map kv) (kv i).1 = none := by
  intro m hm
  unfold valV
  rw [List.find?_eq_none.mpr]
  · rfl
  · intro p hp
    obtain ⟨j, hj, rfl⟩ := List.mem_map.mp hp
    have hj2 := List.mem_range.mp hj
    simp only [decide_eq_true_eq]
    intro e
    have := nd j i (by omega) hi e
    omega
theorem dc_pure {J : It} {n : Nat} {G : Hp → Prop} {Y : Nat → Hp → V → Hp → Prop} (w : Walk J n G Y) {g : TG} {tt : TT} {tk tv : TE} {vs : List Nat} {σ : L2.St} {H1 : Hp} {D : Addr} {Qd : Hp → Prop} (hn : n < sizeLine) (hD : H1 D = none)
    (kv : Nat → Key × V) (nd : ∀ i j, i < n → j < n → (kv i).1 = (kv j).1 → i = j) (hG : ∀ H, Kp [] H1 H → G H)
    (hs : ∀ i x H H', i < n → Kp [] H1 H → Y i H x H' → ∀ (N : V → V → Hp → Prop) (F : Hp → Prop), (∀ H5, Kp [] H H5 → N (kV (kv i).1) (kv i).2 H5) →
      g x (wipe σ vs) H' fun σ2 H2 => wipe σ2 vs = wipe σ vs ∧ tt σ2 H2 fun b H3 => if b = true then tk σ2 H3 fun y H4 => tv σ2 H4 fun z H5 => N y z H5 else F H3)
    (hd : ∀ H, Kp [] H1 H → H D = some (.dK ((List.range n).map kv)) → Qd H) :
    ∃ W : Nat → Nat → Hp → Prop, (∃ m, W 0 m (upd H1 D (.dK []))) ∧ ∀ i m H, W i m H →
      (J.stop i H ∧ Qd H) ∨ (J.go i H ∧ ∃ Nx : Hp → Prop, (∀ H', Nx H' → ∃ m', m' < m ∧ W (i + 1) m' H') ∧ ∀ x H', J.yld i H x H' → g x (wipe σ vs) H' fun σ2 H2 => wipe σ2 vs = wipe σ vs ∧ tt σ2 H2 fun b H3 =>
        if b = true then tk σ2 H3 fun y H4 => tv σ2 H4 fun z H5 => ∃ kvs k, y = kV k ∧ H5 D = some (.dK kvs) ∧ kvs.length < sizeLine ∧ Nx (upd H5 D (.dK (putK kvs k z))) else Nx H3) := by
  refine ⟨fun i m H => i ≤ n ∧ m = n - i ∧ Kp [] H1 H ∧ H D = some (.dK ((List.range i).map kv)), ⟨n, Nat.zero_le _, rfl, Kp.new hD, upd_same⟩, ?_⟩
  rintro i m H ⟨hi, rfl, k, hk⟩
  by_cases c : i < n
  · refine .inr ⟨w.goes i H c (hG H k), fun H' => Kp [] H1 H' ∧ H' D = some (.dK ((List.range (i + 1)).map kv)), fun H' q => ⟨n - (i + 1), by omega, c, rfl, q⟩, fun x H' y => ?_⟩
    refine hs i x H H' c k (w.yields i H x H' c (hG H k) y) (fun y z H5 => ∃ kvs k, y = kV k ∧ H5 D = some (.dK kvs) ∧ kvs.length < sizeLine ∧ (Kp [] H1 (upd H5 D (.dK (putK kvs k z))) ∧ (upd H5 D (.dK (putK kvs k z))) D = some (.dK ((List.range (i + 1)).map kv)))) _ fun H5 k5 => ?_
    have h5 := k5.same _ _ hk
    refine ⟨_, (kv i).1, rfl, h5, by simp; omega, ?_, ?_⟩
    · exact (k.trans0 k5).trans (Kp.set (by rw [h5]; exact True.intro)) fun b hb => .inr (by rw [List.mem_singleton.mp hb]; exact hD)
    · rw [upd_same, putK_new _ (val_none c nd i (Nat.le_refl _)), List.range_succ, List.map_append]
      rfl
  · obtain rfl : i = n := by omega
    exact .inl ⟨w.stops H (hG H k), hd H k hk⟩
end AB
set_option Elab.async false
set_option linter.all false
set_option maxRecDepth 100000
set_option maxHeartbeats 4000000
/-! ABk2: further rules with the written part said; a dict against an empty one. -/
namespace AB
open PySem PySem.Spec PyProof.Rows L2
section
variable {X : Cx} (K : PySem.W.Frag) (h : X.K = K)
include h
theorem k_sorted : CallR X (.builtin "sorted") (rSorted K) := h ▸ cr_sorted
def rDictP (K : PySem.W.Frag) : List V → Hp → VK → Prop := fun xs H Q => ∃ (a : Addr) (ps : List Addr) (kvs : List (Key × V)), xs = [.ref a] ∧ SqL K H a (ps.map V.ref) ∧ Paired (fun p kv => SqT K H p [kV kv.1, kv.2]) ps kvs ∧
    ∀ p, H p = none → Q (.ref p) (upd H p (.dK (mergeK [] kvs)))
theorem k_dictP (hc : X.calm = true) : CallR X (.type "dict") (rDictP K) := h ▸ call_dictP hc
end
/-- d == {} -/
def rEqE : R2 := fun x y H Q => ∃ a b ks, x = .ref a ∧ y = .ref b ∧ H a = some (.dK ks) ∧ H b = some (.dK []) ∧ Q (.bl ks.isEmpty) H
section
variable {X : Cx}
theorem op_eqE (hu : X.A.units < cLine) : OpR X (compareOp .Eq) rEqE := by
  intro pins s σ H x y v u Q I rx ry h
  obtain ⟨a, b, ks, rfl, rfl, ea, eb, q⟩ := h
  obtain rfl : v = Value.ref a := rx
  obtain rfl : u = Value.ref b := ry
  obtain ⟨_, ya, va, ra, da⟩ := (show ObjOk X.prog X.w H s.heap a (.dK ks) from I.hok a _ ea)
  obtain ⟨_, yb, vb, rb, db⟩ := (show ObjOk X.prog X.w H s.heap b (.dK []) from I.hok b _ eb)
  have lb : vb.length = 0 := rb.length.symm
  have la : va.length = ks.length := ra.length.symm
  refine PySem.W.keq_eq (knd := mixKind X.prog X.w) (r := true) ya yb da db hu (fun e => ?_) (fin_bl I q ?_)
  · cases ks with
    | nil => exact hits_all rb ra fun p hp => nomatch hp
    | cons k ks => rw [lb, la] at e; cases e
  · cases ks with
    | nil => simp [la, lb]
    | cons k ks => simp [la, lb]
end
end AB
set_option Elab.async false
set_option linter.all false
set_option maxRecDepth 100000
set_option maxHeartbeats 4000000
/-! ABk3: a list against an empty one. -/
namespace AB
open PySem PySem.Spec PyProof.Rows L2
def rEqN (K : PySem.W.Frag) : R2 := fun x y H Q => ∃ p q xs, x = .ref p ∧ y = .ref q ∧ SqL K H p xs ∧ SqL K H q [] ∧ Q (.bl xs.isEmpty) H
section
variable {X : Cx}
theorem op_eqN (hu : X.A.units < cLine) : OpR X (compareOp .Eq) (rEqN X.K) := by
  intro pins s σ H x y v u Q I rx ry h
  obtain ⟨p, q, xs, rfl, rfl, hp, hq, k⟩ := h
  obtain rfl : v = Value.ref p := rx
  obtain rfl : u = Value.ref q := ry
  obtain ⟨its, r, pl, hz⟩ := I.list hp
  obtain ⟨its2, r2, pl2, hz2⟩ := I.list hq
  cases r2
  cases r with
  | nil =>
    exact SeqAt.RcAt.lists (e := fun _ => true) pl.isList pl2.isList rfl hu (fun j h1 => absurd h1 (by simp)) X.prog X.w _ _ ⟨.bl true, H, I, rfl, k⟩
  | cons a t =>
    exact SeqAt.RcAt.lists_lengths pl.isList pl2.isList (by simp) hu X.prog X.w _ _ ⟨.bl false, H, I, rfl, k⟩
theorem k_eqN (K : PySem.W.Frag) (h : X.K = K) (hu : X.A.units < cLine) : OpR X (compareOp .Eq) (rEqN K) := h ▸ op_eqN hu
end
end AB
set_option Elab.async false
set_option linter.all false
set_option maxRecDepth 100000
set_option maxHeartbeats 4000000
/-! K57A: the text by places, the facts of the top, small defs. -/
namespace K57
open PySem L2 AB
def top (i : Nat) : Stmt := PySem.Challenge.pw_airheld_k57_whole_nodes_message_by_messa.main.body.getD i (.Pass ⟨0, 0, 0, 0⟩)
abbrev s_is_integer : Stmt := top 6
abbrev N_is_integer : List Str := ["value"]
theorem sc_is_integer : FnScope ["value"] ["value"] (defScope s_is_integer) := ⟨rfl, rfl, rfl, by decide +kernel, rfl, by decide +kernel, by decide +kernel⟩
abbrev s_is_within : Stmt := top 7
abbrev N_is_within : List Str := ["value", "low", "high"]
theorem sc_is_within : FnScope ["value", "low", "high"] ["value", "low", "high"] (defScope s_is_within) := ⟨rfl, rfl, rfl, by decide +kernel, rfl, by decide +kernel, by decide +kernel⟩
abbrev s_is_word : Stmt := top 8
abbrev N_is_word : List Str := ["value"]
theorem sc_is_word : FnScope ["value"] ["value"] (defScope s_is_word) := ⟨rfl, rfl, rfl, by decide +kernel, rfl, by decide +kernel, by decide +kernel⟩
abbrev s_check : Stmt := top 9
abbrev N_check : List Str := ["is_right"]
theorem sc_check : FnScope ["is_right"] ["is_right"] (defScope s_check) := ⟨rfl, rfl, rfl, by decide +kernel, rfl, by decide +kernel, by decide +kernel⟩
abbrev s_check_there : Stmt := top 10
abbrev N_check_there : List Str := ["is_there"]
theorem sc_check_there : FnScope ["is_there"] ["is_there"] (defScope s_check_there) := ⟨rfl, rfl, rfl, by decide +kernel, rfl, by decide +kernel, by decide +kernel⟩
abbrev s_is_count : Stmt := top 12
abbrev N_is_count : List Str := ["value"]
theorem sc_is_count : FnScope ["value"] ["value"] (defScope s_is_count) := ⟨rfl, rfl, rfl, by decide +kernel, rfl, by decide +kernel, by decide +kernel⟩
abbrev s_Holding_init : Stmt := inClass (top 20) 0
abbrev N_Holding_init : List Str := ["self", "mode"]
theorem sc_Holding_init : FnScope ["self", "mode"] ["self", "mode"] (defScope s_Holding_init) := ⟨rfl, rfl, rfl, by decide +kernel, rfl, by decide +kernel, by decide +kernel⟩
abbrev s_Home_init : Stmt := inClass (top 21) 0
abbrev N_Home_init : List Str := ["self", "node"]
theorem sc_Home_init : FnScope ["self", "node"] ["self", "node"] (defScope s_Home_init) := ⟨rfl, rfl, rfl, by decide +kernel, rfl, by decide +kernel, by decide +kernel⟩
abbrev s_Home_has_it : Stmt := inClass (top 21) 1
abbrev N_Home_has_it : List Str := ["self", "node", "kind"]
theorem sc_Home_has_it : FnScope ["self", "node", "kind"] ["self", "node", "kind"] (defScope s_Home_has_it) := ⟨rfl, rfl, rfl, by decide +kernel, rfl, by decide +kernel, by decide +kernel⟩
abbrev s_Home_begin : Stmt := inClass (top 21) 2
abbrev N_Home_begin : List Str := ["self", "asker", "kind", "others", "node"]
theorem sc_Home_begin : FnScope ["self", "asker", "kind", "others", "node"] ["self", "asker", "kind"] (defScope s_Home_begin) := ⟨rfl, rfl, rfl, by decide +kernel, rfl, by decide +kernel, by decide +kernel⟩
abbrev s_Home_given : Stmt := inClass (top 21) 3
abbrev N_Home_given : List Str := ["self", "node", "words"]
theorem sc_Home_given : FnScope ["self", "node", "words"] ["self", "node", "words"] (defScope s_Home_given) := ⟨rfl, rfl, rfl, by decide +kernel, rfl, by decide +kernel, by decide +kernel⟩
abbrev s_Home_grant : Stmt := inClass (top 21) 4
abbrev N_Home_grant : List Str := ["self"]
theorem sc_Home_grant : FnScope ["self"] ["self"] (defScope s_Home_grant) := ⟨rfl, rfl, rfl, by decide +kernel, rfl, by decide +kernel, by decide +kernel⟩
abbrev s_Home_is_granting : Stmt := inClass (top 21) 5
abbrev N_Home_is_granting : List Str := ["self"]
theorem sc_Home_is_granting : FnScope ["self"] ["self"] (defScope s_Home_is_granting) := ⟨rfl, rfl, rfl, by decide +kernel, rfl, by decide +kernel, by decide +kernel⟩
abbrev s_Nodes_init : Stmt := inClass (top 22) 0
abbrev N_Nodes_init : List Str := ["self", "many", "pages", "page", "node"]
theorem sc_Nodes_init : FnScope ["self", "many", "pages", "page", "node"] ["self", "many", "pages"] (defScope s_Nodes_init) := ⟨rfl, rfl, rfl, by decide +kernel, rfl, by decide +kernel, by decide +kernel⟩
abbrev s_Nodes_need : Stmt := inClass (top 22) 1
abbrev N_Nodes_need : List Str := ["self", "node", "page"]
theorem sc_Nodes_need : FnScope ["self", "node", "page"] ["self", "node", "page"] (defScope s_Nodes_need) := ⟨rfl, rfl, rfl, by decide +kernel, rfl, by decide +kernel, by decide +kernel⟩
abbrev s_Nodes_want : Stmt := inClass (top 22) 2
abbrev N_Nodes_want : List Str := ["self", "own", "kind"]
theorem sc_Nodes_want : FnScope ["self", "own", "kind"] ["self", "own", "kind"] (defScope s_Nodes_want) := ⟨rfl, rfl, rfl, by decide +kernel, rfl, by decide +kernel, by decide +kernel⟩
abbrev s_Nodes_read : Stmt := inClass (top 22) 3
abbrev N_Nodes_read : List Str := ["self", "node", "page", "index", "own"]
theorem sc_Nodes_read : FnScope ["self", "node", "page", "index", "own"] ["self", "node", "page", "index"] (defScope s_Nodes_read) := ⟨rfl, rfl, rfl, by decide +kernel, rfl, by decide +kernel, by decide +kernel⟩
abbrev s_Nodes_write : Stmt := inClass (top 22) 4
abbrev N_Nodes_write : List Str := ["self", "node", "page", "index", "word", "own"]
theorem sc_Nodes_write : FnScope ["self", "node", "page", "index", "word", "own"] ["self", "node", "page", "index", "word"] (defScope s_Nodes_write) := ⟨rfl, rfl, rfl, by decide +kernel, rfl, by decide +kernel, by decide +kernel⟩
abbrev s_Nodes_send : Stmt := inClass (top 22) 5
abbrev N_Nodes_send : List Str := ["self", "message"]
theorem sc_Nodes_send : FnScope ["self", "message"] ["self", "message"] (defScope s_Nodes_send) := ⟨rfl, rfl, rfl, by decide +kernel, rfl, by decide +kernel, by decide +kernel⟩
abbrev s_Nodes_tick : Stmt := inClass (top 22) 6
abbrev N_Nodes_tick : List Str := ["self", "node", "before", "page", "own", "home"]
theorem sc_Nodes_tick : FnScope ["self", "node", "before", "page", "own", "home"] ["self", "node"] (defScope s_Nodes_tick) := ⟨rfl, rfl, rfl, by decide +kernel, rfl, by decide +kernel, by decide +kernel⟩
abbrev s_Nodes_push : Stmt := inClass (top 22) 7
abbrev N_Nodes_push : List Str := ["self", "page", "home", "node"]
theorem sc_Nodes_push : FnScope ["self", "page", "home", "node"] ["self", "page", "home"] (defScope s_Nodes_push) := ⟨rfl, rfl, rfl, by decide +kernel, rfl, by decide +kernel, by decide +kernel⟩
abbrev s_Nodes_net : Stmt := inClass (top 22) 8
abbrev N_Nodes_net : List Str := ["self"]
theorem sc_Nodes_net : FnScope ["self"] ["self"] (defScope s_Nodes_net) := ⟨rfl, rfl, rfl, by decide +kernel, rfl, by decide +kernel, by decide +kernel⟩
abbrev s_Nodes_place : Stmt := inClass (top 22) 9
abbrev N_Nodes_place : List Str := ["self", "k"]
theorem sc_Nodes_place : FnScope ["self", "k"] ["self", "k"] (defScope s_Nodes_place) := ⟨rfl, rfl, rfl, by decide +kernel, rfl, by decide +kernel, by decide +kernel⟩
abbrev s_Nodes_deliver : Stmt := inClass (top 22) 10
abbrev N_Nodes_deliver : List Str := ["self", "k", "place"]
theorem sc_Nodes_deliver : FnScope ["self", "k", "place"] ["self", "k"] (defScope s_Nodes_deliver) := ⟨rfl, rfl, rfl, by decide +kernel, rfl, by decide +kernel, by decide +kernel⟩
abbrev s_Nodes_double : Stmt := inClass (top 22) 11
abbrev N_Nodes_double : List Str := ["self", "k", "place"]
theorem sc_Nodes_double : FnScope ["self", "k", "place"] ["self", "k"] (defScope s_Nodes_double) := ⟨rfl, rfl, rfl, by decide +kernel, rfl, by decide +kernel, by decide +kernel⟩
abbrev s_Nodes_lose : Stmt := inClass (top 22) 12
abbrev N_Nodes_lose : List Str := ["self", "k", "place"]
theorem sc_Nodes_lose : FnScope ["self", "k", "place"] ["self", "k"] (defScope s_Nodes_lose) := ⟨rfl, rfl, rfl, by decide +kernel, rfl, by decide +kernel, by decide +kernel⟩
abbrev s_Nodes_come : Stmt := inClass (top 22) 13
abbrev N_Nodes_come : List Str := ["self", "message", "word", "page"]
theorem sc_Nodes_come : FnScope ["self", "message", "word", "page"] ["self", "message"] (defScope s_Nodes_come) := ⟨rfl, rfl, rfl, by decide +kernel, rfl, by decide +kernel, by decide +kernel⟩
abbrev s_Nodes_asked : Stmt := inClass (top 22) 14
abbrev N_Nodes_asked : List Str := ["self", "message", "node", "_", "page", "number", "kind", "home"]
theorem sc_Nodes_asked : FnScope ["self", "message", "node", "_", "page", "number", "kind", "home"] ["self", "message"] (defScope s_Nodes_asked) := ⟨rfl, rfl, rfl, by decide +kernel, rfl, by decide +kernel, by decide +kernel⟩
abbrev s_Nodes_answered : Stmt := inClass (top 22) 15
abbrev N_Nodes_answered : List Str := ["self", "message", "node", "_", "word", "page", "number", "home"]
theorem sc_Nodes_answered : FnScope ["self", "message", "node", "_", "word", "page", "number", "home"] ["self", "message"] (defScope s_Nodes_answered) := ⟨rfl, rfl, rfl, by decide +kernel, rfl, by decide +kernel, by decide +kernel⟩
abbrev s_Nodes_follow : Stmt := inClass (top 22) 16
abbrev N_Nodes_follow : List Str := ["self", "node", "page", "message", "own", "number"]
theorem sc_Nodes_follow : FnScope ["self", "node", "page", "message", "own", "number"] ["self", "node", "page", "message"] (defScope s_Nodes_follow) := ⟨rfl, rfl, rfl, by decide +kernel, rfl, by decide +kernel, by decide +kernel⟩
abbrev s_Nodes_done : Stmt := inClass (top 22) 17
abbrev N_Nodes_done : List Str := ["self", "node", "own", "message", "home", "word", "page", "number"]
theorem sc_Nodes_done : FnScope ["self", "node", "own", "message", "home", "word", "page", "number"] ["self", "node", "own", "message"] (defScope s_Nodes_done) := ⟨rfl, rfl, rfl, by decide +kernel, rfl, by decide +kernel, by decide +kernel⟩
abbrev s_Nodes_who : Stmt := inClass (top 22) 18
abbrev N_Nodes_who : List Str := ["self", "page", "writers", "readers", "node"]
theorem sc_Nodes_who : FnScope ["self", "page", "writers", "readers", "node"] ["self", "page"] (defScope s_Nodes_who) := ⟨rfl, rfl, rfl, by decide +kernel, rfl, by decide +kernel, by decide +kernel⟩
abbrev s_Nodes_wants : Stmt := inClass (top 22) 19
abbrev N_Nodes_wants : List Str := ["self", "node", "page", "own"]
theorem sc_Nodes_wants : FnScope ["self", "node", "page", "own"] ["self", "node"] (defScope s_Nodes_wants) := ⟨rfl, rfl, rfl, by decide +kernel, rfl, by decide +kernel, by decide +kernel⟩
abbrev s_law_draws : Stmt := top 24
abbrev N_law_draws : List Str := ["script", "draws", "cell", "number", "first", "k", "seed"]
theorem sc_law_draws : FnScope ["script", "draws", "cell", "number", "first", "k", "seed"] ["script"] (defScope s_law_draws) := ⟨rfl, rfl, rfl, by decide +kernel, rfl, by decide +kernel, by decide +kernel⟩
abbrev s_law_take : Stmt := top 25
abbrev N_law_take : List Str := ["draws", "bound"]
theorem sc_law_take : FnScope ["draws", "bound"] ["draws", "bound"] (defScope s_law_take) := ⟨rfl, rfl, rfl, by decide +kernel, rfl, by decide +kernel, by decide +kernel⟩
abbrev s_law_pick : Stmt := top 26
abbrev N_law_pick : List Str := ["draws", "some"]
theorem sc_law_pick : FnScope ["draws", "some"] ["draws", "some"] (defScope s_law_pick) := ⟨rfl, rfl, rfl, by decide +kernel, rfl, by decide +kernel, by decide +kernel⟩
abbrev s_law_same : Stmt := top 27
abbrev N_law_same : List Str := ["actual", "due", "k", "key"]
theorem sc_law_same : FnScope ["actual", "due", "k", "key"] ["actual", "due"] (defScope s_law_same) := ⟨rfl, rfl, rfl, by decide +kernel, rfl, by decide +kernel, by decide +kernel⟩
abbrev s_law_nodes : Stmt := top 28
abbrev N_law_nodes : List Str := ["many", "pages", "held", "home", "homes", "node", "page"]
theorem sc_law_nodes : FnScope ["many", "pages", "held", "home", "homes", "node", "page"] ["many", "pages"] (defScope s_law_nodes) := ⟨rfl, rfl, rfl, by decide +kernel, rfl, by decide +kernel, by decide +kernel⟩
abbrev s_law_want : Stmt := top 29
abbrev N_law_want : List Str := ["own", "kind"]
theorem sc_law_want : FnScope ["own", "kind"] ["own", "kind"] (defScope s_law_want) := ⟨rfl, rfl, rfl, by decide +kernel, rfl, by decide +kernel, by decide +kernel⟩
abbrev s_law_pushed : Stmt := top 30
abbrev N_law_pushed : List Str := ["m", "page", "home", "node"]
theorem sc_law_pushed : FnScope ["m", "page", "home", "node"] ["m", "page"] (defScope s_law_pushed) := ⟨rfl, rfl, rfl, by decide +kernel, rfl, by decide +kernel, by decide +kernel⟩
abbrev s_law_tick : Stmt := top 31
abbrev N_law_tick : List Str := ["m", "node", "before", "page", "own"]
theorem sc_law_tick : FnScope ["m", "node", "before", "page", "own"] ["m", "node"] (defScope s_law_tick) := ⟨rfl, rfl, rfl, by decide +kernel, rfl, by decide +kernel, by decide +kernel⟩
abbrev s_law_grant : Stmt := top 32
abbrev N_law_grant : List Str := ["home", "node"]
theorem sc_law_grant : FnScope ["home", "node"] ["home"] (defScope s_law_grant) := ⟨rfl, rfl, rfl, by decide +kernel, rfl, by decide +kernel, by decide +kernel⟩
abbrev s_law_asked : Stmt := top 33
abbrev N_law_asked : List Str := ["m", "message", "node", "to", "word", "page", "number", "kind", "home", "own"]
theorem sc_law_asked : FnScope ["m", "message", "node", "to", "word", "page", "number", "kind", "home", "own"] ["m", "message"] (defScope s_law_asked) := ⟨rfl, rfl, rfl, by decide +kernel, rfl, by decide +kernel, by decide +kernel⟩
abbrev s_law_answered : Stmt := top 34
abbrev N_law_answered : List Str := ["m", "message", "node", "word", "page", "number", "home", "own"]
theorem sc_law_answered : FnScope ["m", "message", "node", "word", "page", "number", "home", "own"] ["m", "message"] (defScope s_law_answered) := ⟨rfl, rfl, rfl, by decide +kernel, rfl, by decide +kernel, by decide +kernel⟩
abbrev s_law_follow : Stmt := top 35
abbrev N_law_follow : List Str := ["m", "message", "home", "node", "word", "page", "number", "own"]
theorem sc_law_follow : FnScope ["m", "message", "home", "node", "word", "page", "number", "own"] ["m", "message"] (defScope s_law_follow) := ⟨rfl, rfl, rfl, by decide +kernel, rfl, by decide +kernel, by decide +kernel⟩
abbrev s_law_happen : Stmt := top 36
abbrev N_law_happen : List Str := ["m", "kind", "k", "place", "message"]
theorem sc_law_happen : FnScope ["m", "kind", "k", "place", "message"] ["m", "kind", "k"] (defScope s_law_happen) := ⟨rfl, rfl, rfl, by decide +kernel, rfl, by decide +kernel, by decide +kernel⟩
abbrev s_law_is_step_due : Stmt := top 37
abbrev N_law_is_step_due : List Str := ["draws", "nodes", "m", "kinds", "many", "pages", "node", "page", "index", "kind", "own", "due", "word", "k", "told"]
theorem sc_law_is_step_due : FnScope ["draws", "nodes", "m", "kinds", "many", "pages", "node", "page", "index", "kind", "own", "due", "word", "k", "told"] ["draws", "nodes", "m", "kinds"] (defScope s_law_is_step_due) := ⟨rfl, rfl, rfl, by decide +kernel, rfl, by decide +kernel, by decide +kernel⟩
abbrev s_law_is_alike : Stmt := top 38
abbrev N_law_is_alike : List Str := ["nodes", "m", "page", "modes", "writer", "node", "row", "k"]
theorem sc_law_is_alike : FnScope ["nodes", "m", "page", "modes", "writer", "node", "row", "k"] ["nodes", "m"] (defScope s_law_is_alike) := ⟨rfl, rfl, rfl, by decide +kernel, rfl, by decide +kernel, by decide +kernel⟩
abbrev s_law : Stmt := top 39
abbrev N_law : List Str := ["script", "draws", "many", "pages", "nodes", "m", "kinds", "turn", "node", "again", "row", "own"]
theorem sc_law : FnScope ["script", "draws", "many", "pages", "nodes", "m", "kinds", "turn", "node", "again", "row", "own"] ["script"] (defScope s_law) := ⟨rfl, rfl, rfl, by decide +kernel, rfl, by decide +kernel, by decide +kernel⟩
/-! ### facts of the top -/
structure Ad where
  (nr nt ch cm cn em : Addr)
def zeros : List Int := [0, 0, 0, 0, 0, 0, 0, 0, 0, 0, 0, 0, 0, 0, 0, 0]
structure ExcT (K : PySem.W.Frag) (mg : Str → Option Value) (nm : Str) (C : Addr) : Prop where
  x : PySem.W.excIn K C [.type "ValueError", .type "Exception", .type "BaseException", .type "object"] "ValueError.__new__" = true
  g : mg nm = some (.ref C)
  k : PySem.W.keepIn K (.ref C) = true
  b : PySem.W.subIn K (.ref C) (.type "BaseException") = some true
  t : PySem.W.typeIn K (.ref C) = some (.type "type")
structure Txt (K : PySem.W.Frag) (mg : Str → Option Value) (a : Ad) : Prop where
  eNR : ExcT K mg "NotRight" a.nr
  eNT : ExcT K mg "NotThere" a.nt
  cH : Cls K a.ch
  cM : Cls K a.cm
  cN : Cls K a.cn
  aH : ∀ f ∈ (["mode", "words", "want", "asked", "last", "answer"] : List Str), NoAttr K a.ch f
  aM : ∀ f ∈ (["node", "writer", "readers", "words", "number", "asker", "kind", "waits", "served"] : List Str), NoAttr K a.cm f
  aN : ∀ f ∈ (["many", "pages", "way", "homes", "held"] : List Str), NoAttr K a.cn f
  c_MOST_WORD : GC mg "MOST_WORD" (.int 65535)
  c_MOST_NODES : GC mg "MOST_NODES" (.int 4)
  c_MOST_PAGES : GC mg "MOST_PAGES" (.int 8)
  c_PAGE : GC mg "PAGE" (.int 16)
  c_READ : GC mg "READ" (.str "read")
  c_WRITE : GC mg "WRITE" (.str "write")
  c_EMPTY : GC mg "EMPTY" (.ref a.em)
  z_empty : ∀ H, SqT K H a.em (zeros.map V.int)
  g_Holding : mg "Holding" = some (.ref a.ch)
  g_Home : mg "Home" = some (.ref a.cm)
  g_Nodes : mg "Nodes" = some (.ref a.cn)
  n_isinstance : mg "isinstance" = none
  n_int : mg "int" = none
  n_bool : mg "bool" = none
  n_tuple : mg "tuple" = none
  n_list : mg "list" = none
  n_dict : mg "dict" = none
  n_str : mg "str" = none
  n_len : mg "len" = none
  n_abs : mg "abs" = none
  n_range : mg "range" = none
  n_sorted : mg "sorted" = none
  n_enumerate : mg "enumerate" = none
  n_reversed : mg "reversed" = none
section
variable {K : PySem.W.Frag} {mg : Str → Option Value} {a : Ad} (T : Txt K mg a)
include T
theorem Txt.x_NotRight : PySem.W.excIn K a.nr [.type "ValueError", .type "Exception", .type "BaseException", .type "object"] "ValueError.__new__" = true := T.eNR.x
theorem Txt.g_NotRight : mg "NotRight" = some (.ref a.nr) := T.eNR.g
theorem Txt.k_NotRight : PySem.W.keepIn K (.ref a.nr) = true := T.eNR.k
theorem Txt.b_NotRight : PySem.W.subIn K (.ref a.nr) (.type "BaseException") = some true := T.eNR.b
theorem Txt.t_NotRight : PySem.W.typeIn K (.ref a.nr) = some (.type "type") := T.eNR.t
theorem Txt.x_NotThere : PySem.W.excIn K a.nt [.type "ValueError", .type "Exception", .type "BaseException", .type "object"] "ValueError.__new__" = true := T.eNT.x
theorem Txt.g_NotThere : mg "NotThere" = some (.ref a.nt) := T.eNT.g
theorem Txt.k_NotThere : PySem.W.keepIn K (.ref a.nt) = true := T.eNT.k
theorem Txt.b_NotThere : PySem.W.subIn K (.ref a.nt) (.type "BaseException") = some true := T.eNT.b
theorem Txt.t_NotThere : PySem.W.typeIn K (.ref a.nt) = some (.type "type") := T.eNT.t
end
/-! ### small ones -/
/-- v is a tuple of the ints ws -/
def TI (K : PySem.W.Frag) (H : Hp) (v : V) (ws : List Int) : Prop := ∃ a, v = .ref a ∧ SqT K H a (ws.map V.int)
theorem TI.kp {K : PySem.W.Frag} {H H' : Hp} {m : List Addr} {v : V} {ws : List Int} (k : Kp m H H') (h : TI K H v ws) : TI K H' v ws := by
  obtain ⟨a, e, h⟩ := h
  exact ⟨a, e, k.sqT h⟩
def isW (n : Int) : Bool := decide (0 ≤ n ∧ n ≤ 65535)
def spIsInt : Sp := fun vs H Q _ => ∃ n : Int, vs = [.int n] ∧ Q (.bl true) H
def spWithin : Sp := fun vs H Q _ => ∃ v lo hi : Int, vs = [.int v, .int lo, .int hi] ∧ Q (.bl (decide (lo ≤ v ∧ v ≤ hi))) H
def spIsWord : Sp := fun vs H Q _ => ∃ n : Int, vs = [.int n] ∧ Q (.bl (isW n)) H
def spIsCount : Sp := fun vs H Q _ => ∃ n : Int, vs = [.int n] ∧ 0 ≤ n ∧ Q (.bl true) H
def spCheck (C : Addr) : Sp := fun vs H Q E => ∃ b : Bool, vs = [.bl b] ∧ (b = true → Q .non H) ∧ (b = false → E (.ref C) none H)
section
variable {P : Program} {w : World} {K : PySem.W.Frag} {mg : Str → Option Value} {base : Heap} {a : Ad} {f : Addr} {fd : FuncData}
theorem ok_is_integer (F : Fun K "is_integer" "is_integer" s_is_integer f fd) (T : Txt K mg a) : FnOk P w K mg base (L2.CX P w) 1 f fd ["value"] spIsInt := by
  refine okT F sc_is_integer (fun vs H Q E h => ?_) (fun cdv A outer s H vs Q E hr tk hp h => ?_)
  · obtain ⟨n, rfl, _⟩ := h
    rfl
  · obtain ⟨n, rfl, k⟩ := h
    refine ⟨_, (pss_one (ps_ret (pe_and (pe_callB (k_isi K (by rfl)) (by rfl) T.n_isinstance (by decide +kernel) (pa_cons (pv 0) (pa_cons (pe_bltn (v := .ty "int") (u := .type "int") (by rfl) T.n_int (by decide +kernel) rfl) pa_nil))) (pe_one (pe_not (pe_callB (k_isi K (by rfl)) (by rfl) T.n_isinstance (by decide +kernel) (pa_cons (pv 0) (pa_cons (pe_bltn (v := .ty "bool") (u := .type "bool") (by rfl) T.n_bool (by decide +kernel) rfl) pa_nil)))))))), ?_⟩
    refine ⟨_, rfl, .int n, .ty "int", .type "int", .type "int", true, rfl, .ty _, .base (.int n), kit_ty (by decide +kernel), true, rfl, ?_⟩
    refine iteT ⟨_, rfl, .int n, .ty "bool", .type "int", .type "bool", false, rfl, .ty _, .base (.int n), kit_ty (by decide +kernel), false, rfl, ?_⟩
    exact k
theorem ok_is_within (F : Fun K "is_within" "is_within" s_is_within f fd) (T : Txt K mg a) (G_is_integer : GFn P w K mg base 1 "is_integer" ["value"] spIsInt) : FnOk P w K mg base (L2.CX P w) 2 f fd ["value", "low", "high"] spWithin := by
  refine okT F sc_is_within (fun vs H Q E h => ?_) (fun cdv A outer s H vs Q E hr tk hp h => ?_)
  · obtain ⟨v, lo, hi, rfl, _⟩ := h
    rfl
  · obtain ⟨v, lo, hi, rfl, k⟩ := h
    refine ⟨_, (pss_one (ps_ret (pe_and (pe_cl G_is_integer (hr.mono (by decide)) tk (pa_cons (pv 0) pa_nil)) (pe_one (pe_chain op_le op_le (pv 1) (pv 0) (pv 2)))))), ?_⟩
    refine ⟨_, rfl, v, rfl, true, rfl, iteT ?_⟩
    refine ⟨_, rfl, _, rfl, lo, v, rfl, rfl, _, rfl, ?_⟩
    by_cases h1 : lo ≤ v
    · rw [if_pos (by simpa using h1)]
      refine ⟨_, rfl, v, hi, rfl, rfl, ?_⟩
      show Q (.bl (decide (v ≤ hi))) H
      have e : decide (v ≤ hi) = decide (lo ≤ v ∧ v ≤ hi) := by simp [h1]
      rw [e]
      exact k
    · rw [if_neg (by simpa using h1)]
      show Q (.bl false) H
      have e : false = decide (lo ≤ v ∧ v ≤ hi) := by simp [h1]
      rw [e]
      exact k
theorem ok_is_word (F : Fun K "is_word" "is_word" s_is_word f fd) (T : Txt K mg a) (G_is_within : GFn P w K mg base 2 "is_within" ["value", "low", "high"] spWithin) : FnOk P w K mg base (L2.CX P w) 3 f fd ["value"] spIsWord := by
  refine okT F sc_is_word (fun vs H Q E h => ?_) (fun cdv A outer s H vs Q E hr tk hp h => ?_)
  · obtain ⟨n, rfl, _⟩ := h
    rfl
  · obtain ⟨n, rfl, k⟩ := h
    refine ⟨_, (pss_one (ps_ret (pe_cl G_is_within (hr.mono (by decide)) tk (pa_cons (pv 0) (pa_cons pe_int (pa_cons (pe_gv T.c_MOST_WORD) pa_nil)))))), ?_⟩
    exact ⟨_, rfl, n, 0, 65535, rfl, k⟩
theorem ok_check (F : Fun K "check" "check" s_check f fd) (T : Txt K mg a) : FnOk P w K mg base (L2.CX P w) 1 f fd ["is_right"] (spCheck a.nr) := by
  refine okT F sc_check (fun vs H Q E h => ?_) (fun cdv A outer s H vs Q E hr tk hp h => ?_)
  · obtain ⟨b, rfl, _⟩ := h
    rfl
  · obtain ⟨b, rfl, k1, k2⟩ := h
    refine ⟨_, (pss_one (ps_if (pt_not (pt_val (pv 0))) (pss_one (ps_raise rfl tk (pmk_own PySem.F.excBase_ValueError T.x_NotRight T.g_NotRight T.k_NotRight (raises_own T.b_NotRight T.t_NotRight) (by rfl)))) pss_nil)), ?_⟩
    refine ⟨_, rfl, b, rfl, ?_⟩
    cases b with
    | true => exact iteF (k1 rfl)
    | false => exact iteT (k2 rfl)
theorem ok_check_there (F : Fun K "check_there" "check_there" s_check_there f fd) (T : Txt K mg a) : FnOk P w K mg base (L2.CX P w) 1 f fd ["is_there"] (spCheck a.nt) := by
  refine okT F sc_check_there (fun vs H Q E h => ?_) (fun cdv A outer s H vs Q E hr tk hp h => ?_)
  · obtain ⟨b, rfl, _⟩ := h
    rfl
  · obtain ⟨b, rfl, k1, k2⟩ := h
    refine ⟨_, (pss_one (ps_if (pt_not (pt_val (pv 0))) (pss_one (ps_raise rfl tk (pmk_own PySem.F.excBase_ValueError T.x_NotThere T.g_NotThere T.k_NotThere (raises_own T.b_NotThere T.t_NotThere) (by rfl)))) pss_nil)), ?_⟩
    refine ⟨_, rfl, b, rfl, ?_⟩
    cases b with
    | true => exact iteF (k1 rfl)
    | false => exact iteT (k2 rfl)
theorem ok_is_count (F : Fun K "is_count" "is_count" s_is_count f fd) (T : Txt K mg a) (G_is_integer : GFn P w K mg base 1 "is_integer" ["value"] spIsInt) : FnOk P w K mg base (L2.CX P w) 2 f fd ["value"] spIsCount := by
  refine okT F sc_is_count (fun vs H Q E h => ?_) (fun cdv A outer s H vs Q E hr tk hp h => ?_)
  · obtain ⟨n, rfl, _⟩ := h
    rfl
  · obtain ⟨n, rfl, h0, k⟩ := h
    refine ⟨_, (pss_one (ps_ret (pe_and (pe_cl G_is_integer (hr.mono (by decide)) tk (pa_cons (pv 0) pa_nil)) (pe_one (pe_cmpR op_ge (pv 0) pe_int (nomark _)))))), ?_⟩
    refine ⟨_, rfl, n, rfl, true, rfl, iteT ?_⟩
    refine ⟨_, rfl, _, _, rfl, rfl, ?_⟩
    show Q (.bl (decide (n ≥ 0))) H
    rw [decide_eq_true (show n ≥ 0 from h0)]
    exact k
end
end K57
set_option Elab.async false
set_option linter.all false
set_option maxRecDepth 100000
set_option maxHeartbeats 4000000
/-! K57L: the law's own draws. -/
namespace K57
open PySem L2 AB
def Dr (H : Hp) (l : Addr) : Prop := ∃ ds : List Int, H l = some (.lst (ds.map V.int))
def IntsL (xs : List V) : Prop := ∃ ds : List Int, xs = ds.map V.int
theorem IntsL.snoc {xs : List V} {n : Int} (h : IntsL xs) : IntsL (xs ++ [.int n]) := by
  obtain ⟨ds, rfl⟩ := h
  exact ⟨ds ++ [n], by simp⟩
def spDraws (K : PySem.W.Frag) : Sp := fun vs H Q _ => ∃ (a : Addr) (ns : List Int), vs = [.ref a] ∧ SqL K H a (ns.map V.int) ∧ ns.length ≤ 63 ∧ ∀ H' p, Kp [] H H' → H p = none → Dr H' p → Q (.ref p) H'
def spTake : Sp := fun vs H Q _ => ∃ (l : Addr) (b : Int), vs = [.ref l, .int b] ∧ Dr H l ∧ 0 < b ∧ ∀ r H', Kp [l] H H' → Dr H' l → 0 ≤ r → r < b → Q (.int r) H'
def spPick (K : PySem.W.Frag) : Sp := fun vs H Q _ => ∃ (l s : Addr) (xs : List V), vs = [.ref l, .ref s] ∧ Dr H l ∧ SqL K H s xs ∧ s ≠ l ∧ xs ≠ [] ∧ xs.length ≤ 100 ∧ ∀ v H', v ∈ xs → Kp [l] H H' → Dr H' l → Q v H'
theorem Dr.mut {H : Hp} {l : Addr} (h : Dr H l) : ∀ b ∈ [l], Mut (H b) := fun b hb => by
  obtain ⟨ds, h⟩ := h
  rw [List.mem_singleton.mp hb, h]
  exact True.intro
theorem Dr.kp {H H' : Hp} {m : List Addr} {l : Addr} (h : Dr H l) (k : Kp m H H') (hl : l ∉ m) : Dr H' l := by
  obtain ⟨ds, h⟩ := h
  exact ⟨ds, k.st _ _ hl h⟩
section
variable {P : Program} {w : World} {K : PySem.W.Frag} {mg : Str → Option Value} {base : Heap} {a : Ad} {f : Addr} {fd : FuncData}
theorem ok_draws (F : Fun K "_law_draws" "_law_draws" s_law_draws f fd) (T : Txt K mg a) : FnOk P w K mg base (L2.CX P w) 1 f fd ["script"] (spDraws K) := by
  refine okT F sc_law_draws (fun vs H Q E h => ?_) (fun cdv A outer s H vs Q E hr tk hp h => ?_)
  · obtain ⟨a, ns, rfl, _⟩ := h
    rfl
  · obtain ⟨sa, ns, rfl, hs, hl, k⟩ := h
    refine ⟨_, (pss_cons (ps_set (i := 1) sc_law_draws.nd rfl (by first | exact Or.inl rfl | exact Or.inr rfl) (pe_lst pa_nil)) (pss_cons (ps_for hp rfl (k_piL K (by rfl) (pi_list (pv 0))) (pg_name (i := 2) sc_law_draws.nd rfl (by first | exact Or.inl rfl | exact Or.inr rfl)) (pss_cons (ps_set (i := 3) sc_law_draws.nd rfl (by first | exact Or.inl rfl | exact Or.inr rfl) (pe_callB call_abs (by rfl) T.n_abs (by decide +kernel) (pa_cons (pv 2) pa_nil))) (C8.pss_cut (ps_if (pt_cmpR op_lt (pv 3) (pe_op op_pow pe_int pe_int) (nomark _)) (pss_cons (ps_set (i := 4) sc_law_draws.nd rfl (by first | exact Or.inl rfl | exact Or.inr rfl) (pe_op op_mod (pe_callTy call_int1 (by rfl) T.n_int (by decide +kernel) (pa_cons (pe_op op_add (pe_op op_mul (pv 3) pe_int) pe_int) pa_nil)) pe_int)) (pss_cons (ps_expr (k_bm K (by rfl) (pe_bm PySem.F.plainAttrs_list PySem.F.slot_list_append PySem.F.type_list_append mt_append (pv 1)  (pa_cons (pe_op op_mod (pe_callTy call_int1 (by rfl) T.n_int (by decide +kernel) (pa_cons (pe_op op_add (pe_op op_mul (pv 4) pe_int) (pv 3)) pa_nil)) pe_int) pa_nil)))) (pss_cons (ps_expr (k_bm K (by rfl) (pe_bm PySem.F.plainAttrs_list PySem.F.slot_list_append PySem.F.type_list_append mt_append (pv 1)  (pa_cons (pe_op op_mod (pe_callTy call_int1 (by rfl) T.n_int (by decide +kernel) (pa_cons (pe_op op_add (pv 4) (pe_op op_fdiv (pv 3) pe_int)) pa_nil)) pe_int) pa_nil)))) (pss_one (ps_set (i := 3) sc_law_draws.nd rfl (by first | exact Or.inl rfl | exact Or.inr rfl) pe_int))))) pss_nil) (pss_one (ps_for hp rfl (pi_range1 (by rfl) T.n_range (pa_cons pe_int pa_nil)) (pg_name (i := 5) sc_law_draws.nd rfl (by first | exact Or.inl rfl | exact Or.inr rfl)) (pss_one (ps_if (pt_cmpR op_gt (pv 3) pe_int (nomark _)) (pss_cons (ps_expr (k_bm K (by rfl) (pe_bm PySem.F.plainAttrs_list PySem.F.slot_list_append PySem.F.type_list_append mt_append (pv 1)  (pa_cons (pe_op op_mod (pe_callTy call_int1 (by rfl) T.n_int (by decide +kernel) (pa_cons (pv 3) pa_nil)) pe_int) pa_nil)))) (pss_one (ps_set (i := 3) sc_law_draws.nd rfl (by first | exact Or.inl rfl | exact Or.inr rfl) (pe_op op_fdiv (pv 3) pe_int)))) pss_nil))))))) (pss_cons (ps_set (i := 6) sc_law_draws.nd rfl (by first | exact Or.inl rfl | exact Or.inr rfl) pe_int) (C8.pss_cut (ps_if (pt_cmpR op_gt (pe_callB (k_len K (by rfl)) (by rfl) T.n_len (by decide +kernel) (pa_cons (pv 0) pa_nil)) pe_int (nomark _)) (pss_one (ps_set (i := 6) sc_law_draws.nd rfl (by first | exact Or.inl rfl | exact Or.inr rfl) (pe_op op_add pe_int (pe_callB call_abs (by rfl) T.n_abs (by decide +kernel) (pa_cons (pe_ix (k_ixL K (by rfl)) (pv 0) pe_int (fun _ _ => rfl)) pa_nil))))) pss_nil) (pss_cons (ps_for hp rfl (pi_range1 (by rfl) T.n_range (pa_cons pe_int pa_nil)) (pg_name (i := 5) sc_law_draws.nd rfl (by first | exact Or.inl rfl | exact Or.inr rfl)) (pss_cons (ps_set (i := 6) sc_law_draws.nd rfl (by first | exact Or.inl rfl | exact Or.inr rfl) (pe_op op_mod (pe_callTy call_int1 (by rfl) T.n_int (by decide +kernel) (pa_cons (pe_op op_add (pe_op op_mul (pv 6) pe_int) pe_int) pa_nil)) pe_int)) (pss_one (ps_expr (k_bm K (by rfl) (pe_bm PySem.F.plainAttrs_list PySem.F.slot_list_append PySem.F.type_list_append mt_append (pv 1)  (pa_cons (pe_op op_fdiv (pv 6) pe_int) pa_nil))))))) (pss_one (ps_ret (k_listRev K (by rfl) (pe_listRev rfl (by rfl) T.n_list (by rfl) T.n_reversed (pv 1)))))))))), ?_⟩
    refine ⟨Nat.zero_le _, fun l hll => ?_⟩
    have k0 := Kp.new (o := .lst []) hll
    -- for cell in script
    refine ⟨_, rfl, sa, rfl, ⟨_, k0.sqL0 hs⟩, ?_⟩
    refine for_it walk_list (fun i σ H' => (∃ y2 y3 y4 y5, σ = [some (.ref sa), some (.ref l), y2, y3, y4, y5, none]) ∧ Kp [] H H' ∧ ∃ ds : List V, H' l = some (.lst ds) ∧ IntsL ds ∧ ds.length ≤ 62 * i)
      ⟨⟨none, none, none, none, rfl⟩, k0, [], upd_same, ⟨[], rfl⟩, Nat.zero_le _⟩ (fun i σ H' _ pv => pv.2.1.sqL0 hs) ?_ ?_
    · rintro i x σ H1 H2 hi ⟨⟨y2, y3, y4, y5, rfl⟩, k1, ds, hd, hdi, hdl⟩ ⟨rfl, hx⟩
      obtain ⟨c, hc, rfl⟩ := map_at (g := V.int) hx
      have hi' : i < ns.length := by simpa using hi
      refine ⟨_, rfl, c, rfl, ?_⟩
      -- if number < 10 ** 18: ..
      refine ⟨fun σ H' => ∃ (nn : Int) (y4 : Option V) (y5 : Option V), σ = [some (.ref sa), some (.ref l), some (.int c), some (.int nn), y4, y5, none] ∧ Kp [] H H' ∧ ∃ ds : List V, H' l = some (.lst ds) ∧ IntsL ds ∧ ds.length ≤ 62 * i + 2, ?_, ?_⟩
      · refine ⟨_, rfl, _, _, rfl, rfl, ⟨by decide, by decide, by decide⟩, _, _, rfl, rfl, _, rfl, ?_⟩
        refine ite_of (fun e => ?_) (fun e => ?_)
        · refine ⟨_, rfl, _, _, rfl, rfl, .inr (by decide), _, _, rfl, rfl, .inl ⟨_, rfl, _, _, rfl, rfl, (show (0 : Int) < 2147483647 by decide), ?_⟩⟩
          refine ⟨_, rfl, .inl ⟨rfl, _, SqL.of hd⟩, _, rfl, _, _, rfl, rfl, .inr (by decide), _, rfl, _, _, rfl, rfl, .inl ⟨_, rfl, _, _, rfl, rfl, (show (0 : Int) < 2147483629 by decide), ?_⟩⟩
          refine ⟨l, _, _, rfl, rfl, hd, (Nat.lt_of_le_of_lt (show ds.length ≤ 100000 by omega) (by decide)), ?_⟩
          refine ⟨_, rfl, .inl ⟨rfl, _, SqL.of upd_same⟩, _, rfl, _, rfl, _, _, rfl, rfl, ⟨by decide, by decide⟩, _, _, rfl, rfl, .inl ⟨_, rfl, _, _, rfl, rfl, (show (0 : Int) < 1000003 by decide), ?_⟩⟩
          refine ⟨l, _, _, rfl, rfl, upd_same, (by simp; exact Nat.lt_of_le_of_lt (show ds.length + 1 ≤ 100000 by omega) (by decide)), ?_⟩
          refine ⟨_, _, _, rfl, ?_, _, upd_same, hdi.snoc.snoc, ?_⟩
          · rw [upd_upd]
            exact k1.trans (Kp.set (by rw [hd]; exact True.intro)) fun b hb => .inr (by rw [List.mem_singleton.mp hb]; exact hll)
          · simp
            omega
        · exact ⟨_, _, _, rfl, k1, ds, hd, hdi, by omega⟩
      · -- for k in range(60)
        rintro σ H3 ⟨nn, y4, y5, rfl, k3, ds3, hd3, hi3, hl3⟩
        refine ⟨_, rfl, by decide, by decide, ?_⟩
        refine for_it walk_range (fun j σ H' => (∃ (nn : Int) (y5 : Option V), σ = [some (.ref sa), some (.ref l), some (.int c), some (.int nn), y4, y5, none]) ∧ Kp [] H H' ∧ ∃ ds : List V, H' l = some (.lst ds) ∧ IntsL ds ∧ ds.length ≤ 62 * i + 2 + j)
          ⟨⟨nn, y5, rfl⟩, k3, ds3, hd3, hi3, hl3⟩ (fun _ _ _ _ _ => trivial) ?_ ?_
        · rintro j v σ H4 H5 hj ⟨⟨nn, y5, rfl⟩, k4, ds4, hd4, hi4, hl4⟩ ⟨rfl, rfl⟩
          have hj' : j < 60 := hj
          refine ⟨_, rfl, _, _, rfl, rfl, _, rfl, ?_⟩
          refine ite_of (fun e => ?_) (fun e => ?_)
          · refine ⟨_, rfl, .inl ⟨rfl, _, SqL.of hd4⟩, _, rfl, .inl ⟨_, rfl, _, _, rfl, rfl, (show (0 : Int) < 997 by decide), ?_⟩⟩
            refine ⟨l, _, _, rfl, rfl, hd4, (Nat.lt_of_le_of_lt (show ds4.length ≤ 100000 by omega) (by decide)), ?_⟩
            refine ⟨_, rfl, _, _, rfl, rfl, ⟨by decide, by decide⟩, ?_⟩
            refine ⟨⟨_, _, rfl⟩, k4.trans (Kp.set (by rw [hd4]; exact True.intro)) fun b hb => .inr (by rw [List.mem_singleton.mp hb]; exact hll), _, upd_same, hi4.snoc, ?_⟩
            simp
            omega
          · exact ⟨⟨_, _, rfl⟩, k4, ds4, hd4, hi4, by omega⟩
        · rintro σ H4 ⟨⟨nn, y5, rfl⟩, k4, ds4, hd4, hi4, hl4⟩
          exact ⟨⟨_, _, _, _, rfl⟩, k4, ds4, hd4, hi4, by have : (60 : Int).toNat = 60 := rfl; omega⟩
    · rintro σ H1 ⟨⟨y2, y3, y4, y5, rfl⟩, k1, ds, hd, hdi, hdl⟩
      have hdl' : ds.length ≤ 62 * 63 := by
        simp at hdl
        omega
      -- seed
      refine ⟨fun σ H' => ∃ sd : Int, σ = [some (.ref sa), some (.ref l), y2, y3, y4, y5, some (.int sd)] ∧ H' = H1, ?_, ?_⟩
      · refine ⟨_, rfl, sa, _, rfl, .inl (k1.sqL0 hs), _, _, rfl, rfl, _, rfl, ?_⟩
        refine ite_of (fun e => ?_) (fun e => ?_)
        · have hpos : 0 < ns.length := by
            have := of_decide_eq_true e
            simp at this
            omega
          refine ⟨_, rfl, sa, _, _, _, rfl, rfl, k1.sqL0 hs, atI_nat (j := 0) (v := .int ns[0]) (by simp [hpos]), _, rfl, _, _, rfl, rfl, ?_⟩
          exact ⟨_, rfl, rfl⟩
        · exact ⟨_, rfl, rfl⟩
      · rintro σ H2 ⟨sd, rfl, rfl⟩
        refine ⟨_, rfl, by decide, by decide, ?_⟩
        refine for_it walk_range (fun j σ H' => (∃ (sd : Int) (y5 : Option V), σ = [some (.ref sa), some (.ref l), y2, y3, y4, y5, some (.int sd)]) ∧ Kp [] H H' ∧ ∃ ds : List V, H' l = some (.lst ds) ∧ IntsL ds ∧ ds.length ≤ 62 * 63 + j)
          ⟨⟨sd, y5, rfl⟩, k1, ds, hd, hdi, hdl'⟩ (fun _ _ _ _ _ => trivial) ?_ ?_
        · rintro j v σ H4 H5 hj ⟨⟨sd, y5, rfl⟩, k4, ds4, hd4, hi4, hl4⟩ ⟨rfl, rfl⟩
          have hj' : j < 3000 := hj
          refine ⟨_, rfl, _, _, rfl, rfl, .inr (by decide), _, _, rfl, rfl, .inl ⟨_, rfl, _, _, rfl, rfl, (show (0 : Int) < 2147483647 by decide), ?_⟩⟩
          refine ⟨_, rfl, .inl ⟨rfl, _, SqL.of hd4⟩, _, rfl, _, _, rfl, rfl, ⟨by decide, by decide⟩, ?_⟩
          refine ⟨l, _, _, rfl, rfl, hd4, (Nat.lt_of_le_of_lt (show ds4.length ≤ 100000 by omega) (by decide)), ?_⟩
          refine ⟨⟨_, _, rfl⟩, k4.trans (Kp.set (by rw [hd4]; exact True.intro)) fun b hb => .inr (by rw [List.mem_singleton.mp hb]; exact hll), _, upd_same, hi4.snoc, ?_⟩
          simp
          omega
        · rintro σ H4 ⟨⟨sd, y5, rfl⟩, k4, ds4, hd4, hi4, hl4⟩
          refine ⟨_, rfl, l, _, rfl, SqL.of hd4, fun p hp => ?_⟩
          exact k _ p (k4.trans0 (Kp.new hp)) (k4.fr _ hp) (by obtain ⟨z, rfl⟩ := hi4; exact ⟨z.reverse, by rw [upd_same, List.map_reverse]⟩)
end
end K57
set_option Elab.async false
set_option linter.all false
set_option maxRecDepth 100000
set_option maxHeartbeats 4000000
/-! K57N: the law's own small defs. -/
namespace K57
open PySem L2 AB
section
variable {P : Program} {w : World} {K : PySem.W.Frag} {mg : Str → Option Value} {base : Heap} {a : Ad} {f : Addr} {fd : FuncData}
theorem ok_take (F : Fun K "_law_take" "_law_take" s_law_take f fd) (T : Txt K mg a) : FnOk P w K mg base (L2.CX P w) 1 f fd ["draws", "bound"] spTake := by
  refine okT F sc_law_take (fun vs H Q E h => ?_) (fun cdv A outer s H vs Q E hr tk hp h => ?_)
  · obtain ⟨l, b, rfl, _⟩ := h
    rfl
  · obtain ⟨l, b, rfl, hd, hb, k⟩ := h
    obtain ⟨ds, hds⟩ := id hd
    refine ⟨_, (pss_cons (ps_if (pt_cmpR op_eq (pe_callB (k_len K (by rfl)) (by rfl) T.n_len (by decide +kernel) (pa_cons (pv 0) pa_nil)) pe_int (nomark _)) (pss_one (ps_ret pe_int)) pss_nil) (pss_one (ps_ret (pe_op op_mod (pe_callTy call_int1 (by rfl) T.n_int (by decide +kernel) (pa_cons (k_bm0 K (by rfl) (pe_bm0 PySem.F.plainAttrs_list PySem.F.slot_list_pop PySem.F.type_list_pop mt_pop (pv 0) )) pa_nil)) (pv 1))))), ?_⟩
    refine ⟨_, rfl, l, _, rfl, .inl (SqL.of hds), rfl, _, rfl, ?_⟩
    refine ite_of (fun e => ?_) (fun e => ?_)
    · exact k 0 H ((Kp.refl H).wide (fun b h => nomatch h) hd.mut) hd (Int.le_refl 0) hb
    · have hpos : 0 < ds.length := by
        have e' := of_decide_eq_false e
        simp at e'
        exact List.length_pos_iff.mpr e'
      have hlast : (ds.map V.int)[(ds.map V.int).length - 1]? = some (.int ds[ds.length - 1]) := by
        have h2 : ds.length - 1 < ds.length := by omega
        simp [h2]
      refine ⟨_, rfl, .inl ⟨rfl, _, SqL.of hds⟩, l, _, _, rfl, rfl, hds, hlast, .inl ⟨_, rfl, _, rfl, _, _, rfl, rfl, hb, ?_⟩⟩
      exact k _ _ (Kp.set (by rw [hds]; exact True.intro)) ⟨ds.dropLast, by rw [upd_same, List.map_dropLast]⟩ (Int.emod_nonneg _ (by omega)) (Int.emod_lt_of_pos _ hb)
theorem ok_pick (F : Fun K "_law_pick" "_law_pick" s_law_pick f fd) (T : Txt K mg a) (G_law_take : GFn P w K mg base 1 "_law_take" ["draws", "bound"] spTake) : FnOk P w K mg base (L2.CX P w) 2 f fd ["draws", "some"] (spPick K) := by
  refine okT F sc_law_pick (fun vs H Q E h => ?_) (fun cdv A outer s H vs Q E hr tk hp h => ?_)
  · obtain ⟨l, so, xs, rfl, _⟩ := h
    rfl
  · obtain ⟨l, so, xs, rfl, hd, hs, hne, hx, hxl, k⟩ := h
    have hpos : 0 < xs.length := List.length_pos_iff.mpr hx
    refine ⟨_, (pss_one (ps_ret (pe_ix (k_ixL K (by rfl)) (pv 1) (pe_cl G_law_take (hr.mono (by decide)) tk (pa_cons (pv 0) (pa_cons (pe_callB (k_len K (by rfl)) (by rfl) T.n_len (by decide +kernel) (pa_cons (pv 1) pa_nil)) pa_nil))) (fun _ _ => rfl)))), ?_⟩
    refine ⟨_, rfl, _, rfl, _, rfl, so, xs, rfl, .inl hs, l, (xs.length : Int), rfl, hd, by omega, fun r H1 k1 hd1 h0 h1 => ?_⟩
    have hlt : r.toNat < xs.length := by omega
    refine ⟨so, xs, r, xs[r.toNat], rfl, rfl, k1.sqL hs (by simp [hne]), at_of (j := r.toNat) (by omega) (List.getElem?_eq_getElem hlt), ?_⟩
    exact k _ H1 (List.getElem_mem hlt) k1 hd1
end
end K57
set_option Elab.async false
set_option linter.all false
set_option maxRecDepth 100000
set_option maxHeartbeats 4000000
/-! K57B: nodes, homes and messages, plainly; dicts with numbers of nodes as keys. -/
namespace K57
open PySem L2 AB
inductive Kd where
  | r | w
deriving DecidableEq
def Kd.s : Kd → Str
  | .r => "read"
  | .w => "write"
inductive Wd where
  | go | sh
deriving DecidableEq
def Wd.s : Wd → Str
  | .go => "go"
  | .sh => "share"
inductive Msg where
  | ask (node home page : Nat) (asked : Int) (k : Kd)
  | put (home node page : Nat) (num : Int) (w : Wd)
  | grant (home node page : Nat) (num : Int) (k : Kd) (ws : List Int)
  | given (node home page : Nat) (num : Int) (ws : List Int)
  | have_ (node home page : Nat) (num : Int)
structure Hold where
  mode : Option Kd
  words : List Int
  want : Option Kd
  asked : Int
  last : Int
  answer : Option Msg
structure Hm where
  node : Nat
  writer : Option Nat
  readers : Nat → Bool
  words : List Int
  number : Int
  asker : Option Nat
  kind : Option Kd
  waits : Nat → Option Wd
  served : Nat → Option Int
structure Sy where
  many : Nat
  pages : Nat
  held : Nat → Nat → Hold
  homes : Nat → Hm
  way : List Msg
/-! ### dicts whose keys are numbers of nodes -/
def DN (H : Hp) (d : Addr) (many : Nat) (F : Nat → Option V) : Prop :=
  ∃ kvs : List (Key × V), H d = some (.dK kvs) ∧ (kvs.map (·.1)).Nodup ∧ (∀ p ∈ kvs, ∃ n : Nat, n < many ∧ p.1 = Sum.inl (n : Int)) ∧ ∀ n : Nat, valV kvs (Sum.inl (n : Int)) = F n
theorem DN.kp {H H' : Hp} {d : Addr} {many : Nat} {F : Nat → Option V} {m : List Addr} (h : DN H d many F) (k : Kp m H H') (hd : d ∉ m) : DN H' d many F := by
  obtain ⟨kvs, h1, h2⟩ := h
  exact ⟨kvs, k.st _ _ hd h1, h2⟩
theorem DN.mut {H : Hp} {d : Addr} {many : Nat} {F : Nat → Option V} (h : DN H d many F) : Mut (H d) := by
  obtain ⟨kvs, h1, _⟩ := h
  rw [h1]
  exact True.intro
theorem DN.empty {H : Hp} {d : Addr} {many : Nat} (h : H d = some (.dK [])) : DN H d many fun _ => none := ⟨[], h, List.nodup_nil, fun _ h => (nomatch h), fun _ => rfl⟩
theorem nodup_le {α : Type} [DecidableEq α] : ∀ {l m : List α}, l.Nodup → l ⊆ m → l.length ≤ m.length
  | [], _, _, _ => Nat.zero_le _
  | a :: l, m, nd, h => by
    have ha := h List.mem_cons_self
    have n1 := List.nodup_cons.mp nd
    have hs : l ⊆ m.erase a := fun x hx => (List.mem_erase_of_ne (fun e : x = a => n1.1 (by rw [← e]; exact hx))).mpr (h (List.mem_cons_of_mem _ hx))
    have q := nodup_le n1.2 hs
    rw [List.length_erase_of_mem ha] at q
    have := List.length_pos_of_mem ha
    rw [List.length_cons]
    omega
theorem keys_le {many : Nat} : ∀ {ks : List Key}, ks.Nodup → (∀ k ∈ ks, ∃ n : Nat, n < many ∧ k = Sum.inl (n : Int)) → ks.length ≤ many := by
  intro ks nd hk
  have hs : ks ⊆ (List.range many).map fun n : Nat => (Sum.inl (n : Int) : Key) := fun k hm => by
    obtain ⟨n, hn, rfl⟩ := hk k hm
    exact List.mem_map.mpr ⟨n, List.mem_range.mpr hn, rfl⟩
  have := nodup_le nd hs
  simpa using this
theorem DN.few {H : Hp} {d : Addr} {many : Nat} {F : Nat → Option V} (h : DN H d many F) : ∃ kvs, H d = some (.dK kvs) ∧ kvs.length ≤ many ∧ ∀ n : Nat, valV kvs (Sum.inl (n : Int)) = F n := by
  obtain ⟨kvs, h1, h2, h3, h4⟩ := h
  have := keys_le h2 fun k hk => by
    obtain ⟨p, hp, rfl⟩ := List.mem_map.mp hk
    exact h3 p hp
  rw [List.length_map] at this
  exact ⟨kvs, h1, this, h4⟩
theorem keys_put (kvs : List (Key × V)) (k : Key) (v : V) : (putK kvs k v).map (·.1) = if (valV kvs k).isSome then kvs.map (·.1) else kvs.map (·.1) ++ [k] := by
  unfold putK
  rw [valV_any]
  split
  · rw [List.map_map]
    refine List.map_congr_left fun p _ => ?_
    show (if p.1 = k then (p.1, v) else p).1 = p.1
    split <;> rfl
  · rw [List.map_append]
    rfl
theorem val_mem {kvs : List (Key × V)} {k : Key} : valV kvs k = none → k ∉ kvs.map (·.1) := by
  intro h hm
  obtain ⟨p, hp, e⟩ := List.mem_map.mp hm
  have q : (kvs.any fun kv => decide (kv.1 = k)) = true := List.any_eq_true.mpr ⟨p, hp, decide_eq_true e⟩
  rw [valV_any, h] at q
  exact absurd q (by decide)
theorem DN.put {H : Hp} {d : Addr} {many : Nat} {F : Nat → Option V} {kvs : List (Key × V)} (h1 : H d = some (.dK kvs)) (h : DN H d many F) {n : Nat} (hn : n < many) (v : V) : DN (upd H d (.dK (putK kvs (Sum.inl (n : Int)) v))) d many fun j => if j = n then some v else F j := by
  obtain ⟨kvs', h1', h2, h3, h4⟩ := h
  rw [h1] at h1'
  obtain rfl : kvs = kvs' := HO.dK.inj (Option.some.inj h1')
  refine ⟨_, upd_same, ?_, ?_, fun j => ?_⟩
  · rw [keys_put]
    split
    · exact h2
    · rename_i c
      rw [List.nodup_append]
      refine ⟨h2, by simp, fun x hx y hy e => ?_⟩
      rw [List.mem_singleton.mp hy] at e
      subst e
      exact val_mem (by simpa using c) hx
  · intro p hp
    have : p.1 ∈ (putK kvs (Sum.inl (n : Int)) v).map (·.1) := List.mem_map.mpr ⟨p, hp, rfl⟩
    rw [keys_put] at this
    split at this
    · obtain ⟨q, hq, e⟩ := List.mem_map.mp this
      rw [← e]
      exact h3 q hq
    · rcases List.mem_append.mp this with z | z
      · obtain ⟨q, hq, e⟩ := List.mem_map.mp z
        rw [← e]
        exact h3 q hq
      · exact ⟨n, hn, List.mem_singleton.mp z⟩
  · rw [valV_put, h4]
    show _ = if j = n then some v else F j
    by_cases c : j = n
    · subst c
      rw [if_pos rfl, if_pos rfl]
    · rw [if_neg (fun z => c (by have := Sum.inl.inj z; omega)), if_neg c]
theorem val_drop (k j : Key) : ∀ kvs : List (Key × V), valV (dropK kvs k) j = if j = k then none else valV kvs j
  | [] => by simp [dropK, valV]
  | p :: r => by
    have ih := val_drop k j r
    by_cases c : p.1 = k
    · have e : dropK (p :: r) k = dropK r k := by simp [dropK, c]
      rw [e, ih]
      by_cases cj : j = k
      · rw [if_pos cj, if_pos cj]
      · rw [if_neg cj, if_neg cj, valV_neg (fun z => cj (z.symm.trans c))]
    · have e : dropK (p :: r) k = p :: dropK r k := by simp [dropK, c]
      rw [e]
      by_cases cp : p.1 = j
      · rw [valV_pos cp, valV_pos cp, if_neg (fun z => c (cp.trans z))]
      · rw [valV_neg cp, valV_neg cp, ih]
theorem DN.drop {H : Hp} {d : Addr} {many : Nat} {F : Nat → Option V} {kvs : List (Key × V)} (h1 : H d = some (.dK kvs)) (h : DN H d many F) (n : Nat) : DN (upd H d (.dK (dropK kvs (Sum.inl (n : Int))))) d many fun j => if j = n then none else F j := by
  obtain ⟨kvs', h1', h2, h3, h4⟩ := h
  rw [h1] at h1'
  obtain rfl : kvs = kvs' := HO.dK.inj (Option.some.inj h1')
  refine ⟨_, upd_same, ?_, fun p hp => h3 p (List.mem_filter.mp hp).1, fun j => ?_⟩
  · exact List.Nodup.sublist (List.Sublist.map _ List.filter_sublist) h2
  · rw [val_drop, h4]
    show _ = if j = n then none else F j
    by_cases c : j = n
    · subst c
      rw [if_pos rfl, if_pos rfl]
    · rw [if_neg (fun z => c (by have := Sum.inl.inj z; omega)), if_neg c]
/-- the keys, in order -/
def keysN (many : Nat) (F : Nat → Option V) : List Nat := (List.range many).filter fun n => (F n).isSome
theorem DN.keys {H : Hp} {d : Addr} {many : Nat} {F : Nat → Option V} (h : DN H d many F) : ∃ kvs, ∃ ks : List Nat, H d = some (.dK kvs) ∧ kvs.map (·.1) = ks.map (fun n : Nat => (Sum.inl (n : Int) : Key)) ∧ ks.Perm (keysN many F) ∧ ks.length ≤ many ∧ ∀ n : Nat, valV kvs (Sum.inl (n : Int)) = F n := by
  obtain ⟨kvs, h1, h2, h3, h4⟩ := h
  have hk : ∀ ks : List Key, (∀ k ∈ ks, ∃ n : Nat, n < many ∧ k = Sum.inl (n : Int)) → ∃ ns : List Nat, ks = ns.map fun n : Nat => (Sum.inl (n : Int) : Key) := by
    intro ks
    induction ks with
    | nil => exact fun _ => ⟨[], rfl⟩
    | cons k ks ih =>
      intro h
      obtain ⟨n, _, e⟩ := h k List.mem_cons_self
      obtain ⟨ns, e2⟩ := ih fun q hq => h q (List.mem_cons_of_mem _ hq)
      exact ⟨n :: ns, by rw [e, e2]; rfl⟩
  have hin : ∀ k ∈ kvs.map (·.1), ∃ n : Nat, n < many ∧ k = Sum.inl (n : Int) := fun k hm => by
    obtain ⟨p, hp, rfl⟩ := List.mem_map.mp hm
    exact h3 p hp
  obtain ⟨ks, e⟩ := hk _ hin
  have hlen := keys_le h2 hin
  have hmem : ∀ n : Nat, n ∈ ks ↔ (F n).isSome = true := fun n => by
    rw [← h4 n, ← valV_any, List.any_eq_true]
    constructor
    · intro hn
      have : (Sum.inl (n : Int) : Key) ∈ kvs.map (·.1) := by rw [e]; exact List.mem_map.mpr ⟨n, hn, rfl⟩
      obtain ⟨p, hp, e2⟩ := List.mem_map.mp this
      exact ⟨p, hp, decide_eq_true e2⟩
    · rintro ⟨p, hp, e2⟩
      have : p.1 ∈ kvs.map (·.1) := List.mem_map.mpr ⟨p, hp, rfl⟩
      rw [of_decide_eq_true e2, e] at this
      obtain ⟨m, hm, e3⟩ := List.mem_map.mp this
      have := Sum.inl.inj e3
      obtain rfl : m = n := by omega
      exact hm
  refine ⟨kvs, ks, h1, e, ?_, by rw [e] at hlen; simpa using hlen, h4⟩
  refine (List.perm_ext_iff_of_nodup ?_ (List.Pairwise.filter _ List.nodup_range)).mpr fun n => ?_
  · rw [e] at h2
    exact List.Pairwise.of_map _ (fun a b h e => h (by rw [e])) h2
  · rw [hmem, List.mem_filter, List.mem_range]
    refine ⟨fun z => ⟨?_, z⟩, fun z => z.2⟩
    have hn := (hmem n).mpr z
    obtain ⟨q, hq, e3⟩ := hin (Sum.inl (n : Int)) (by rw [e]; exact List.mem_map.mpr ⟨n, hn, rfl⟩)
    have := Sum.inl.inj e3
    omega
/-- sorted numbers of nodes -/
theorem sorted_keys {many : Nat} {F : Nat → Option V} {ks : List Nat} (hp : ks.Perm (keysN many F)) {ys : List Int} (h1 : ys.Perm (ks.map fun n : Nat => (n : Int))) (h2 : ys.Pairwise (· ≤ ·)) : ys = (keysN many F).map fun n : Nat => (n : Int) := by
  have h3 : ys.Perm ((keysN many F).map fun n : Nat => (n : Int)) := h1.trans (hp.map _)
  refine List.Perm.eq_of_pairwise (le := fun (a b : Int) => a ≤ b) (fun a b _ _ x y => by omega) h2 ?_ h3
  rw [List.pairwise_map]
  exact List.Pairwise.imp (fun {a b} (h : a < b) => by omega) (List.Pairwise.filter _ List.pairwise_lt_range)
end K57
set_option Elab.async false
set_option linter.all false
set_option maxRecDepth 100000
set_option maxHeartbeats 4000000
/-! K57C: objects by their fields; what stands where. -/
namespace K57
open PySem L2 AB
theorem lt1000 {n : Nat} (h : Nat.ble (n + 1) 1000 = true) : n < 1000 := Nat.le_of_ble_eq_true h
def oF (v0 v1 v2 v3 v4 v5 : V) : List (Str × V) := [("mode", v0), ("words", v1), ("want", v2), ("asked", v3), ("last", v4), ("answer", v5)]
section
variable {v0 v1 v2 v3 v4 v5 u : V}
theorem oF_mode : (oF v0 v1 v2 v3 v4 v5).lookup ("mode" : Str) = some v0 := by kernel_rfl
theorem oF_p_mode : putF "mode" u (oF v0 v1 v2 v3 v4 v5) = oF u v1 v2 v3 v4 v5 := by kernel_rfl
theorem oF_words : (oF v0 v1 v2 v3 v4 v5).lookup ("words" : Str) = some v1 := by kernel_rfl
theorem oF_p_words : putF "words" u (oF v0 v1 v2 v3 v4 v5) = oF v0 u v2 v3 v4 v5 := by kernel_rfl
theorem oF_want : (oF v0 v1 v2 v3 v4 v5).lookup ("want" : Str) = some v2 := by kernel_rfl
theorem oF_p_want : putF "want" u (oF v0 v1 v2 v3 v4 v5) = oF v0 v1 u v3 v4 v5 := by kernel_rfl
theorem oF_asked : (oF v0 v1 v2 v3 v4 v5).lookup ("asked" : Str) = some v3 := by kernel_rfl
theorem oF_p_asked : putF "asked" u (oF v0 v1 v2 v3 v4 v5) = oF v0 v1 v2 u v4 v5 := by kernel_rfl
theorem oF_last : (oF v0 v1 v2 v3 v4 v5).lookup ("last" : Str) = some v4 := by kernel_rfl
theorem oF_p_last : putF "last" u (oF v0 v1 v2 v3 v4 v5) = oF v0 v1 v2 v3 u v5 := by kernel_rfl
theorem oF_answer : (oF v0 v1 v2 v3 v4 v5).lookup ("answer" : Str) = some v5 := by kernel_rfl
theorem oF_p_answer : putF "answer" u (oF v0 v1 v2 v3 v4 v5) = oF v0 v1 v2 v3 v4 u := by kernel_rfl
theorem oF_mk : putF "answer" v5 (putF "last" v4 (putF "asked" v3 (putF "want" v2 (putF "words" v1 (putF "mode" v0 []))))) = oF v0 v1 v2 v3 v4 v5 := by kernel_rfl
theorem oF_len : (oF v0 v1 v2 v3 v4 v5).length < 1000 := by show 6 < 1000; decide
theorem oF_no {m : Str} (h : m ∉ (["mode", "words", "want", "asked", "last", "answer"] : List Str)) : (oF v0 v1 v2 v3 v4 v5).lookup m = none := by
  simp only [List.mem_cons, List.not_mem_nil, or_false, not_or] at h
  obtain ⟨h0, h1, h2, h3, h4, h5⟩ := h
  have e : ∀ x : Str, m ≠ x → (m == x) = false := fun x q => by simpa using q
  simp [oF, List.lookup, e _ h0, e _ h1, e _ h2, e _ h3, e _ h4, e _ h5]
end
def hF (v0 v1 v2 v3 v4 v5 v6 v7 v8 : V) : List (Str × V) := [("node", v0), ("writer", v1), ("readers", v2), ("words", v3), ("number", v4), ("asker", v5), ("kind", v6), ("waits", v7), ("served", v8)]
section
variable {v0 v1 v2 v3 v4 v5 v6 v7 v8 u : V}
theorem hF_node : (hF v0 v1 v2 v3 v4 v5 v6 v7 v8).lookup ("node" : Str) = some v0 := by kernel_rfl
theorem hF_p_node : putF "node" u (hF v0 v1 v2 v3 v4 v5 v6 v7 v8) = hF u v1 v2 v3 v4 v5 v6 v7 v8 := by kernel_rfl
theorem hF_writer : (hF v0 v1 v2 v3 v4 v5 v6 v7 v8).lookup ("writer" : Str) = some v1 := by kernel_rfl
theorem hF_p_writer : putF "writer" u (hF v0 v1 v2 v3 v4 v5 v6 v7 v8) = hF v0 u v2 v3 v4 v5 v6 v7 v8 := by kernel_rfl
theorem hF_readers : (hF v0 v1 v2 v3 v4 v5 v6 v7 v8).lookup ("readers" : Str) = some v2 := by kernel_rfl
theorem hF_p_readers : putF "readers" u (hF v0 v1 v2 v3 v4 v5 v6 v7 v8) = hF v0 v1 u v3 v4 v5 v6 v7 v8 := by kernel_rfl
theorem hF_words : (hF v0 v1 v2 v3 v4 v5 v6 v7 v8).lookup ("words" : Str) = some v3 := by kernel_rfl
theorem hF_p_words : putF "words" u (hF v0 v1 v2 v3 v4 v5 v6 v7 v8) = hF v0 v1 v2 u v4 v5 v6 v7 v8 := by kernel_rfl
theorem hF_number : (hF v0 v1 v2 v3 v4 v5 v6 v7 v8).lookup ("number" : Str) = some v4 := by kernel_rfl
theorem hF_p_number : putF "number" u (hF v0 v1 v2 v3 v4 v5 v6 v7 v8) = hF v0 v1 v2 v3 u v5 v6 v7 v8 := by kernel_rfl
theorem hF_asker : (hF v0 v1 v2 v3 v4 v5 v6 v7 v8).lookup ("asker" : Str) = some v5 := by kernel_rfl
theorem hF_p_asker : putF "asker" u (hF v0 v1 v2 v3 v4 v5 v6 v7 v8) = hF v0 v1 v2 v3 v4 u v6 v7 v8 := by kernel_rfl
theorem hF_kind : (hF v0 v1 v2 v3 v4 v5 v6 v7 v8).lookup ("kind" : Str) = some v6 := by kernel_rfl
theorem hF_p_kind : putF "kind" u (hF v0 v1 v2 v3 v4 v5 v6 v7 v8) = hF v0 v1 v2 v3 v4 v5 u v7 v8 := by kernel_rfl
theorem hF_waits : (hF v0 v1 v2 v3 v4 v5 v6 v7 v8).lookup ("waits" : Str) = some v7 := by kernel_rfl
theorem hF_p_waits : putF "waits" u (hF v0 v1 v2 v3 v4 v5 v6 v7 v8) = hF v0 v1 v2 v3 v4 v5 v6 u v8 := by kernel_rfl
theorem hF_served : (hF v0 v1 v2 v3 v4 v5 v6 v7 v8).lookup ("served" : Str) = some v8 := by kernel_rfl
theorem hF_p_served : putF "served" u (hF v0 v1 v2 v3 v4 v5 v6 v7 v8) = hF v0 v1 v2 v3 v4 v5 v6 v7 u := by kernel_rfl
theorem hF_mk : putF "served" v8 (putF "waits" v7 (putF "kind" v6 (putF "asker" v5 (putF "number" v4 (putF "words" v3 (putF "readers" v2 (putF "writer" v1 (putF "node" v0 [])))))))) = hF v0 v1 v2 v3 v4 v5 v6 v7 v8 := by kernel_rfl
theorem hF_len : (hF v0 v1 v2 v3 v4 v5 v6 v7 v8).length < 1000 := by show 9 < 1000; decide
theorem hF_no {m : Str} (h : m ∉ (["node", "writer", "readers", "words", "number", "asker", "kind", "waits", "served"] : List Str)) : (hF v0 v1 v2 v3 v4 v5 v6 v7 v8).lookup m = none := by
  simp only [List.mem_cons, List.not_mem_nil, or_false, not_or] at h
  obtain ⟨h0, h1, h2, h3, h4, h5, h6, h7, h8⟩ := h
  have e : ∀ x : Str, m ≠ x → (m == x) = false := fun x q => by simpa using q
  simp [hF, List.lookup, e _ h0, e _ h1, e _ h2, e _ h3, e _ h4, e _ h5, e _ h6, e _ h7, e _ h8]
end
def nF (v0 v1 v2 v3 v4 : V) : List (Str × V) := [("many", v0), ("pages", v1), ("way", v2), ("homes", v3), ("held", v4)]
section
variable {v0 v1 v2 v3 v4 u : V}
theorem nF_many : (nF v0 v1 v2 v3 v4).lookup ("many" : Str) = some v0 := by kernel_rfl
theorem nF_p_many : putF "many" u (nF v0 v1 v2 v3 v4) = nF u v1 v2 v3 v4 := by kernel_rfl
theorem nF_pages : (nF v0 v1 v2 v3 v4).lookup ("pages" : Str) = some v1 := by kernel_rfl
theorem nF_p_pages : putF "pages" u (nF v0 v1 v2 v3 v4) = nF v0 u v2 v3 v4 := by kernel_rfl
theorem nF_way : (nF v0 v1 v2 v3 v4).lookup ("way" : Str) = some v2 := by kernel_rfl
theorem nF_p_way : putF "way" u (nF v0 v1 v2 v3 v4) = nF v0 v1 u v3 v4 := by kernel_rfl
theorem nF_homes : (nF v0 v1 v2 v3 v4).lookup ("homes" : Str) = some v3 := by kernel_rfl
theorem nF_p_homes : putF "homes" u (nF v0 v1 v2 v3 v4) = nF v0 v1 v2 u v4 := by kernel_rfl
theorem nF_held : (nF v0 v1 v2 v3 v4).lookup ("held" : Str) = some v4 := by kernel_rfl
theorem nF_p_held : putF "held" u (nF v0 v1 v2 v3 v4) = nF v0 v1 v2 v3 u := by kernel_rfl
theorem nF_mk : putF "held" v4 (putF "homes" v3 (putF "way" v2 (putF "pages" v1 (putF "many" v0 [])))) = nF v0 v1 v2 v3 v4 := by kernel_rfl
theorem nF_len : (nF v0 v1 v2 v3 v4).length < 1000 := by show 5 < 1000; decide
theorem nF_no {m : Str} (h : m ∉ (["many", "pages", "way", "homes", "held"] : List Str)) : (nF v0 v1 v2 v3 v4).lookup m = none := by
  simp only [List.mem_cons, List.not_mem_nil, or_false, not_or] at h
  obtain ⟨h0, h1, h2, h3, h4⟩ := h
  have e : ∀ x : Str, m ≠ x → (m == x) = false := fun x q => by simpa using q
  simp [nF, List.lookup, e _ h0, e _ h1, e _ h2, e _ h3, e _ h4]
end
/-! ### what stands where -/
def kdV : Option Kd → V
  | none => .non
  | some k => .str k.s
def nV : Option Nat → V
  | none => .non
  | some n => .int (n : Int)
/-- the items of a message's tuple -/
def msgL (K : PySem.W.Frag) (H : Hp) (xs : List V) : Msg → Prop
  | .ask n h p q k => xs = [.int (n : Int), .int (h : Int), .str "ask", .int (p : Int), .int q, .str k.s]
  | .put h n p q w => xs = [.int (h : Int), .int (n : Int), .str w.s, .int (p : Int), .int q]
  | .grant h n p q k ws => ∃ t, xs = [.int (h : Int), .int (n : Int), .str k.s, .int (p : Int), .int q, .ref t] ∧ SqT K H t (ws.map V.int)
  | .given n h p q ws => ∃ t, xs = [.int (n : Int), .int (h : Int), .str "given", .int (p : Int), .int q, .ref t] ∧ SqT K H t (ws.map V.int)
  | .have_ n h p q => xs = [.int (n : Int), .int (h : Int), .str "have", .int (p : Int), .int q]
def MV (K : PySem.W.Frag) (H : Hp) (v : V) (m : Msg) : Prop := ∃ t xs, v = .ref t ∧ SqT K H t xs ∧ msgL K H xs m
def AV (K : PySem.W.Frag) (H : Hp) (v : V) : Option Msg → Prop
  | none => v = .non
  | some m => MV K H v m
theorem msgL.kp {K : PySem.W.Frag} {H H' : Hp} {ms : List Addr} {xs : List V} {m : Msg} (k : Kp ms H H') (h : msgL K H xs m) : msgL K H' xs m := by
  cases m with
  | ask => exact h
  | put => exact h
  | grant => obtain ⟨t, e, h⟩ := h; exact ⟨t, e, k.sqT h⟩
  | given => obtain ⟨t, e, h⟩ := h; exact ⟨t, e, k.sqT h⟩
  | have_ => exact h
theorem MV.kp {K : PySem.W.Frag} {H H' : Hp} {ms : List Addr} {v : V} {m : Msg} (k : Kp ms H H') (h : MV K H v m) : MV K H' v m := by
  obtain ⟨t, xs, e, h1, h2⟩ := h
  exact ⟨t, xs, e, k.sqT h1, h2.kp k⟩
theorem AV.kp {K : PySem.W.Frag} {H H' : Hp} {ms : List Addr} {v : V} {m : Option Msg} (k : Kp ms H H') (h : AV K H v m) : AV K H' v m := by
  cases m with
  | none => exact h
  | some m => exact MV.kp k h
def HoldAt (K : PySem.W.Frag) (a : Ad) (H : Hp) (x : Addr) (h : Hold) : Prop := ∃ dx tw va, H x = some (.ins a.ch dx (oF (kdV h.mode) (.ref tw) (kdV h.want) (.int h.asked) (.int h.last) va)) ∧ SqT K H tw (h.words.map V.int) ∧ AV K H va h.answer
theorem HoldAt.kp {K : PySem.W.Frag} {a : Ad} {H H' : Hp} {ms : List Addr} {x : Addr} {h : Hold} (q : HoldAt K a H x h) (k : Kp ms H H') (hx : x ∉ ms) : HoldAt K a H' x h := by
  obtain ⟨dx, tw, va, h1, h2, h3⟩ := q
  exact ⟨dx, tw, va, k.st _ _ hx h1, k.sqT h2, h3.kp k⟩
structure HmAt (K : PySem.W.Frag) (a : Ad) (many : Nat) (H : Hp) (x r wt sv : Addr) (h : Hm) : Prop where
  ob : ∃ dx tw, H x = some (.ins a.cm dx (hF (.int (h.node : Int)) (nV h.writer) (.ref r) (.ref tw) (.int h.number) (nV h.asker) (kdV h.kind) (.ref wt) (.ref sv))) ∧ SqT K H tw (h.words.map V.int)
  rd : DN H r many fun n => if h.readers n then some (.bl true) else none
  wa : DN H wt many fun n => (h.waits n).map fun w => .str w.s
  se : DN H sv many fun n => (h.served n).map V.int
  nd : [r, wt, sv].Nodup
theorem HmAt.kp {K : PySem.W.Frag} {a : Ad} {many : Nat} {H H' : Hp} {ms : List Addr} {x r wt sv : Addr} {h : Hm} (q : HmAt K a many H x r wt sv h) (k : Kp ms H H') (hx : x ∉ ms) (hr : r ∉ ms) (hw : wt ∉ ms) (hs : sv ∉ ms) : HmAt K a many H' x r wt sv h := by
  obtain ⟨⟨dx, tw, h1, h2⟩, h3, h4, h5, h6⟩ := q
  exact ⟨⟨dx, tw, k.st _ _ hx h1, k.sqT h2⟩, h3.kp k hr, h4.kp k hw, h5.kp k hs, h6⟩
def hold0 (m : Option Kd) : Hold := ⟨m, zeros, none, 0, 0, none⟩
def home0 (n : Nat) : Hm := ⟨n, none, fun j => decide (j = n), zeros, 0, none, none, fun _ => none, fun _ => none⟩
def spHoldInit (K : PySem.W.Frag) (a : Ad) : Sp := fun vs H Q _ => ∃ (x dx : Addr) (m : Option Kd), vs = [.ref x, kdV m] ∧ H x = some (.ins a.ch dx []) ∧ ∀ H', Kp [x] H H' → HoldAt K a H' x (hold0 m) → Q .non H'
def spHomeInit (K : PySem.W.Frag) (a : Ad) : Sp := fun vs H Q _ => ∃ (x dx : Addr) (n many : Nat), vs = [.ref x, .int (n : Int)] ∧ H x = some (.ins a.cm dx []) ∧ n < many ∧ ∀ H' r wt sv, Kp [x] H H' → HmAt K a many H' x r wt sv (home0 n) → H r = none → H wt = none → H sv = none → Q .non H'
section
variable {P : Program} {w : World} {K : PySem.W.Frag} {mg : Str → Option Value} {base : Heap} {a : Ad} {f : Addr} {fd : FuncData}
theorem ok_hold_init (F : Fun K "__init__" "Holding.__init__" s_Holding_init f fd) (T : Txt K mg a) : FnOk P w K mg base (L2.CX P w) 1 f fd ["self", "mode"] (spHoldInit K a) := by
  refine okT F sc_Holding_init (fun vs H Q E h => ?_) (fun cdv A outer s H vs Q E hr tk hp h => ?_)
  · obtain ⟨x, dx, m, rfl, _⟩ := h
    rfl
  · obtain ⟨x, dx, m, rfl, hx, k⟩ := h
    refine ⟨_, (pss_cons (ps_asg (pe_tup (pa_cons (pv 1) (pa_cons (pe_gv T.c_EMPTY) (pa_cons pe_non (pa_cons pe_int pa_nil))))) (pg_tup rfl (pgs_cons (k_gfld K (by rfl) (pg_fld (pv 0))) (pgs_cons (k_gfld K (by rfl) (pg_fld (pv 0))) (pgs_cons (k_gfld K (by rfl) (pg_fld (pv 0))) (pgs_cons (k_gfld K (by rfl) (pg_fld (pv 0))) pgs_nil)))))) (pss_one (ps_asg (pe_tup (pa_cons pe_int (pa_cons pe_non pa_nil))) (pg_tup rfl (pgs_cons (k_gfld K (by rfl) (pg_fld (pv 0))) (pgs_cons (k_gfld K (by rfl) (pg_fld (pv 0))) pgs_nil)))))), ?_⟩
    have hn : ∀ {f : Str}, f ∈ (["mode", "words", "want", "asked", "last", "answer"] : List Str) → NoAttr K a.ch f := fun h => T.aH _ h
    refine ⟨_, rfl, (by show 4 ≤ sizeLine; decide), fun t ht => ?_⟩
    have k1 := Kp.new (o := .tup [kdV m, .ref a.em, .non, .int 0]) ht
    have e1 := k1.same _ _ hx
    refine ⟨t, _, rfl, SqT.of upd_same, rfl, _, _, rfl, _, rfl, x, a.ch, dx, _, rfl, e1, T.cH, hn (by simp), (by show 0 < 1000; decide), ?_⟩
    refine ⟨_, _, rfl, _, rfl, x, a.ch, dx, _, rfl, upd_same, T.cH, hn (by simp), (lt1000 (by kernel_rfl)), ?_⟩
    refine ⟨_, _, rfl, _, rfl, x, a.ch, dx, _, rfl, upd_same, T.cH, hn (by simp), (lt1000 (by kernel_rfl)), ?_⟩
    refine ⟨_, _, rfl, _, rfl, x, a.ch, dx, _, rfl, upd_same, T.cH, hn (by simp), (lt1000 (by kernel_rfl)), rfl, ?_⟩
    rw [upd_upd, upd_upd, upd_upd]
    have kx : Kp [x] H _ := (k1.wide (fun b h => nomatch h) (fun b hb => by rw [List.mem_singleton.mp hb, hx]; exact True.intro)).trans1 (Kp.set (o := .ins a.ch dx (putF "asked" (.int 0) (putF "want" .non (putF "words" (.ref a.em) (putF "mode" (kdV m) []))))) (by rw [e1]; exact True.intro))
    -- last, answer
    refine ⟨(by show 2 ≤ sizeLine; decide), fun t2 ht2 => ?_⟩
    have k2 := Kp.new (o := .tup [V.int 0, .non]) ht2
    have e2 := k2.same _ _ (upd_same (H := upd H t (.tup [kdV m, .ref a.em, .non, .int 0])) (a := x) (o := .ins a.ch dx (putF "asked" (.int 0) (putF "want" .non (putF "words" (.ref a.em) (putF "mode" (kdV m) []))))))
    refine ⟨t2, _, rfl, SqT.of upd_same, rfl, _, _, rfl, _, rfl, x, a.ch, dx, _, rfl, e2, T.cH, hn (by simp), (lt1000 (by kernel_rfl)), ?_⟩
    refine ⟨_, _, rfl, _, rfl, x, a.ch, dx, _, rfl, upd_same, T.cH, hn (by simp), (lt1000 (by kernel_rfl)), rfl, ?_⟩
    rw [upd_upd]
    refine k _ ((kx.trans0 k2).trans1 (Kp.set (by rw [e2]; exact True.intro))) ⟨dx, a.em, .non, Eq.trans upd_same (congrArg (fun z => some (HO.ins a.ch dx z)) oF_mk), T.z_empty _, rfl⟩
end
end K57
set_option Elab.async false
set_option linter.all false
set_option maxRecDepth 100000
set_option maxHeartbeats 4000000
/-! K57D: a home. -/
namespace K57
open PySem L2 AB
def hasIt (h : Hm) (n : Nat) (k : Kd) : Bool := decide (h.writer = some n) || (decide (k = .r) && h.readers n)
def noWaits (many : Nat) (h : Hm) : Bool := (List.range many).all fun n => (h.waits n).isNone
def granting (many : Nat) (h : Hm) : Bool := h.asker.isSome && noWaits many h
def grantH (h : Hm) : Hm := if h.kind = some .w then { h with writer := h.asker, readers := fun _ => false } else { h with readers := fun n => decide (h.asker = some n) || h.readers n }
theorem kd_inj {k j : Kd} : (V.str k.s = V.str j.s) ↔ k = j := by
  cases k <;> cases j <;> decide +kernel
theorem DN.len0 {H : Hp} {d : Addr} {many : Nat} {h : Hm} (q : DN H d many fun n => (h.waits n).map fun w => .str w.s) : ∃ kvs, H d = some (.dK kvs) ∧ kvs.length ≤ many ∧ (decide ((kvs.length : Int) = 0)) = noWaits many h ∧ ∀ n : Nat, valV kvs (Sum.inl (n : Int)) = (h.waits n).map fun w => .str w.s := by
  obtain ⟨kvs, ks, h1, h2, h3, h4, h5⟩ := q.keys
  have hl : kvs.length = ks.length := by
    have := congrArg List.length h2
    simpa using this
  refine ⟨kvs, h1, by omega, ?_, h5⟩
  rw [Bool.eq_iff_iff, decide_eq_true_eq, noWaits, List.all_eq_true, hl, h3.length_eq]
  constructor
  · intro e n hn
    have e2 : keysN many (fun n => (h.waits n).map fun w => V.str w.s) = [] := List.eq_nil_of_length_eq_zero (by omega)
    have q := List.filter_eq_nil_iff.mp e2 n hn
    cases hw : h.waits n with
    | none => rfl
    | some w => simp [hw] at q
  · intro e
    have e2 : keysN many (fun n => (h.waits n).map fun w => V.str w.s) = [] := List.filter_eq_nil_iff.mpr fun n hn => by
      have := e n hn
      cases hw : h.waits n with
      | none => simp [hw]
      | some w => rw [hw] at this; cases this
    rw [e2]
    rfl
def spHasIt (K : PySem.W.Frag) (a : Ad) : Sp := fun vs H Q _ => ∃ (x r wt sv : Addr) (many : Nat) (h : Hm) (n : Nat) (k : Kd), vs = [.ref x, .int (n : Int), .str k.s] ∧ HmAt K a many H x r wt sv h ∧ Q (.bl (hasIt h n k)) H
def spGranting (K : PySem.W.Frag) (a : Ad) : Sp := fun vs H Q _ => ∃ (x r wt sv : Addr) (many : Nat) (h : Hm), vs = [.ref x] ∧ HmAt K a many H x r wt sv h ∧ Q (.bl (granting many h)) H
/-- a home changed: its own things and no others -/
def spGrant (K : PySem.W.Frag) (a : Ad) : Sp := fun vs H Q _ => ∃ (x r wt sv : Addr) (many : Nat) (h : Hm) (n : Nat), vs = [.ref x] ∧ HmAt K a many H x r wt sv h ∧ h.asker = some n ∧ n < many ∧ many ≤ 4 ∧
  ∀ H' r', Kp [x, r] H H' → HmAt K a many H' x r' wt sv (grantH h) → (r' = r ∨ H r' = none) → Q .non H'
section
variable {P : Program} {w : World} {K : PySem.W.Frag} {mg : Str → Option Value} {base : Heap} {a : Ad} {f : Addr} {fd : FuncData}
theorem ok_home_init (F : Fun K "__init__" "Home.__init__" s_Home_init f fd) (T : Txt K mg a) : FnOk P w K mg base (L2.CX P w) 1 f fd ["self", "node"] (spHomeInit K a) := by
  refine okT F sc_Home_init (fun vs H Q E h => ?_) (fun cdv A outer s H vs Q E hr tk hp h => ?_)
  · obtain ⟨x, dx, n, many, rfl, _⟩ := h
    rfl
  · obtain ⟨x, dx, n, many, rfl, hx, hn1, k⟩ := h
    refine ⟨_, (pss_cons (ps_asg (pe_tup (pa_cons (pv 1) (pa_cons pe_non (pa_cons (pe_disp (pps_cons (pv 1) pe_bl pps_nil) (by rfl) (by rfl) (fun z => by cases z) (by decide)) (pa_cons (pe_gv T.c_EMPTY) pa_nil))))) (pg_tup rfl (pgs_cons (k_gfld K (by rfl) (pg_fld (pv 0))) (pgs_cons (k_gfld K (by rfl) (pg_fld (pv 0))) (pgs_cons (k_gfld K (by rfl) (pg_fld (pv 0))) (pgs_cons (k_gfld K (by rfl) (pg_fld (pv 0))) pgs_nil)))))) (pss_one (ps_asg (pe_tup (pa_cons pe_int (pa_cons pe_non (pa_cons pe_non (pa_cons pe_dnewK (pa_cons pe_dnewK pa_nil)))))) (pg_tup rfl (pgs_cons (k_gfld K (by rfl) (pg_fld (pv 0))) (pgs_cons (k_gfld K (by rfl) (pg_fld (pv 0))) (pgs_cons (k_gfld K (by rfl) (pg_fld (pv 0))) (pgs_cons (k_gfld K (by rfl) (pg_fld (pv 0))) (pgs_cons (k_gfld K (by rfl) (pg_fld (pv 0))) pgs_nil))))))))), ?_⟩
    have hn : ∀ {f : Str}, f ∈ (["node", "writer", "readers", "words", "number", "asker", "kind", "waits", "served"] : List Str) → NoAttr K a.cm f := fun h => T.aM _ h
    refine ⟨_, rfl, fun p hp => ⟨_, rfl, upd_same, [(Sum.inl (n : Int), .bl true)], rfl, (by show 1 ≤ 15; decide), (by show 4 ≤ sizeLine; decide), fun t ht => ?_⟩⟩
    rw [upd_upd] at ht
    have e0 : mergeK [] [((Sum.inl (n : Int) : Key), V.bl true)] = [(Sum.inl (n : Int), .bl true)] := rfl
    rw [upd_upd]
    rw [e0] at ht ⊢
    have k0 := Kp.new (o := .dK [(Sum.inl (n : Int), .bl true)]) hp
    have k1 := k0.trans0 (Kp.new (o := .tup [V.int (n : Int), .non, .ref p, .ref a.em]) ht)
    have e1 := k1.same _ _ hx
    refine ⟨t, _, rfl, SqT.of upd_same, rfl, _, _, rfl, _, rfl, x, a.cm, dx, _, rfl, e1, T.cM, hn (by simp), (by show 0 < 1000; decide), ?_⟩
    refine ⟨_, _, rfl, _, rfl, x, a.cm, dx, _, rfl, upd_same, T.cM, hn (by simp), (lt1000 (by kernel_rfl)), ?_⟩
    refine ⟨_, _, rfl, _, rfl, x, a.cm, dx, _, rfl, upd_same, T.cM, hn (by simp), (lt1000 (by kernel_rfl)), ?_⟩
    refine ⟨_, _, rfl, _, rfl, x, a.cm, dx, _, rfl, upd_same, T.cM, hn (by simp), (lt1000 (by kernel_rfl)), rfl, ?_⟩
    rw [upd_upd, upd_upd, upd_upd]
    obtain ⟨O, hO⟩ : ∃ O, O = HO.ins a.cm dx (putF "words" (.ref a.em) (putF "readers" (.ref p) (putF "writer" .non (putF "node" (.int (n : Int)) [])))) := ⟨_, rfl⟩
    have kz := Kp.set (p := x) (o := O) (H := upd (upd H p (.dK [(Sum.inl (n : Int), .bl true)])) t (.tup [V.int (n : Int), .non, .ref p, .ref a.em])) (by rw [e1]; exact True.intro)
    have kx := (k1.wide (m' := [x]) (fun b h => nomatch h) (fun b hb => by rw [List.mem_singleton.mp hb, hx]; exact True.intro)).trans1 kz
    have px : p ≠ x := (ne_of_none hx hp).symm
    have ep := kz.st p _ (by simp [px]) ((Kp.new (o := .tup [V.int (n : Int), .non, .ref p, .ref a.em]) ht).same _ _ (upd_same (H := H) (a := p) (o := .dK [(Sum.inl (n : Int), .bl true)])))
    rw [← hO]
    generalize hH2 : upd (upd (upd H p (.dK [(Sum.inl (n : Int), .bl true)])) t (.tup [V.int (n : Int), .non, .ref p, .ref a.em])) x O = H2 at *
    have e2 : H2 x = some O := by rw [← hH2]; exact upd_same
    refine fun d1 hd1 d2 hd2 => ⟨(by show 5 ≤ sizeLine; decide), fun t2 ht2 => ?_⟩
    have q1 := Kp.new (o := .dK []) hd1
    have q2 := Kp.new (o := .dK []) hd2
    have q3 := Kp.new (o := .tup [V.int 0, .non, .non, .ref d1, .ref d2]) ht2
    have q := (q1.trans0 q2).trans0 q3
    have e3 := q.same _ _ e2
    rw [hO] at e3
    refine ⟨t2, _, rfl, SqT.of upd_same, rfl, _, _, rfl, _, rfl, x, a.cm, dx, _, rfl, e3, T.cM, hn (by simp), (lt1000 (by kernel_rfl)), ?_⟩
    refine ⟨_, _, rfl, _, rfl, x, a.cm, dx, _, rfl, upd_same, T.cM, hn (by simp), (lt1000 (by kernel_rfl)), ?_⟩
    refine ⟨_, _, rfl, _, rfl, x, a.cm, dx, _, rfl, upd_same, T.cM, hn (by simp), (lt1000 (by kernel_rfl)), ?_⟩
    refine ⟨_, _, rfl, _, rfl, x, a.cm, dx, _, rfl, upd_same, T.cM, hn (by simp), (lt1000 (by kernel_rfl)), ?_⟩
    refine ⟨_, _, rfl, _, rfl, x, a.cm, dx, _, rfl, upd_same, T.cM, hn (by simp), (lt1000 (by kernel_rfl)), rfl, ?_⟩
    rw [upd_upd, upd_upd, upd_upd, upd_upd]
    have kl := Kp.set (p := x) (o := HO.ins a.cm dx (hF (.int (n : Int)) .non (.ref p) (.ref a.em) (.int 0) .non .non (.ref d1) (.ref d2))) (H := upd (upd (upd H2 d1 (.dK [])) d2 (.dK [])) t2 (.tup [V.int 0, .non, .non, .ref d1, .ref d2])) (by rw [e3]; exact True.intro)
    have ee : ∀ z, z = hF (.int (n : Int)) .non (.ref p) (.ref a.em) (.int 0) .non .non (.ref d1) (.ref d2) → upd (upd (upd (upd H2 d1 (.dK [])) d2 (.dK [])) t2 (.tup [V.int 0, .non, .non, .ref d1, .ref d2])) x (.ins a.cm dx z) = upd (upd (upd (upd H2 d1 (.dK [])) d2 (.dK [])) t2 (.tup [V.int 0, .non, .non, .ref d1, .ref d2])) x (.ins a.cm dx (hF (.int (n : Int)) .non (.ref p) (.ref a.em) (.int 0) .non .non (.ref d1) (.ref d2))) := fun z hz => by rw [hz]
    rw [ee _ hF_mk]
    have d1x : d1 ≠ x := (ne_of_none e2 hd1).symm
    have d2x : d2 ≠ x := (ne_of_none (q1.same _ _ e2) hd2).symm
    have d12 : d1 ≠ d2 := ne_of_none (upd_same (H := H2) (a := d1) (o := .dK [])) hd2
    have pd1 : p ≠ d1 := ne_of_none ep hd1
    have pd2 : p ≠ d2 := ne_of_none (q1.same _ _ ep) hd2
    have f1 := kl.st d1 _ (by simp [d1x]) ((q2.trans0 q3).same _ _ (upd_same (H := H2) (a := d1) (o := .dK [])))
    have f2 := kl.st d2 _ (by simp [d2x]) (q3.same _ _ (upd_same (H := upd H2 d1 (.dK [])) (a := d2) (o := .dK [])))
    have f3 := kl.st p _ (by simp [px]) (q.same _ _ ep)
    refine k _ p d1 d2 ((kx.trans0 q).trans1 kl) ⟨⟨dx, a.em, upd_same, T.z_empty _⟩, ⟨_, f3, by simp, fun z hz => ?_, fun j => ?_⟩, DN.empty f1, DN.empty f2, by simp [pd1, pd2, d12]⟩ hp (kx.fr _ hd1) (kx.fr _ (q1.fr _ hd2))
    · rw [List.mem_singleton.mp hz]
      exact ⟨n, hn1, rfl⟩
    · show valV _ _ = if (decide (j = n)) = true then some (V.bl true) else none
      by_cases c : j = n
      · rw [if_pos (decide_eq_true c), valV_pos (by rw [c])]
      · rw [if_neg (by simpa using c), valV_neg (fun z => c (by have := Sum.inl.inj z; omega))]
        rfl
theorem ok_has_it (F : Fun K "has_it" "Home.has_it" s_Home_has_it f fd) (T : Txt K mg a) : FnOk P w K mg base (L2.CX P w) 1 f fd ["self", "node", "kind"] (spHasIt K a) := by
  refine okT F sc_Home_has_it (fun vs H Q E h => ?_) (fun cdv A outer s H vs Q E hr tk hp h => ?_)
  · obtain ⟨x, r, wt, sv, many, h, n, k, rfl, _⟩ := h
    rfl
  · obtain ⟨x, r, wt, sv, many, h, n, k, rfl, hm, q⟩ := h
    obtain ⟨dx, tw, hx, htw⟩ := hm.ob
    obtain ⟨kvs, hr1, hrl, hrv⟩ := hm.rd.few
    have hn : ∀ {f : Str}, f ∈ (["node", "writer", "readers", "words", "number", "asker", "kind", "waits", "served"] : List Str) → NoAttr K a.cm f := fun h => T.aM _ h
    refine ⟨_, (pss_one (ps_ret (pe_or (pe_cmpR op_eq (k_fld K (by rfl) (pe_fld (pv 0) (by rfl))) (pv 1) (nomark _)) (pe_one (pe_and (pe_cmpR op_eq (pv 2) (pe_gv T.c_READ) (nomark _)) (pe_one (pe_cmp (pc_din (hu_of hr) (pv 1) (k_fld K (by rfl) (pe_fld (pv 0) (by rfl)))) rfl))))))), ?_⟩
    refine ⟨_, rfl, x, a.cm, dx, _, _, rfl, hx, T.cM, hn (by simp), hF_writer, _, rfl, by cases h.writer <;> rfl, _, rfl, ?_⟩
    have e1 : decide (nV h.writer = .int (n : Int)) = decide (h.writer = some n) := by
      cases h.writer with
      | none => exact decide_eq_decide.mpr ⟨(fun z => nomatch z), (fun z => nomatch z)⟩
      | some m => exact decide_eq_decide.mpr ⟨fun z => by have := V.int.inj z; rw [show m = n by omega], fun z => by rw [Option.some.inj z]; rfl⟩
    refine ite_of (fun e => ?_) (fun e => ?_)
    · have h1 : hasIt h n k = true := by rw [hasIt, ← e1, e]; rfl
      rw [h1] at q
      exact q
    · have h1 : hasIt h n k = (decide (k = .r) && h.readers n) := by rw [hasIt, ← e1, e]; rfl
      rw [h1] at q
      refine ⟨_, rfl, by cases k <;> rfl, _, rfl, ?_⟩
      have e2 : decide (V.str k.s = .str "read") = decide (k = .r) := decide_eq_decide.mpr (kd_inj (j := .r))
      refine ite_of (fun z => ?_) (fun z => ?_)
      · rw [← e2, z] at q
        refine ⟨_, rfl, _, rfl, x, a.cm, dx, _, _, rfl, hx, T.cM, hn (by simp), hF_readers, r, _, rfl, DGet.k (k := Sum.inl (n : Int)) hr1, ?_⟩
        rw [hrv n]
        cases hrn : h.readers n with
        | true => rw [hrn] at q; exact q
        | false => rw [hrn] at q; exact q
      · rw [← e2, z] at q
        exact q
theorem ok_granting (F : Fun K "is_granting" "Home.is_granting" s_Home_is_granting f fd) (T : Txt K mg a) : FnOk P w K mg base (L2.CX P w) 1 f fd ["self"] (spGranting K a) := by
  refine okT F sc_Home_is_granting (fun vs H Q E h => ?_) (fun cdv A outer s H vs Q E hr tk hp h => ?_)
  · obtain ⟨x, r, wt, sv, many, h, rfl, _⟩ := h
    rfl
  · obtain ⟨x, r, wt, sv, many, h, rfl, hm, q⟩ := h
    obtain ⟨dx, tw, hx, htw⟩ := hm.ob
    obtain ⟨kvs, hw1, hwl, hwz, _⟩ := hm.wa.len0
    have hn : ∀ {f : Str}, f ∈ (["node", "writer", "readers", "words", "number", "asker", "kind", "waits", "served"] : List Str) → NoAttr K a.cm f := fun h => T.aM _ h
    refine ⟨_, (pss_one (ps_ret (pe_and (pe_cmpR op_notN (k_fld K (by rfl) (pe_fld (pv 0) (by rfl))) pe_non (nomark _)) (pe_one (pe_cmpR op_eq (pe_callB call_lenD (by rfl) T.n_len (by decide +kernel) (pa_cons (k_fld K (by rfl) (pe_fld (pv 0) (by rfl))) pa_nil)) pe_int (nomark _)))))), ?_⟩
    refine ⟨_, rfl, x, a.cm, dx, _, _, rfl, hx, T.cM, hn (by simp), hF_asker, rfl, _, rfl, ?_⟩
    refine ite_of (fun e => ?_) (fun e => ?_)
    · have h1 : h.asker.isSome = true := by
        cases ha : h.asker with
        | none => rw [ha] at e; cases e
        | some n => rfl
      rw [granting, h1, ← hwz] at q
      exact ⟨_, rfl, x, a.cm, dx, _, _, rfl, hx, T.cM, hn (by simp), hF_waits, wt, kvs, rfl, hw1, rfl, by rw [show decide (V.int (kvs.length : Int) = .int 0) = decide ((kvs.length : Int) = 0) from decide_eq_decide.mpr ⟨fun z => V.int.inj z, fun z => by rw [z]⟩]; exact q⟩
    · have h1 : h.asker.isSome = false := by
        cases ha : h.asker with
        | none => rfl
        | some n => rw [ha] at e; cases e
      rw [granting, h1] at q
      exact q
end
end K57
set_option Elab.async false
set_option linter.all false
set_option maxRecDepth 100000
set_option maxHeartbeats 4000000
/-! K57E: a home grants; a home begins. -/
namespace K57
open PySem L2 AB
theorem filt_getD (p : Nat → Bool) (f : Nat → V) (bl : List Nat) : ((List.range bl.length).filter fun j => p (bl.getD j 0)).map (fun j => f (bl.getD j 0)) = (bl.filter p).map f := by
  have e3 : bl = (List.range bl.length).map fun j => bl.getD j 0 := by
    apply List.ext_getElem
    · simp
    · intro j h1 h2
      simp [List.getD_eq_getElem?_getD, List.getElem?_eq_getElem h1]
  conv => rhs; rw [e3, List.filter_map, List.map_map]
  rfl
theorem val_same (v : V) (n : Nat) : ∀ os : List Nat, valV (os.map fun j : Nat => ((Sum.inl (j : Int) : Key), v)) (Sum.inl (n : Int)) = if n ∈ os then some v else none
  | [] => rfl
  | j :: os => by
    rw [List.map_cons]
    by_cases c : j = n
    · subst c
      rw [valV_pos rfl, if_pos List.mem_cons_self]
    · rw [valV_neg (fun z => c (by have := Sum.inl.inj z; omega)), val_same v n os]
      by_cases m : n ∈ os
      · rw [if_pos m, if_pos (List.mem_cons_of_mem _ m)]
      · rw [if_neg m, if_neg]
        intro z
        rcases List.mem_cons.mp z with e | e
        · exact c e.symm
        · exact m e
def beginH (h : Hm) (n : Nat) (k : Kd) : Hm := { h with number := h.number + 1, asker := some n, kind := some k, waits := fun j => if h.writer = some j then some (if k = .w then .go else .sh) else if k = .w ∧ h.readers j = true ∧ j ≠ n then some .go else none }
def spBegin (K : PySem.W.Frag) (a : Ad) : Sp := fun vs H Q _ => ∃ (x r wt sv : Addr) (many : Nat) (h : Hm) (n : Nat) (k : Kd), vs = [.ref x, .int (n : Int), .str k.s] ∧ HmAt K a many H x r wt sv h ∧ n < many ∧ many ≤ 4 ∧ (∀ j, h.writer = some j → j < many) ∧ (∀ j, h.readers j = true → j < many) ∧
  ∀ H' wt', Kp [x] H H' → HmAt K a many H' x r wt' sv (beginH h n k) → H wt' = none → Q .non H'
section
variable {P : Program} {w : World} {K : PySem.W.Frag} {mg : Str → Option Value} {base : Heap} {a : Ad} {f : Addr} {fd : FuncData}
theorem ok_grant (F : Fun K "grant" "Home.grant" s_Home_grant f fd) (T : Txt K mg a) : FnOk P w K mg base (L2.CX P w) 1 f fd ["self"] (spGrant K a) := by
  refine okT F sc_Home_grant (fun vs H Q E h => ?_) (fun cdv A outer s H vs Q E hr tk hp h => ?_)
  · obtain ⟨x, r, wt, sv, many, h, n, rfl, _⟩ := h
    rfl
  · obtain ⟨x, r, wt, sv, many, h, n, rfl, hm, ha, hn4, hm4, k⟩ := h
    obtain ⟨dx, tw, hx, htw⟩ := hm.ob
    have hn : ∀ {f : Str}, f ∈ (["node", "writer", "readers", "words", "number", "asker", "kind", "waits", "served"] : List Str) → NoAttr K a.cm f := fun h => T.aM _ h
    obtain ⟨kvs, hr1, hrl, hrv⟩ := hm.rd.few
    have xr : r ≠ x := ne_of hr1 hx (by intro z; cases z)
    obtain ⟨kw, hw1, _⟩ := hm.wa.few
    obtain ⟨ks, hs1, _⟩ := hm.se.few
    have xw : wt ≠ x := ne_of hw1 hx (by intro z; cases z)
    have xs : sv ≠ x := ne_of hs1 hx (by intro z; cases z)
    have nd := hm.nd
    simp only [List.nodup_cons, List.mem_cons, List.not_mem_nil, or_false, not_or, List.nodup_nil, and_true, not_false_eq_true] at nd
    have mux : ∀ b ∈ [x, r], Mut (H b) := fun b hb => by
      rcases List.mem_cons.mp hb with e | e
      · rw [e, hx]; exact True.intro
      · rw [List.mem_singleton.mp e, hr1]; exact True.intro
    refine ⟨_, (pss_one (ps_if (pt_cmpR op_eq (k_fld K (by rfl) (pe_fld (pv 0) (by rfl))) (pe_gv T.c_WRITE) (nomark _)) (pss_one (ps_asg (pe_tup (pa_cons (k_fld K (by rfl) (pe_fld (pv 0) (by rfl))) (pa_cons pe_dnewK pa_nil))) (pg_tup rfl (pgs_cons (k_gfld K (by rfl) (pg_fld (pv 0))) (pgs_cons (k_gfld K (by rfl) (pg_fld (pv 0))) pgs_nil))))) (pss_one (ps_dput (hu_of hr) (k_fld K (by rfl) (pe_fld (pv 0) (by rfl))) (k_fld K (by rfl) (pe_fld (pv 0) (by rfl))) pe_bl rfl)))), ?_⟩
    refine ⟨_, rfl, x, a.cm, dx, _, _, rfl, hx, T.cM, hn (by simp), hF_kind, by cases h.kind <;> rfl, _, rfl, ?_⟩
    have ek : decide (kdV h.kind = .str "write") = decide (h.kind = some .w) := by
      cases h.kind with
      | none => exact decide_eq_decide.mpr ⟨(fun z => nomatch z), (fun z => nomatch z)⟩
      | some k => exact decide_eq_decide.mpr ((kd_inj (j := .w)).trans ⟨fun z => by rw [z], fun z => Option.some.inj z⟩)
    refine ite_of (fun e => ?_) (fun e => ?_)
    · have hk : h.kind = some .w := of_decide_eq_true (ek.symm.trans e)
      refine ⟨_, rfl, x, a.cm, dx, _, _, rfl, hx, T.cM, hn (by simp), hF_asker, fun d hd => ⟨(by show 2 ≤ sizeLine; decide), fun t ht => ?_⟩⟩
      have k1 := (Kp.new (o := .dK []) hd).trans0 (Kp.new (o := .tup [nV h.asker, .ref d]) ht)
      have e1 := k1.same _ _ hx
      refine ⟨t, _, rfl, SqT.of upd_same, rfl, _, _, rfl, _, rfl, x, a.cm, dx, _, rfl, e1, T.cM, hn (by simp), hF_len, ?_⟩
      rw [hF_p_writer]
      refine ⟨_, _, rfl, _, rfl, x, a.cm, dx, _, rfl, upd_same, T.cM, hn (by simp), hF_len, rfl, ?_⟩
      rw [hF_p_readers, upd_upd]
      have kz := Kp.set (p := x) (o := HO.ins a.cm dx (hF (.int (h.node : Int)) (nV h.asker) (.ref d) (.ref tw) (.int h.number) (nV h.asker) (kdV h.kind) (.ref wt) (.ref sv))) (show Mut (upd (upd H d (.dK [])) t (.tup [nV h.asker, .ref d]) x) by rw [e1]; exact True.intro)
      have kx := (k1.wide (m' := [x, r]) (fun b h => nomatch h) mux).trans kz fun b hb => .inl (by simp [List.mem_singleton.mp hb])
      have dx' : d ≠ x := (ne_of_none hx hd).symm
      have hd2 := kz.st d _ (by simp [dx']) ((Kp.new (o := .tup [nV h.asker, .ref d]) ht).same _ _ (upd_same (H := H) (a := d) (o := .dK [])))
      have eg : grantH h = { h with writer := h.asker, readers := fun _ => false } := if_pos hk
      have dw : d ≠ wt := (ne_of_none hw1 hd).symm
      have ds : d ≠ sv := (ne_of_none hs1 hd).symm
      refine k _ d kx ?_ (.inr hd)
      rw [eg]
      exact ⟨⟨dx, tw, upd_same, kz.sqT (k1.sqT htw)⟩, DN.empty hd2, (hm.wa.kp k1 (by simp)).kp kz (by simp [xw]), (hm.se.kp k1 (by simp)).kp kz (by simp [xs]), by simp [dw, ds, nd]⟩
    · have hk : ¬ h.kind = some .w := of_decide_eq_false (ek.symm.trans e)
      have eg : grantH h = { h with readers := fun j => decide (h.asker = some j) || h.readers j } := if_neg hk
      refine ⟨_, rfl, x, a.cm, dx, _, _, rfl, hx, T.cM, hn (by simp), hF_readers, _, rfl, x, a.cm, dx, _, _, rfl, hx, T.cM, hn (by simp), hF_asker, r, _, rfl, .inl ⟨kvs, Sum.inl (n : Int), hr1, by rw [ha]; rfl, Nat.lt_of_le_of_lt (show kvs.length ≤ 1000 by omega) (by decide), rfl⟩, ?_⟩
      · have kz := Kp.set (p := r) (o := HO.dK (putK kvs (Sum.inl (n : Int)) (.bl true))) (show Mut (H r) by rw [hr1]; exact True.intro)
        refine k _ r (kz.wide (m' := [x, r]) (fun b hb => by simp [List.mem_singleton.mp hb]) mux) ?_ (.inl rfl)
        rw [eg]
        refine ⟨⟨dx, tw, kz.st x _ (by simp [xr.symm]) hx, kz.sqT htw⟩, ?_, hm.wa.kp kz (by simp only [List.mem_singleton]; exact fun z => nd.1.1 z.symm), hm.se.kp kz (by simp only [List.mem_singleton]; exact fun z => nd.1.2 z.symm), hm.nd⟩
        have q := DN.put hr1 hm.rd hn4 (.bl true)
        have ef : (fun j => if j = n then some (V.bl true) else if h.readers j then some (V.bl true) else none) = fun j => if (decide (h.asker = some j) || h.readers j) = true then some (V.bl true) else none := by
          funext j
          rw [ha]
          by_cases c : j = n
          · subst c; simp
          · rw [if_neg c]
            have : decide (some n = some j) = false := decide_eq_false (fun z => c (Option.some.inj z).symm)
            rw [this]
            rfl
        rw [ef] at q
        exact q
theorem ok_begin (F : Fun K "begin" "Home.begin" s_Home_begin f fd) (T : Txt K mg a) : FnOk P w K mg base (L2.CX P w) 1 f fd ["self", "asker", "kind"] (spBegin K a) := by
  refine okT F sc_Home_begin (fun vs H Q E h => ?_) (fun cdv A outer s H vs Q E hr tk hp h => ?_)
  · obtain ⟨x, r, wt, sv, many, h, n, k, rfl, _⟩ := h
    rfl
  · obtain ⟨x, r, wt, sv, many, h, n, kd, rfl, hm, hn4, hm4, hwr, hrd, k⟩ := h
    obtain ⟨dx, tw, hx, htw⟩ := hm.ob
    have hn : ∀ {f : Str}, f ∈ (["node", "writer", "readers", "words", "number", "asker", "kind", "waits", "served"] : List Str) → NoAttr K a.cm f := fun h => T.aM _ h
    obtain ⟨kvs, ks, hr1, hrk, hrp, hrl, hrv⟩ := hm.rd.keys
    have xr : r ≠ x := ne_of hr1 hx (by intro z; cases z)
    obtain ⟨ksv, hs1, _⟩ := hm.se.few
    have xs : sv ≠ x := ne_of hs1 hx (by intro z; cases z)
    have nd := hm.nd
    simp only [List.nodup_cons, List.mem_cons, List.not_mem_nil, or_false, not_or, List.nodup_nil, and_true, not_false_eq_true] at nd
    refine ⟨_, (pss_cons (ps_asg (pe_tup (pa_cons (pe_op op_add (k_fld K (by rfl) (pe_fld (pv 0) (by rfl))) pe_int) (pa_cons (pv 1) (pa_cons (pv 2) pa_nil)))) (pg_tup rfl (pgs_cons (k_gfld K (by rfl) (pg_fld (pv 0))) (pgs_cons (k_gfld K (by rfl) (pg_fld (pv 0))) (pgs_cons (k_gfld K (by rfl) (pg_fld (pv 0))) pgs_nil))))) (C8.pss_cut (ps_set (i := 3) sc_Home_begin.nd rfl (by first | exact Or.inl rfl | exact Or.inr rfl) (pe_ifExp (pt_cmpR op_eq (pv 2) (pe_gv T.c_WRITE) (nomark _)) (pe_lock (pe_lc (own := [("node", 4)]) (g := gName 4) (by rfl) sc_Home_begin.nd (pi_keys (k_fld K (by rfl) (pe_fld (pv 0) (by rfl)))) (blkOk_by (own := [("node", 4)]) (N := N_Home_begin) (sc := defScope s_Home_begin) (by decide +kernel)) (fun _ _ _ _ _ => pg_name (i := 4) sc_Home_begin.nd rfl (Or.inl rfl)) (fun _ _ _ _ _ => by exact pts_one (pt_cmpR op_ne (pv 4) (pv 1) (nomark _))) (fun _ _ _ _ _ => by exact (pv 4)))) (pe_lst pa_nil))) (pss_cons (ps_fld (pv 0) (pe_dc (own := [("node", 4)]) (g := gName 4) (tt := tYes) (by rfl) sc_Home_begin.nd (k_piL K (by rfl) (pi_list (pv 3))) (blkOk_by (own := [("node", 4)]) (N := N_Home_begin) (sc := defScope s_Home_begin) (by decide +kernel)) (fun _ _ _ _ _ => pg_name (i := 4) sc_Home_begin.nd rfl (Or.inl rfl)) (fun _ _ _ _ _ => pts_nil) (fun _ _ _ _ _ => by exact (pv 4)) (fun _ _ _ _ _ => by exact pe_str)) rfl) (pss_one (ps_if (pt_cmpR op_notN (k_fld K (by rfl) (pe_fld (pv 0) (by rfl))) pe_non (nomark _)) (pss_one (ps_dput (hu_of hr) (k_fld K (by rfl) (pe_fld (pv 0) (by rfl))) (k_fld K (by rfl) (pe_fld (pv 0) (by rfl))) (pe_ifExp (pt_cmpR op_eq (pv 2) (pe_gv T.c_WRITE) (nomark _)) pe_str pe_str) rfl)) pss_nil))))), ?_⟩
    refine ⟨_, rfl, x, a.cm, dx, _, _, rfl, hx, T.cM, hn (by simp), hF_number, _, _, rfl, rfl, _, rfl, _, rfl, (by show 3 ≤ sizeLine; decide), fun t ht => ?_⟩
    have k1 := Kp.new (o := .tup [V.int (h.number + 1), .int (n : Int), .str kd.s]) ht
    have e1 := k1.same _ _ hx
    refine ⟨t, _, rfl, SqT.of upd_same, rfl, _, _, rfl, _, rfl, x, a.cm, dx, _, rfl, e1, T.cM, hn (by simp), hF_len, ?_⟩
    rw [hF_p_number]
    refine ⟨_, _, rfl, _, rfl, x, a.cm, dx, _, rfl, upd_same, T.cM, hn (by simp), hF_len, ?_⟩
    rw [hF_p_asker]
    refine ⟨_, _, rfl, _, rfl, x, a.cm, dx, _, rfl, upd_same, T.cM, hn (by simp), hF_len, rfl, ?_⟩
    rw [hF_p_kind, upd_upd, upd_upd]
    obtain ⟨O, hO⟩ : ∃ O, O = HO.ins a.cm dx (hF (.int (h.node : Int)) (nV h.writer) (.ref r) (.ref tw) (.int (h.number + 1)) (.int (n : Int)) (.str kd.s) (.ref wt) (.ref sv)) := ⟨_, rfl⟩
    rw [← hO]
    have kz := Kp.set (p := x) (o := O) (show Mut (upd H t (.tup [V.int (h.number + 1), .int (n : Int), .str kd.s]) x) by rw [e1]; exact True.intro)
    have kx := (k1.wide (m' := [x]) (fun b h => nomatch h) (fun b hb => by rw [List.mem_singleton.mp hb, hx]; exact True.intro)).trans1 kz
    have e2 : upd (upd H t (.tup [V.int (h.number + 1), .int (n : Int), .str kd.s])) x O x = some O := upd_same
    generalize upd (upd H t (.tup [V.int (h.number + 1), .int (n : Int), .str kd.s])) x O = H2 at *
    rw [hO] at e2
    have hr2 := kx.st r _ (by simp [xr]) hr1
    -- others
    refine ⟨fun σ' H' => Kp [] H2 H' ∧ ∃ ld os, σ' = [some (.ref x), some (.int (n : Int)), some (.str kd.s), some (.ref ld), none] ∧ H' ld = some (.lst ((os : List Nat).map fun j : Nat => V.int (j : Int))) ∧ os.Nodup ∧ os.length ≤ 4 ∧ ∀ j, j ∈ os ↔ (kd = .w ∧ h.readers j = true ∧ j ≠ n), ?_, ?_⟩
    · refine ⟨_, rfl, by cases kd <;> rfl, _, rfl, ?_⟩
      have ek : decide (V.str kd.s = .str "write") = decide (kd = .w) := decide_eq_decide.mpr (kd_inj (j := .w))
      refine ite_of (fun e => ?_) (fun e => ?_)
      · have hk : kd = .w := of_decide_eq_true (ek.symm.trans e)
        refine ⟨r, .dK kvs, hr2, True.intro, fun od => ?_⟩
        have hxl : upd H2 r (.frz od (.dK kvs)) x = some (.ins a.cm dx (hF (.int (h.node : Int)) (nV h.writer) (.ref r) (.ref tw) (.int (h.number + 1)) (.int (n : Int)) (.str kd.s) (.ref wt) (.ref sv))) := by rw [upd_ne xr.symm]; exact e2
        refine ⟨_, rfl, x, a.cm, dx, _, _, rfl, hxl, T.cM, hn (by simp), hF_readers, r, od, rfl, .inl ⟨kvs, upd_same, fun D hD => ?_⟩⟩
        have hlen : kvs.length = ks.length := by have := congrArg List.length hrk; simpa using this
        refine lc_pure walk_keys (by rw [hlen]; exact small1000 (by omega)) hD (fun j => decide (ks.getD j 0 ≠ n)) (fun j v _ => v = .int ((ks.getD j 0 : Nat) : Int)) (fun j v H H' _ r => r) (fun H k => k.same _ _ upd_same) ?_ ?_
        · rintro j y H3 H4 hj k3 ⟨rfl, key, v, hkv, rfl⟩ N F' hN hF
          have hkey : key = Sum.inl ((ks.getD j 0 : Nat) : Int) := by
            have q : (kvs.map (·.1))[j]? = some key := by rw [List.getElem?_map, hkv]; rfl
            rw [hrk, List.getElem?_map] at q
            obtain ⟨m, hm1, hm2⟩ := Option.map_eq_some_iff.mp q
            rw [List.getD_eq_getElem?_getD, hm1, ← hm2]
            rfl
          subst hkey
          refine ⟨rfl, _, rfl, _, rfl, rfl, _, rfl, ?_⟩
          have en : (!decide (V.int ((ks.getD j 0 : Nat) : Int) = .int (n : Int))) = decide (ks.getD j 0 ≠ n) := by
            rw [Bool.eq_iff_iff]
            simp only [Bool.not_eq_true', decide_eq_false_iff_not, decide_eq_true_eq]
            exact ⟨fun z q => z (by rw [q]), fun z q => z (by have := V.int.inj q; omega)⟩
          refine ite_of (fun e => ?_) (fun e => ?_)
          · exact ⟨_, rfl, hN _ _ (en.symm.trans e) (Kp.refl _) rfl⟩
          · exact hF _ (en.symm.trans e) (Kp.refl _)
        · intro H3 acc k3 hacc pr
          rw [hlen] at pr
          have eacc := Paired.eqs pr
          refine ⟨k3.same _ _ upd_same, kp_unlock hr2 k3, D, ks.filter (fun j => decide (j ≠ n)), rfl, ?_, ?_, ?_, ?_⟩
          · have nD : D ≠ r := fun z => by rw [z, upd_same] at hD; cases hD
            rw [upd_ne nD, hacc, eacc]
            exact congrArg (fun z => some (HO.lst z)) (filt_getD (fun j => decide (j ≠ n)) (fun j : Nat => V.int (j : Int)) ks)
          · exact List.Pairwise.filter _ (hrp.nodup_iff.mpr (List.Pairwise.filter _ List.nodup_range))
          · refine Nat.le_trans (List.length_filter_le _ _) ?_
            omega
          · intro j
            rw [List.mem_filter, hrp.mem_iff]
            unfold keysN
            rw [List.mem_filter, List.mem_range, decide_eq_true_eq]
            have ei : (if h.readers j = true then some (V.bl true) else none).isSome = h.readers j := by cases h.readers j <;> rfl
            show (j < many ∧ (if h.readers j = true then some (V.bl true) else none).isSome = true) ∧ j ≠ n ↔ _
            rw [ei]
            exact ⟨fun z => ⟨hk, z.1.2, z.2⟩, fun z => ⟨⟨hrd j z.2.1, z.2.1⟩, z.2.2⟩⟩
      · have hk : ¬ kd = .w := of_decide_eq_false (ek.symm.trans e)
        refine ⟨Nat.zero_le _, fun ld hld => ⟨Kp.new hld, ld, [], rfl, upd_same, List.nodup_nil, Nat.zero_le _, fun j => ⟨fun z => (nomatch z), fun z => absurd z.1 hk⟩⟩⟩
    · rintro σ' H3 ⟨k3, ld, os, rfl, hld, osn, osl, osm⟩
      have e3 := k3.same _ _ e2
      refine ⟨_, rfl, ld, rfl, ⟨_, SqL.of hld⟩, fun D hD => ?_⟩
      refine dc_pure walk_list (by rw [List.length_map]; exact small1000 (by omega)) hD (fun j => (Sum.inl ((os.getD j 0 : Nat) : Int), .str "go")) ?_ (fun H k => k.sqL0 (SqL.of hld)) ?_ ?_
      · intro i j hi hj e
        rw [List.length_map] at hi hj
        have := Sum.inl.inj e
        have e5 : os.getD i 0 = os.getD j 0 := by omega
        rw [List.getD_eq_getElem?_getD, List.getD_eq_getElem?_getD, List.getElem?_eq_getElem hi, List.getElem?_eq_getElem hj] at e5
        have pw := List.pairwise_iff_getElem.mp osn
        rcases Nat.lt_trichotomy i j with c | c | c
        · exact absurd e5 (pw i j hi hj c)
        · exact c
        · exact absurd e5.symm (pw j i hj hi c)
      · rintro j y H5 H6 hj k5 ⟨rfl, hy⟩ N F' hN
        obtain ⟨m, hm1, rfl⟩ := map_at (g := fun j : Nat => V.int (j : Int)) hy
        refine ⟨rfl, _, rfl, ?_⟩
        have q := hN H6 (Kp.refl _)
        simp only [List.getD_eq_getElem?_getD, hm1] at q
        exact q
      · intro H5 k5 hD5
        have e5 := k5.same _ _ e3
        have ekv : (List.range os.length).map (fun j => ((Sum.inl ((os.getD j 0 : Nat) : Int) : Key), V.str "go")) = os.map fun j : Nat => ((Sum.inl (j : Int) : Key), V.str "go") := map_range_getD (fun j : Nat => ((Sum.inl (j : Int) : Key), V.str "go")) 0 os
        rw [List.length_map, ekv] at hD5
        refine ⟨_, rfl, x, a.cm, dx, _, rfl, e5, T.cM, hn (by simp), hF_len, ?_⟩
        rw [hF_p_waits]
        have kw := Kp.set (p := x) (o := HO.ins a.cm dx (hF (.int (h.node : Int)) (nV h.writer) (.ref r) (.ref tw) (.int (h.number + 1)) (.int (n : Int)) (.str kd.s) (.ref D) (.ref sv))) (show Mut (H5 x) by rw [e5]; exact True.intro)
        have Dx : D ≠ x := (ne_of_none e3 hD).symm
        have hD6 := kw.st D _ (by simp [Dx]) hD5
        have k25 := k3.trans0 k5
        have kAll := (kx.trans0 k25).trans1 kw
        have hDn : H D = none := kx.fr _ (k3.fr _ hD)
        have Dr' : D ≠ r := (ne_of_none hr1 hDn).symm
        have Ds' : D ≠ sv := (ne_of_none hs1 hDn).symm
        have sq6 := kw.sqT (k25.sqT (kx.sqT htw))
        have rd6 := hm.rd.kp kAll (by simp [xr])
        have se6 := hm.se.kp kAll (by simp [xs])
        have dn : DN (upd H5 x (HO.ins a.cm dx (hF (.int (h.node : Int)) (nV h.writer) (.ref r) (.ref tw) (.int (h.number + 1)) (.int (n : Int)) (.str kd.s) (.ref D) (.ref sv)))) D many fun j => if j ∈ os then some (.str "go") else none := by
          refine ⟨_, hD6, ?_, fun p hp => ?_, fun j => val_same _ j os⟩
          · rw [List.map_map]
            refine List.Pairwise.map _ (fun a b hab z => hab ?_) osn
            have := Sum.inl.inj z
            omega
          · obtain ⟨j, hj, rfl⟩ := List.mem_map.mp hp
            exact ⟨j, hrd j ((osm j).mp hj).2.1, rfl⟩
        have e6 : upd H5 x (HO.ins a.cm dx (hF (.int (h.node : Int)) (nV h.writer) (.ref r) (.ref tw) (.int (h.number + 1)) (.int (n : Int)) (.str kd.s) (.ref D) (.ref sv))) x = some (HO.ins a.cm dx (hF (.int (h.node : Int)) (nV h.writer) (.ref r) (.ref tw) (.int (h.number + 1)) (.int (n : Int)) (.str kd.s) (.ref D) (.ref sv))) := upd_same
        generalize upd H5 x (HO.ins a.cm dx (hF (.int (h.node : Int)) (nV h.writer) (.ref r) (.ref tw) (.int (h.number + 1)) (.int (n : Int)) (.str kd.s) (.ref D) (.ref sv))) = H6 at *
        refine ⟨_, rfl, x, a.cm, dx, _, _, rfl, e6, T.cM, hn (by simp), hF_writer, rfl, _, rfl, ?_⟩
        refine ite_of (fun e => ?_) (fun e => ?_)
        · obtain ⟨m, hwm⟩ : ∃ m, h.writer = some m := by
            cases hw : h.writer with
            | none => rw [hw] at e; cases e
            | some m => exact ⟨m, rfl⟩
          have hmm := hwr m hwm
          have put : ∀ wd : Wd, wd = (if kd = .w then Wd.go else .sh) → Q .non (upd H6 D (.dK (putK (os.map fun j : Nat => ((Sum.inl (j : Int) : Key), V.str "go")) (Sum.inl (m : Int)) (.str wd.s)))) := fun wd hwd => by
            have hD6' : H6 D = some (.dK (os.map fun j : Nat => ((Sum.inl (j : Int) : Key), V.str "go"))) := hD6
            have dn2 := DN.put hD6' dn hmm (.str wd.s)
            have kD := Kp.set (p := D) (o := .dK (putK (os.map fun j : Nat => ((Sum.inl (j : Int) : Key), V.str "go")) (Sum.inl (m : Int)) (.str wd.s))) (show Mut (H6 D) by rw [hD6']; exact True.intro)
            refine k _ D (kAll.trans kD fun b hb => .inr (by rw [List.mem_singleton.mp hb]; exact hDn)) ⟨⟨dx, tw, kD.st x _ (by simp [Dx.symm]) e6, kD.sqT sq6⟩, rd6.kp kD (by simp [Dr'.symm]), ?_, se6.kp kD (by simp [Ds'.symm]), by simp [Dr'.symm, Ds', nd]⟩ hDn
            have ef : (fun j => if j = m then some (V.str wd.s) else if j ∈ os then some (V.str "go") else none) = fun j => ((beginH h n kd).waits j).map fun w => V.str w.s := by
              funext j
              show _ = (if h.writer = some j then some (if kd = .w then Wd.go else .sh) else if kd = .w ∧ h.readers j = true ∧ j ≠ n then some .go else none).map _
              by_cases cm : j = m
              · subst cm
                rw [if_pos rfl, show (if h.writer = some j then some (if kd = .w then Wd.go else .sh) else if kd = .w ∧ h.readers j = true ∧ j ≠ n then some .go else none) = some (if kd = .w then Wd.go else .sh) from if_pos hwm, ← hwd]
                rfl
              · rw [if_neg cm, show (if h.writer = some j then some (if kd = .w then Wd.go else .sh) else if kd = .w ∧ h.readers j = true ∧ j ≠ n then some .go else none) = if kd = .w ∧ h.readers j = true ∧ j ≠ n then some Wd.go else none from if_neg (by rw [hwm]; exact fun z => cm (Option.some.inj z).symm)]
                by_cases c : j ∈ os
                · rw [if_pos c, if_pos ((osm j).mp c)]; rfl
                · rw [if_neg c, if_neg (fun z => c ((osm j).mpr z))]; rfl
            rw [ef] at dn2
            exact dn2
          refine ⟨_, rfl, by cases kd <;> rfl, _, rfl, ?_⟩
          have lt4 : (os.map fun j : Nat => ((Sum.inl (j : Int) : Key), V.str "go")).length < sizeLine := by rw [List.length_map]; exact small1000 (by omega)
          have ek : decide (V.str kd.s = .str "write") = decide (kd = .w) := decide_eq_decide.mpr (kd_inj (j := .w))
          refine ite_of (fun e => ?_) (fun e => ?_)
          · have hk : kd = .w := of_decide_eq_true (ek.symm.trans e)
            exact ⟨_, rfl, x, a.cm, dx, _, _, rfl, e6, T.cM, hn (by simp), hF_waits, _, rfl, x, a.cm, dx, _, _, rfl, e6, T.cM, hn (by simp), hF_writer, D, _, rfl, .inl ⟨_, Sum.inl (m : Int), hD6, by rw [hwm]; rfl, lt4, rfl⟩, put .go (by rw [if_pos hk])⟩
          · have hk : ¬ kd = .w := of_decide_eq_false (ek.symm.trans e)
            exact ⟨_, rfl, x, a.cm, dx, _, _, rfl, e6, T.cM, hn (by simp), hF_waits, _, rfl, x, a.cm, dx, _, _, rfl, e6, T.cM, hn (by simp), hF_writer, D, _, rfl, .inl ⟨_, Sum.inl (m : Int), hD6, by rw [hwm]; rfl, lt4, rfl⟩, put .sh (by rw [if_neg hk])⟩
        · have hw : h.writer = none := by
            cases hw : h.writer with
            | none => rfl
            | some m => rw [hw] at e; cases e
          refine k _ D kAll ⟨⟨dx, tw, e6, sq6⟩, rd6, ?_, se6, by simp [Dr'.symm, Ds', nd]⟩ hDn
          have ef : (fun j => if j ∈ os then some (V.str "go") else none) = fun j => ((beginH h n kd).waits j).map fun w => V.str w.s := by
            funext j
            show _ = (if h.writer = some j then some (if kd = .w then Wd.go else .sh) else if kd = .w ∧ h.readers j = true ∧ j ≠ n then some .go else none).map _
            have e7 : (if h.writer = some j then some (if kd = .w then Wd.go else .sh) else if kd = .w ∧ h.readers j = true ∧ j ≠ n then some .go else none) = if kd = .w ∧ h.readers j = true ∧ j ≠ n then some Wd.go else none := if_neg (by rw [hw]; exact fun z => nomatch z)
            rw [e7]
            by_cases c : j ∈ os
            · rw [if_pos c, if_pos ((osm j).mp c)]; rfl
            · rw [if_neg c, if_neg (fun z => c ((osm j).mpr z))]; rfl
          rw [ef] at dn
          exact dn
end
end K57
set_option Elab.async false
set_option linter.all false
set_option maxRecDepth 100000
set_option maxHeartbeats 4000000
/-! K57F: a home is given words. -/
namespace K57
open PySem L2 AB
def given1 (h : Hm) (n : Nat) (ws : List Int) : Hm := if h.writer = some n then { h with writer := none, words := ws } else h
def given2 (h : Hm) (n : Nat) : Hm := { h with readers := fun j => if j = n then decide (h.waits n = some .sh) else h.readers j, waits := fun j => if j = n then none else h.waits j }
def givenH (many : Nat) (h : Hm) (n : Nat) (ws : List Int) : Hm := if noWaits many (given2 (given1 h n ws) n) then grantH (given2 (given1 h n ws) n) else given2 (given1 h n ws) n
def spGiven (K : PySem.W.Frag) (a : Ad) : Sp := fun vs H Q _ => ∃ (x r wt sv : Addr) (many : Nat) (h : Hm) (n m : Nat) (t : Addr) (ws : List Int), vs = [.ref x, .int (n : Int), .ref t] ∧ SqT K H t (ws.map V.int) ∧ HmAt K a many H x r wt sv h ∧ n < many ∧ many ≤ 4 ∧ h.asker = some m ∧ m < many ∧ h.waits n ≠ none ∧
  ∀ H' r', Kp [x, r, wt] H H' → HmAt K a many H' x r' wt sv (givenH many h n ws) → (r' = r ∨ H r' = none) → Q .non H'
theorem HmAt.obj {K : PySem.W.Frag} {a : Ad} {many : Nat} {H : Hp} {x r wt sv : Addr} {h h' : Hm} (q : HmAt K a many H x r wt sv h) (er : h'.readers = h.readers) (ew : h'.waits = h.waits) (es : h'.served = h.served) {dx tw : Addr} (ht : SqT K H tw (h'.words.map V.int)) :
    HmAt K a many (upd H x (.ins a.cm dx (hF (.int (h'.node : Int)) (nV h'.writer) (.ref r) (.ref tw) (.int h'.number) (nV h'.asker) (kdV h'.kind) (.ref wt) (.ref sv)))) x r wt sv h' ∧ Kp [x] H (upd H x (.ins a.cm dx (hF (.int (h'.node : Int)) (nV h'.writer) (.ref r) (.ref tw) (.int h'.number) (nV h'.asker) (kdV h'.kind) (.ref wt) (.ref sv)))) := by
  obtain ⟨dx0, tw0, hx, _⟩ := q.ob
  have kz := Kp.set (p := x) (o := .ins a.cm dx (hF (.int (h'.node : Int)) (nV h'.writer) (.ref r) (.ref tw) (.int h'.number) (nV h'.asker) (kdV h'.kind) (.ref wt) (.ref sv))) (show Mut (H x) by rw [hx]; exact True.intro)
  obtain ⟨k1, hr1, _⟩ := q.rd.few
  obtain ⟨k2, hw1, _⟩ := q.wa.few
  obtain ⟨k3, hs1, _⟩ := q.se.few
  have a1 : r ≠ x := ne_of hr1 hx (by intro z; cases z)
  have a2 : wt ≠ x := ne_of hw1 hx (by intro z; cases z)
  have a3 : sv ≠ x := ne_of hs1 hx (by intro z; cases z)
  exact ⟨⟨⟨dx, tw, upd_same, kz.sqT ht⟩, by rw [er]; exact q.rd.kp kz (by simp [a1]), by rw [ew]; exact q.wa.kp kz (by simp [a2]), by rw [es]; exact q.se.kp kz (by simp [a3]), q.nd⟩, kz⟩
/-- the readers' dict changed -/
theorem HmAt.rdP {K : PySem.W.Frag} {a : Ad} {many : Nat} {H : Hp} {x r wt sv : Addr} {h h' : Hm} (q : HmAt K a many H x r wt sv h) {u : HO} (hd : DN (upd H r u) r many fun n => if h'.readers n then some (.bl true) else none)
    (e : h' = { h with readers := h'.readers }) : HmAt K a many (upd H r u) x r wt sv h' ∧ Kp [r] H (upd H r u) := by
  obtain ⟨dx0, tw0, hx, htw⟩ := q.ob
  have kz := Kp.set (p := r) (o := u) q.rd.mut
  obtain ⟨k1, hr1, _⟩ := q.rd.few
  have a1 : r ≠ x := ne_of hr1 hx (by intro z; cases z)
  have nd := q.nd
  simp only [List.nodup_cons, List.mem_cons, List.not_mem_nil, or_false, not_or, List.nodup_nil, and_true, not_false_eq_true] at nd
  refine ⟨⟨⟨dx0, tw0, ?_, ?_⟩, hd, ?_, ?_, q.nd⟩, kz⟩
  · rw [e]; exact kz.st _ _ (by simp [a1.symm]) hx
  · rw [e]; exact kz.sqT htw
  · rw [e]; exact q.wa.kp kz (by simp only [List.mem_singleton]; exact fun z => nd.1.1 z.symm)
  · rw [e]; exact q.se.kp kz (by simp only [List.mem_singleton]; exact fun z => nd.1.2 z.symm)
theorem HmAt.waP {K : PySem.W.Frag} {a : Ad} {many : Nat} {H : Hp} {x r wt sv : Addr} {h h' : Hm} (q : HmAt K a many H x r wt sv h) {u : HO} (hd : DN (upd H wt u) wt many fun n => (h'.waits n).map fun w => .str w.s)
    (e : h' = { h with waits := h'.waits }) : HmAt K a many (upd H wt u) x r wt sv h' ∧ Kp [wt] H (upd H wt u) := by
  obtain ⟨dx0, tw0, hx, htw⟩ := q.ob
  have kz := Kp.set (p := wt) (o := u) q.wa.mut
  obtain ⟨k1, hr1, _⟩ := q.wa.few
  have a1 : wt ≠ x := ne_of hr1 hx (by intro z; cases z)
  have nd := q.nd
  simp only [List.nodup_cons, List.mem_cons, List.not_mem_nil, or_false, not_or, List.nodup_nil, and_true, not_false_eq_true] at nd
  refine ⟨⟨⟨dx0, tw0, ?_, ?_⟩, ?_, hd, ?_, q.nd⟩, kz⟩
  · rw [e]; exact kz.st _ _ (by simp [a1.symm]) hx
  · rw [e]; exact kz.sqT htw
  · rw [e]; exact q.rd.kp kz (by simp only [List.mem_singleton]; exact nd.1.1)
  · rw [e]; exact q.se.kp kz (by simp only [List.mem_singleton]; exact fun z => nd.2 z.symm)
theorem HmAt.muts {K : PySem.W.Frag} {a : Ad} {many : Nat} {H : Hp} {x r wt sv : Addr} {h : Hm} (q : HmAt K a many H x r wt sv h) : ∀ b ∈ [x, r, wt], Mut (H b) := fun b hb => by
  obtain ⟨dx0, tw0, hx, htw⟩ := q.ob
  simp only [List.mem_cons, List.not_mem_nil, or_false] at hb
  rcases hb with rfl | rfl | rfl
  · rw [hx]; exact True.intro
  · exact q.rd.mut
  · exact q.wa.mut
end K57
set_option Elab.async false
set_option linter.all false
set_option maxRecDepth 100000
set_option maxHeartbeats 4000000
/-! K57G: a home is given words, the walk. -/
namespace K57
open PySem L2 AB
def given15 (h : Hm) (n : Nat) : Hm := { h with readers := fun j => if j = n then false else h.readers j }
section
variable {P : Program} {w : World} {K : PySem.W.Frag} {mg : Str → Option Value} {base : Heap} {a : Ad} {f : Addr} {fd : FuncData}
theorem ok_given (F : Fun K "given" "Home.given" s_Home_given f fd) (T : Txt K mg a) (G_Home_grant : GMt P w K mg base 1 a.cm "grant" ["self"] (spGrant K a)) : FnOk P w K mg base (L2.CX P w) 2 f fd ["self", "node", "words"] (spGiven K a) := by
  refine okT F sc_Home_given (fun vs H Q E h => ?_) (fun cdv A outer s H vs Q E hr tk hp h => ?_)
  · obtain ⟨x, r, wt, sv, many, h, n, m, t, ws, rfl, _⟩ := h
    rfl
  · obtain ⟨x, r, wt, sv, many, h, n, m, t, ws, rfl, ht, hm, hn4, hm4, ha, hmm, hwn, k⟩ := h
    obtain ⟨dx, tw, hx, htw⟩ := hm.ob
    have hn : ∀ {f : Str}, f ∈ (["node", "writer", "readers", "words", "number", "asker", "kind", "waits", "served"] : List Str) → NoAttr K a.cm f := fun h => T.aM _ h
    have mus := hm.muts
    refine ⟨_, (C8.pss_cut (ps_if (pt_cmpR op_eq (k_fld K (by rfl) (pe_fld (pv 0) (by rfl))) (pv 1) (nomark _)) (pss_one (ps_asg (pe_tup (pa_cons pe_non (pa_cons (pv 2) pa_nil))) (pg_tup rfl (pgs_cons (k_gfld K (by rfl) (pg_fld (pv 0))) (pgs_cons (k_gfld K (by rfl) (pg_fld (pv 0))) pgs_nil))))) pss_nil) (C8.pss_cut (ps_expr (pe_dpop2 (k_fld K (by rfl) (pe_fld (pv 0) (by rfl))) (pv 1) pe_non ⟨rfl, rfl, rfl, rfl⟩)) (C8.pss_cut (ps_if (pt_cmpR op_eq (pe_dpop1 (k_fld K (by rfl) (pe_fld (pv 0) (by rfl))) (pv 1) ⟨rfl, rfl, rfl, rfl⟩) pe_str (nomark _)) (pss_one (ps_dput (hu_of hr) (k_fld K (by rfl) (pe_fld (pv 0) (by rfl))) (pv 1) pe_bl rfl)) pss_nil) (pss_one (ps_if (pt_cmpR op_eq (pe_callB call_lenD (by rfl) T.n_len (by decide +kernel) (pa_cons (k_fld K (by rfl) (pe_fld (pv 0) (by rfl))) pa_nil)) pe_int (nomark _)) (pss_one (ps_expr (pe_mt0 (pv 0) G_Home_grant (hr.mono (by decide)) tk))) pss_nil))))), ?_⟩
    -- if self.writer == node
    refine ⟨fun σ' H' => σ' = [some (.ref x), some (.int (n : Int)), some (.ref t)] ∧ Kp [x, r, wt] H H' ∧ HmAt K a many H' x r wt sv (given1 h n ws), ?_, ?_⟩
    · refine ⟨_, rfl, x, a.cm, dx, _, _, rfl, hx, T.cM, hn (by simp), hF_writer, _, rfl, by cases h.writer <;> rfl, _, rfl, ?_⟩
      have ew : decide (nV h.writer = .int (n : Int)) = decide (h.writer = some n) := by
        cases h.writer with
        | none => exact decide_eq_decide.mpr ⟨(fun z => nomatch z), (fun z => nomatch z)⟩
        | some m => exact decide_eq_decide.mpr ⟨fun z => by have := V.int.inj z; rw [show m = n by omega], fun z => by rw [Option.some.inj z]; rfl⟩
      refine ite_of (fun e => ?_) (fun e => ?_)
      · have hw : h.writer = some n := of_decide_eq_true (ew.symm.trans e)
        refine ⟨_, rfl, (by show 2 ≤ sizeLine; decide), fun t2 ht2 => ?_⟩
        have k1 := Kp.new (o := .tup [V.non, .ref t]) ht2
        have e1 := k1.same _ _ hx
        refine ⟨t2, _, rfl, SqT.of upd_same, rfl, _, _, rfl, _, rfl, x, a.cm, dx, _, rfl, e1, T.cM, hn (by simp), hF_len, ?_⟩
        rw [hF_p_writer]
        refine ⟨_, _, rfl, _, rfl, x, a.cm, dx, _, rfl, upd_same, T.cM, hn (by simp), hF_len, rfl, ?_⟩
        rw [hF_p_words, upd_upd]
        have hm1 := hm.kp k1 (by simp) (by simp) (by simp) (by simp)
        have z := HmAt.obj (h' := { h with writer := none, words := ws }) hm1 rfl rfl rfl (dx := dx) (tw := t) (k1.sqT ht)
        have eg : given1 h n ws = { h with writer := none, words := ws } := if_pos hw
        rw [eg]
        exact ⟨rfl, (k1.wide (m' := [x, r, wt]) (fun b h => nomatch h) mus).trans z.2 fun b hb => .inl (by simp [List.mem_singleton.mp hb]), z.1⟩
      · have hw : ¬ h.writer = some n := of_decide_eq_false (ew.symm.trans e)
        have eg : given1 h n ws = h := if_neg hw
        rw [eg]
        exact ⟨rfl, (Kp.refl _).wide (fun b h => nomatch h) mus, hm⟩
    · rintro σ' H1 ⟨rfl, k1, hm1⟩
      have w1 : (given1 h n ws).waits = h.waits := by unfold given1; split <;> rfl
      have a1 : (given1 h n ws).asker = some m := by unfold given1; split <;> exact ha
      generalize hg : given1 h n ws = g at *
      obtain ⟨dx1, tw1, hx1, _⟩ := hm1.ob
      obtain ⟨kvs, hr1, hrl, hrv⟩ := hm1.rd.few
      -- self.readers.pop(node, None)
      refine ⟨fun σ' H' => σ' = [some (.ref x), some (.int (n : Int)), some (.ref t)] ∧ Kp [x, r, wt] H H' ∧ HmAt K a many H' x r wt sv (given15 g n), ?_, ?_⟩
      · have fe : (fun j => if j = n then none else if g.readers j then some (V.bl true) else none) = fun j => if (given15 g n).readers j then some (V.bl true) else none := by
          funext j
          show _ = if (if j = n then false else g.readers j) = true then _ else _
          by_cases c : j = n
          · rw [if_pos c, if_pos c]; rfl
          · rw [if_neg c, if_neg c]
        refine ⟨_, rfl, x, a.cm, dx1, _, _, rfl, hx1, T.cM, hn (by simp), hF_readers, r, rfl, .inl ⟨kvs, .inl hr1⟩, _, rfl, kvs, Sum.inl (n : Int), hr1, rfl, fun v hv => ?_, fun hv => ?_⟩
        · have d := DN.drop hr1 hm1.rd n
          rw [fe] at d
          have z := hm1.rdP d rfl
          exact ⟨rfl, k1.trans z.2 fun b hb => .inl (by simp [List.mem_singleton.mp hb]), z.1⟩
        · have hf : g.readers n = false := by
            have q := hrv n
            rw [hv] at q
            cases hg : g.readers n with
            | false => rfl
            | true => rw [hg] at q; cases q
          have eg : given15 g n = g := by
            have : (fun j => if j = n then false else g.readers j) = g.readers := by
              funext j
              by_cases c : j = n
              · rw [if_pos c, c, hf]
              · rw [if_neg c]
            show { g with readers := fun j => if j = n then false else g.readers j } = g
            rw [this]
          rw [eg]
          exact ⟨rfl, k1, hm1⟩
      · rintro σ' H2 ⟨rfl, k2, hm2⟩
        obtain ⟨dx2, tw2, hx2, _⟩ := hm2.ob
        obtain ⟨kws, hw2, hwl, hwv⟩ := hm2.wa.few
        obtain ⟨wd, hwd⟩ : ∃ wd, h.waits n = some wd := by
          cases hq : h.waits n with
          | none => exact absurd hq hwn
          | some wd => exact ⟨wd, rfl⟩
        have hgw : g.waits n = some wd := by rw [w1]; exact hwd
        -- if self.waits.pop(node) == 'share'
        refine ⟨fun σ' H' => σ' = [some (.ref x), some (.int (n : Int)), some (.ref t)] ∧ Kp [x, r, wt] H H' ∧ HmAt K a many H' x r wt sv (given2 g n), ?_, ?_⟩
        · have d := DN.drop hw2 hm2.wa n
          have z := hm2.waP (h' := { given15 g n with waits := fun j => if j = n then none else g.waits j }) (u := .dK (dropK kws (Sum.inl (n : Int)))) (by
            have fe : (fun j => if j = n then none else ((given15 g n).waits j).map fun w => V.str w.s) = fun j => ((if j = n then none else g.waits j : Option Wd)).map fun w => V.str w.s := by
              funext j
              by_cases c : j = n
              · rw [if_pos c, if_pos c]; rfl
              · rw [if_neg c, if_neg c]; rfl
            rw [fe] at d
            exact d) rfl
          have k3 := k2.trans z.2 fun b hb => .inl (by simp [List.mem_singleton.mp hb])
          refine ⟨_, rfl, x, a.cm, dx2, _, _, rfl, hx2, T.cM, hn (by simp), hF_waits, wt, rfl, .inl ⟨kws, .inl hw2⟩, _, rfl, kws, Sum.inl (n : Int), .str wd.s, hw2, rfl, by rw [hwv n]; show (g.waits n).map _ = _; rw [hgw]; rfl, by cases wd <;> rfl, _, rfl, ?_⟩
          have es : decide (V.str wd.s = .str "share") = decide (wd = .sh) := by cases wd <;> decide +kernel
          refine ite_of (fun e => ?_) (fun e => ?_)
          · have hs : wd = .sh := of_decide_eq_true (es.symm.trans e)
            obtain ⟨dxz, twz, hxz, _⟩ := z.1.ob
            obtain ⟨kr, hrz, hrzl, _⟩ := z.1.rd.few
            have dz := DN.put hrz z.1.rd hn4 (.bl true)
            have fz : (fun j => if j = n then some (V.bl true) else if (given15 g n).readers j then some (V.bl true) else none) = fun j => if (given2 g n).readers j then some (V.bl true) else none := by
              have hd : decide (g.waits n = some .sh) = true := by rw [hgw, hs]; rfl
              funext j
              show _ = if (if j = n then decide (g.waits n = some .sh) else g.readers j) = true then _ else _
              rw [hd]
              show (if j = n then _ else if (if j = n then false else g.readers j) = true then _ else _) = _
              by_cases c : j = n
              · rw [if_pos c, if_pos c]; rfl
              · rw [if_neg c, if_neg c, if_neg c]
            have z2 := z.1.rdP (h' := given2 g n) (u := .dK (putK kr (Sum.inl (n : Int)) (.bl true))) (by rw [← fz]; exact dz) rfl
            refine ⟨_, rfl, x, a.cm, dxz, _, _, rfl, hxz, T.cM, hn (by simp), hF_readers, _, rfl, r, _, rfl, .inl ⟨kr, Sum.inl (n : Int), hrz, rfl, small1000 (by omega), rfl⟩, rfl, k3.trans z2.2 fun b hb => .inl (by simp [List.mem_singleton.mp hb]), z2.1⟩
          · have hs : ¬ wd = .sh := of_decide_eq_false (es.symm.trans e)
            have eg : given2 g n = { given15 g n with waits := fun j => if j = n then none else g.waits j } := by
              unfold given2 given15
              have : decide (g.waits n = some .sh) = false := by rw [hgw]; exact decide_eq_false (fun z => hs (Option.some.inj z))
              rw [this]
            rw [eg]
            exact ⟨rfl, k3, z.1⟩
        · rintro σ' H3 ⟨rfl, k3, hm3⟩
          obtain ⟨dx3, tw3, hx3, _⟩ := hm3.ob
          obtain ⟨kw3, hw3, _, hwz, _⟩ := hm3.wa.len0
          refine ⟨_, rfl, x, a.cm, dx3, _, _, rfl, hx3, T.cM, hn (by simp), hF_waits, wt, kw3, rfl, hw3, rfl, _, rfl, ?_⟩
          have ez : decide (V.int (kw3.length : Int) = .int 0) = noWaits many (given2 g n) := by
            rw [← hwz]
            exact decide_eq_decide.mpr ⟨fun z => V.int.inj z, fun z => by rw [z]⟩
          refine ite_of (fun e => ?_) (fun e => ?_)
          · have hz : noWaits many (given2 g n) = true := ez.symm.trans e
            refine ⟨_, rfl, x, dx3, _, rfl, hx3, hF_no (by decide +kernel), x, r, wt, sv, many, given2 g n, m, rfl, hm3, a1, hmm, hm4, fun H4 r' k4 hm5 hr' => ?_⟩
            refine k H4 r' (k3.trans k4 fun b hb => .inl ?_) ?_ (hr'.imp id fun z => k3.fr _ z)
            · rcases List.mem_cons.mp hb with e | e
              · simp [e]
              · simp [List.mem_singleton.mp e]
            · have eg : givenH many h n ws = grantH (given2 g n) := by
                unfold givenH
                rw [hg, if_pos hz]
              rw [eg]
              exact hm5
          · have hz : noWaits many (given2 g n) = false := ez.symm.trans e
            refine k H3 r k3 ?_ (.inl rfl)
            have eg : givenH many h n ws = given2 g n := by
              unfold givenH
              rw [hg, if_neg (by rw [hz]; decide)]
            rw [eg]
            exact hm3
end
end K57
set_option Elab.async false
set_option linter.all false
set_option maxRecDepth 100000
set_option maxHeartbeats 4000000
/-! K57H: the nodes: what stands where; small methods. -/
namespace K57
open PySem L2 AB
def wantH (h : Hold) (k : Kd) : Hold := if h.want ≠ some .w ∧ h.want ≠ some k then { h with want := some k, asked := h.asked + 1 } else h
def spWant (K : PySem.W.Frag) (a : Ad) : Sp := fun vs H Q _ => ∃ (n x : Addr) (dx : Addr) (fs : List (Str × V)) (h : Hold) (k : Kd), vs = [.ref n, .ref x, .str k.s] ∧ HoldAt K a H x h ∧ ∀ H', Kp [x] H H' → HoldAt K a H' x (wantH h k) → Q .non H'
section
variable {P : Program} {w : World} {K : PySem.W.Frag} {mg : Str → Option Value} {base : Heap} {a : Ad} {f : Addr} {fd : FuncData}
theorem ok_want (F : Fun K "want" "Nodes.want" s_Nodes_want f fd) (T : Txt K mg a) : FnOk P w K mg base (L2.CX P w) 1 f fd ["self", "own", "kind"] (spWant K a) := by
  refine okT F sc_Nodes_want (fun vs H Q E h => ?_) (fun cdv A outer s H vs Q E hr tk hp h => ?_)
  · obtain ⟨n, x, dx, fs, h, k, rfl, _⟩ := h
    rfl
  · obtain ⟨n, x, _, fs, h, kd, rfl, ⟨dx, tw, va, hx, htw, hva⟩, k⟩ := h
    have hn : ∀ {f : Str}, f ∈ (["mode", "words", "want", "asked", "last", "answer"] : List Str) → NoAttr K a.ch f := fun h => T.aH _ h
    refine ⟨_, (pss_one (ps_if (PW.pt (pw_and (pt_cmpR op_ne (k_fld K (by rfl) (pe_fld (pv 1) (by rfl))) (pe_gv T.c_WRITE) (nomark _)) (pw_and1 (pt_cmpR op_ne (k_fld K (by rfl) (pe_fld (pv 1) (by rfl))) (pv 2) (nomark _))))) (pss_one (ps_asg (pe_tup (pa_cons (pv 2) (pa_cons (pe_op op_add (k_fld K (by rfl) (pe_fld (pv 1) (by rfl))) pe_int) pa_nil))) (pg_tup rfl (pgs_cons (k_gfld K (by rfl) (pg_fld (pv 1))) (pgs_cons (k_gfld K (by rfl) (pg_fld (pv 1))) pgs_nil))))) pss_nil)), ?_⟩
    have e1 : ∀ j : Kd, (!decide (kdV h.want = .str j.s)) = decide (h.want ≠ some j) := fun j => by
      rw [Bool.eq_iff_iff, Bool.not_eq_true', decide_eq_false_iff_not, decide_eq_true_eq]
      cases h.want with
      | none => exact ⟨fun _ z => (nomatch z), fun _ z => (nomatch z)⟩
      | some i => exact ⟨fun z q => z (by rw [Option.some.inj q]; rfl), fun z q => z (by rw [kd_inj.mp q])⟩
    have mux : Mut (H x) := by rw [hx]; exact True.intro
    have stay : ¬ (h.want ≠ some .w ∧ h.want ≠ some kd) → Q .non H := fun z => by
      refine k H ((Kp.refl _).wide (fun b h => nomatch h) fun b hb => by rw [List.mem_singleton.mp hb]; exact mux) ?_
      rw [wantH, if_neg z]
      exact ⟨dx, tw, va, hx, htw, hva⟩
    refine ⟨_, rfl, x, a.ch, dx, _, _, rfl, hx, T.cH, hn (by simp), oF_want, by cases h.want <;> rfl, _, rfl, ?_⟩
    refine ite_of (fun e => ?_) (fun e => ?_)
    · have h1 : h.want ≠ some .w := of_decide_eq_true ((e1 .w).symm.trans e)
      refine ⟨_, rfl, x, a.ch, dx, _, _, rfl, hx, T.cH, hn (by simp), oF_want, _, rfl, by cases h.want <;> rfl, _, rfl, ?_⟩
      refine ite_of (fun e => ?_) (fun e => ?_)
      · have h2 : h.want ≠ some kd := of_decide_eq_true ((e1 kd).symm.trans e)
        refine ⟨_, rfl, _, rfl, x, a.ch, dx, _, _, rfl, hx, T.cH, hn (by simp), oF_asked, _, _, rfl, rfl, (by show 2 ≤ sizeLine; decide), fun t ht => ?_⟩
        have k1 := Kp.new (o := .tup [V.str kd.s, .int (h.asked + 1)]) ht
        have e2 := k1.same _ _ hx
        refine ⟨t, _, rfl, SqT.of upd_same, rfl, _, _, rfl, _, rfl, x, a.ch, dx, _, rfl, e2, T.cH, hn (by simp), oF_len, ?_⟩
        rw [oF_p_want]
        refine ⟨_, _, rfl, _, rfl, x, a.ch, dx, _, rfl, upd_same, T.cH, hn (by simp), oF_len, rfl, ?_⟩
        rw [oF_p_asked, upd_upd]
        have kz := Kp.set (p := x) (o := .ins a.ch dx (oF (kdV h.mode) (.ref tw) (.str kd.s) (.int (h.asked + 1)) (.int h.last) va)) (show Mut (upd H t (.tup [V.str kd.s, .int (h.asked + 1)]) x) by rw [e2]; exact True.intro)
        refine k _ ((k1.wide (m' := [x]) (fun b h => nomatch h) (fun b hb => by rw [List.mem_singleton.mp hb]; exact mux)).trans1 kz) ?_
        rw [wantH, if_pos ⟨h1, h2⟩]
        exact ⟨dx, tw, va, upd_same, kz.sqT (k1.sqT htw), (hva.kp k1).kp kz⟩
      · exact stay fun z => of_decide_eq_false ((e1 kd).symm.trans e) z.2
    · exact stay fun z => of_decide_eq_false ((e1 .w).symm.trans e) z.1
end
end K57
set_option Elab.async false
set_option linter.all false
set_option maxRecDepth 100000
set_option maxHeartbeats 4000000
/-! K57I: the nodes in the heap, and what a change leaves. -/
namespace K57
open PySem L2 AB
structure NAd where
  (n way hs hd : Addr)
  (row : Nat → Addr)
  (hold : Nat → Nat → Addr)
  (home rd wt sv : Nat → Addr)
def NAd.ds (A : NAd) (p : Nat) : List Addr := [A.rd p, A.wt p, A.sv p]
structure NodesAt (K : PySem.W.Frag) (a : Ad) (H : Hp) (A : NAd) (S : Sy) : Prop where
  ob : ∃ dx, H A.n = some (.ins a.cn dx (nF (.int (S.many : Int)) (.int (S.pages : Int)) (.ref A.way) (.ref A.hs) (.ref A.hd)))
  wy : ∃ xs, H A.way = some (.lst xs) ∧ Paired (fun v m => MV K H v m) xs S.way
  hs : H A.hs = some (.lst ((List.range S.pages).map fun p => V.ref (A.home p)))
  hd : H A.hd = some (.lst ((List.range S.many).map fun i => V.ref (A.row i)))
  rw : ∀ i, i < S.many → H (A.row i) = some (.lst ((List.range S.pages).map fun p => V.ref (A.hold i p)))
  ho : ∀ i p, i < S.many → p < S.pages → HoldAt K a H (A.hold i p) (S.held i p)
  hm : ∀ p, p < S.pages → HmAt K a S.many H (A.home p) (A.rd p) (A.wt p) (A.sv p) (S.homes p)
  ih : ∀ i p i' p', i < S.many → p < S.pages → i' < S.many → p' < S.pages → A.hold i p = A.hold i' p' → i = i' ∧ p = p'
  im : ∀ p p', p < S.pages → p' < S.pages → A.home p = A.home p' → p = p'
  dj : ∀ p p' d, p < S.pages → p' < S.pages → d ∈ A.ds p → d ∈ A.ds p' → p = p'
  nw : A.way ≠ A.hs ∧ A.way ≠ A.hd ∧ ∀ i, i < S.many → A.way ≠ A.row i
theorem ins_ne {H : Hp} {x y C D dx dy : Addr} {f g : Str} {v u : V} {fs gs : List (Str × V)} (hx : H x = some (.ins C dx ((f, v) :: fs))) (hy : H y = some (.ins D dy ((g, u) :: gs))) (h : f ≠ g) : x ≠ y := by
  intro e
  rw [e, hy] at hx
  have z := Option.some.inj hx
  simp only [HO.ins.injEq, List.cons.injEq, Prod.mk.injEq] at z
  exact h z.2.2.1.1.symm
section
variable {K : PySem.W.Frag} {a : Ad} {H H' : Hp} {A : NAd} {S : Sy} (q : NodesAt K a H A S)
include q
theorem NodesAt.kp0 (k : Kp [] H H') : NodesAt K a H' A S := by
  obtain ⟨dx, hob⟩ := q.ob
  obtain ⟨xs, hx, px⟩ := q.wy
  exact ⟨⟨dx, k.same _ _ hob⟩, ⟨xs, k.same _ _ hx, AB.Paired.imp (fun _ _ r => MV.kp k r) px⟩, k.same _ _ q.hs, k.same _ _ q.hd, fun i hi => k.same _ _ (q.rw i hi), fun i p hi hp => (q.ho i p hi hp).kp k (by simp),
    fun p hp => (q.hm p hp).kp k (by simp) (by simp) (by simp) (by simp), q.ih, q.im, q.dj, q.nw⟩
/-- the way alone changed -/
theorem NodesAt.kpWay (k : Kp [A.way] H H') {xs : List V} {ms : List Msg} (hx : H' A.way = some (.lst xs)) (px : Paired (fun v m => MV K H' v m) xs ms) : NodesAt K a H' A { S with way := ms } := by
  obtain ⟨dx, hob⟩ := q.ob
  obtain ⟨ys, hy, _⟩ := q.wy
  have ni : ∀ {y : Addr} {C d : Addr} {fs : List (Str × V)}, H y = some (.ins C d fs) → y ∉ [A.way] := fun h => by
    simp only [List.mem_singleton]
    exact ne_of h hy (by intro z; cases z)
  have nk : ∀ {y : Addr} {kvs : List (Key × V)}, H y = some (.dK kvs) → y ∉ [A.way] := fun h => by
    simp only [List.mem_singleton]
    exact ne_of h hy (by intro z; cases z)
  refine ⟨⟨dx, k.st _ _ (ni hob) hob⟩, ⟨xs, hx, px⟩, k.st _ _ (by simp only [List.mem_singleton]; exact q.nw.1.symm) q.hs, k.st _ _ (by simp only [List.mem_singleton]; exact q.nw.2.1.symm) q.hd,
    fun i hi => k.st _ _ (by simp only [List.mem_singleton]; exact (q.nw.2.2 i hi).symm) (q.rw i hi), fun i p hi hp => ?_, fun p hp => ?_, q.ih, q.im, q.dj, q.nw⟩
  · have z := q.ho i p hi hp
    obtain ⟨d, tw, va, h, _⟩ := id z
    exact z.kp k (ni h)
  · have z := q.hm p hp
    obtain ⟨d, tw, h, _⟩ := z.ob
    obtain ⟨k1, h1, _⟩ := z.rd.few
    obtain ⟨k2, h2, _⟩ := z.wa.few
    obtain ⟨k3, h3, _⟩ := z.se.few
    exact z.kp k (ni h) (nk h1) (nk h2) (nk h3)
/-- one node's page alone changed -/
theorem NodesAt.kpHold {i p : Nat} (hi : i < S.many) (hp : p < S.pages) (k : Kp [A.hold i p] H H') {h' : Hold} (hx : HoldAt K a H' (A.hold i p) h') : NodesAt K a H' A { S with held := fun j r => if j = i ∧ r = p then h' else S.held j r } := by
  obtain ⟨dx, hob⟩ := q.ob
  obtain ⟨xs, hw, px⟩ := q.wy
  obtain ⟨d0, tw0, va0, h0, _⟩ := q.ho i p hi hp
  have nl : ∀ {y : Addr} {ys : List V}, H y = some (.lst ys) → y ∉ [A.hold i p] := fun h => by
    simp only [List.mem_singleton]
    exact ne_of h h0 (by intro z; cases z)
  have nk : ∀ {y : Addr} {kvs : List (Key × V)}, H y = some (.dK kvs) → y ∉ [A.hold i p] := fun h => by
    simp only [List.mem_singleton]
    exact ne_of h h0 (by intro z; cases z)
  refine ⟨⟨dx, k.st _ _ (by simp only [List.mem_singleton]; exact ins_ne hob h0 (by decide +kernel)) hob⟩, ⟨xs, k.st _ _ (nl hw) hw, AB.Paired.imp (fun _ _ r => MV.kp k r) px⟩, k.st _ _ (nl q.hs) q.hs, k.st _ _ (nl q.hd) q.hd,
    fun j hj => k.st _ _ (nl (q.rw j hj)) (q.rw j hj), fun j r hj hr => ?_, fun r hr => ?_, q.ih, q.im, q.dj, q.nw⟩
  · show HoldAt K a H' (A.hold j r) (if j = i ∧ r = p then h' else S.held j r)
    by_cases c : j = i ∧ r = p
    · rw [if_pos c, c.1, c.2]
      exact hx
    · rw [if_neg c]
      refine (q.ho j r hj hr).kp k ?_
      simp only [List.mem_singleton]
      exact fun z => c (q.ih j r i p hj hr hi hp z)
  · have z := q.hm r hr
    obtain ⟨d, tw, h, _⟩ := z.ob
    obtain ⟨k1, h1, _⟩ := z.rd.few
    obtain ⟨k2, h2, _⟩ := z.wa.few
    obtain ⟨k3, h3, _⟩ := z.se.few
    exact z.kp k (by simp only [List.mem_singleton]; exact ins_ne h h0 (by decide +kernel)) (nk h1) (nk h2) (nk h3)
end
end K57
set_option Elab.async false
set_option linter.all false
set_option maxRecDepth 100000
set_option maxHeartbeats 4000000
/-! K57J: a home changed. -/
namespace K57
open PySem L2 AB
def atP (p : Nat) (x : Addr) (f : Nat → Addr) : Nat → Addr := fun j => if j = p then x else f j
theorem atP_same {p : Nat} {x : Addr} {f : Nat → Addr} : atP p x f p = x := if_pos rfl
theorem atP_ne {p j : Nat} {x : Addr} {f : Nat → Addr} (h : j ≠ p) : atP p x f j = f j := if_neg h
def NAd.put (A : NAd) (p : Nat) (r w s : Addr) : NAd := { A with rd := atP p r A.rd, wt := atP p w A.wt, sv := atP p s A.sv }
theorem NodesAt.kpHome {K : PySem.W.Frag} {a : Ad} {H H' : Hp} {A : NAd} {S : Sy} (q : NodesAt K a H A S) {p : Nat} (hp : p < S.pages) (k : Kp [A.home p, A.rd p, A.wt p, A.sv p] H H') {h' : Hm} {r' w' s' : Addr} (hx : HmAt K a S.many H' (A.home p) r' w' s' h')
    (er : r' = A.rd p ∨ H r' = none) (ew : w' = A.wt p ∨ H w' = none) (es : s' = A.sv p ∨ H s' = none) : NodesAt K a H' (A.put p r' w' s') { S with homes := fun j => if j = p then h' else S.homes j } := by
  obtain ⟨dx, hob⟩ := q.ob
  obtain ⟨xs, hw, px⟩ := q.wy
  have zp := q.hm p hp
  obtain ⟨d0, tw0, h0, _⟩ := zp.ob
  obtain ⟨k1, g1, _⟩ := zp.rd.few
  obtain ⟨k2, g2, _⟩ := zp.wa.few
  obtain ⟨k3, g3, _⟩ := zp.se.few
  have nl : ∀ {y : Addr} {ys : List V}, H y = some (.lst ys) → y ∉ [A.home p, A.rd p, A.wt p, A.sv p] := fun h => by
    simp only [List.mem_cons, List.not_mem_nil, or_false, not_or]
    exact ⟨ne_of h h0 (by intro z; cases z), ne_of h g1 (by intro z; cases z), ne_of h g2 (by intro z; cases z), ne_of h g3 (by intro z; cases z)⟩
  have ni : ∀ {y C d : Addr} {fs : List (Str × V)}, H y = some (.ins C d fs) → y ≠ A.home p → y ∉ [A.home p, A.rd p, A.wt p, A.sv p] := fun h hne => by
    simp only [List.mem_cons, List.not_mem_nil, or_false, not_or]
    exact ⟨hne, ne_of h g1 (by intro z; cases z), ne_of h g2 (by intro z; cases z), ne_of h g3 (by intro z; cases z)⟩
  -- a dict of another home
  have dict : ∀ {j : Nat} {y : Addr}, j < S.pages → y ∈ A.ds j → ∃ kvs, H y = some (.dK kvs) := fun {j y} hj hy => by
    have z := q.hm j hj
    obtain ⟨l1, e1, _⟩ := z.rd.few
    obtain ⟨l2, e2, _⟩ := z.wa.few
    obtain ⟨l3, e3, _⟩ := z.se.few
    simp only [NAd.ds, List.mem_cons, List.not_mem_nil, or_false] at hy
    rcases hy with rfl | rfl | rfl
    · exact ⟨_, e1⟩
    · exact ⟨_, e2⟩
    · exact ⟨_, e3⟩
  have nd : ∀ {j : Nat} {y : Addr}, j < S.pages → j ≠ p → y ∈ A.ds j → y ∉ [A.home p, A.rd p, A.wt p, A.sv p] := fun {j y} hj hne hy => by
    obtain ⟨kvs, e⟩ := dict hj hy
    have o : ∀ d, d ∈ A.ds p → y ≠ d := fun d hd z => hne (q.dj j p y hj hp hy (by rw [z]; exact hd))
    simp only [List.mem_cons, List.not_mem_nil, or_false, not_or]
    exact ⟨ne_of e h0 (by intro z; cases z), o _ (by simp [NAd.ds]), o _ (by simp [NAd.ds]), o _ (by simp [NAd.ds])⟩
  have nw : ∀ d, d ∈ (A.put p r' w' s').ds p → d ∈ A.ds p ∨ H d = none := fun d hd => by
    simp only [NAd.ds, NAd.put, atP_same, List.mem_cons, List.not_mem_nil, or_false] at hd
    rcases hd with rfl | rfl | rfl
    · exact er.imp (fun z => by rw [z]; simp [NAd.ds]) fun z => z
    · exact ew.imp (fun z => by rw [z]; simp [NAd.ds]) fun z => z
    · exact es.imp (fun z => by rw [z]; simp [NAd.ds]) fun z => z
  have od : ∀ {j : Nat}, j ≠ p → (A.put p r' w' s').ds j = A.ds j := fun {j} hne => by
    simp only [NAd.ds, NAd.put, atP_ne hne]
  refine ⟨⟨dx, k.st _ _ (ni hob (ins_ne hob h0 (by decide +kernel))) hob⟩, ⟨xs, k.st _ _ (nl hw) hw, AB.Paired.imp (fun _ _ r => MV.kp k r) px⟩, k.st _ _ (nl q.hs) q.hs, k.st _ _ (nl q.hd) q.hd,
    fun j hj => k.st _ _ (nl (q.rw j hj)) (q.rw j hj), fun j r hj hr => ?_, fun r hr => ?_, q.ih, q.im, fun x y d hx' hy' dx' dy' => ?_, q.nw⟩
  · have z := q.ho j r hj hr
    obtain ⟨d, tw, va, h, hh⟩ := z
    exact HoldAt.kp ⟨d, tw, va, h, hh⟩ k (ni h (ins_ne h h0 (by decide +kernel)))
  · show HmAt K a S.many H' (A.home r) (atP p r' A.rd r) (atP p w' A.wt r) (atP p s' A.sv r) (if r = p then h' else S.homes r)
    by_cases c : r = p
    · subst c
      rw [if_pos rfl, atP_same, atP_same, atP_same]
      exact hx
    · rw [if_neg c, atP_ne c, atP_ne c, atP_ne c]
      have z := q.hm r hr
      obtain ⟨d, tw, h, _⟩ := z.ob
      exact z.kp k (ni h (fun z => c (q.im r p hr hp z))) (nd hr c (by simp [NAd.ds])) (nd hr c (by simp [NAd.ds])) (nd hr c (by simp [NAd.ds]))
  · by_cases cx : x = p
    · by_cases cy : y = p
      · rw [cx, cy]
      · exfalso
        subst cx
        rw [od cy] at dy'
        rcases nw d dx' with z | z
        · exact cy (q.dj x y d hx' hy' z dy').symm
        · obtain ⟨kvs, e⟩ := dict hy' dy'
          rw [z] at e
          cases e
    · rw [od cx] at dx'
      by_cases cy : y = p
      · exfalso
        subst cy
        rcases nw d dy' with z | z
        · exact cx (q.dj x y d hx' hy' dx' z)
        · obtain ⟨kvs, e⟩ := dict hx' dx'
          rw [z] at e
          cases e
      · rw [od cy] at dy'
        exact q.dj x y d hx' hy' dx' dy'
end K57
set_option Elab.async false
set_option linter.all false
set_option maxRecDepth 100000
set_option maxHeartbeats 4000000
/-! K57V: what a change of the nodes leaves of the rest. -/
namespace K57
open PySem L2 AB
def NAd.foot (A : NAd) (m p : Nat) : List Addr := [A.n, A.way, A.hs, A.hd] ++ ((List.range m).map A.row ++ ((List.range m).flatMap (fun i => (List.range p).map (A.hold i)) ++ (List.range p).flatMap (fun j => A.home j :: A.ds j)))
theorem NAd.mem_foot {A : NAd} {m p : Nat} {b : Addr} : b ∈ A.foot m p ↔ (b = A.n ∨ b = A.way ∨ b = A.hs ∨ b = A.hd) ∨ (∃ i, i < m ∧ A.row i = b) ∨ (∃ i, i < m ∧ ∃ j, j < p ∧ A.hold i j = b) ∨ (∃ j, j < p ∧ (b = A.home j ∨ b ∈ A.ds j)) := by
  simp [NAd.foot, or_assoc]
structure Ch (K : PySem.W.Frag) (a : Ad) (H : Hp) (A : NAd) (S : Sy) (H' : Hp) (A' : NAd) (S' : Sy) : Prop where
  at_ : NodesAt K a H' A' S'
  e : ∃ r w s, A' = { A with rd := r, wt := w, sv := s }
  k : Kp (A.foot S.many S.pages) H H'
  f : ∀ b, b ∈ A'.foot S.many S.pages → b ∈ A.foot S.many S.pages ∨ H b = none
  mp : S'.many = S.many ∧ S'.pages = S.pages
section
variable {K : PySem.W.Frag} {a : Ad} {H H' H'' : Hp} {A A' A'' : NAd} {S S' S'' : Sy}
theorem NodesAt.ds_dict (q : NodesAt K a H A S) {j : Nat} {y : Addr} (hj : j < S.pages) (hy : y ∈ A.ds j) : ∃ kvs, H y = some (.dK kvs) := by
  have z := q.hm j hj
  obtain ⟨l1, e1, _⟩ := z.rd.few
  obtain ⟨l2, e2, _⟩ := z.wa.few
  obtain ⟨l3, e3, _⟩ := z.se.few
  simp only [NAd.ds, List.mem_cons, List.not_mem_nil, or_false] at hy
  rcases hy with rfl | rfl | rfl
  · exact ⟨_, e1⟩
  · exact ⟨_, e2⟩
  · exact ⟨_, e3⟩
theorem NodesAt.mut (q : NodesAt K a H A S) : ∀ b, b ∈ A.foot S.many S.pages → Mut (H b) := by
  intro b hb
  rcases NAd.mem_foot.mp hb with (rfl | rfl | rfl | rfl) | ⟨i, hi, rfl⟩ | ⟨i, hi, j, hj, rfl⟩ | ⟨j, hj, rfl | hb⟩
  · obtain ⟨dx, h⟩ := q.ob; rw [h]; exact True.intro
  · obtain ⟨xs, h, _⟩ := q.wy; rw [h]; exact True.intro
  · rw [q.hs]; exact True.intro
  · rw [q.hd]; exact True.intro
  · rw [q.rw i hi]; exact True.intro
  · obtain ⟨d, tw, va, h, _⟩ := q.ho i j hi hj; rw [h]; exact True.intro
  · obtain ⟨d, tw, h, _⟩ := (q.hm j hj).ob; rw [h]; exact True.intro
  · obtain ⟨kvs, h⟩ := q.ds_dict hj hb; rw [h]; exact True.intro
theorem Ch.of0 (q : NodesAt K a H A S) (k : Kp [] H H') : Ch K a H A S H' A S := ⟨q.kp0 k, ⟨_, _, _, rfl⟩, k.wide (fun b h => nomatch h) q.mut, fun b h => .inl h, rfl, rfl⟩
theorem Ch.refl (q : NodesAt K a H A S) : Ch K a H A S H A S := Ch.of0 q (Kp.refl _)
theorem Ch.trans (c : Ch K a H A S H' A' S') (d : Ch K a H' A' S' H'' A'' S'') : Ch K a H A S H'' A'' S'' := by
  have e1 := c.mp
  have dk := d.k
  have df := d.f
  rw [e1.1, e1.2] at dk df
  refine ⟨d.at_, ?_, c.k.trans dk fun b hb => c.f b hb, fun b hb => ?_, d.mp.1.trans e1.1, d.mp.2.trans e1.2⟩
  · obtain ⟨r, w, s, rfl⟩ := c.e
    obtain ⟨r', w', s', rfl⟩ := d.e
    exact ⟨_, _, _, rfl⟩
  · rcases df b hb with h | h
    · exact c.f b h
    · exact .inr (c.k.fr _ h)
theorem Ch.trans0 (c : Ch K a H A S H' A' S') (k : Kp [] H' H'') : Ch K a H A S H'' A' S' := c.trans (Ch.of0 c.at_ k)
theorem Ch.way {ms : List Msg} (q : NodesAt K a H A S) (k : Kp [A.way] H H') (z : NodesAt K a H' A { S with way := ms }) : Ch K a H A S H' A { S with way := ms } :=
  ⟨z, ⟨_, _, _, rfl⟩, k.wide (fun b hb => by rw [List.mem_singleton.mp hb]; exact NAd.mem_foot.mpr (.inl (.inr (.inl rfl)))) q.mut, fun b h => .inl h, rfl, rfl⟩
def setHold (S : Sy) (i p : Nat) (h : Hold) : Sy := { S with held := fun j r => if j = i ∧ r = p then h else S.held j r }
def setHome (S : Sy) (p : Nat) (h : Hm) : Sy := { S with homes := fun j => if j = p then h else S.homes j }
theorem Ch.hold {i p : Nat} {h : Hold} (q : NodesAt K a H A S) (hi : i < S.many) (hp : p < S.pages) (k : Kp [A.hold i p] H H') (hx : HoldAt K a H' (A.hold i p) h) : Ch K a H A S H' A (setHold S i p h) :=
  ⟨q.kpHold hi hp k hx, ⟨_, _, _, rfl⟩, k.wide (fun b hb => by rw [List.mem_singleton.mp hb]; exact NAd.mem_foot.mpr (.inr (.inr (.inl ⟨i, hi, p, hp, rfl⟩)))) q.mut, fun b h => .inl h, rfl, rfl⟩
theorem Ch.home {p : Nat} {h : Hm} {r' w' s' : Addr} (q : NodesAt K a H A S) (hp : p < S.pages) (k : Kp [A.home p, A.rd p, A.wt p, A.sv p] H H') (hx : HmAt K a S.many H' (A.home p) r' w' s' h)
    (er : r' = A.rd p ∨ H r' = none) (ew : w' = A.wt p ∨ H w' = none) (es : s' = A.sv p ∨ H s' = none) : Ch K a H A S H' (A.put p r' w' s') (setHome S p h) := by
  refine ⟨q.kpHome hp k hx er ew es, ⟨_, _, _, rfl⟩, k.wide (fun b hb => NAd.mem_foot.mpr (.inr (.inr (.inr ⟨p, hp, ?_⟩)))) q.mut, fun b hb => ?_, rfl, rfl⟩
  · simp only [List.mem_cons, List.not_mem_nil, or_false] at hb
    simp only [NAd.ds, List.mem_cons, List.not_mem_nil, or_false]
    exact hb
  · rcases NAd.mem_foot.mp hb with z | z | z | ⟨j, hj, z | z⟩
    · exact .inl (NAd.mem_foot.mpr (.inl z))
    · exact .inl (NAd.mem_foot.mpr (.inr (.inl z)))
    · exact .inl (NAd.mem_foot.mpr (.inr (.inr (.inl z))))
    · exact .inl (NAd.mem_foot.mpr (.inr (.inr (.inr ⟨j, hj, .inl z⟩))))
    · by_cases c : j = p
      · subst c
        simp only [NAd.ds, NAd.put, atP_same, List.mem_cons, List.not_mem_nil, or_false] at z
        have inn : ∀ d, d ∈ A.ds j → d ∈ A.foot S.many S.pages := fun d hd => NAd.mem_foot.mpr (.inr (.inr (.inr ⟨j, hj, .inr hd⟩)))
        rcases z with rfl | rfl | rfl
        · exact er.imp (fun z => by rw [z]; exact inn _ (by simp [NAd.ds])) fun z => z
        · exact ew.imp (fun z => by rw [z]; exact inn _ (by simp [NAd.ds])) fun z => z
        · exact es.imp (fun z => by rw [z]; exact inn _ (by simp [NAd.ds])) fun z => z
      · simp only [NAd.ds, NAd.put, atP_ne c] at z
        exact .inl (NAd.mem_foot.mpr (.inr (.inr (.inr ⟨j, hj, .inr z⟩))))
/-- a change elsewhere -/
theorem NodesAt.far {ms : List Addr} (q : NodesAt K a H A S) (k : Kp ms H H') (d : ∀ b, b ∈ A.foot S.many S.pages → b ∉ ms) : NodesAt K a H' A S := by
  obtain ⟨dx, hob⟩ := q.ob
  obtain ⟨xs, hx, px⟩ := q.wy
  have o1 : ∀ b, (b = A.n ∨ b = A.way ∨ b = A.hs ∨ b = A.hd) → b ∉ ms := fun b h => d b (NAd.mem_foot.mpr (.inl h))
  refine ⟨⟨dx, k.st _ _ (o1 _ (.inl rfl)) hob⟩, ⟨xs, k.st _ _ (o1 _ (.inr (.inl rfl))) hx, AB.Paired.imp (fun _ _ r => MV.kp k r) px⟩, k.st _ _ (o1 _ (.inr (.inr (.inl rfl)))) q.hs, k.st _ _ (o1 _ (.inr (.inr (.inr rfl)))) q.hd,
    fun i hi => k.st _ _ (d _ (NAd.mem_foot.mpr (.inr (.inl ⟨i, hi, rfl⟩)))) (q.rw i hi), fun i p hi hp => (q.ho i p hi hp).kp k (d _ (NAd.mem_foot.mpr (.inr (.inr (.inl ⟨i, hi, p, hp, rfl⟩))))), fun p hp => ?_, q.ih, q.im, q.dj, q.nw⟩
  have o2 : ∀ b, (b = A.home p ∨ b ∈ A.ds p) → b ∉ ms := fun b h => d b (NAd.mem_foot.mpr (.inr (.inr (.inr ⟨p, hp, h⟩))))
  exact (q.hm p hp).kp k (o2 _ (.inl rfl)) (o2 _ (.inr (by simp [NAd.ds]))) (o2 _ (.inr (by simp [NAd.ds]))) (o2 _ (.inr (by simp [NAd.ds])))
end
end K57
set_option Elab.async false
set_option linter.all false
set_option maxRecDepth 100000
set_option maxHeartbeats 4000000
/-! K57K: small methods of the nodes. -/
namespace K57
open PySem L2 AB
def spSend (K : PySem.W.Frag) (a : Ad) : Sp := fun vs H Q _ => ∃ (A : NAd) (S : Sy) (v : V) (m : Msg), vs = [.ref A.n, v] ∧ NodesAt K a H A S ∧ MV K H v m ∧ S.way.length < 100000 ∧ ∀ H', Kp [A.way] H H' → NodesAt K a H' A { S with way := S.way ++ [m] } → Q .non H'
def spNeed (K : PySem.W.Frag) (a : Ad) : Sp := fun vs H Q _ => ∃ (A : NAd) (S : Sy) (i p : Nat), vs = [.ref A.n, .int (i : Int), .int (p : Int)] ∧ NodesAt K a H A S ∧ i < S.many ∧ p < S.pages ∧ Q (.ref (A.hold i p)) H
section
variable {P : Program} {w : World} {K : PySem.W.Frag} {mg : Str → Option Value} {base : Heap} {a : Ad} {f : Addr} {fd : FuncData}
theorem ok_send (F : Fun K "send" "Nodes.send" s_Nodes_send f fd) (T : Txt K mg a) : FnOk P w K mg base (L2.CX P w) 1 f fd ["self", "message"] (spSend K a) := by
  refine okT F sc_Nodes_send (fun vs H Q E h => ?_) (fun cdv A' outer s H vs Q E hr tk hp h => ?_)
  · obtain ⟨A, S, v, m, rfl, _⟩ := h
    rfl
  · obtain ⟨A, S, v, m, rfl, q, hv, hl, k⟩ := h
    obtain ⟨dx, hob⟩ := q.ob
    obtain ⟨xs, hw, px⟩ := q.wy
    have hxl := Paired.length px
    have hn : ∀ {f : Str}, f ∈ (["many", "pages", "way", "homes", "held"] : List Str) → NoAttr K a.cn f := fun h => T.aN _ h
    refine ⟨_, (pss_one (ps_expr (k_bm K (by rfl) (pe_bm PySem.F.plainAttrs_list PySem.F.slot_list_append PySem.F.type_list_append mt_append (k_fld K (by rfl) (pe_fld (pv 0) (by rfl)))  (pa_cons (pv 1) pa_nil))))), ?_⟩
    refine ⟨_, rfl, A.n, a.cn, dx, _, _, rfl, hob, T.cN, hn (by simp), nF_way, .inl ⟨rfl, _, SqL.of hw⟩, _, rfl, A.way, _, _, rfl, rfl, hw, Nat.lt_of_le_of_lt (show xs.length ≤ 100000 by omega) (by decide), ?_⟩
    have kz := Kp.set (p := A.way) (o := .lst (xs ++ [v])) (show Mut (H A.way) by rw [hw]; exact True.intro)
    exact k _ kz (q.kpWay kz upd_same (AB.Paired.snoc (AB.Paired.imp (fun _ _ r => MV.kp kz r) px) (hv.kp kz)))
theorem ok_need (F : Fun K "need" "Nodes.need" s_Nodes_need f fd) (T : Txt K mg a) (G_check_there : GFn P w K mg base 1 "check_there" ["is_there"] (spCheck a.nt)) (G_is_integer : GFn P w K mg base 1 "is_integer" ["value"] spIsInt) : FnOk P w K mg base (L2.CX P w) 2 f fd ["self", "node", "page"] (spNeed K a) := by
  refine okT F sc_Nodes_need (fun vs H Q E h => ?_) (fun cdv A' outer s H vs Q E hr tk hp h => ?_)
  · obtain ⟨A, S, i, p, rfl, _⟩ := h
    rfl
  · obtain ⟨A, S, i, p, rfl, q, hi, hp', k⟩ := h
    obtain ⟨dx, hob⟩ := q.ob
    have hn : ∀ {f : Str}, f ∈ (["many", "pages", "way", "homes", "held"] : List Str) → NoAttr K a.cn f := fun h => T.aN _ h
    refine ⟨_, (pss_cons (ps_expr (pe_cl G_check_there (hr.mono (by decide)) tk (pa_cons (pe_and (pe_cl G_is_integer (hr.mono (by decide)) tk (pa_cons (pv 1) pa_nil)) (pe_one (pe_chain op_le op_lt pe_int (pv 1) (k_fld K (by rfl) (pe_fld (pv 0) (by rfl)))))) pa_nil))) (pss_cons (ps_expr (pe_cl G_check_there (hr.mono (by decide)) tk (pa_cons (pe_and (pe_cl G_is_integer (hr.mono (by decide)) tk (pa_cons (pv 2) pa_nil)) (pe_one (pe_chain op_le op_lt pe_int (pv 2) (k_fld K (by rfl) (pe_fld (pv 0) (by rfl)))))) pa_nil))) (pss_one (ps_ret (pe_ix (k_ixL K (by rfl)) (pe_ix (k_ixL K (by rfl)) (k_fld K (by rfl) (pe_fld (pv 0) (by rfl))) (pv 1) (fun _ _ => rfl)) (pv 2) (fun _ _ => rfl)))))), ?_⟩
    refine ⟨_, rfl, (i : Int), rfl, true, rfl, iteT ?_⟩
    refine ⟨_, rfl, 0, (i : Int), rfl, rfl, _, rfl, ?_⟩
    rw [if_pos (by simp)]
    refine ⟨_, rfl, A.n, a.cn, dx, _, _, rfl, hob, T.cN, hn (by simp), nF_many, (i : Int), (S.many : Int), rfl, rfl, true, by show [V.bl (decide ((i : Int) < (S.many : Int)))] = _; rw [decide_eq_true (show (i : Int) < (S.many : Int) by omega)], fun _ => ?_, fun z => nomatch z⟩
    refine ⟨_, rfl, (p : Int), rfl, true, rfl, iteT ?_⟩
    refine ⟨_, rfl, 0, (p : Int), rfl, rfl, _, rfl, ?_⟩
    rw [if_pos (by simp)]
    refine ⟨_, rfl, A.n, a.cn, dx, _, _, rfl, hob, T.cN, hn (by simp), nF_pages, (p : Int), (S.pages : Int), rfl, rfl, true, by show [V.bl (decide ((p : Int) < (S.pages : Int)))] = _; rw [decide_eq_true (show (p : Int) < (S.pages : Int) by omega)], fun _ => ?_, fun z => nomatch z⟩
    refine ⟨_, rfl, A.n, a.cn, dx, _, _, rfl, hob, T.cN, hn (by simp), nF_held, _, rfl, A.hd, _, _, _, rfl, rfl, SqL.of q.hd, atI_nat (v := .ref (A.row i)) (by simp [hi]), _, rfl, A.row i, _, _, _, rfl, rfl, SqL.of (q.rw i hi), atI_nat (v := .ref (A.hold i p)) (by simp [hp']), k⟩
end
end K57
set_option Elab.async false
set_option linter.all false
set_option maxRecDepth 100000
set_option maxHeartbeats 4000000
/-! K57O: a home's messages sent. -/
namespace K57
open PySem L2 AB
def waitsL (many : Nat) (h : Hm) : List Nat := keysN many fun n => (h.waits n).map fun w => .str w.s
def putM (p : Nat) (h : Hm) (n : Nat) : Msg := .put h.node n p h.number ((h.waits n).getD .go)
def grantM (p : Nat) (h : Hm) : Msg := .grant h.node (h.asker.getD 0) p h.number (h.kind.getD .r) h.words
def pushW (many p : Nat) (h : Hm) : List Msg := (waitsL many h).map (putM p h) ++ if granting many h then [grantM p h] else []
def spPush (K : PySem.W.Frag) (a : Ad) : Sp := fun vs H Q _ => ∃ (A : NAd) (S : Sy) (p : Nat), vs = [.ref A.n, .int (p : Int), .ref (A.home p)] ∧ NodesAt K a H A S ∧ p < S.pages ∧ S.many ≤ 4 ∧ S.way.length + 10 < 100000 ∧ (∀ m, (S.homes p).asker = some m → ∃ k, (S.homes p).kind = some k) ∧
  ∀ H', Kp [A.way] H H' → NodesAt K a H' A { S with way := S.way ++ pushW S.many p (S.homes p) } → Q .non H'
section
variable {P : Program} {w : World} {K : PySem.W.Frag} {mg : Str → Option Value} {base : Heap} {a : Ad} {f : Addr} {fd : FuncData}
theorem ok_push (F : Fun K "push" "Nodes.push" s_Nodes_push f fd) (T : Txt K mg a) (G_Nodes_send : GMt P w K mg base 1 a.cn "send" ["self", "message"] (spSend K a)) (G_Home_is_granting : GMt P w K mg base 1 a.cm "is_granting" ["self"] (spGranting K a)) : FnOk P w K mg base (L2.CX P w) 2 f fd ["self", "page", "home"] (spPush K a) := by
  refine okT F sc_Nodes_push (fun vs H Q E h => ?_) (fun cdv A' outer s H vs Q E hr tk hp h => ?_)
  · obtain ⟨A, S, p, rfl, _⟩ := h
    rfl
  · obtain ⟨A, S, p, rfl, q, hp', hm4, hwl, hkd, k⟩ := h
    have hn : ∀ {f : Str}, f ∈ (["node", "writer", "readers", "words", "number", "asker", "kind", "waits", "served"] : List Str) → NoAttr K a.cm f := fun h => T.aM _ h
    refine ⟨_, (pss_cons (ps_for hp rfl (k_piL K (by rfl) (pi_list (pe_callB (call_sortedDI rfl) (by rfl) T.n_sorted (by decide +kernel) (pa_cons (k_fld K (by rfl) (pe_fld (pv 2) (by rfl))) pa_nil)))) (pg_name (i := 3) sc_Nodes_push.nd rfl (by first | exact Or.inl rfl | exact Or.inr rfl)) (pss_one (ps_expr (pe_mt (pv 0) G_Nodes_send (hr.mono (by decide)) tk (pa_cons (pe_tup (pa_cons (k_fld K (by rfl) (pe_fld (pv 2) (by rfl))) (pa_cons (pv 3) (pa_cons (pe_dget (hu_of hr) (k_fld K (by rfl) (pe_fld (pv 2) (by rfl))) (pv 3) (fun _ _ => rfl)) (pa_cons (pv 1) (pa_cons (k_fld K (by rfl) (pe_fld (pv 2) (by rfl))) pa_nil)))))) pa_nil))))) (pss_one (ps_if (pt_val (pe_mt0 (pv 2) G_Home_is_granting (hr.mono (by decide)) tk)) (pss_one (ps_expr (pe_mt (pv 0) G_Nodes_send (hr.mono (by decide)) tk (pa_cons (pe_tup (pa_cons (k_fld K (by rfl) (pe_fld (pv 2) (by rfl))) (pa_cons (k_fld K (by rfl) (pe_fld (pv 2) (by rfl))) (pa_cons (k_fld K (by rfl) (pe_fld (pv 2) (by rfl))) (pa_cons (pv 1) (pa_cons (k_fld K (by rfl) (pe_fld (pv 2) (by rfl))) (pa_cons (k_fld K (by rfl) (pe_fld (pv 2) (by rfl))) pa_nil))))))) pa_nil)))) pss_nil))), ?_⟩
    obtain ⟨dx, tw, hx, htw⟩ := (q.hm p hp').ob
    obtain ⟨kvs, ks, hw, hwk, hwp, hwn, hwv⟩ := (q.hm p hp').wa.keys
    refine ⟨_, rfl, A.home p, a.cm, dx, _, _, rfl, hx, T.cM, hn (by simp), hF_waits, A.wt p, kvs, ks.map (fun n : Nat => (n : Int)), rfl, .inl hw, by rw [hwk, List.map_map]; rfl, by rw [List.length_map]; omega, fun ys l hperm hsort hl => ?_⟩
    obtain rfl := sorted_keys hwp hperm hsort
    have kl := Kp.new (o := .lst (((keysN S.many fun n => ((S.homes p).waits n).map fun w => V.str w.s).map fun n : Nat => (n : Int)).map V.int)) hl
    have hlen : (waitsL S.many (S.homes p)).length ≤ 4 := by
      refine Nat.le_trans (List.length_filter_le _ _) ?_
      rw [List.length_range]
      exact hm4
    have lway : l ≠ A.way := by
      obtain ⟨xs, h, _⟩ := q.wy
      exact (ne_of_none h hl).symm
    refine ⟨l, rfl, ⟨_, SqL.of upd_same⟩, ?_⟩
    refine for_it walk_list (fun i σ H' => (∃ y3, σ = [some (.ref A.n), some (.int (p : Int)), some (.ref (A.home p)), y3]) ∧ Kp [A.way] (upd H l (.lst (((keysN S.many fun n => ((S.homes p).waits n).map fun w => V.str w.s).map fun n : Nat => (n : Int)).map V.int))) H' ∧ NodesAt K a H' A { S with way := S.way ++ ((waitsL S.many (S.homes p)).take i).map (putM p (S.homes p)) })
      ⟨⟨none, rfl⟩, (Kp.refl _).wide (fun b h => nomatch h) (fun b hb => by
        obtain ⟨xs, h, _⟩ := (q.kp0 kl).wy
        rw [List.mem_singleton.mp hb, h]
        exact True.intro), by
        have z := q.kp0 kl
        simpa using z⟩ (fun i σ H' _ pv => pv.2.1.sqL (SqL.of upd_same) (by simp [lway])) ?_ ?_
    · rintro i v σ H1 H2 hi ⟨⟨y3, rfl⟩, k1, q1⟩ ⟨rfl, hv⟩
      rw [List.map_map] at hv
      obtain ⟨n, hnn, rfl⟩ := map_at (g := fun n : Nat => V.int (n : Int)) hv
      have hnL : (waitsL S.many (S.homes p))[i]? = some n := hnn
      obtain ⟨wd, hwd⟩ : ∃ wd, (S.homes p).waits n = some wd := by
        have := (List.mem_filter.mp (List.mem_of_getElem? hnL)).2
        cases hq : (S.homes p).waits n with
        | none => simp [hq] at this
        | some wd => exact ⟨wd, rfl⟩
      obtain ⟨dx1, tw1, hx1, htw1⟩ := (q1.hm p hp').ob
      obtain ⟨kv1, hw1, hwl1, hwv1⟩ := (q1.hm p hp').wa.few
      obtain ⟨dn, hob⟩ := q1.ob
      refine ⟨_, rfl, A.n, dn, _, rfl, hob, nF_no (by decide +kernel), _, rfl, A.home p, a.cm, dx1, _, _, rfl, hx1, T.cM, hn (by simp), hF_node, _, rfl, _, rfl, A.home p, a.cm, dx1, _, _, rfl, hx1, T.cM, hn (by simp), hF_waits, _, rfl, A.wt p, .str wd.s, rfl, (by
        have z := DGet.k (k := Sum.inl (n : Int)) hw1
        rw [hwv1 n, hwd] at z
        exact z), _, rfl, _, rfl, A.home p, a.cm, dx1, _, _, rfl, hx1, T.cM, hn (by simp), hF_number, (by show 5 ≤ sizeLine; decide), fun t ht => ?_⟩
      have kt := Kp.new (o := .tup [V.int ((S.homes p).node : Int), .int (n : Int), .str wd.s, .int (p : Int), .int (S.homes p).number]) ht
      refine ⟨A, _, .ref t, putM p (S.homes p) n, rfl, q1.kp0 kt, ⟨t, _, rfl, SqT.of upd_same, ?_⟩, ?_, fun H3 k3 q3 => ⟨⟨_, rfl⟩, (k1.trans0 kt).trans1 k3, ?_⟩⟩
      · show _ = _
        rw [hwd]
        rfl
      · show (S.way ++ ((waitsL S.many (S.homes p)).take i).map (putM p (S.homes p))).length < 100000
        rw [List.length_append, List.length_map, List.length_take]
        omega
      · have e : S.way ++ ((waitsL S.many (S.homes p)).take (i + 1)).map (putM p (S.homes p)) = (S.way ++ ((waitsL S.many (S.homes p)).take i).map (putM p (S.homes p))) ++ [putM p (S.homes p) n] := by
          rw [List.take_add_one, hnL, List.map_append, List.append_assoc]
          rfl
        rw [e]
        exact q3
    · rintro σ H1 ⟨⟨y3, rfl⟩, k1, q1⟩
      have el : ((waitsL S.many (S.homes p)).take (((keysN S.many fun n => ((S.homes p).waits n).map fun w => V.str w.s).map fun n : Nat => (n : Int)).map V.int).length) = waitsL S.many (S.homes p) := by
        rw [List.length_map, List.length_map]
        exact List.take_length
      rw [el] at q1
      obtain ⟨dx1, tw1, hx1, htw1⟩ := (q1.hm p hp').ob
      have kk : Kp [A.way] H H1 := (kl.wide (m' := [A.way]) (fun b h => nomatch h) (fun b hb => by
        obtain ⟨xs, h, _⟩ := q.wy
        rw [List.mem_singleton.mp hb, h]
        exact True.intro)).trans1 k1
      refine ⟨_, rfl, A.home p, dx1, _, rfl, hx1, hF_no (by decide +kernel), A.home p, A.rd p, A.wt p, A.sv p, S.many, S.homes p, rfl, q1.hm p hp', _, rfl, ?_⟩
      refine ite_of (fun e => ?_) (fun e => ?_)
      · have hg : granting S.many (S.homes p) = true := e
        obtain ⟨m, ham⟩ : ∃ m, (S.homes p).asker = some m := by
          cases hq : (S.homes p).asker with
          | none => rw [granting, hq] at hg; cases hg
          | some m => exact ⟨m, rfl⟩
        obtain ⟨kd, hkk⟩ := hkd m ham
        obtain ⟨dn, hob⟩ := q1.ob
        refine ⟨_, rfl, A.n, dn, _, rfl, hob, nF_no (by decide +kernel), _, rfl, A.home p, a.cm, dx1, _, _, rfl, hx1, T.cM, hn (by simp), hF_node, _, rfl, A.home p, a.cm, dx1, _, _, rfl, hx1, T.cM, hn (by simp), hF_asker, _, rfl, A.home p, a.cm, dx1, _, _, rfl, hx1, T.cM, hn (by simp), hF_kind, _, rfl, _, rfl, A.home p, a.cm, dx1, _, _, rfl, hx1, T.cM, hn (by simp), hF_number, _, rfl, A.home p, a.cm, dx1, _, _, rfl, hx1, T.cM, hn (by simp), hF_words, (by show 6 ≤ sizeLine; decide), fun t ht => ?_⟩
        have kt := Kp.new (o := .tup [V.int ((S.homes p).node : Int), nV (S.homes p).asker, kdV (S.homes p).kind, .int (p : Int), .int (S.homes p).number, .ref tw1]) ht
        refine ⟨A, _, .ref t, grantM p (S.homes p), rfl, q1.kp0 kt, ⟨t, _, rfl, SqT.of upd_same, tw1, ?_, kt.sqT htw1⟩, ?_, fun H3 k3 q3 => ?_⟩
        · rw [ham, hkk]
          rfl
        · show (S.way ++ (waitsL S.many (S.homes p)).map (putM p (S.homes p))).length < 100000
          rw [List.length_append, List.length_map]
          omega
        · refine k H3 ((kk.trans0 kt).trans1 k3) ?_
          have ep : S.way ++ pushW S.many p (S.homes p) = (S.way ++ (waitsL S.many (S.homes p)).map (putM p (S.homes p))) ++ [grantM p (S.homes p)] := by
            rw [pushW, if_pos hg, List.append_assoc]
          rw [ep]
          exact q3
      · have hg : ¬ granting S.many (S.homes p) = true := by rw [show granting S.many (S.homes p) = false from e]; decide
        refine k H1 kk ?_
        have ep : S.way ++ pushW S.many p (S.homes p) = S.way ++ (waitsL S.many (S.homes p)).map (putM p (S.homes p)) := by
          rw [pushW, if_neg hg, List.append_nil]
        rw [ep]
        exact q1
end
end K57
set_option Elab.async false
set_option linter.all false
set_option maxRecDepth 100000
set_option maxHeartbeats 4000000
/-! K57P: the net told; a place in it. -/
namespace K57
open PySem L2 AB
def spNet (K : PySem.W.Frag) (a : Ad) : Sp := fun vs H Q _ => ∃ (A : NAd) (S : Sy), vs = [.ref A.n] ∧ NodesAt K a H A S ∧ ∀ t xs, H t = none → Paired (fun v m => MV K (upd H t (.tup xs)) v m) xs S.way → Q (.ref t) (upd H t (.tup xs))
def spPlace (K : PySem.W.Frag) (a : Ad) : Sp := fun vs H Q _ => ∃ (A : NAd) (S : Sy) (k : Int), vs = [.ref A.n, .int k] ∧ NodesAt K a H A S ∧ 0 ≤ k ∧ Q (if S.way = [] then .non else .int (k % (S.way.length : Int))) H
section
variable {P : Program} {w : World} {K : PySem.W.Frag} {mg : Str → Option Value} {base : Heap} {a : Ad} {f : Addr} {fd : FuncData}
theorem ok_net (F : Fun K "net" "Nodes.net" s_Nodes_net f fd) (T : Txt K mg a) : FnOk P w K mg base (L2.CX P w) 1 f fd ["self"] (spNet K a) := by
  refine okT F sc_Nodes_net (fun vs H Q E h => ?_) (fun cdv A' outer s H vs Q E hr tk hp h => ?_)
  · obtain ⟨A, S, rfl, _⟩ := h
    rfl
  · obtain ⟨A, S, rfl, q, k⟩ := h
    obtain ⟨dx, hob⟩ := q.ob
    obtain ⟨xs, hw, px⟩ := q.wy
    have hn : ∀ {f : Str}, f ∈ (["many", "pages", "way", "homes", "held"] : List Str) → NoAttr K a.cn f := fun h => T.aN _ h
    refine ⟨_, (pss_one (ps_ret (pe_callTy (k_tupOf K (by rfl)) (by rfl) T.n_tuple (by decide +kernel) (pa_cons (k_fld K (by rfl) (pe_fld (pv 0) (by rfl))) pa_nil)))), ?_⟩
    refine ⟨_, rfl, A.n, a.cn, dx, _, _, rfl, hob, T.cN, hn (by simp), nF_way, A.way, xs, rfl, .inl ⟨SqL.of hw, fun t ht => ?_⟩⟩
    have kt := Kp.new (o := .tup xs) ht
    exact k t xs ht (AB.Paired.imp (fun _ _ r => MV.kp kt r) px)
theorem ok_place (F : Fun K "place" "Nodes.place" s_Nodes_place f fd) (T : Txt K mg a) (G_check : GFn P w K mg base 1 "check" ["is_right"] (spCheck a.nr)) (G_is_count : GFn P w K mg base 2 "is_count" ["value"] spIsCount) : FnOk P w K mg base (L2.CX P w) 3 f fd ["self", "k"] (spPlace K a) := by
  refine okT F sc_Nodes_place (fun vs H Q E h => ?_) (fun cdv A' outer s H vs Q E hr tk hp h => ?_)
  · obtain ⟨A, S, k, rfl, _⟩ := h
    rfl
  · obtain ⟨A, S, kn, rfl, q, h0, k⟩ := h
    obtain ⟨dx, hob⟩ := q.ob
    obtain ⟨xs, hw, px⟩ := q.wy
    have hxl := Paired.length px
    have hn : ∀ {f : Str}, f ∈ (["many", "pages", "way", "homes", "held"] : List Str) → NoAttr K a.cn f := fun h => T.aN _ h
    refine ⟨_, (pss_cons (ps_expr (pe_cl G_check (hr.mono (by decide)) tk (pa_cons (pe_cl G_is_count (hr.mono (by decide)) tk (pa_cons (pv 1) pa_nil)) pa_nil))) (pss_one (ps_ret (pe_ifExp (pt_cmpR op_gt (pe_callB (k_len K (by rfl)) (by rfl) T.n_len (by decide +kernel) (pa_cons (k_fld K (by rfl) (pe_fld (pv 0) (by rfl))) pa_nil)) pe_int (nomark _)) (pe_op op_mod (pv 1) (pe_callB (k_len K (by rfl)) (by rfl) T.n_len (by decide +kernel) (pa_cons (k_fld K (by rfl) (pe_fld (pv 0) (by rfl))) pa_nil))) pe_non)))), ?_⟩
    refine ⟨_, rfl, kn, rfl, h0, true, rfl, fun _ => ?_, fun z => nomatch z⟩
    refine ⟨_, rfl, A.n, a.cn, dx, _, _, rfl, hob, T.cN, hn (by simp), nF_way, A.way, xs, rfl, .inl (SqL.of hw), _, _, rfl, rfl, _, rfl, ?_⟩
    refine ite_of (fun e => ?_) (fun e => ?_)
    · have hpos : (0 : Int) < (xs.length : Int) := of_decide_eq_true e
      have hne : ¬ S.way = [] := fun z => by rw [z] at hxl; simp at hxl; rw [hxl] at hpos; simp at hpos
      rw [if_neg hne, ← hxl] at k
      exact ⟨_, rfl, _, rfl, A.n, a.cn, dx, _, _, rfl, hob, T.cN, hn (by simp), nF_way, A.way, xs, rfl, .inl (SqL.of hw), _, _, rfl, rfl, hpos, k⟩
    · have hz : S.way = [] := by
        have h1 : ¬ (0 : Int) < (xs.length : Int) := of_decide_eq_false e
        exact List.eq_nil_of_length_eq_zero (by omega)
      rw [if_pos hz] at k
      exact k
end
end K57
set_option Elab.async false
set_option linter.all false
set_option maxRecDepth 100000
set_option maxHeartbeats 4000000
/-! K57Q: a message doubled, lost. -/
namespace K57
open PySem L2 AB
theorem pair_at' {α β : Type} {R : α → β → Prop} {x : α} : ∀ {xs : List α} {ys : List β} {i : Nat}, Paired R xs ys → xs[i]? = some x → ∃ y, ys[i]? = some y ∧ R x y
  | _, _, _, .nil, h => by simp at h
  | _, _, 0, .cons r _, h => by
    obtain rfl := Option.some.inj h
    exact ⟨_, rfl, r⟩
  | _, _, i + 1, .cons _ t, h => by
    obtain ⟨y, e, r⟩ := pair_at' (i := i) t (by simpa using h)
    exact ⟨y, by simpa using e, r⟩
def plc (S : Sy) (k : Int) : Nat := (k % (S.way.length : Int)).toNat
def doubleS (S : Sy) (k : Int) : Sy := match S.way[plc S k]? with
  | some m => { S with way := S.way ++ [m] }
  | none => S
def loseS (S : Sy) (k : Int) : Sy := { S with way := S.way.eraseIdx (plc S k) }
theorem plc_lt {S : Sy} {k : Int} (h : S.way ≠ []) : plc S k < S.way.length ∧ ((plc S k : Nat) : Int) = k % (S.way.length : Int) := by
  have hl : 0 < S.way.length := List.length_pos_iff.mpr h
  have h1 := Int.emod_nonneg k (show (S.way.length : Int) ≠ 0 by omega)
  have h2 := Int.emod_lt_of_pos k (show 0 < (S.way.length : Int) by omega)
  unfold plc
  omega
def spDouble (K : PySem.W.Frag) (a : Ad) : Sp := fun vs H Q _ => ∃ (A : NAd) (S : Sy) (k : Int), vs = [.ref A.n, .int k] ∧ NodesAt K a H A S ∧ 0 ≤ k ∧ S.way.length < 100000 ∧ ∀ H', Ch K a H A S H' A (doubleS S k) → Q (.bl (decide (S.way ≠ []))) H'
section
variable {P : Program} {w : World} {K : PySem.W.Frag} {mg : Str → Option Value} {base : Heap} {a : Ad} {f : Addr} {fd : FuncData}
theorem ok_double (F : Fun K "double" "Nodes.double" s_Nodes_double f fd) (T : Txt K mg a) (G_Nodes_place : GMt P w K mg base 3 a.cn "place" ["self", "k"] (spPlace K a)) (G_Nodes_send : GMt P w K mg base 1 a.cn "send" ["self", "message"] (spSend K a)) : FnOk P w K mg base (L2.CX P w) 4 f fd ["self", "k"] (spDouble K a) := by
  refine okT F sc_Nodes_double (fun vs H Q E h => ?_) (fun cdv A' outer s H vs Q E hr tk hp h => ?_)
  · obtain ⟨A, S, k, rfl, _⟩ := h
    rfl
  · obtain ⟨A, S, kn, rfl, q, h0, hl, k⟩ := h
    obtain ⟨dx, hob⟩ := q.ob
    obtain ⟨xs, hw, px⟩ := q.wy
    have hxl := Paired.length px
    have hn : ∀ {f : Str}, f ∈ (["many", "pages", "way", "homes", "held"] : List Str) → NoAttr K a.cn f := fun h => T.aN _ h
    refine ⟨_, (pss_cons (ps_set (i := 2) sc_Nodes_double.nd rfl (by first | exact Or.inl rfl | exact Or.inr rfl) (pe_mt (pv 0) G_Nodes_place (hr.mono (by decide)) tk (pa_cons (pv 1) pa_nil))) (pss_cons (ps_if (pt_cmpR op_isN (pv 2) pe_non (nomark _)) (pss_one (ps_ret pe_bl)) pss_nil) (pss_cons (ps_expr (pe_mt (pv 0) G_Nodes_send (hr.mono (by decide)) tk (pa_cons (pe_ix (k_ixL K (by rfl)) (k_fld K (by rfl) (pe_fld (pv 0) (by rfl))) (pv 2) (fun _ _ => rfl)) pa_nil))) (pss_one (ps_ret pe_bl))))), ?_⟩
    refine ⟨_, rfl, A.n, dx, _, rfl, hob, nF_no (by decide +kernel), _, rfl, A, S, kn, rfl, q, h0, ?_⟩
    by_cases hz : S.way = []
    · rw [if_pos hz]
      refine ⟨_, rfl, rfl, _, rfl, iteT ?_⟩
      have e : doubleS S kn = S := by unfold doubleS; rw [hz]; rfl
      have z := k H (by rw [e]; exact Ch.refl q)
      rw [decide_eq_false (fun h => h hz)] at z
      exact z
    · rw [if_neg hz]
      obtain ⟨p1, p2⟩ := plc_lt (k := kn) hz
      refine ⟨_, rfl, rfl, _, rfl, iteF ?_⟩
      obtain ⟨m, hm, hmv⟩ := pair_at' px (show xs[plc S kn]? = some xs[plc S kn] by simp [hxl, p1])
      refine ⟨_, rfl, A.n, dx, _, rfl, hob, nF_no (by decide +kernel), _, rfl, A.n, a.cn, dx, _, _, rfl, hob, T.cN, hn (by simp), nF_way, _, rfl, A.way, xs, _, xs[plc S kn], rfl, rfl, SqL.of hw, by rw [← p2]; exact atI_nat (by simp [hxl, p1]), A, S, _, m, rfl, q, hmv, hl, fun H1 k1 q1 => ?_⟩
      have e : doubleS S kn = { S with way := S.way ++ [m] } := by unfold doubleS; rw [hm]
      have z := k H1 (by rw [e]; exact Ch.way q k1 q1)
      rw [decide_eq_true hz] at z
      exact z
end
end K57
set_option Elab.async false
set_option linter.all false
set_option maxRecDepth 100000
set_option maxHeartbeats 4000000
/-! K57R: a message lost. -/
namespace K57
open PySem L2 AB
theorem pair_erase {α β : Type} {R : α → β → Prop} : ∀ {xs : List α} {ys : List β} {i : Nat}, Paired R xs ys → Paired R (xs.eraseIdx i) (ys.eraseIdx i)
  | _, _, _, .nil => by simp; exact .nil
  | _, _, 0, .cons _ t => t
  | _, _, i + 1, .cons r t => .cons r (pair_erase (i := i) t)
def spLose (K : PySem.W.Frag) (a : Ad) : Sp := fun vs H Q _ => ∃ (A : NAd) (S : Sy) (k : Int), vs = [.ref A.n, .int k] ∧ NodesAt K a H A S ∧ 0 ≤ k ∧ S.way.length < 100000 ∧ ∀ H', Ch K a H A S H' A (loseS S k) → Q (.bl (decide (S.way ≠ []))) H'
section
variable {P : Program} {w : World} {K : PySem.W.Frag} {mg : Str → Option Value} {base : Heap} {a : Ad} {f : Addr} {fd : FuncData}
theorem ok_lose (F : Fun K "lose" "Nodes.lose" s_Nodes_lose f fd) (T : Txt K mg a) (G_Nodes_place : GMt P w K mg base 3 a.cn "place" ["self", "k"] (spPlace K a)) : FnOk P w K mg base (L2.CX P w) 4 f fd ["self", "k"] (spLose K a) := by
  refine okT F sc_Nodes_lose (fun vs H Q E h => ?_) (fun cdv A' outer s H vs Q E hr tk hp h => ?_)
  · obtain ⟨A, S, k, rfl, _⟩ := h
    rfl
  · obtain ⟨A, S, kn, rfl, q, h0, hl, k⟩ := h
    obtain ⟨dx, hob⟩ := q.ob
    obtain ⟨xs, hw, px⟩ := q.wy
    have hxl := Paired.length px
    have hn : ∀ {f : Str}, f ∈ (["many", "pages", "way", "homes", "held"] : List Str) → NoAttr K a.cn f := fun h => T.aN _ h
    refine ⟨_, (pss_cons (ps_set (i := 2) sc_Nodes_lose.nd rfl (by first | exact Or.inl rfl | exact Or.inr rfl) (pe_mt (pv 0) G_Nodes_place (hr.mono (by decide)) tk (pa_cons (pv 1) pa_nil))) (pss_cons (ps_if (pt_cmpR op_isN (pv 2) pe_non (nomark _)) (pss_one (ps_ret pe_bl)) pss_nil) (pss_cons (ps_expr (k_bm K (by rfl) (pe_bm PySem.F.plainAttrs_list PySem.F.slot_list_pop PySem.F.type_list_pop mt_popAt (k_fld K (by rfl) (pe_fld (pv 0) (by rfl)))  (pa_cons (pv 2) pa_nil)))) (pss_one (ps_ret pe_bl))))), ?_⟩
    refine ⟨_, rfl, A.n, dx, _, rfl, hob, nF_no (by decide +kernel), _, rfl, A, S, kn, rfl, q, h0, ?_⟩
    by_cases hz : S.way = []
    · rw [if_pos hz]
      refine ⟨_, rfl, rfl, _, rfl, iteT ?_⟩
      have e : loseS S kn = S := by
        unfold loseS
        rw [hz, List.eraseIdx_nil, ← hz]
      have z := k H (by rw [e]; exact Ch.refl q)
      rw [decide_eq_false (fun h => h hz)] at z
      exact z
    · rw [if_neg hz]
      obtain ⟨p1, p2⟩ := plc_lt (k := kn) hz
      refine ⟨_, rfl, rfl, _, rfl, iteF ?_⟩
      have si : seqIndex? (kn % (S.way.length : Int)) xs.length = some (plc S kn) := by
        rw [← p2]
        unfold seqIndex?
        simp
        omega
      refine ⟨_, rfl, A.n, a.cn, dx, _, _, rfl, hob, T.cN, hn (by simp), nF_way, .inl ⟨rfl, _, SqL.of hw⟩, _, rfl, A.way, xs, _, plc S kn, xs[plc S kn], rfl, rfl, hw, by omega, by omega, si, by simp [hxl, p1], ?_⟩
      have kz := Kp.set (p := A.way) (o := .lst (xs.eraseIdx (plc S kn))) (show Mut (H A.way) by rw [hw]; exact True.intro)
      have z := k _ (Ch.way q kz (q.kpWay kz upd_same (pair_erase (AB.Paired.imp (fun _ _ r => MV.kp kz r) px))))
      rw [decide_eq_true hz] at z
      exact z
end
end K57
set_option Elab.async false
set_option linter.all false
set_option maxRecDepth 100000
set_option maxHeartbeats 4000000
/-! K57S: a word read. -/
namespace K57
open PySem L2 AB
def spReadN (K : PySem.W.Frag) (a : Ad) : Sp := fun vs H Q _ => ∃ (A : NAd) (S : Sy) (i p x : Nat), vs = [.ref A.n, .int (i : Int), .int (p : Int), .int (x : Int)] ∧ NodesAt K a H A S ∧ i < S.many ∧ p < S.pages ∧ x < 16 ∧ (S.held i p).words.length = 16 ∧
  ((S.held i p).mode = none → ∀ H', Ch K a H A S H' A (setHold S i p (wantH (S.held i p) .r)) → Q .non H') ∧ ((S.held i p).mode ≠ none → Q (.int ((S.held i p).words.getD x 0)) H)
section
variable {P : Program} {w : World} {K : PySem.W.Frag} {mg : Str → Option Value} {base : Heap} {a : Ad} {f : Addr} {fd : FuncData}
theorem ok_readN (F : Fun K "read" "Nodes.read" s_Nodes_read f fd) (T : Txt K mg a) (G_Nodes_need : GMt P w K mg base 2 a.cn "need" ["self", "node", "page"] (spNeed K a)) (G_check : GFn P w K mg base 1 "check" ["is_right"] (spCheck a.nr)) (G_is_within : GFn P w K mg base 2 "is_within" ["value", "low", "high"] spWithin)
    (G_Nodes_want : GMt P w K mg base 1 a.cn "want" ["self", "own", "kind"] (spWant K a)) : FnOk P w K mg base (L2.CX P w) 3 f fd ["self", "node", "page", "index"] (spReadN K a) := by
  refine okT F sc_Nodes_read (fun vs H Q E h => ?_) (fun cdv A' outer s H vs Q E hr tk hp h => ?_)
  · obtain ⟨A, S, i, p, x, rfl, _⟩ := h
    rfl
  · obtain ⟨A, S, i, p, x, rfl, q, hi, hp', hx16, hw16, kN, kS⟩ := h
    obtain ⟨dx, hob⟩ := q.ob
    obtain ⟨d0, tw, va, h0, htw, hva⟩ := q.ho i p hi hp'
    have hn : ∀ {f : Str}, f ∈ (["mode", "words", "want", "asked", "last", "answer"] : List Str) → NoAttr K a.ch f := fun h => T.aH _ h
    refine ⟨_, (pss_cons (ps_set (i := 4) sc_Nodes_read.nd rfl (by first | exact Or.inl rfl | exact Or.inr rfl) (pe_mt (pv 0) G_Nodes_need (hr.mono (by decide)) tk (pa_cons (pv 1) (pa_cons (pv 2) pa_nil)))) (pss_cons (ps_expr (pe_cl G_check (hr.mono (by decide)) tk (pa_cons (pe_cl G_is_within (hr.mono (by decide)) tk (pa_cons (pv 3) (pa_cons pe_int (pa_cons (pe_op op_sub (pe_gv T.c_PAGE) pe_int) pa_nil)))) pa_nil))) (pss_cons (ps_if (pt_cmpR op_isN (k_fld K (by rfl) (pe_fld (pv 4) (by rfl))) pe_non (nomark _)) (pss_cons (ps_expr (pe_mt (pv 0) G_Nodes_want (hr.mono (by decide)) tk (pa_cons (pv 4) (pa_cons (pe_gv T.c_READ) pa_nil)))) (pss_one (ps_ret pe_non))) pss_nil) (pss_one (ps_ret (pe_ix (k_ixT K (by rfl)) (k_fld K (by rfl) (pe_fld (pv 4) (by rfl))) (pv 3) (fun _ _ => rfl))))))), ?_⟩
    refine ⟨_, rfl, A.n, dx, _, rfl, hob, nF_no (by decide +kernel), _, rfl, _, rfl, A, S, i, p, rfl, q, hi, hp', ?_⟩
    refine ⟨_, rfl, _, _, rfl, rfl, (x : Int), 0, 15, rfl, true, by rw [decide_eq_true (show (0 : Int) ≤ (x : Int) ∧ (x : Int) ≤ 15 by omega)], fun _ => ?_, fun z => nomatch z⟩
    refine ⟨_, rfl, A.hold i p, a.ch, d0, _, _, rfl, h0, T.cH, hn (by simp), oF_mode, rfl, _, rfl, ?_⟩
    refine ite_of (fun e => ?_) (fun e => ?_)
    · have hm : (S.held i p).mode = none := by
        cases hq : (S.held i p).mode with
        | none => rfl
        | some k => rw [hq] at e; cases e
      refine ⟨_, rfl, A.n, dx, _, rfl, hob, nF_no (by decide +kernel), _, rfl, A.n, A.hold i p, dx, [], S.held i p, .r, rfl, q.ho i p hi hp', fun H1 k1 h1 => ?_⟩
      exact kN hm H1 (Ch.hold q hi hp' k1 h1)
    · have hm : (S.held i p).mode ≠ none := fun z => by rw [z] at e; cases e
      refine ⟨_, rfl, A.hold i p, a.ch, d0, _, _, rfl, h0, T.cH, hn (by simp), oF_words, _, rfl, tw, _, _, .int ((S.held i p).words.getD x 0), rfl, rfl, htw, atI_nat ?_, kS hm⟩
      rw [List.getElem?_map, List.getElem?_eq_getElem (by omega), List.getD_eq_getElem?_getD, List.getElem?_eq_getElem (by omega)]
      rfl
end
end K57
set_option Elab.async false
set_option linter.all false
set_option maxRecDepth 100000
set_option maxHeartbeats 4000000
/-! K57T: a word written. -/
namespace K57
open PySem L2 AB
theorem slA_of {K : PySem.W.Frag} {H : Hp} {a : Addr} {xs : List V} {lo hi : Option Int} {Q : VK} (ha : SqT K H a xs) (k : ∀ H' t, Kp [] H H' → SqT K H' t (cutV xs lo hi) → Q (.ref t) H') : rSlA K (.ref a) lo hi H Q := by
  refine ⟨a, xs, rfl, ha, fun e => k _ _ (Kp.refl _) ?_, fun _ p hp => k _ _ (Kp.new hp) (SqT.of upd_same)⟩
  have e2 : cutV xs lo hi = xs := by
    unfold cutV
    rw [e.1, e.2]
    simp
  rw [e2]
  exact ha
def putWord (h : Hold) (x : Nat) (wd : Int) : Hold := { h with words := h.words.take x ++ wd :: h.words.drop (x + 1) }
def spWriteN (K : PySem.W.Frag) (a : Ad) : Sp := fun vs H Q _ => ∃ (A : NAd) (S : Sy) (i p x : Nat) (wd : Int), vs = [.ref A.n, .int (i : Int), .int (p : Int), .int (x : Int), .int wd] ∧ NodesAt K a H A S ∧ i < S.many ∧ p < S.pages ∧ x < 16 ∧ isW wd = true ∧ (S.held i p).words.length = 16 ∧
  ((S.held i p).mode ≠ some .w → ∀ H', Ch K a H A S H' A (setHold S i p (wantH (S.held i p) .w)) → Q (.bl false) H') ∧ ((S.held i p).mode = some .w → ∀ H', Ch K a H A S H' A (setHold S i p (putWord (S.held i p) x wd)) → Q (.bl true) H')
section
variable {P : Program} {w : World} {K : PySem.W.Frag} {mg : Str → Option Value} {base : Heap} {a : Ad} {f : Addr} {fd : FuncData}
theorem ok_writeN (F : Fun K "write" "Nodes.write" s_Nodes_write f fd) (T : Txt K mg a) (G_Nodes_need : GMt P w K mg base 2 a.cn "need" ["self", "node", "page"] (spNeed K a)) (G_check : GFn P w K mg base 1 "check" ["is_right"] (spCheck a.nr)) (G_is_within : GFn P w K mg base 2 "is_within" ["value", "low", "high"] spWithin)
    (G_is_word : GFn P w K mg base 3 "is_word" ["value"] spIsWord) (G_Nodes_want : GMt P w K mg base 1 a.cn "want" ["self", "own", "kind"] (spWant K a)) : FnOk P w K mg base (L2.CX P w) 4 f fd ["self", "node", "page", "index", "word"] (spWriteN K a) := by
  refine okT F sc_Nodes_write (fun vs H Q E h => ?_) (fun cdv A' outer s H vs Q E hr tk hp h => ?_)
  · obtain ⟨A, S, i, p, x, wd, rfl, _⟩ := h
    rfl
  · obtain ⟨A, S, i, p, x, wd, rfl, q, hi, hp', hx16, hwd, hw16, kN, kS⟩ := h
    obtain ⟨dx, hob⟩ := q.ob
    obtain ⟨d0, tw, va, h0, htw, hva⟩ := q.ho i p hi hp'
    have hn : ∀ {f : Str}, f ∈ (["mode", "words", "want", "asked", "last", "answer"] : List Str) → NoAttr K a.ch f := fun h => T.aH _ h
    refine ⟨_, (pss_cons (ps_set (i := 5) sc_Nodes_write.nd rfl (by first | exact Or.inl rfl | exact Or.inr rfl) (pe_mt (pv 0) G_Nodes_need (hr.mono (by decide)) tk (pa_cons (pv 1) (pa_cons (pv 2) pa_nil)))) (pss_cons (ps_expr (pe_cl G_check (hr.mono (by decide)) tk (pa_cons (pe_cl G_is_within (hr.mono (by decide)) tk (pa_cons (pv 3) (pa_cons pe_int (pa_cons (pe_op op_sub (pe_gv T.c_PAGE) pe_int) pa_nil)))) pa_nil))) (pss_cons (ps_expr (pe_cl G_check (hr.mono (by decide)) tk (pa_cons (pe_cl G_is_word (hr.mono (by decide)) tk (pa_cons (pv 4) pa_nil)) pa_nil))) (pss_cons (ps_if (pt_cmpR op_ne (k_fld K (by rfl) (pe_fld (pv 5) (by rfl))) (pe_gv T.c_WRITE) (nomark _)) (pss_cons (ps_expr (pe_mt (pv 0) G_Nodes_want (hr.mono (by decide)) tk (pa_cons (pv 5) (pa_cons (pe_gv T.c_WRITE) pa_nil)))) (pss_one (ps_ret pe_bl))) pss_nil) (pss_cons (ps_fld (pv 5) (pe_tup (k_star K (by rfl) (StX.pa_star (pe_slice (k_slT K (by rfl)) (k_fld K (by rfl) (pe_fld (pv 5) (by rfl))) po_none (po_some (pv 3))) (pa_cons (pv 4) (k_star K (by rfl) (StX.pa_star (pe_slice (k_slT K (by rfl)) (k_fld K (by rfl) (pe_fld (pv 5) (by rfl))) (po_some (pe_op op_add (pv 3) pe_int)) po_none) pa_nil)))))) rfl) (pss_one (ps_ret pe_bl))))))), ?_⟩
    refine ⟨_, rfl, A.n, dx, _, rfl, hob, nF_no (by decide +kernel), _, rfl, _, rfl, A, S, i, p, rfl, q, hi, hp', ?_⟩
    refine ⟨_, rfl, _, _, rfl, rfl, (x : Int), 0, 15, rfl, true, by rw [decide_eq_true (show (0 : Int) ≤ (x : Int) ∧ (x : Int) ≤ 15 by omega)], fun _ => ?_, fun z => nomatch z⟩
    refine ⟨_, rfl, wd, rfl, true, by rw [hwd], fun _ => ?_, fun z => nomatch z⟩
    have e1 : (!decide (kdV (S.held i p).mode = .str "write")) = decide ((S.held i p).mode ≠ some .w) := by
      rw [Bool.eq_iff_iff, Bool.not_eq_true', decide_eq_false_iff_not, decide_eq_true_eq]
      cases (S.held i p).mode with
      | none => exact ⟨fun _ z => (nomatch z), fun _ z => (nomatch z)⟩
      | some j => exact ⟨fun z q => z (by rw [Option.some.inj q]; rfl), fun z q => z (by rw [(kd_inj (j := .w)).mp q])⟩
    refine ⟨_, rfl, A.hold i p, a.ch, d0, _, _, rfl, h0, T.cH, hn (by simp), oF_mode, by cases (S.held i p).mode <;> rfl, _, rfl, ?_⟩
    refine ite_of (fun e => ?_) (fun e => ?_)
    · have hm : (S.held i p).mode ≠ some .w := of_decide_eq_true (e1.symm.trans e)
      refine ⟨_, rfl, A.n, dx, _, rfl, hob, nF_no (by decide +kernel), _, rfl, A.n, A.hold i p, dx, [], S.held i p, .w, rfl, q.ho i p hi hp', fun H1 k1 h1 => ?_⟩
      exact kN hm H1 (Ch.hold q hi hp' k1 h1)
    · have hm : (S.held i p).mode = some .w := Classical.not_not.mp (of_decide_eq_false (e1.symm.trans e))
      refine ⟨_, rfl, A.hold i p, a.ch, d0, _, _, rfl, h0, T.cH, hn (by simp), oF_words, _, rfl, _, rfl, slA_of htw fun H1 t1 k1 ht1 => ?_⟩
      have c1 : cutV ((S.held i p).words.map V.int) none (some (x : Int)) = ((S.held i p).words.take x).map V.int := by
        unfold cutV
        rw [HT.sIx_none, HT.sIx_nat, List.length_map]
        simp [Nat.min_eq_left (show x ≤ (S.held i p).words.length by omega)]
      rw [c1] at ht1
      have h1 := k1.same _ _ h0
      refine ⟨t1, _, rfl, .inl ht1, _, rfl, _, rfl, A.hold i p, a.ch, d0, _, _, rfl, h1, T.cH, hn (by simp), oF_words, _, rfl, _, _, rfl, rfl, _, rfl, ?_⟩
      unfold tNoPart
      dsimp only
      show rSlA K (.ref tw) (some ((x : Int) + 1)) none _ _
      refine slA_of (k1.sqT htw) fun H2 t2 k2 ht2 => ?_
      have c2 : cutV ((S.held i p).words.map V.int) (some ((x : Int) + 1)) none = ((S.held i p).words.drop (x + 1)).map V.int := by
        unfold cutV
        rw [HT.sIx_none, show (x : Int) + 1 = ((x + 1 : Nat) : Int) by omega, HT.sIx_nat, List.length_map, Nat.min_eq_left (by omega), ← List.map_drop, List.take_of_length_le (by simp)]
      rw [c2] at ht2
      refine ⟨t2, _, rfl, .inl ht2, ?_, fun t ht => ?_⟩
      · exact Nat.le_trans (show _ ≤ 1000 by simp; omega) (by decide)
      · have el : ((S.held i p).words.take x).map V.int ++ V.int wd :: (((S.held i p).words.drop (x + 1)).map V.int ++ []) = (putWord (S.held i p) x wd).words.map V.int := by
          simp [putWord]
        rw [el]
        have kt := Kp.new (o := .tup ((putWord (S.held i p) x wd).words.map V.int)) ht
        have k3 := (k1.trans0 k2).trans0 kt
        have h3 := k3.same _ _ h0
        refine ⟨_, rfl, A.hold i p, a.ch, d0, _, rfl, h3, T.cH, hn (by simp), oF_len, ?_⟩
        rw [oF_p_words]
        have kz := Kp.set (p := A.hold i p) (o := .ins a.ch d0 (oF (kdV (S.held i p).mode) (.ref t) (kdV (S.held i p).want) (.int (S.held i p).asked) (.int (S.held i p).last) va)) (show Mut (upd H2 t (.tup ((putWord (S.held i p) x wd).words.map V.int)) (A.hold i p)) by rw [h3]; exact True.intro)
        exact kS hm _ ((Ch.of0 q k3).trans (Ch.hold (q.kp0 k3) hi hp' kz ⟨d0, t, va, upd_same, kz.sqT (SqT.of upd_same), (hva.kp k3).kp kz⟩))
end
end K57
set_option Elab.async false
set_option linter.all false
set_option maxRecDepth 100000
set_option maxHeartbeats 4000000
/-! K57U: a node sends anew. -/
namespace K57
open PySem L2 AB
def askL (S : Sy) (i p : Nat) : List Msg := match (S.held i p).want with
  | some k => [.ask i (S.homes p).node p (S.held i p).asked k]
  | none => []
def pushL (S : Sy) (i p : Nat) : List Msg := if (S.homes p).node = i ∧ (S.homes p).asker ≠ none then pushW S.many p (S.homes p) else []
def tickL (S : Sy) (i : Nat) : List Msg := (List.range S.pages).flatMap (askL S i) ++ (List.range S.pages).flatMap (pushL S i)
def tickS (S : Sy) (i : Nat) : Sy := { S with way := S.way ++ tickL S i }
theorem askL_len (S : Sy) (i p : Nat) : (askL S i p).length ≤ 1 := by
  unfold askL
  split <;> simp
theorem pushW_len {many p : Nat} {h : Hm} (hm : many ≤ 4) : (pushW many p h).length ≤ 5 := by
  have : (waitsL many h).length ≤ 4 := by
    refine Nat.le_trans (List.length_filter_le _ _) ?_
    rw [List.length_range]
    exact hm
  unfold pushW
  rw [List.length_append, List.length_map]
  split <;> simp <;> omega
def spTick (K : PySem.W.Frag) (a : Ad) : Sp := fun vs H Q _ => ∃ (A : NAd) (S : Sy) (i : Nat), vs = [.ref A.n, .int (i : Int)] ∧ NodesAt K a H A S ∧ i < S.many ∧ 0 < S.pages ∧ S.pages ≤ 8 ∧ S.many ≤ 4 ∧ S.way.length + 100 < 100000 ∧ (∀ p, p < S.pages → ∀ m, (S.homes p).asker = some m → ∃ k, (S.homes p).kind = some k) ∧
  ∀ H', Ch K a H A S H' A (tickS S i) → Q (.int ((tickL S i).length : Int)) H'

theorem flat_succ {α : Type} (f : Nat → List α) (j : Nat) : (List.range (j + 1)).flatMap f = (List.range j).flatMap f ++ f j := by
  rw [List.range_succ, List.flatMap_append]
  simp
theorem askL_sum (S : Sy) (i : Nat) : ∀ j, ((List.range j).flatMap (askL S i)).length ≤ j
  | 0 => Nat.zero_le _
  | j + 1 => by
    rw [flat_succ, List.length_append]
    have := askL_sum S i j
    have := askL_len S i j
    omega
theorem pushL_len {S : Sy} (hm : S.many ≤ 4) (i p : Nat) : (pushL S i p).length ≤ 5 := by
  unfold pushL
  split
  · exact pushW_len hm
  · exact Nat.zero_le _
theorem pushL_sum {S : Sy} (hm : S.many ≤ 4) (i : Nat) : ∀ j, ((List.range j).flatMap (pushL S i)).length ≤ 5 * j
  | 0 => Nat.zero_le _
  | j + 1 => by
    rw [flat_succ, List.length_append]
    have := pushL_sum hm i j
    have := pushL_len hm i j
    omega
section
variable {P : Program} {w : World} {K : PySem.W.Frag} {mg : Str → Option Value} {base : Heap} {a : Ad} {f : Addr} {fd : FuncData}
theorem ok_tick (F : Fun K "tick" "Nodes.tick" s_Nodes_tick f fd) (T : Txt K mg a) (G_Nodes_need : GMt P w K mg base 2 a.cn "need" ["self", "node", "page"] (spNeed K a)) (G_Nodes_send : GMt P w K mg base 1 a.cn "send" ["self", "message"] (spSend K a))
    (G_Nodes_push : GMt P w K mg base 2 a.cn "push" ["self", "page", "home"] (spPush K a)) : FnOk P w K mg base (L2.CX P w) 3 f fd ["self", "node"] (spTick K a) := by
  refine okT F sc_Nodes_tick (fun vs H Q E h => ?_) (fun cdv A' outer s H vs Q E hr tk hp h => ?_)
  · obtain ⟨A, S, i, rfl, _⟩ := h
    rfl
  · obtain ⟨A, S, i, rfl, q, hi, hp0, hp8, hm4, hwl, hkd, k⟩ := h
    have hn : ∀ {f : Str}, f ∈ (["many", "pages", "way", "homes", "held"] : List Str) → NoAttr K a.cn f := fun h => T.aN _ h
    have hnH : ∀ {f : Str}, f ∈ (["mode", "words", "want", "asked", "last", "answer"] : List Str) → NoAttr K a.ch f := fun h => T.aH _ h
    have hnM : ∀ {f : Str}, f ∈ (["node", "writer", "readers", "words", "number", "asker", "kind", "waits", "served"] : List Str) → NoAttr K a.cm f := fun h => T.aM _ h
    obtain ⟨dx, hob⟩ := q.ob
    obtain ⟨xs, hw, px⟩ := q.wy
    have hxl := Paired.length px
    refine ⟨_, (pss_cons (ps_expr (pe_mt (pv 0) G_Nodes_need (hr.mono (by decide)) tk (pa_cons (pv 1) (pa_cons pe_int pa_nil)))) (pss_cons (ps_set (i := 2) sc_Nodes_tick.nd rfl (by first | exact Or.inl rfl | exact Or.inr rfl) (pe_callB (k_len K (by rfl)) (by rfl) T.n_len (by decide +kernel) (pa_cons (k_fld K (by rfl) (pe_fld (pv 0) (by rfl))) pa_nil))) (pss_cons (ps_for hp rfl (k_piEnum K (by rfl) (pi_enum (by rfl) T.n_enumerate (pa_cons (pe_ix (k_ixL K (by rfl)) (k_fld K (by rfl) (pe_fld (pv 0) (by rfl))) (pv 1) (fun _ _ => rfl)) pa_nil))) (pg_tup rfl (pgs_cons (pg_name (i := 3) sc_Nodes_tick.nd rfl (by first | exact Or.inl rfl | exact Or.inr rfl)) (pgs_cons (pg_name (i := 4) sc_Nodes_tick.nd rfl (by first | exact Or.inl rfl | exact Or.inr rfl)) pgs_nil))) (pss_one (ps_if (pt_cmpR op_notN (k_fld K (by rfl) (pe_fld (pv 4) (by rfl))) pe_non (nomark _)) (pss_one (ps_expr (pe_mt (pv 0) G_Nodes_send (hr.mono (by decide)) tk (pa_cons (pe_tup (pa_cons (pv 1) (pa_cons (k_fld K (by rfl) (pe_fld (pe_ix (k_ixL K (by rfl)) (k_fld K (by rfl) (pe_fld (pv 0) (by rfl))) (pv 3) (fun _ _ => rfl)) (by rfl))) (pa_cons pe_str (pa_cons (pv 3) (pa_cons (k_fld K (by rfl) (pe_fld (pv 4) (by rfl))) (pa_cons (k_fld K (by rfl) (pe_fld (pv 4) (by rfl))) pa_nil))))))) pa_nil)))) pss_nil))) (pss_cons (ps_for hp rfl (k_piEnum K (by rfl) (pi_enum (by rfl) T.n_enumerate (pa_cons (k_fld K (by rfl) (pe_fld (pv 0) (by rfl))) pa_nil))) (pg_tup rfl (pgs_cons (pg_name (i := 3) sc_Nodes_tick.nd rfl (by first | exact Or.inl rfl | exact Or.inr rfl)) (pgs_cons (pg_name (i := 5) sc_Nodes_tick.nd rfl (by first | exact Or.inl rfl | exact Or.inr rfl)) pgs_nil))) (pss_one (ps_if (PW.pt (pw_and (pt_cmpR op_eq (k_fld K (by rfl) (pe_fld (pv 5) (by rfl))) (pv 1) (nomark _)) (pw_and1 (pt_cmpR op_notN (k_fld K (by rfl) (pe_fld (pv 5) (by rfl))) pe_non (nomark _))))) (pss_one (ps_expr (pe_mt (pv 0) G_Nodes_push (hr.mono (by decide)) tk (pa_cons (pv 3) (pa_cons (pv 5) pa_nil))))) pss_nil))) (pss_one (ps_ret (pe_op op_sub (pe_callB (k_len K (by rfl)) (by rfl) T.n_len (by decide +kernel) (pa_cons (k_fld K (by rfl) (pe_fld (pv 0) (by rfl))) pa_nil)) (pv 2)))))))), ?_⟩
    refine ⟨_, rfl, A.n, dx, _, rfl, hob, nF_no (by decide +kernel), _, rfl, A, S, i, 0, rfl, q, hi, hp0, ?_⟩
    refine ⟨_, rfl, A.n, a.cn, dx, _, _, rfl, hob, T.cN, hn (by simp), nF_way, A.way, xs, rfl, .inl (SqL.of hw), ?_⟩
    refine ⟨_, rfl, A.n, a.cn, dx, _, _, rfl, hob, T.cN, hn (by simp), nF_held, _, rfl, A.hd, _, _, _, rfl, rfl, SqL.of q.hd, atI_nat (v := .ref (A.row i)) (by simp [hi]), A.row i, _, rfl, SqL.of (q.rw i hi), ?_⟩
    refine for_it walk_enum (fun j σ H' => (∃ y3 y4 y5, σ = [some (.ref A.n), some (.int (i : Int)), some (.int (xs.length : Int)), y3, y4, y5]) ∧ Kp [A.way] H H' ∧ NodesAt K a H' A { S with way := S.way ++ (List.range j).flatMap (askL S i) })
      ⟨⟨none, none, none, rfl⟩, (Kp.refl _).wide (fun b h => nomatch h) (fun b hb => by rw [List.mem_singleton.mp hb, hw]; exact True.intro), by simpa using q⟩ (fun j σ H' _ pv => pv.2.1.sqL (SqL.of (q.rw i hi)) (by simp [(q.nw.2.2 i hi).symm])) ?_ ?_
    · rintro j x σ H1 H2 hj ⟨⟨y3, y4, y5, rfl⟩, k1, q1⟩ ⟨T', x1, x2, rfl, hT, rfl, hx1, hx2⟩
      rw [List.length_map, List.length_range] at hj
      obtain rfl : V.int (j : Nat) = x1 := Option.some.inj hx1
      obtain rfl : V.ref (A.hold i j) = x2 := by
        dsimp only at hx2
        rw [List.getElem?_map, List.getElem?_range hj] at hx2
        exact Option.some.inj hx2
      have kT := Kp.new (o := .tup [V.int (j : Nat), V.ref (A.hold i j)]) hT
      have q2 := q1.kp0 kT
      obtain ⟨dn, hob2⟩ := q2.ob
      obtain ⟨d0, tw, va, h0, htw, hva⟩ := q2.ho i j hi hj
      obtain ⟨d1, tw1, h1, htw1⟩ := (q2.hm j hj).ob
      refine ⟨T', _, rfl, SqT.of upd_same, rfl, _, _, rfl, _, _, rfl, rfl, ?_⟩
      refine ⟨_, rfl, A.hold i j, a.ch, d0, _, _, rfl, h0, T.cH, hnH (by simp), oF_want, rfl, _, rfl, ?_⟩
      refine ite_of (fun e => ?_) (fun e => ?_)
      · obtain ⟨kd, hk⟩ : ∃ kd, (S.held i j).want = some kd := by
          cases hq : (S.held i j).want with
          | none =>
            have e' : (!decide (kdV (S.held i j).want = V.non)) = true := e
            rw [hq] at e'
            cases e'
          | some kd => exact ⟨kd, rfl⟩
        refine ⟨_, rfl, A.n, dn, _, rfl, hob2, nF_no (by decide +kernel), _, rfl, _, rfl, A.n, a.cn, dn, _, _, rfl, hob2, T.cN, hn (by simp), nF_homes, _, rfl, A.hs, _, _, _, rfl, rfl, SqL.of q2.hs, atI_nat (v := .ref (A.home j)) (by simp [hj]), A.home j, a.cm, d1, _, _, rfl, h1, T.cM, hnM (by simp), hF_node, _, rfl,
          _, rfl, A.hold i j, a.ch, d0, _, _, rfl, h0, T.cH, hnH (by simp), oF_asked, _, rfl, A.hold i j, a.ch, d0, _, _, rfl, h0, T.cH, hnH (by simp), oF_want, (by show 6 ≤ sizeLine; decide), fun t ht => ?_⟩
        have kt := Kp.new (o := .tup [V.int (i : Int), .int ((S.homes j).node : Int), .str "ask", .int (j : Nat), .int (S.held i j).asked, kdV (S.held i j).want]) ht
        refine ⟨A, _, .ref t, .ask i (S.homes j).node j (S.held i j).asked kd, rfl, q2.kp0 kt, ⟨t, _, rfl, SqT.of upd_same, ?_⟩, ?_, fun H3 k3 q3 => ⟨⟨_, _, _, rfl⟩, ((k1.trans0 kT).trans0 kt).trans1 k3, ?_⟩⟩
        · show _ = _
          rw [hk]
          rfl
        · show (S.way ++ (List.range j).flatMap (askL S i)).length < 100000
          rw [List.length_append]
          have := askL_sum S i j
          omega
        · have e2 : S.way ++ (List.range (j + 1)).flatMap (askL S i) = (S.way ++ (List.range j).flatMap (askL S i)) ++ [.ask i (S.homes j).node j (S.held i j).asked kd] := by
            rw [flat_succ, List.append_assoc]
            congr 2
            unfold askL
            rw [hk]
          rw [e2]
          exact q3
      · have hk : (S.held i j).want = none := by
          cases hq : (S.held i j).want with
          | none => rfl
          | some kd =>
            have e' : (!decide (kdV (S.held i j).want = V.non)) = false := e
            rw [hq] at e'
            cases e'
        refine ⟨⟨_, _, _, rfl⟩, k1.trans0 kT, ?_⟩
        have e2 : (List.range (j + 1)).flatMap (askL S i) = (List.range j).flatMap (askL S i) := by
          rw [flat_succ]
          unfold askL
          rw [hk, List.append_nil]
        rw [e2]
        exact q2
    · rintro σ H1 ⟨⟨y3, y4, y5, rfl⟩, k1, q1⟩
      rw [List.length_map, List.length_range] at q1
      obtain ⟨dx1, hob1⟩ := q1.ob
      refine ⟨_, rfl, A.n, a.cn, dx1, _, _, rfl, hob1, T.cN, hn (by simp), nF_homes, A.hs, _, rfl, SqL.of q1.hs, ?_⟩
      refine for_it walk_enum (fun j σ H' => (∃ y3 y4 y5, σ = [some (.ref A.n), some (.int (i : Int)), some (.int (xs.length : Int)), y3, y4, y5]) ∧ Kp [A.way] H H' ∧ NodesAt K a H' A { S with way := (S.way ++ (List.range S.pages).flatMap (askL S i)) ++ (List.range j).flatMap (pushL S i) })
        ⟨⟨_, _, _, rfl⟩, k1, by simpa using q1⟩ (fun j σ H' _ pv => pv.2.1.sqL (SqL.of q.hs) (by simp [q.nw.1.symm])) ?_ ?_
      · rintro j x σ H3 H2 hj ⟨⟨y3, y4, y5, rfl⟩, k3, q3⟩ ⟨T', x1, x2, rfl, hT, rfl, hx1, hx2⟩
        rw [List.length_map, List.length_range] at hj
        obtain rfl : V.int (j : Nat) = x1 := Option.some.inj hx1
        obtain rfl : V.ref (A.home j) = x2 := by
          dsimp only at hx2
          rw [List.getElem?_map, List.getElem?_range hj] at hx2
          exact Option.some.inj hx2
        have kT := Kp.new (o := .tup [V.int (j : Nat), V.ref (A.home j)]) hT
        have q2 := q3.kp0 kT
        obtain ⟨dn, hob2⟩ := q2.ob
        obtain ⟨d1, tw1, h1, htw1⟩ := (q2.hm j hj).ob
        have stay : pushL S i j = [] → (∃ z3 z4 z5, [some (V.ref A.n), some (.int (i : Int)), some (.int (xs.length : Int)), some (.int (j : Nat)), y4, some (.ref (A.home j))] = [some (V.ref A.n), some (.int (i : Int)), some (.int (xs.length : Int)), z3, z4, z5]) ∧ Kp [A.way] H (upd H3 T' (.tup [V.int (j : Nat), V.ref (A.home j)])) ∧ NodesAt K a (upd H3 T' (.tup [V.int (j : Nat), V.ref (A.home j)])) A { S with way := (S.way ++ (List.range S.pages).flatMap (askL S i)) ++ (List.range (j + 1)).flatMap (pushL S i) } := fun z => by
          refine ⟨⟨_, _, _, rfl⟩, k3.trans0 kT, ?_⟩
          rw [flat_succ, z, List.append_nil]
          exact q2
        refine ⟨T', _, rfl, SqT.of upd_same, rfl, _, _, rfl, _, _, rfl, rfl, ?_⟩
        refine ⟨_, rfl, A.home j, a.cm, d1, _, _, rfl, h1, T.cM, hnM (by simp), hF_node, _, rfl, rfl, _, rfl, ?_⟩
        have ei : decide (V.int ((S.homes j).node : Int) = .int (i : Int)) = decide ((S.homes j).node = i) := decide_eq_decide.mpr ⟨fun z => by have := V.int.inj z; omega, fun z => by rw [z]⟩
        refine ite_of (fun e => ?_) (fun e => ?_)
        · have e1 : (S.homes j).node = i := of_decide_eq_true (ei.symm.trans e)
          refine ⟨_, rfl, A.home j, a.cm, d1, _, _, rfl, h1, T.cM, hnM (by simp), hF_asker, rfl, _, rfl, ?_⟩
          refine ite_of (fun e => ?_) (fun e => ?_)
          · have e2 : (S.homes j).asker ≠ none := fun z => by
              have e' : (!decide (nV (S.homes j).asker = V.non)) = true := e
              rw [z] at e'
              cases e'
            have ep : pushL S i j = pushW S.many j (S.homes j) := if_pos ⟨e1, e2⟩
            refine ⟨_, rfl, A.n, dn, _, rfl, hob2, nF_no (by decide +kernel), _, rfl, _, rfl, A, _, j, rfl, q2, hj, hm4, ?_, hkd j hj, fun H4 k4 q4 => ⟨⟨_, _, _, rfl⟩, (k3.trans0 kT).trans1 k4, ?_⟩⟩
            · show ((S.way ++ (List.range S.pages).flatMap (askL S i)) ++ (List.range j).flatMap (pushL S i)).length + 10 < 100000
              rw [List.length_append, List.length_append]
              have := askL_sum S i S.pages
              have := pushL_sum hm4 i j
              omega
            · rw [flat_succ, ep, ← List.append_assoc]
              exact q4
          · have e2 : ¬ (S.homes j).asker ≠ none := fun z => by
              have e' : (!decide (nV (S.homes j).asker = V.non)) = false := e
              cases hq : (S.homes j).asker with
              | none => exact z hq
              | some m => rw [hq] at e'; cases e'
            exact stay (if_neg fun z => e2 z.2)
        · have e1 : ¬ (S.homes j).node = i := of_decide_eq_false (ei.symm.trans e)
          exact stay (if_neg fun z => e1 z.1)
      · rintro σ H3 ⟨⟨y3, y4, y5, rfl⟩, k3, q3⟩
        rw [List.length_map, List.length_range, List.append_assoc] at q3
        obtain ⟨dx3, hob3⟩ := q3.ob
        obtain ⟨xs3, hw3, px3⟩ := q3.wy
        have hxl3 := Paired.length px3
        refine ⟨_, rfl, A.n, a.cn, dx3, _, _, rfl, hob3, T.cN, hn (by simp), nF_way, A.way, xs3, rfl, .inl (SqL.of hw3), _, rfl, _, _, rfl, rfl, ?_⟩
        have z := k H3 (Ch.way q k3 q3)
        have ez : ((tickL S i).length : Int) = (xs3.length : Int) - (xs.length : Int) := by
          have : xs3.length = S.way.length + (tickL S i).length := by
            rw [hxl3]
            show (S.way ++ tickL S i).length = _
            rw [List.length_append]
          omega
        rw [ez] at z
        exact z
end
end K57
set_option Elab.async false
set_option linter.all false
set_option maxRecDepth 100000
set_option maxHeartbeats 4000000
/-! K57W: what messages do, plainly. -/
namespace K57
open PySem L2 AB
def okM (many pages : Nat) : Msg → Prop
  | .ask n _ p _ _ => n < many ∧ p < pages
  | .put _ n p q _ => n < many ∧ p < pages ∧ 1 ≤ q
  | .grant _ n p q _ ws => n < many ∧ p < pages ∧ 1 ≤ q ∧ ws.length = 16
  | .given n _ p _ ws => n < many ∧ p < pages ∧ ws.length = 16
  | .have_ n _ p _ => n < many ∧ p < pages
structure WFh (many : Nat) (h : Hm) : Prop where
  wr : ∀ n, h.writer = some n → n < many
  rd : ∀ n, h.readers n = true → n < many
  as_ : ∀ n, h.asker = some n → n < many ∧ (∃ k, h.kind = some k) ∧ 1 ≤ h.number
  wa : ∀ n, h.waits n ≠ none → n < many
  ww : h.words.length = 16
  no : 0 ≤ h.number
structure WF (S : Sy) : Prop where
  m1 : 1 ≤ S.many
  m4 : S.many ≤ 4
  p1 : 1 ≤ S.pages
  p8 : S.pages ≤ 8
  hw : ∀ i p, (S.held i p).words.length = 16
  ha : ∀ i p, (S.held i p).last = 0 ∨ ∃ m, (S.held i p).answer = some m ∧ okM S.many S.pages m
  hm : ∀ p, WFh S.many (S.homes p)
  ms : ∀ m ∈ S.way, okM S.many S.pages m
def servedH (h : Hm) (n : Nat) (num : Int) : Hm := { h with served := fun j => if j = n then some num else h.served j }
def beganH (many : Nat) (h : Hm) (n : Nat) (k : Kd) : Hm := if noWaits many (beginH h n k) then grantH (beginH h n k) else beginH h n k
def askedS (S : Sy) (n p : Nat) (num : Int) (k : Kd) : Sy :=
  if (S.homes p).asker ≠ none ∨ num ≤ ((S.homes p).served n).getD 0 then S
  else if hasIt (S.homes p) n k then setHome S p (servedH (S.homes p) n num)
  else { setHome S p (beganH S.many (servedH (S.homes p) n num) n k) with way := S.way ++ pushW S.many p (beganH S.many (servedH (S.homes p) n num) n k) }
def freeH (h : Hm) : Hm := { h with asker := none, kind := none }
def hadS (S : Sy) (n p : Nat) (num : Int) : Sy :=
  if (S.homes p).asker = some n ∧ num = (S.homes p).number ∧ granting S.many (S.homes p) = true then setHome S p (freeH (S.homes p)) else S
def givenS (S : Sy) (n p : Nat) (num : Int) (ws : List Int) : Sy :=
  if (S.homes p).asker ≠ none ∧ num = (S.homes p).number ∧ (S.homes p).waits n ≠ none then
    { setHome S p (givenH S.many (S.homes p) n ws) with way := S.way ++ if granting S.many (givenH S.many (S.homes p) n ws) then pushW S.many p (givenH S.many (S.homes p) n ws) else [] }
  else S
def putH (h : Hold) (home n p : Nat) (num : Int) (w : Wd) : Hold := { h with last := num, mode := if w = .go then none else some .r, answer := some (.given n home p num h.words) }
def getH (h : Hold) (home n p : Nat) (num : Int) (k : Kd) (ws : List Int) : Hold := { h with last := num, mode := some k, words := ws, want := if h.want = some .r ∨ k = .w then none else h.want, answer := some (.have_ n home p num) }
def ansS (S : Sy) (i p : Nat) (num : Int) : Sy := if num = (S.held i p).last then { S with way := S.way ++ (S.held i p).answer.toList } else S
def putS (S : Sy) (home n p : Nat) (num : Int) (w : Wd) : Sy := ansS (if num > (S.held n p).last then setHold S n p (putH (S.held n p) home n p num w) else S) n p num
def getS (S : Sy) (home n p : Nat) (num : Int) (k : Kd) (ws : List Int) : Sy := ansS (if num > (S.held n p).last then setHold S n p (getH (S.held n p) home n p num k ws) else S) n p num
def comeS (S : Sy) : Msg → Sy
  | .ask n _ p q k => askedS S n p q k
  | .put h n p q w => putS S h n p q w
  | .grant h n p q k ws => getS S h n p q k ws
  | .given n _ p q ws => givenS S n p q ws
  | .have_ n _ p q => hadS S n p q
def deliverS (S : Sy) (k : Int) : Sy := match S.way[plc S k]? with
  | some m => comeS (loseS S k) m
  | none => S
end K57
set_option Elab.async false
set_option linter.all false
set_option maxRecDepth 100000
set_option maxHeartbeats 4000000
/-! K57Za: what stands of a page, whatever messages come: plainly. -/
namespace K57
open PySem L2 AB
def hMode (h : Hm) (n : Nat) : Option Kd := if h.writer = some n then some .w else if h.readers n = true then some .r else none
def noW (h : Hm) : Prop := ∀ n, h.waits n = none
theorem noW_iff {many : Nat} {h : Hm} (wa : ∀ n, h.waits n ≠ none → n < many) : noWaits many h = true ↔ noW h := by
  rw [noWaits, List.all_eq_true]
  constructor
  · intro z n
    by_cases c : h.waits n = none
    · exact c
    · have := z n (List.mem_range.mpr (wa n c))
      exact Option.isNone_iff_eq_none.mp this
  · intro z n _
    rw [z n]
    rfl
def mOk (p : Nat) (h : Hm) (own : Nat → Hold) : Msg → Prop
  | .ask n _ r q k => r = p → q ≤ (own n).asked ∧ (q = (own n).asked → ∀ j, (own n).want = some j → j = k)
  | .put _ n r q w => r = p → q ≤ (own n).last ∨ (q = h.number ∧ h.waits n = some w)
  | .grant _ n r q k _ => r = p → q ≤ (own n).last ∨ (q = h.number ∧ h.asker = some n ∧ h.kind = some k ∧ noW h)
  | .given n _ r q _ => r = p → q ≤ (own n).last
  | .have_ n _ r q => r = p → q ≤ (own n).last
structure InvO (p : Nat) (h : Hm) (own : Nat → Hold) : Prop where
  la : ∀ n, 0 ≤ (own n).last ∧ (own n).last ≤ h.number
  sa : ∀ n, (h.served n).getD 0 ≤ (own n).asked
  idl : h.asker = none → noW h
  wna : ∀ n, h.waits n ≠ none → h.asker ≠ some n
  wsh : ∀ n, h.waits n = some .sh → h.kind ≠ some .w ∧ h.writer = some n
  asl : ∀ n, h.asker = some n → (own n).last = h.number → noW h ∧ (own n).mode = h.kind ∧ ∃ y, (own n).answer = some (.have_ n y p h.number)
  wal : ∀ n w, h.waits n = some w → (own n).last = h.number → (own n).mode = (if w = .go then none else some .r) ∧ ∃ y ws, (own n).answer = some (.given n y p h.number ws)
  agr : ∀ n, h.asker ≠ some n → (h.waits n = none ∨ (own n).last < h.number) → (own n).mode = hMode h n
  wri : ∀ n m, h.asker = some n → h.writer = some m → h.waits m ≠ none ∨ (m = n ∧ h.kind = some .w)
  rea : ∀ n m, h.asker = some n → h.kind = some .w → h.readers m = true → h.waits m ≠ none ∨ m = n
  wan : ∀ n k, (own n).want = some k → (h.served n).getD 0 < (own n).asked ∨ (h.asker = some n ∧ (own n).last < h.number ∧ h.kind = some k)
  wmo : ∀ n k, (own n).want = some k → (own n).mode ≠ some .w ∧ (k = .r → (own n).mode = none)
  ans : ∀ n m, (own n).answer = some m → (∃ y q ws, m = .given n y p q ws ∧ q ≤ (own n).last) ∨ ∃ y q, m = .have_ n y p q ∧ q ≤ (own n).last
structure InvP (p : Nat) (h : Hm) (own : Nat → Hold) : Prop extends InvO p h own where
  gra : ∀ n, h.asker = some n → noW h → hMode h n = h.kind
section
variable {many p : Nat} {h : Hm} {own : Nat → Hold} {n : Nat} {q : Int} {k : Kd}
theorem hMode_w {h : Hm} {n : Nat} (e : h.writer = some n) : hMode h n = some .w := if_pos e
theorem hMode_r {h : Hm} {n : Nat} (e : h.writer ≠ some n) (r : h.readers n = true) : hMode h n = some .r := by rw [hMode, if_neg e, if_pos r]
theorem hMode_n {h : Hm} {n : Nat} (e : h.writer ≠ some n) (r : h.readers n ≠ true) : hMode h n = none := by rw [hMode, if_neg e, if_neg r]
theorem grantH_same (h : Hm) : (grantH h).number = h.number ∧ (grantH h).asker = h.asker ∧ (grantH h).kind = h.kind ∧ (grantH h).waits = h.waits ∧ (grantH h).served = h.served := by
  unfold grantH
  split <;> exact ⟨rfl, rfl, rfl, rfl, rfl⟩
theorem InvO.grant (I : InvO p h own) {a : Nat} (ha : h.asker = some a) (hk : h.kind = some k) (hw : noW h) : InvP p (grantH h) own := by
  obtain ⟨e1, e2, e3, e4, e5⟩ := grantH_same h
  have nw : noW (grantH h) := fun n => by rw [e4]; exact hw n
  have hr : ∀ m, m ≠ a → hMode (grantH h) m = hMode h m := fun m hm => by
    cases k with
    | w =>
      have eg : grantH h = { h with writer := h.asker, readers := fun _ => false } := if_pos hk
      have h1 : h.writer ≠ some m := fun z => by
        rcases I.wri a m ha z with q | q
        · exact q (hw m)
        · exact hm q.1
      have h2 : h.readers m ≠ true := fun z => by
        rcases I.rea a m ha hk z with q | q
        · exact q (hw m)
        · exact hm q
      rw [hMode_n h1 h2, eg]
      exact hMode_n (h := { h with writer := h.asker, readers := fun _ => false }) (fun z => hm (Option.some.inj (z.symm.trans ha))) (fun z => nomatch z)
    | r =>
      have eg : grantH h = { h with readers := fun n => decide (h.asker = some n) || h.readers n } := if_neg (by rw [hk]; exact fun z => nomatch z)
      rw [eg]
      show (if h.writer = some m then some Kd.w else if (decide (h.asker = some m) || h.readers m) = true then some Kd.r else none) = _
      rw [decide_eq_false (fun z => hm (Option.some.inj (z.symm.trans ha))), Bool.false_or]
      rfl
  refine ⟨⟨fun n => by rw [e1]; exact I.la n, fun n => by rw [e5]; exact I.sa n, fun _ => nw, fun n z => absurd (nw n) z, fun n z => absurd ((nw n).symm.trans z) (fun y => nomatch y), fun n x y => ?_, fun n w z => absurd ((nw n).symm.trans z) (fun y => nomatch y),
    fun n x y => ?_, fun n m x y => ?_, fun n m x y z => ?_, fun n j x => by rw [e5, e2, e1, e3]; exact I.wan n j x, I.wmo, I.ans⟩, fun n x _ => ?_⟩
  · rw [e2] at x
    rw [e1] at y
    have z := I.asl n x y
    rw [e3, e1]
    exact ⟨nw, z.2⟩
  · rw [e2] at x
    rw [hr n (fun z => x (by rw [z]; exact ha))]
    exact I.agr n x (.inl (hw n))
  · rw [e2] at x
    rw [e3]
    right
    cases k with
    | w =>
      have eg : (grantH h).writer = h.asker := by unfold grantH; rw [if_pos hk]
      rw [eg, x] at y
      exact ⟨(Option.some.inj y).symm, hk⟩
    | r =>
      have eg : (grantH h).writer = h.writer := by unfold grantH; rw [if_neg (by rw [hk]; exact fun z => nomatch z)]
      rw [eg] at y
      rcases I.wri n m x y with q | q
      · exact absurd (hw m) q
      · exact q
  · rw [e3] at y
    have eg : (grantH h).readers = fun _ => false := by unfold grantH; rw [if_pos y]
    rw [eg] at z
    cases z
  · rw [e2] at x
    rw [e3]
    cases k with
    | w =>
      rw [hk]
      have eg : (grantH h).writer = h.asker := by unfold grantH; rw [if_pos hk]
      exact hMode_w (eg.trans x)
    | r =>
      rw [hk]
      have nk : ¬ h.kind = some .w := by rw [hk]; exact fun z => nomatch z
      have eg : grantH h = { h with readers := fun n => decide (h.asker = some n) || h.readers n } := if_neg nk
      rw [eg]
      refine hMode_r (h := { h with readers := fun n => decide (h.asker = some n) || h.readers n }) (fun z => ?_) (by show (decide (h.asker = some n) || _) = true; rw [decide_eq_true x]; rfl)
      rcases I.wri n n x z with q | q
      · exact q (hw n)
      · exact nk q.2
theorem mOk.grant {m : Msg} (z : mOk p h own m) (hw : noW h) : mOk p (grantH h) own m := by
  obtain ⟨e1, e2, e3, e4, e5⟩ := grantH_same h
  cases m with
  | ask => exact z
  | put => intro r; rw [e1, e4]; exact z r
  | grant => intro r; rw [e1, e2, e3]; exact (z r).imp id fun y => ⟨y.1, y.2.1, y.2.2.1, fun n => by rw [e4]; exact hw n⟩
  | given => exact z
  | have_ => exact z
/-- an asking that a home deals with, before it is granted -/
theorem InvP.begin (I : InvP p h own) (hid : h.asker = none) (hq : (h.served n).getD 0 < q) (ha : q ≤ (own n).asked ∧ (q = (own n).asked → ∀ j, (own n).want = some j → j = k)) (hh : hasIt h n k = false) :
    InvO p (beginH (servedH h n q) n k) own := by
  have nw := I.idl hid
  have hh1 : h.writer ≠ some n := fun z => by rw [hasIt, decide_eq_true z] at hh; cases hh
  have wv : ∀ j, (beginH (servedH h n q) n k).waits j = if h.writer = some j then some (if k = .w then .go else .sh) else if k = .w ∧ h.readers j = true ∧ j ≠ n then some .go else none := fun j => rfl
  have ag : ∀ m, (own m).mode = hMode h m := fun m => I.agr m (by rw [hid]; exact fun z => nomatch z) (.inl (nw m))
  refine ⟨fun m => ⟨(I.la m).1, by have := (I.la m).2; show _ ≤ h.number + 1; omega⟩, fun m => ?_, fun z => (nomatch z), fun j z y => ?_, fun j z => ?_, fun m x y => ?_, fun m w x y => ?_, fun m x y => ag m, fun a m x y => ?_, fun a m x y z => ?_, fun m j x => ?_, I.wmo, I.ans⟩
  · show ((if m = n then some q else h.served m).getD 0) ≤ _
    by_cases c : m = n
    · rw [if_pos c, c]; exact ha.1
    · rw [if_neg c]; exact I.sa m
  · obtain rfl : n = j := Option.some.inj y
    rw [wv, if_neg hh1, if_neg (fun z => z.2.2 rfl)] at z
    exact z rfl
  · rw [wv] at z
    by_cases c : h.writer = some j
    · rw [if_pos c] at z
      refine ⟨fun y => ?_, c⟩
      have : k = .w := Option.some.inj y
      rw [if_pos this] at z
      cases z
    · rw [if_neg c] at z
      split at z <;> cases z
  · have := (I.la m).2
    have y' : (own m).last = h.number + 1 := y
    omega
  · have := (I.la m).2
    have y' : (own m).last = h.number + 1 := y
    omega
  · left
    rw [wv, if_pos (show h.writer = some m from y)]
    exact fun z => nomatch z
  · obtain rfl : n = a := Option.some.inj x
    have hk : k = .w := Option.some.inj y
    by_cases c : m = n
    · exact .inr c
    · left
      rw [wv]
      split
      · exact fun z => nomatch z
      · rw [if_pos ⟨hk, z, c⟩]
        exact fun z => nomatch z
  · show ((if m = n then some q else h.served m).getD 0) < _ ∨ (some n = some m ∧ (own m).last < h.number + 1 ∧ some k = some j)
    by_cases c : m = n
    · subst c
      rw [if_pos rfl]
      by_cases c2 : q = (own m).asked
      · exact .inr ⟨rfl, by have := (I.la m).2; omega, by rw [ha.2 c2 j x]⟩
      · exact .inl (by show q < _; have := ha.1; omega)
    · rw [if_neg c]
      rcases I.wan m j x with z | z
      · exact .inl z
      · rw [hid] at z; cases z.1
theorem mOk.begin {m : Msg} (I : InvP p h own) (hid : h.asker = none) (z : mOk p h own m) : mOk p (beginH (servedH h n q) n k) own m := by
  have nw := I.idl hid
  cases m with
  | ask => exact z
  | put _ m r q' w =>
    intro e
    rcases z e with y | y
    · exact .inl y
    · rw [nw m] at y; cases y.2
  | grant _ m r q' k' ws =>
    intro e
    rcases z e with y | y
    · exact .inl y
    · rw [hid] at y; cases y.2.1
  | given => exact z
  | have_ => exact z
theorem InvP.began (I : InvP p h own) (wf : WFh many h) (hn : n < many) (hid : h.asker = none) (hq : (h.served n).getD 0 < q) (ha : q ≤ (own n).asked ∧ (q = (own n).asked → ∀ j, (own n).want = some j → j = k)) (hh : hasIt h n k = false) :
    InvP p (beganH many (servedH h n q) n k) own ∧ ∀ m, mOk p h own m → mOk p (beganH many (servedH h n q) n k) own m := by
  have I2 := I.begin hid hq ha hh
  have wa : ∀ j, (beginH (servedH h n q) n k).waits j ≠ none → j < many := fun j z => by
    by_cases c : h.writer = some j
    · exact wf.wr j c
    · by_cases c2 : k = .w ∧ h.readers j = true ∧ j ≠ n
      · exact wf.rd j c2.2.1
      · exact absurd (show (if h.writer = some j then some (if k = .w then Wd.go else .sh) else if k = .w ∧ h.readers j = true ∧ j ≠ n then some .go else none) = none by rw [if_neg c, if_neg c2]) z
  unfold beganH
  by_cases c : noWaits many (beginH (servedH h n q) n k) = true
  · rw [if_pos c]
    have nw := (noW_iff wa).mp c
    exact ⟨I2.grant rfl rfl nw, fun m z => (mOk.begin I hid z).grant nw⟩
  · rw [if_neg c]
    have nw : ¬ noW (beginH (servedH h n q) n k) := fun z => c ((noW_iff wa).mpr z)
    exact ⟨⟨I2, fun m _ z => absurd z nw⟩, fun m z => mOk.begin I hid z⟩
/-- a home's own messages -/
theorem mOk.push {m : Msg} (kd : ∀ a, h.asker = some a → ∃ k, h.kind = some k) (wa : ∀ n, h.waits n ≠ none → n < many) (hm : m ∈ pushW many p h) : mOk p h own m := by
  rcases List.mem_append.mp hm with z | z
  · obtain ⟨j, hj, rfl⟩ := List.mem_map.mp z
    have := (List.mem_filter.mp hj).2
    obtain ⟨w, hw⟩ : ∃ w, h.waits j = some w := by
      cases hq : h.waits j with
      | none => simp [hq] at this
      | some w => exact ⟨w, rfl⟩
    intro _
    exact .inr ⟨rfl, by rw [hw]; rfl⟩
  · by_cases c : granting many h = true
    · rw [if_pos c] at z
      obtain rfl := List.mem_singleton.mp z
      obtain ⟨a, ha⟩ : ∃ a, h.asker = some a := by
        cases hq : h.asker with
        | none => rw [granting, hq] at c; cases c
        | some a => exact ⟨a, rfl⟩
      obtain ⟨k, hk⟩ := kd a ha
      have hw : noW h := (noW_iff wa).mp (by
        rw [granting, ha] at c
        exact c)
      intro _
      exact .inr ⟨rfl, by rw [ha]; rfl, by rw [hk]; rfl, hw⟩
    · rw [if_neg c] at z
      cases z
/-- an asking of one who has it -/
theorem InvP.served (I : InvP p h own) (hid : h.asker = none) (ha : q ≤ (own n).asked ∧ (q = (own n).asked → ∀ j, (own n).want = some j → j = k)) (hh : hasIt h n k = true) : InvP p (servedH h n q) own := by
  have nw := I.idl hid
  have ag : ∀ m, (own m).mode = hMode h m := fun m => I.agr m (by rw [hid]; exact fun z => nomatch z) (.inl (nw m))
  refine ⟨⟨I.la, fun m => ?_, I.idl, I.wna, I.wsh, I.asl, I.wal, I.agr, I.wri, I.rea, fun m j x => ?_, I.wmo, I.ans⟩, I.gra⟩
  · show ((if m = n then some q else h.served m).getD 0) ≤ _
    by_cases c : m = n
    · rw [if_pos c, c]; exact ha.1
    · rw [if_neg c]; exact I.sa m
  · left
    show ((if m = n then some q else h.served m).getD 0) < _
    by_cases c : m = n
    · subst c
      rw [if_pos rfl]
      by_cases c2 : q = (own m).asked
      · exfalso
        have ej := ha.2 c2 j x
        obtain ⟨w1, w2⟩ := I.wmo m j x
        rw [ag m] at w1 w2
        rw [hasIt, Bool.or_eq_true, Bool.and_eq_true, decide_eq_true_eq, decide_eq_true_eq] at hh
        rcases hh with z | z
        · exact w1 (hMode_w z)
        · have := w2 (ej.trans z.1)
          rw [hMode_r (fun y => w1 (hMode_w y)) z.2] at this
          cases this
      · show q < _
        have := ha.1
        omega
    · rw [if_neg c]
      rcases I.wan m j x with z | z
      · exact z
      · rw [hid] at z; cases z.1
/-- the one who asked has it -/
theorem InvP.had (I : InvP p h own) (ha : h.asker = some n) (hq : h.number ≤ (own n).last) (nw : noW h) : InvP p (freeH h) own ∧ ∀ m, mOk p h own m → mOk p (freeH h) own m := by
  have hl : (own n).last = h.number := by have := (I.la n).2; omega
  obtain ⟨_, z1, _⟩ := I.asl n ha hl
  refine ⟨⟨⟨I.la, I.sa, fun _ => nw, fun m _ y => (nomatch y), fun m z => absurd ((nw m).symm.trans z) (fun y => nomatch y), fun m x => (nomatch x), fun m w z => absurd ((nw m).symm.trans z) (fun y => nomatch y), fun m _ _ => ?_, fun a m x => (nomatch x), fun a m x => (nomatch x), fun m j x => ?_, I.wmo, I.ans⟩, fun m x => (nomatch x)⟩, fun m z => ?_⟩
  · show _ = hMode h m
    by_cases c : m = n
    · rw [c, z1, I.gra n ha nw]
    · exact I.agr m (fun z => c (Option.some.inj (z.symm.trans ha))) (.inl (nw m))
  · left
    rcases I.wan m j x with z | z
    · exact z
    · obtain rfl : n = m := Option.some.inj (ha.symm.trans z.1)
      omega
  · cases m with
    | ask => exact z
    | put => exact z
    | grant _ m r q' k' ws =>
      intro e
      rcases z e with y | y
      · exact .inl y
      · left
        obtain rfl : n = m := Option.some.inj (ha.symm.trans y.2.1)
        omega
    | given => exact z
    | have_ => exact z
end
end K57
set_option Elab.async false
set_option linter.all false
set_option maxRecDepth 100000
set_option maxHeartbeats 4000000
/-! K57Zb: what stands of a page: answers, calls, pages, wants. -/
namespace K57
open PySem L2 AB
section
variable {many p : Nat} {h : Hm} {own : Nat → Hold} {n : Nat} {q : Int} {k : Kd}
theorem given_same (h : Hm) (n : Nat) (ws : List Int) : (given2 (given1 h n ws) n).number = h.number ∧ (given2 (given1 h n ws) n).asker = h.asker ∧ (given2 (given1 h n ws) n).kind = h.kind ∧ (given2 (given1 h n ws) n).served = h.served ∧
    (∀ j, (given2 (given1 h n ws) n).waits j = if j = n then none else h.waits j) ∧ (∀ j, (given2 (given1 h n ws) n).readers j = if j = n then decide (h.waits n = some .sh) else h.readers j) ∧ (given2 (given1 h n ws) n).writer = if h.writer = some n then none else h.writer := by
  unfold given1
  split <;> exact ⟨rfl, rfl, rfl, rfl, fun _ => rfl, fun _ => rfl, rfl⟩
theorem InvP.given {a : Nat} {w : Wd} (I : InvP p h own) (wf : WFh many h) (ha : h.asker = some a) (hk : h.kind = some k) (hq : h.number ≤ (own n).last) (hw : h.waits n = some w) (ws : List Int) :
    InvP p (givenH many h n ws) own ∧ ∀ m, mOk p h own m → mOk p (givenH many h n ws) own m := by
  have hl : (own n).last = h.number := by have := (I.la n).2; omega
  obtain ⟨e1, e2, e3, e4, e5, e6, e7⟩ := given_same h n ws
  have nn : ¬ noW h := fun z => by rw [z n] at hw; cases hw
  have hna : n ≠ a := fun z => I.wna n (by rw [hw]; exact fun y => nomatch y) (by rw [z]; exact ha)
  unfold givenH
  generalize hg : given2 (given1 h n ws) n = g at *
  have hsh : w = .sh → h.kind ≠ some .w ∧ h.writer = some n := fun z => I.wsh n (by rw [hw, z])
  have gwr : ∀ m, g.writer = some m → h.writer = some m ∧ m ≠ n := fun m z => by
    rw [e7] at z
    by_cases c : h.writer = some n
    · rw [if_pos c] at z; cases z
    · rw [if_neg c] at z
      exact ⟨z, fun y => c (by rw [← y]; exact z)⟩
  have gmo : ∀ m, m ≠ n → hMode g m = hMode h m := fun m hm => by
    unfold hMode
    rw [e6, if_neg hm]
    have : (g.writer = some m) ↔ (h.writer = some m) := ⟨fun z => (gwr m z).1, fun z => by
      rw [e7, if_neg (fun y => hm (Option.some.inj (z.symm.trans y)))]; exact z⟩
    by_cases c : h.writer = some m
    · rw [if_pos c, if_pos (this.mpr c)]
    · rw [if_neg c, if_neg (fun z => c (this.mp z))]
  have gmn : hMode g n = if w = .go then none else some .r := by
    have c1 : g.writer ≠ some n := fun z => (gwr n z).2 rfl
    cases w with
    | go => exact hMode_n c1 (by rw [e6, if_pos rfl, hw]; decide)
    | sh => exact hMode_r c1 (by rw [e6, if_pos rfl, hw]; decide)
  have IO : InvO p g own := by
    refine ⟨fun m => by rw [e1]; exact I.la m, fun m => by rw [e4]; exact I.sa m, fun z => (by rw [e2, ha] at z; cases z), fun m z => ?_, fun m z => ?_, fun m x y => ?_, fun m v x y => ?_, fun m x y => ?_, fun b m x y => ?_, fun b m x y z => ?_, fun m j x => by rw [e4, e2, e1, e3]; exact I.wan m j x, I.wmo, I.ans⟩
    · rw [e5] at z
      rw [e2]
      by_cases c : m = n
      · rw [if_pos c] at z; exact absurd rfl z
      · rw [if_neg c] at z; exact I.wna m z
    · rw [e5] at z
      by_cases c : m = n
      · rw [if_pos c] at z; cases z
      · rw [if_neg c] at z
        obtain ⟨z1, z2⟩ := I.wsh m z
        rw [e3, e7, if_neg (fun y => c (Option.some.inj (z2.symm.trans y)))]
        exact ⟨z1, z2⟩
    · rw [e2] at x
      rw [e1] at y
      exact absurd (I.asl m x y).1 nn
    · rw [e5] at x
      rw [e1] at y ⊢
      by_cases c : m = n
      · rw [if_pos c] at x; cases x
      · rw [if_neg c] at x; exact I.wal m v x y
    · rw [e2] at x
      by_cases c : m = n
      · rw [c, gmn]
        exact (I.wal n w hw hl).1
      · rw [gmo m c]
        rw [e5, if_neg c, e1] at y
        exact I.agr m x y
    · rw [e2] at x
      obtain ⟨z1, z2⟩ := gwr m y
      rw [e5, if_neg z2, e3]
      exact I.wri b m x z1
    · rw [e2] at x
      rw [e3] at y
      rw [e6] at z
      by_cases c : m = n
      · rw [if_pos c, hw] at z
        have : w = .sh := Option.some.inj (of_decide_eq_true z)
        exact absurd y (hsh this).1
      · rw [if_neg c] at z
        rw [e5, if_neg c]
        exact I.rea b m x y z
  have wa : ∀ j, g.waits j ≠ none → j < many := fun j z => by
    rw [e5] at z
    by_cases c : j = n
    · rw [if_pos c] at z; exact absurd rfl z
    · rw [if_neg c] at z; exact wf.wa j z
  have mo : ∀ m, mOk p h own m → mOk p g own m := fun m z => by
    cases m with
    | ask => exact z
    | put _ m r q' w' =>
      intro e
      rcases z e with y | y
      · exact .inl y
      · by_cases c : m = n
        · exact .inl (by rw [c, y.1]; exact hq)
        · exact .inr (by rw [e1, e5, if_neg c]; exact y)
    | grant _ m r q' k' ws =>
      intro e
      rcases z e with y | y
      · exact .inl y
      · exact absurd y.2.2.2 nn
    | given => exact z
    | have_ => exact z
  by_cases c : noWaits many g = true
  · rw [if_pos c]
    have nw := (noW_iff wa).mp c
    exact ⟨IO.grant (e2.trans ha) (e3.trans hk) nw, fun m z => (mo m z).grant nw⟩
  · rw [if_neg c]
    have nw : ¬ noW g := fun z => c ((noW_iff wa).mpr z)
    exact ⟨⟨IO, fun m _ z => absurd z nw⟩, mo⟩
def setO (own : Nat → Hold) (n : Nat) (x : Hold) : Nat → Hold := fun j => if j = n then x else own j
theorem setO_same {x : Hold} : setO own n x n = x := if_pos rfl
theorem setO_ne {x : Hold} {j : Nat} (h : j ≠ n) : setO own n x j = own j := if_neg h
/-- a node's page changed: a message keeps its worth -/
theorem mOk_ch {m : Msg} {x : Hold} (z : mOk p h own m) (hl : (own n).last ≤ x.last) (ha : (own n).asked ≤ x.asked) (hw : x.asked = (own n).asked → ∀ j, x.want = some j → (own n).want = some j) : mOk p h (setO own n x) m := by
  have le : ∀ j, (own j).last ≤ (setO own n x j).last := fun j => by
    by_cases c : j = n
    · rw [c, setO_same]; exact hl
    · rw [setO_ne c]; exact Int.le_refl _
  cases m with
  | ask m _ r q' k' =>
    intro e
    obtain ⟨z1, z2⟩ := z e
    by_cases c : m = n
    · subst c
      rw [setO_same]
      refine ⟨by omega, fun y j hj => ?_⟩
      have : (own m).asked = x.asked := by omega
      exact z2 (by omega) j (hw this.symm j hj)
    · rw [setO_ne c]; exact ⟨z1, z2⟩
  | put _ m r q' w =>
    intro e
    have := le m
    exact (z e).imp (fun y => by omega) id
  | grant _ m r q' k' ws =>
    intro e
    have := le m
    exact (z e).imp (fun y => by omega) id
  | given m _ r q' ws =>
    intro e
    have := le m
    have := z e
    show q' ≤ _
    omega
  | have_ m _ r q' =>
    intro e
    have := le m
    have := z e
    show q' ≤ _
    omega
theorem InvP.put {w : Wd} (I : InvP p h own) (hq : (own n).last < h.number) (hw : h.waits n = some w) (y : Nat) : InvP p h (setO own n (putH (own n) y n p h.number w)) := by
  have hna : h.asker ≠ some n := I.wna n (by rw [hw]; exact fun y => nomatch y)
  have ag := I.agr n hna (.inr hq)
  have hN : 0 ≤ h.number := Int.le_trans (I.la n).1 (I.la n).2
  refine ⟨⟨fun j => ?_, fun j => ?_, I.idl, I.wna, I.wsh, fun j x z => ?_, fun j v x z => ?_, fun j x z => ?_, I.wri, I.rea, fun j k x => ?_, fun j k x => ?_, fun j m x => ?_⟩, I.gra⟩
  all_goals by_cases c : j = n
  · rw [c, setO_same]; exact ⟨hN, Int.le_refl _⟩
  · rw [setO_ne c]; exact I.la j
  · rw [c, setO_same]; exact I.sa n
  · rw [setO_ne c]; exact I.sa j
  · exact absurd (by rw [← c]; exact x) hna
  · rw [setO_ne c] at z ⊢; exact I.asl j x z
  · subst c
    obtain rfl : w = v := Option.some.inj (hw.symm.trans x)
    rw [setO_same]
    exact ⟨rfl, y, _, rfl⟩
  · rw [setO_ne c] at z ⊢; exact I.wal j v x z
  · subst c
    rw [setO_same] at z
    rcases z with z | z
    · rw [hw] at z; cases z
    · exact absurd z (Int.lt_irrefl _)
  · rw [setO_ne c] at z ⊢; exact I.agr j x z
  · subst c
    rw [setO_same] at x ⊢
    rcases I.wan j k x with z | z
    · exact .inl z
    · exact absurd z.1 hna
  · rw [setO_ne c] at x ⊢; exact I.wan j k x
  · subst c
    rw [setO_same] at x ⊢
    obtain ⟨z1, z2⟩ := I.wmo j k x
    cases w with
    | go => exact ⟨(fun z => nomatch z), fun _ => rfl⟩
    | sh =>
      rw [ag, hMode_w (I.wsh j hw).2] at z1
      exact absurd rfl z1
  · rw [setO_ne c] at x ⊢; exact I.wmo j k x
  · subst c
    rw [setO_same] at x ⊢
    exact .inl ⟨y, h.number, _, (Option.some.inj x).symm, Int.le_refl _⟩
  · rw [setO_ne c] at x ⊢; exact I.ans j m x
theorem InvP.get (I : InvP p h own) (ha : h.asker = some n) (hk : h.kind = some k) (nw : noW h) (hq : (own n).last < h.number) (y : Nat) (ws : List Int) : InvP p h (setO own n (getH (own n) y n p h.number k ws)) := by
  have hN : 0 ≤ h.number := Int.le_trans (I.la n).1 (I.la n).2
  have ew : (getH (own n) y n p h.number k ws).want = if (own n).want = some .r ∨ k = .w then none else (own n).want := rfl
  refine ⟨⟨fun j => ?_, fun j => ?_, I.idl, I.wna, I.wsh, fun j x z => ?_, fun j v x z => ?_, fun j x z => ?_, I.wri, I.rea, fun j i x => ?_, fun j i x => ?_, fun j m x => ?_⟩, I.gra⟩
  all_goals by_cases c : j = n
  · rw [c, setO_same]; exact ⟨hN, Int.le_refl _⟩
  · rw [setO_ne c]; exact I.la j
  · rw [c, setO_same]; exact I.sa n
  · rw [setO_ne c]; exact I.sa j
  · subst c
    rw [setO_same]
    exact ⟨nw, hk.symm, y, rfl⟩
  · rw [setO_ne c] at z ⊢; exact I.asl j x z
  · rw [nw j] at x; cases x
  · rw [setO_ne c] at z ⊢; exact I.wal j v x z
  · exact absurd (by rw [c]; exact ha) x
  · rw [setO_ne c] at z ⊢; exact I.agr j x z
  · subst c
    rw [setO_same] at x ⊢
    rw [ew] at x
    by_cases c2 : (own j).want = some .r ∨ k = .w
    · rw [if_pos c2] at x; cases x
    · rw [if_neg c2] at x
      rcases I.wan j i x with z | z
      · exact .inl z
      · exfalso
        have : k = i := Option.some.inj (hk.symm.trans z.2.2)
        cases i with
        | r => exact c2 (.inl x)
        | w => exact c2 (.inr this)
  · rw [setO_ne c] at x ⊢; exact I.wan j i x
  · subst c
    rw [setO_same] at x ⊢
    rw [ew] at x
    by_cases c2 : (own j).want = some .r ∨ k = .w
    · rw [if_pos c2] at x; cases x
    · rw [if_neg c2] at x
      exact ⟨fun z => c2 (.inr (Option.some.inj z)), fun z => absurd (by rw [x, z]) (fun y => c2 (.inl y))⟩
  · rw [setO_ne c] at x ⊢; exact I.wmo j i x
  · subst c
    rw [setO_same] at x ⊢
    exact .inr ⟨y, h.number, (Option.some.inj x).symm, Int.le_refl _⟩
  · rw [setO_ne c] at x ⊢; exact I.ans j m x
theorem InvP.want (I : InvP p h own) (hm : (own n).mode ≠ some .w ∧ (k = .r → (own n).mode = none)) : InvP p h (setO own n (wantH (own n) k)) ∧ ∀ m, mOk p h own m → mOk p h (setO own n (wantH (own n) k)) m := by
  unfold wantH
  by_cases c0 : (own n).want ≠ some .w ∧ (own n).want ≠ some k
  · rw [if_pos c0]
    refine ⟨⟨⟨fun j => ?_, fun j => ?_, I.idl, I.wna, I.wsh, fun j x z => ?_, fun j v x z => ?_, fun j x z => ?_, I.wri, I.rea, fun j i x => ?_, fun j i x => ?_, fun j m x => ?_⟩, I.gra⟩, fun m z => mOk_ch z (Int.le_refl _) (by show _ ≤ (own n).asked + 1; omega) (fun z => by have z' : (own n).asked + 1 = (own n).asked := z; omega)⟩
    all_goals by_cases c : j = n
    · subst c; rw [setO_same]; exact I.la j
    · rw [setO_ne c]; exact I.la j
    · subst c; rw [setO_same]; have := I.sa j; show _ ≤ (own j).asked + 1; omega
    · rw [setO_ne c]; exact I.sa j
    · subst c; rw [setO_same] at z ⊢; exact I.asl j x z
    · rw [setO_ne c] at z ⊢; exact I.asl j x z
    · subst c; rw [setO_same] at z ⊢; exact I.wal j v x z
    · rw [setO_ne c] at z ⊢; exact I.wal j v x z
    · subst c; rw [setO_same] at z ⊢; exact I.agr j x z
    · rw [setO_ne c] at z ⊢; exact I.agr j x z
    · subst c; rw [setO_same]; left; have := I.sa j; show _ < (own j).asked + 1; omega
    · rw [setO_ne c] at x ⊢; exact I.wan j i x
    · subst c
      rw [setO_same] at x ⊢
      obtain rfl : k = i := Option.some.inj x
      exact hm
    · rw [setO_ne c] at x ⊢; exact I.wmo j i x
    · subst c; rw [setO_same] at x ⊢; exact I.ans j m x
    · rw [setO_ne c] at x ⊢; exact I.ans j m x
  · rw [if_neg c0]
    have e : setO own n (own n) = own := by
      funext j
      unfold setO
      by_cases c : j = n
      · rw [if_pos c, c]
      · rw [if_neg c]
    rw [e]
    exact ⟨I, fun m z => z⟩
/-- words alone -/
theorem InvP.like {own' : Nat → Hold} (I : InvP p h own) (e : ∀ j, (own' j).mode = (own j).mode ∧ (own' j).want = (own j).want ∧ (own' j).asked = (own j).asked ∧ (own' j).last = (own j).last ∧ (own' j).answer = (own j).answer) : InvP p h own' ∧ ∀ m, mOk p h own m → mOk p h own' m := by
  have e1 := fun j => (e j).1
  have e2 := fun j => (e j).2.1
  have e3 := fun j => (e j).2.2.1
  have e4 := fun j => (e j).2.2.2.1
  have e5 := fun j => (e j).2.2.2.2
  refine ⟨⟨⟨fun j => by rw [e4]; exact I.la j, fun j => by rw [e3]; exact I.sa j, I.idl, I.wna, I.wsh, fun j x z => ?_, fun j v x z => ?_, fun j x z => ?_, I.wri, I.rea, fun j i x => ?_, fun j i x => ?_, fun j m x => ?_⟩, I.gra⟩, fun m z => ?_⟩
  · rw [e4] at z; rw [e1, e5]; exact I.asl j x z
  · rw [e4] at z; rw [e1, e5]; exact I.wal j v x z
  · rw [e4] at z; rw [e1]; exact I.agr j x z
  · rw [e2] at x; rw [e3, e4]; exact I.wan j i x
  · rw [e2] at x; rw [e1]; exact I.wmo j i x
  · rw [e5] at x; rw [e4]; exact I.ans j m x
  · cases m with
    | ask m _ r q' k' => intro r; rw [e3, e2]; exact z r
    | put _ m r q' w => intro r; rw [e4]; exact z r
    | grant _ m r q' k' ws => intro r; rw [e4]; exact z r
    | given m _ r q' ws => intro r; show _ ≤ _; rw [e4]; exact z r
    | have_ m _ r q' => intro r; show _ ≤ _; rw [e4]; exact z r
end
end K57
set_option Elab.async false
set_option linter.all false
set_option maxRecDepth 100000
set_option maxHeartbeats 4000000
/-! K57Zc: what stands of all pages. -/
namespace K57
open PySem L2 AB
def Msg.page : Msg → Nat
  | .ask _ _ p _ _ => p
  | .put _ _ p _ _ => p
  | .grant _ _ p _ _ _ => p
  | .given _ _ p _ _ => p
  | .have_ _ _ p _ => p
theorem mOk_far {p : Nat} {h : Hm} {own : Nat → Hold} {m : Msg} (c : m.page ≠ p) : mOk p h own m := by
  cases m <;> exact fun e => absurd e c
section
variable {many : Nat} {h : Hm} {n : Nat} {q : Int} {k : Kd} {ws : List Int}
theorem WFh.served (w : WFh many h) : WFh many (servedH h n q) := ⟨w.wr, w.rd, w.as_, w.wa, w.ww, w.no⟩
theorem WFh.free (w : WFh many h) : WFh many (freeH h) := ⟨w.wr, w.rd, fun _ z => (nomatch z), w.wa, w.ww, w.no⟩
theorem WFh.begin (w : WFh many h) (hn : n < many) : WFh many (beginH h n k) := by
  refine ⟨w.wr, w.rd, fun m z => ?_, fun j z => ?_, w.ww, ?_⟩
  · obtain rfl : n = m := Option.some.inj z
    exact ⟨hn, ⟨k, rfl⟩, by have := w.no; show _ ≤ h.number + 1; omega⟩
  · by_cases c : h.writer = some j
    · exact w.wr j c
    · by_cases c2 : k = .w ∧ h.readers j = true ∧ j ≠ n
      · exact w.rd j c2.2.1
      · exact absurd (show (if h.writer = some j then some (if k = .w then Wd.go else .sh) else if k = .w ∧ h.readers j = true ∧ j ≠ n then some .go else none) = none by rw [if_neg c, if_neg c2]) z
  · have := w.no
    show _ ≤ h.number + 1
    omega
theorem WFh.grant (w : WFh many h) : WFh many (grantH h) := by
  unfold grantH
  split
  · exact ⟨fun n z => (w.as_ n z).1, fun n z => (nomatch z), w.as_, w.wa, w.ww, w.no⟩
  · refine ⟨w.wr, fun n z => ?_, w.as_, w.wa, w.ww, w.no⟩
    rcases Bool.or_eq_true _ _ ▸ z with y | y
    · exact (w.as_ n (of_decide_eq_true y)).1
    · exact w.rd n y
theorem WFh.began (w : WFh many h) (hn : n < many) : WFh many (beganH many h n k) := by
  unfold beganH
  split
  · exact (w.begin hn).grant
  · exact w.begin hn
theorem WFh.given (w : WFh many h) (hn : n < many) (hw : ws.length = 16) : WFh many (givenH many h n ws) := by
  obtain ⟨e1, e2, e3, e4, e5, e6, e7⟩ := given_same h n ws
  have hg : WFh many (given2 (given1 h n ws) n) := by
    refine ⟨fun m z => ?_, fun m z => ?_, fun m z => ?_, fun m z => ?_, ?_, ?_⟩
    · rw [e7] at z
      split at z
      · cases z
      · exact w.wr m z
    · rw [e6] at z
      by_cases c : m = n
      · rw [c]; exact hn
      · rw [if_neg c] at z; exact w.rd m z
    · rw [e2] at z
      rw [e3, e1]
      exact w.as_ m z
    · rw [e5] at z
      by_cases c : m = n
      · rw [c]; exact hn
      · rw [if_neg c] at z; exact w.wa m z
    · show (given1 h n ws).words.length = 16
      unfold given1
      split
      · exact hw
      · exact w.ww
    · rw [e1]; exact w.no
  unfold givenH
  split
  · exact hg.grant
  · exact hg
end
structure Inv (S : Sy) : Prop where
  wf : WF S
  pg : ∀ p, InvP p (S.homes p) (fun i => S.held i p)
  ms : ∀ m ∈ S.way, ∀ p, mOk p (S.homes p) (fun i => S.held i p) m
section
variable {S : Sy} {m : Msg} {n p i : Nat} {q : Int} {k : Kd} {ws : List Int}
theorem setHome_same {h : Hm} : (setHome S p h).homes p = h := if_pos rfl
theorem setHome_ne {h : Hm} {r : Nat} (c : r ≠ p) : (setHome S p h).homes r = S.homes r := if_neg c
theorem setHold_col {x : Hold} : (fun i => (setHold S n p x).held i p) = setO (fun i => S.held i p) n x := by
  funext j
  show (if j = n ∧ p = p then x else S.held j p) = if j = n then x else S.held j p
  by_cases c : j = n
  · rw [if_pos ⟨c, rfl⟩, if_pos c]
  · rw [if_neg (fun z => c z.1), if_neg c]
theorem setHold_ne {x : Hold} {r : Nat} (c : r ≠ p) : (fun i => (setHold S n p x).held i r) = fun i => S.held i r := by
  funext j
  exact if_neg fun z => c z.2
theorem setHold_same {x : Hold} : (setHold S n p x).held n p = x := if_pos ⟨rfl, rfl⟩
/-- a home changed, messages sent by it -/
theorem Inv.home {h : Hm} {new : List Msg} (I : Inv S) (wh : WFh S.many h) (ip : InvP p h (fun i => S.held i p)) (mo : ∀ m, mOk p (S.homes p) (fun i => S.held i p) m → mOk p h (fun i => S.held i p) m)
    (nw : ∀ m ∈ new, okM S.many S.pages m ∧ m.page = p ∧ mOk p h (fun i => S.held i p) m) : Inv { setHome S p h with way := S.way ++ new } := by
  have w := I.wf
  refine ⟨⟨w.m1, w.m4, w.p1, w.p8, w.hw, w.ha, fun r => ?_, fun m hm => ?_⟩, fun r => ?_, fun m hm r => ?_⟩
  · show WFh S.many ((setHome S p h).homes r)
    by_cases c : r = p
    · rw [c, setHome_same]; exact wh
    · rw [setHome_ne c]; exact w.hm r
  · rcases List.mem_append.mp hm with z | z
    · exact w.ms m z
    · exact (nw m z).1
  · show InvP r ((setHome S p h).homes r) (fun i => S.held i r)
    by_cases c : r = p
    · rw [c, setHome_same]; exact ip
    · rw [setHome_ne c]; exact I.pg r
  · show mOk r ((setHome S p h).homes r) (fun i => S.held i r) m
    rcases List.mem_append.mp hm with z | z
    · by_cases c : r = p
      · rw [c, setHome_same]; exact mo m (I.ms m z p)
      · rw [setHome_ne c]; exact I.ms m z r
    · by_cases c : r = p
      · rw [c, setHome_same]; exact (nw m z).2.2
      · exact mOk_far (by rw [(nw m z).2.1]; exact fun y => c y.symm)
theorem app_nil (S : Sy) (h : Hm) (p : Nat) : { setHome S p h with way := S.way ++ [] } = setHome S p h := by
  rw [List.append_nil]
  rfl
/-- a node's page changed -/
theorem Inv.hold {x : Hold} (I : Inv S) (xw : x.words.length = 16) (xa : x.last = 0 ∨ ∃ m, x.answer = some m ∧ okM S.many S.pages m) (ip : InvP p (S.homes p) (setO (fun i => S.held i p) n x))
    (mo : ∀ m, mOk p (S.homes p) (fun i => S.held i p) m → mOk p (S.homes p) (setO (fun i => S.held i p) n x) m) : Inv (setHold S n p x) := by
  have w := I.wf
  refine ⟨⟨w.m1, w.m4, w.p1, w.p8, fun i r => ?_, fun i r => ?_, w.hm, w.ms⟩, fun r => ?_, fun m hm r => ?_⟩
  · show (if i = n ∧ r = p then x else S.held i r).words.length = 16
    split
    · exact xw
    · exact w.hw i r
  · show (if i = n ∧ r = p then x else S.held i r).last = 0 ∨ ∃ m, (if i = n ∧ r = p then x else S.held i r).answer = some m ∧ okM S.many S.pages m
    split
    · exact xa
    · exact w.ha i r
  · show InvP r (S.homes r) (fun i => (setHold S n p x).held i r)
    by_cases c : r = p
    · subst c; rw [setHold_col]; exact ip
    · rw [setHold_ne c]; exact I.pg r
  · show mOk r (S.homes r) (fun i => (setHold S n p x).held i r) m
    by_cases c : r = p
    · subst c; rw [setHold_col]; exact mo m (I.ms m hm r)
    · rw [setHold_ne c]; exact I.ms m hm r
/-- messages that are on their way already, or answers -/
theorem Inv.send {new : List Msg} (I : Inv S) (nw : ∀ m ∈ new, okM S.many S.pages m ∧ ∀ p, mOk p (S.homes p) (fun i => S.held i p) m) : Inv { S with way := S.way ++ new } := by
  have w := I.wf
  refine ⟨⟨w.m1, w.m4, w.p1, w.p8, w.hw, w.ha, w.hm, fun m hm => ?_⟩, I.pg, fun m hm => ?_⟩
  · rcases List.mem_append.mp hm with z | z
    · exact w.ms m z
    · exact (nw m z).1
  · rcases List.mem_append.mp hm with z | z
    · exact I.ms m z
    · exact (nw m z).2
theorem Inv.drop {ms : List Msg} (I : Inv S) (h : ∀ m ∈ ms, m ∈ S.way) : Inv { S with way := ms } := by
  have w := I.wf
  exact ⟨⟨w.m1, w.m4, w.p1, w.p8, w.hw, w.ha, w.hm, fun m hm => w.ms m (h m hm)⟩, I.pg, fun m hm => I.ms m (h m hm)⟩
theorem push_page {many : Nat} {h : Hm} (hm : m ∈ pushW many p h) : m.page = p := by
  rcases List.mem_append.mp hm with z | z
  · obtain ⟨j, _, rfl⟩ := List.mem_map.mp z
    rfl
  · split at z
    · obtain rfl := List.mem_singleton.mp z
      rfl
    · cases z
theorem push_ok {many pages : Nat} {h : Hm} (w : WFh many h) (hp : p < pages) (ha : h.asker ≠ none) (hm : m ∈ pushW many p h) : okM many pages m := by
  obtain ⟨a, ha⟩ : ∃ a, h.asker = some a := by
    cases hq : h.asker with
    | none => exact absurd hq ha
    | some a => exact ⟨a, rfl⟩
  have h1 := (w.as_ a ha).2.2
  rcases List.mem_append.mp hm with z | z
  · obtain ⟨j, hj, rfl⟩ := List.mem_map.mp z
    exact ⟨List.mem_range.mp (List.mem_filter.mp hj).1, hp, h1⟩
  · split at z
    · obtain rfl := List.mem_singleton.mp z
      exact ⟨by show h.asker.getD 0 < _; rw [ha]; exact (w.as_ a ha).1, hp, h1, w.ww⟩
    · cases z
theorem Inv.push {h : Hm} (I : Inv S) (wh : WFh S.many h) (hp : p < S.pages) (ha : h.asker ≠ none) (hm : m ∈ pushW S.many p h) : okM S.many S.pages m ∧ m.page = p ∧ mOk p h (fun i => S.held i p) m :=
  ⟨push_ok wh hp ha hm, push_page hm, mOk.push (fun a z => (wh.as_ a z).2.1) wh.wa hm⟩
theorem Inv.asked (I : Inv S) (hn : n < S.many) (hp : p < S.pages) (hm : q ≤ (S.held n p).asked ∧ (q = (S.held n p).asked → ∀ j, (S.held n p).want = some j → j = k)) : Inv (askedS S n p q k) := by
  unfold askedS
  split
  · exact I
  · rename_i c
    have hid : (S.homes p).asker = none := Classical.byContradiction fun z => c (.inl z)
    have hq : ((S.homes p).served n).getD 0 < q := by
      refine Classical.byContradiction fun z => c (.inr ?_)
      omega
    split
    · rename_i hh
      have := I.home (p := p) (new := []) (wh := (I.wf.hm p).served) ((I.pg p).served hid hm hh) (fun m z => by cases m <;> exact z) (fun m z => nomatch z)
      rw [app_nil] at this
      exact this
    · rename_i hh
      have hh : hasIt (S.homes p) n k = false := by simpa using hh
      obtain ⟨z1, z2⟩ := (I.pg p).began (I.wf.hm p) hn hid hq hm hh
      have wh := ((I.wf.hm p).served (n := n) (q := q)).began (k := k) hn
      refine I.home wh z1 z2 fun m hm => I.push wh hp ?_ hm
      unfold beganH
      split
      · rw [(grantH_same _).2.1]; exact fun z => nomatch z
      · exact fun z => nomatch z
theorem Inv.had (I : Inv S) (hm : q ≤ (S.held n p).last) : Inv (hadS S n p q) := by
  unfold hadS
  split
  · rename_i c
    obtain ⟨c1, c2, c3⟩ := c
    have nw : noW (S.homes p) := (noW_iff (I.wf.hm p).wa).mp (by rw [granting, c1] at c3; exact c3)
    obtain ⟨z1, z2⟩ := (I.pg p).had c1 (by rw [← c2]; exact hm) nw
    have := I.home (p := p) (new := []) (I.wf.hm p).free z1 z2 (fun m z => nomatch z)
    rw [app_nil] at this
    exact this
  · exact I
theorem Inv.given (I : Inv S) (hn : n < S.many) (hp : p < S.pages) (hw : ws.length = 16) (hm : q ≤ (S.held n p).last) : Inv (givenS S n p q ws) := by
  unfold givenS
  split
  · rename_i c
    obtain ⟨c1, c2, c3⟩ := c
    obtain ⟨a, ha⟩ : ∃ a, (S.homes p).asker = some a := by
      cases hq : (S.homes p).asker with
      | none => exact absurd hq c1
      | some a => exact ⟨a, rfl⟩
    obtain ⟨w, hwt⟩ : ∃ w, (S.homes p).waits n = some w := by
      cases hq : (S.homes p).waits n with
      | none => exact absurd hq c3
      | some a => exact ⟨a, rfl⟩
    obtain ⟨_, ⟨k, hk⟩, _⟩ := (I.wf.hm p).as_ a ha
    obtain ⟨z1, z2⟩ := (I.pg p).given (I.wf.hm p) ha hk (by rw [← c2]; exact hm) hwt ws
    have wh := (I.wf.hm p).given hn hw
    refine I.home wh z1 z2 fun m hm => ?_
    split at hm
    · rename_i cg
      exact I.push wh hp (fun z => by rw [granting, z] at cg; cases cg) hm
    · cases hm
  · exact I
theorem Inv.ans (I : Inv S) (hq : 1 ≤ q) : Inv (ansS S n p q) := by
  unfold ansS
  split
  · rename_i c
    refine I.send fun m hm => ?_
    have hm' : (S.held n p).answer = some m := by
      cases hz : (S.held n p).answer with
      | none => rw [hz] at hm; cases hm
      | some x => rw [hz] at hm; rw [List.mem_singleton.mp hm]
    refine ⟨?_, fun r => ?_⟩
    · rcases I.wf.ha n p with z | ⟨m', e, z⟩
      · omega
      · rw [hm'] at e
        rw [Option.some.inj e]
        exact z
    · rcases (I.pg p).ans n m hm' with ⟨y, q', ws, rfl, z⟩ | ⟨y, q', rfl, z⟩
      · intro e
        have e' : p = r := e
        subst e'
        exact z
      · intro e
        have e' : p = r := e
        subst e'
        exact z
  · exact I
theorem Inv.put {y : Nat} {w : Wd} (I : Inv S) (hn : n < S.many) (hp : p < S.pages) (hq : 1 ≤ q) (hm : q ≤ (S.held n p).last ∨ (q = (S.homes p).number ∧ (S.homes p).waits n = some w)) : Inv (putS S y n p q w) := by
  unfold putS
  refine Inv.ans ?_ hq
  split
  · rename_i c
    rcases hm with z | ⟨z1, z2⟩
    · omega
    · subst z1
      refine I.hold (I.wf.hw n p) (.inr ⟨_, rfl, hn, hp, I.wf.hw n p⟩) ((I.pg p).put c z2 y) fun m z => mOk_ch z (Int.le_of_lt c) (Int.le_refl _) fun _ _ z => z
  · exact I
theorem Inv.get {y : Nat} (I : Inv S) (hn : n < S.many) (hp : p < S.pages) (hq : 1 ≤ q) (hw : ws.length = 16) (hm : q ≤ (S.held n p).last ∨ (q = (S.homes p).number ∧ (S.homes p).asker = some n ∧ (S.homes p).kind = some k ∧ noW (S.homes p))) : Inv (getS S y n p q k ws) := by
  unfold getS
  refine Inv.ans ?_ hq
  split
  · rename_i c
    rcases hm with z | ⟨z1, z2, z3, z4⟩
    · omega
    · subst z1
      refine I.hold hw (.inr ⟨_, rfl, hn, hp⟩) ((I.pg p).get z2 z3 z4 c y ws) fun m z => mOk_ch z (Int.le_of_lt c) (Int.le_refl _) fun _ j z => ?_
      have e : (if (S.held n p).want = some .r ∨ k = .w then none else (S.held n p).want) = some j := z
      split at e
      · cases e
      · exact e
  · exact I
theorem Inv.come (I : Inv S) (ho : okM S.many S.pages m) (hm : ∀ p, mOk p (S.homes p) (fun i => S.held i p) m) : Inv (comeS S m) := by
  cases m with
  | ask n y p q k => exact I.asked ho.1 ho.2 (hm p rfl)
  | put y n p q w => exact I.put ho.1 ho.2.1 ho.2.2 (hm p rfl)
  | grant y n p q k ws => exact I.get ho.1 ho.2.1 ho.2.2.1 ho.2.2.2 (hm p rfl)
  | given n y p q ws => exact I.given ho.1 ho.2.1 ho.2.2 (hm p rfl)
  | have_ n y p q => exact I.had (hm p rfl)
theorem mem_erase {α : Type} {l : List α} {i : Nat} {x : α} (h : x ∈ l.eraseIdx i) : x ∈ l := (List.eraseIdx_sublist l i).subset h
theorem Inv.lose (I : Inv S) (k : Int) : Inv (loseS S k) := I.drop fun m h => mem_erase h
theorem Inv.deliver (I : Inv S) (k : Int) : Inv (deliverS S k) := by
  unfold deliverS
  split
  · rename_i m hm
    have h := List.mem_of_getElem? hm
    exact (I.lose k).come (I.wf.ms m h) (I.ms m h)
  · exact I
theorem Inv.double (I : Inv S) (k : Int) : Inv (doubleS S k) := by
  unfold doubleS
  split
  · rename_i m hm
    have h := List.mem_of_getElem? hm
    exact I.send fun x hx => by rw [List.mem_singleton.mp hx]; exact ⟨I.wf.ms m h, I.ms m h⟩
  · exact I
theorem Inv.want (I : Inv S) (hm : (S.held n p).mode ≠ some .w ∧ (k = .r → (S.held n p).mode = none)) : Inv (setHold S n p (wantH (S.held n p) k)) := by
  obtain ⟨z1, z2⟩ := InvP.want (n := n) (k := k) (I.pg p) hm
  have e : (wantH (S.held n p) k).words = (S.held n p).words ∧ (wantH (S.held n p) k).last = (S.held n p).last ∧ (wantH (S.held n p) k).answer = (S.held n p).answer := by
    unfold wantH
    split <;> exact ⟨rfl, rfl, rfl⟩
  exact I.hold (by rw [e.1]; exact I.wf.hw n p) (by rw [e.2.1, e.2.2]; exact I.wf.ha n p) z1 z2
theorem Inv.word {x : Nat} {wd : Int} (I : Inv S) (hx : x < 16) : Inv (setHold S n p (putWord (S.held n p) x wd)) := by
  obtain ⟨z1, z2⟩ := (I.pg p).like (own' := setO (fun i => S.held i p) n (putWord (S.held n p) x wd)) fun j => by
    by_cases c : j = n
    · rw [c, setO_same]; exact ⟨rfl, rfl, rfl, rfl, rfl⟩
    · rw [setO_ne c]; exact ⟨rfl, rfl, rfl, rfl, rfl⟩
  refine I.hold ?_ (I.wf.ha n p) z1 z2
  have := I.wf.hw n p
  show (List.take x (S.held n p).words ++ wd :: List.drop (x + 1) (S.held n p).words).length = 16
  rw [List.length_append, List.length_take, List.length_cons, List.length_drop]
  omega
theorem Inv.tick (I : Inv S) (hi : i < S.many) : Inv (tickS S i) := by
  refine I.send fun m hm => ?_
  rcases List.mem_append.mp hm with z | z
  · obtain ⟨p, hp, h⟩ := List.mem_flatMap.mp z
    unfold askL at h
    split at h
    · rename_i k hk
      obtain rfl := List.mem_singleton.mp h
      refine ⟨⟨hi, List.mem_range.mp hp⟩, fun r e => ?_⟩
      have e' : p = r := e
      subst e'
      exact ⟨Int.le_refl _, fun _ j hj => Option.some.inj (hj.symm.trans hk)⟩
    · cases h
  · obtain ⟨p, hp, h⟩ := List.mem_flatMap.mp z
    unfold pushL at h
    split at h
    · rename_i c
      obtain ⟨z1, z2, z3⟩ := I.push (I.wf.hm p) (List.mem_range.mp hp) c.2 h
      refine ⟨z1, fun r => ?_⟩
      by_cases c : r = p
      · rw [c]; exact z3
      · exact mOk_far (by rw [z2]; exact fun y => c y.symm)
    · cases h
end
end K57
set_option Elab.async false
set_option linter.all false
set_option maxRecDepth 100000
set_option maxHeartbeats 4000000
/-! K57Zd: how many messages may still come: a measure that each delivery makes less. -/
namespace K57
open PySem L2 AB
def cost : Msg → Nat
  | .ask _ _ _ _ _ => 1
  | .put _ _ _ _ _ => 2
  | .grant _ _ _ _ _ _ => 2
  | .given _ _ _ _ _ => 1
  | .have_ _ _ _ _ => 1
def wayP (ms : List Msg) : Nat := (ms.map cost).sum
def sumR (n : Nat) (f : Nat → Nat) : Nat := ((List.range n).map f).sum
def flag (many : Nat) (h : Hm) : Nat := if noWaits many h = true then 0 else 2
def gapP (h : Hm) (own : Nat → Hold) (i : Nat) : Nat := ((own i).asked - (h.served i).getD 0).toNat
def pgV (many : Nat) (h : Hm) (own : Nat → Hold) : Nat := flag many h + 8 * sumR many (gapP h own)
def restP (S : Sy) : Nat := sumR S.pages fun p => pgV S.many (S.homes p) fun i => S.held i p
def pot (S : Sy) : Nat := wayP S.way + restP S
theorem wayP_app (a b : List Msg) : wayP (a ++ b) = wayP a + wayP b := by
  unfold wayP
  rw [List.map_append, List.sum_append_nat]
theorem wayP_len : ∀ ms : List Msg, ms.length ≤ wayP ms
  | [] => Nat.zero_le _
  | m :: ms => by
    have := wayP_len ms
    have : 1 ≤ cost m := by cases m <;> simp [cost]
    show ms.length + 1 ≤ cost m + wayP ms
    omega
theorem sumR_succ (n : Nat) (f : Nat → Nat) : sumR (n + 1) f = sumR n f + f n := by
  unfold sumR
  rw [List.range_succ, List.map_append, List.sum_append_nat]
  simp
theorem sumR_congr {f g : Nat → Nat} : ∀ {n : Nat}, (∀ i, i < n → f i = g i) → sumR n f = sumR n g
  | 0, _ => rfl
  | n + 1, h => by rw [sumR_succ, sumR_succ, sumR_congr fun i hi => h i (by omega), h n (by omega)]
theorem sumR_one {f g : Nat → Nat} {p : Nat} : ∀ {n : Nat}, p < n → (∀ i, i ≠ p → f i = g i) → sumR n f + g p = sumR n g + f p
  | n + 1, hp, h => by
    rw [sumR_succ, sumR_succ]
    by_cases c : p = n
    · subst c
      rw [sumR_congr fun i hi => h i (by omega)]
      omega
    · have := sumR_one (f := f) (g := g) (p := p) (n := n) (by omega) h
      rw [h n (fun z => c z.symm)]
      omega
theorem sumR_le {f g : Nat → Nat} : ∀ {n : Nat}, (∀ i, i < n → f i ≤ g i) → sumR n f ≤ sumR n g
  | 0, _ => Nat.le_refl _
  | n + 1, h => by
    rw [sumR_succ, sumR_succ]
    have := sumR_le (n := n) fun i hi => h i (by omega)
    have := h n (by omega)
    omega
theorem erase_cost : ∀ {ms : List Msg} {i : Nat} {m : Msg}, ms[i]? = some m → wayP (ms.eraseIdx i) + cost m = wayP ms
  | [], _, _, h => by simp at h
  | x :: ms, 0, m, h => by
    obtain rfl : x = m := by simpa using h
    show wayP ms + _ = cost x + wayP ms
    omega
  | x :: ms, i + 1, m, h => by
    have := erase_cost (ms := ms) (i := i) (m := m) (by simpa using h)
    show (cost x + wayP (ms.eraseIdx i)) + cost m = cost x + wayP ms
    omega
section
variable {S : Sy} {m : Msg} {n p i : Nat} {q : Int} {k : Kd} {ws : List Int} {h : Hm}
theorem waits_len {many : Nat} {h : Hm} {a : Nat} (hm : many ≤ 4) (ha : a < many) (hn : h.waits a = none) : (waitsL many h).length + 1 ≤ many := by
  have hd : (waitsL many h).Nodup := List.Pairwise.filter _ List.nodup_range
  have hs : a :: waitsL many h ⊆ List.range many := by
    intro x hx
    rcases List.mem_cons.mp hx with e | e
    · rw [e]; exact List.mem_range.mpr ha
    · exact (List.mem_filter.mp e).1
  have hn2 : a ∉ waitsL many h := fun z => by
    have := (List.mem_filter.mp z).2
    simp [hn] at this
  have := nodup_le (List.nodup_cons.mpr ⟨hn2, hd⟩) hs
  simpa using this
theorem puts_cost (many p : Nat) (h : Hm) : wayP ((waitsL many h).map (putM p h)) = 2 * (waitsL many h).length := by
  unfold wayP
  rw [List.map_map]
  generalize waitsL many h = l
  induction l with
  | nil => rfl
  | cons x l ih => rw [List.map_cons, List.sum_cons, ih, List.length_cons]; show 2 + _ = _; omega
theorem noWaits_nil {many : Nat} {h : Hm} (c : noWaits many h = true) : waitsL many h = [] := by
  refine List.filter_eq_nil_iff.mpr fun n hn => ?_
  have := List.all_eq_true.mp c n hn
  simp [Option.isNone_iff_eq_none.mp this]
theorem push_cost {many : Nat} {h : Hm} {a : Nat} (hm : many ≤ 4) (ha : a < many) (hn : h.waits a = none) : wayP (pushW many p h) + flag many h ≤ 8 ∧ wayP (pushW many p h) ≤ max 2 (2 * (many - 1)) := by
  have hl := waits_len hm ha hn
  unfold pushW flag
  rw [wayP_app, puts_cost]
  by_cases c : noWaits many h = true
  · rw [if_pos c, noWaits_nil c]
    split
    · exact ⟨by show 2 * 0 + 2 + 0 ≤ 8; decide, by show 2 * 0 + 2 ≤ max 2 _; omega⟩
    · exact ⟨by show 2 * 0 + 0 + 0 ≤ 8; decide, Nat.zero_le _⟩
  · rw [if_neg c, if_neg (fun z => c (by rw [granting, Bool.and_eq_true] at z; exact z.2))]
    exact ⟨by show 2 * _ + 0 + 2 ≤ 8; omega, by show 2 * _ + 0 ≤ _; omega⟩
theorem pot_home {new : List Msg} (hp : p < S.pages) : pot { setHome S p h with way := S.way ++ new } + pgV S.many (S.homes p) (fun i => S.held i p) = pot S + wayP new + pgV S.many h (fun i => S.held i p) := by
  have := sumR_one (f := fun r => pgV S.many ((setHome S p h).homes r) fun i => S.held i r) (g := fun r => pgV S.many (S.homes r) fun i => S.held i r) (p := p) (n := S.pages) hp fun r hr => by
    show pgV _ ((setHome S p h).homes r) _ = _
    rw [setHome_ne hr]
  rw [setHome_same] at this
  show wayP (S.way ++ new) + sumR S.pages (fun r => pgV S.many ((setHome S p h).homes r) fun i => S.held i r) + _ = _
  rw [wayP_app]
  unfold pot restP
  omega
theorem pot_app {new : List Msg} : pot { S with way := S.way ++ new } = pot S + wayP new := by
  show wayP (S.way ++ new) + restP S = wayP S.way + restP S + wayP new
  rw [wayP_app]
  omega
theorem pot_hold {x : Hold} (hp : p < S.pages) (hi : i < S.many) : pot (setHold S i p x) + 8 * gapP (S.homes p) (fun i => S.held i p) i = pot S + 8 * (x.asked - ((S.homes p).served i).getD 0).toNat := by
  have h1 := sumR_one (f := fun r => pgV S.many (S.homes r) fun j => (setHold S i p x).held j r) (g := fun r => pgV S.many (S.homes r) fun j => S.held j r) (p := p) (n := S.pages) hp fun r hr => by
    show pgV _ _ (fun j => (setHold S i p x).held j r) = _
    rw [setHold_ne hr]
  have h2 := sumR_one (f := gapP (S.homes p) (setO (fun j => S.held j p) i x)) (g := gapP (S.homes p) fun j => S.held j p) (p := i) (n := S.many) hi fun j hj => by
    unfold gapP
    rw [setO_ne hj]
  have h3 : gapP (S.homes p) (setO (fun j => S.held j p) i x) i = (x.asked - ((S.homes p).served i).getD 0).toNat := by
    unfold gapP
    rw [setO_same]
  rw [setHold_col] at h1
  show wayP S.way + sumR S.pages (fun r => pgV S.many (S.homes r) fun j => (setHold S i p x).held j r) + _ = _
  unfold pot restP
  unfold pgV at h1 ⊢
  omega
theorem pgV_like {h' : Hm} {many : Nat} {own : Nat → Hold} (e1 : h'.waits = h.waits) (e2 : h'.served = h.served) : pgV many h' own = pgV many h own := by
  unfold pgV flag noWaits gapP
  rw [e1, e2]
theorem gap_served {many : Nat} {own : Nat → Hold} (hn : n < many) (hq : (h.served n).getD 0 < q) (ha : q ≤ (own n).asked) : sumR many (gapP (servedH h n q) own) + 1 ≤ sumR many (gapP h own) := by
  have := sumR_one (f := gapP (servedH h n q) own) (g := gapP h own) (p := n) (n := many) hn fun j hj => by
    show ((own j).asked - ((if j = n then some q else h.served j).getD 0)).toNat = _
    rw [if_neg hj]
    rfl
  have e : gapP (servedH h n q) own n = ((own n).asked - q).toNat := by
    show ((own n).asked - ((if n = n then some q else h.served n).getD 0)).toNat = _
    rw [if_pos rfl]
    rfl
  have e2 : gapP h own n = ((own n).asked - (h.served n).getD 0).toNat := rfl
  omega
theorem gap_like {h' : Hm} {many : Nat} {own : Nat → Hold} (e2 : h'.served = h.served) : sumR many (gapP h' own) = sumR many (gapP h own) := by
  unfold gapP
  rw [e2]
theorem began_same (many : Nat) (h : Hm) (n : Nat) (k : Kd) : (beganH many h n k).served = h.served ∧ (beganH many h n k).asker = some n ∧ (beganH many h n k).kind = some k ∧ (beganH many h n k).number = h.number + 1 ∧ (beganH many h n k).waits = (beginH h n k).waits := by
  unfold beganH
  split
  · obtain ⟨e1, e2, e3, e4, e5⟩ := grantH_same (beginH h n k)
    exact ⟨e5.trans rfl, e2.trans rfl, e3.trans rfl, e1.trans rfl, e4⟩
  · exact ⟨rfl, rfl, rfl, rfl, rfl⟩
theorem Inv.pot_asked (I : Inv S) (hn : n < S.many) (hp : p < S.pages) (hm : q ≤ (S.held n p).asked) : pot (askedS S n p q k) ≤ pot S := by
  unfold askedS
  split
  · exact Nat.le_refl _
  · rename_i c
    have hq : ((S.homes p).served n).getD 0 < q := by
      refine Classical.byContradiction fun z => c (.inr ?_)
      omega
    have g := gap_served (h := S.homes p) (own := fun i => S.held i p) hn hq hm
    split
    · have := pot_home (h := servedH (S.homes p) n q) (new := []) hp
      rw [app_nil] at this
      have e : flag S.many (servedH (S.homes p) n q) = flag S.many (S.homes p) := rfl
      unfold pgV at this
      have : wayP [] = 0 := rfl
      omega
    · rename_i hh
      have hh : hasIt (S.homes p) n k = false := by simpa using hh
      obtain ⟨e1, e2, e3, e4, e5⟩ := began_same S.many (servedH (S.homes p) n q) n k
      have h0 : (beganH S.many (servedH (S.homes p) n q) n k).waits n = none := by
        rw [e5]
        have hh1 : (S.homes p).writer ≠ some n := fun z => by rw [hasIt, decide_eq_true z] at hh; cases hh
        show (if (S.homes p).writer = some n then some (if k = .w then Wd.go else .sh) else if k = .w ∧ (S.homes p).readers n = true ∧ n ≠ n then some .go else none) = none
        rw [if_neg hh1, if_neg (fun z => z.2.2 rfl)]
      have pc := (push_cost (p := p) I.wf.m4 hn h0).1
      have := pot_home (h := beganH S.many (servedH (S.homes p) n q) n k) (new := pushW S.many p (beganH S.many (servedH (S.homes p) n q) n k)) hp
      unfold pgV at this
      rw [gap_like (h := servedH (S.homes p) n q) e1] at this
      omega
theorem Inv.pot_had (I : Inv S) (hp : p < S.pages) : pot (hadS S n p q) ≤ pot S := by
  unfold hadS
  split
  · have := pot_home (h := freeH (S.homes p)) (new := []) hp
    rw [app_nil, pgV_like (h' := freeH (S.homes p)) (h := S.homes p) rfl rfl] at this
    have : wayP [] = 0 := rfl
    omega
  · exact Nat.le_refl _
theorem givenH_same (many : Nat) (h : Hm) (n : Nat) (ws : List Int) : (givenH many h n ws).number = h.number ∧ (givenH many h n ws).asker = h.asker ∧ (givenH many h n ws).kind = h.kind ∧ (givenH many h n ws).served = h.served ∧ ∀ j, (givenH many h n ws).waits j = if j = n then none else h.waits j := by
  obtain ⟨e1, e2, e3, e4, e5, e6, e7⟩ := given_same h n ws
  unfold givenH
  split
  · obtain ⟨f1, f2, f3, f4, f5⟩ := grantH_same (given2 (given1 h n ws) n)
    exact ⟨f1.trans e1, f2.trans e2, f3.trans e3, f5.trans e4, fun j => by rw [f4]; exact e5 j⟩
  · exact ⟨e1, e2, e3, e4, e5⟩
theorem Inv.pot_given (I : Inv S) (hp : p < S.pages) : pot (givenS S n p q ws) ≤ pot S := by
  unfold givenS
  split
  · rename_i c
    have h1 := pot_home (h := givenH S.many (S.homes p) n ws) (new := if granting S.many (givenH S.many (S.homes p) n ws) = true then pushW S.many p (givenH S.many (S.homes p) n ws) else []) hp
    obtain ⟨e1, e2, e3, e4, e5⟩ := givenH_same S.many (S.homes p) n ws
    unfold pgV at h1
    rw [gap_like (h := S.homes p) e4] at h1
    have f1 : flag S.many (S.homes p) = 2 := by
      unfold flag
      rw [if_neg]
      intro z
      exact c.2.2 ((noW_iff (I.wf.hm p).wa).mp z n)
    by_cases cg : granting S.many (givenH S.many (S.homes p) n ws) = true
    · have nw : noWaits S.many (givenH S.many (S.homes p) n ws) = true := by
        rw [granting, Bool.and_eq_true] at cg
        exact cg.2
      rw [if_pos cg] at h1 ⊢
      have f2 : flag S.many (givenH S.many (S.homes p) n ws) = 0 := if_pos nw
      have f3 : wayP (pushW S.many p (givenH S.many (S.homes p) n ws)) = 2 := by
        unfold pushW
        rw [noWaits_nil nw, if_pos cg]
        rfl
      omega
    · rw [if_neg cg] at h1 ⊢
      have f2 : flag S.many (givenH S.many (S.homes p) n ws) ≤ 2 := by
        unfold flag
        split <;> decide
      have : wayP [] = 0 := rfl
      omega
  · exact Nat.le_refl _
theorem Inv.pot_ans (I : Inv S) : pot (ansS S n p q) ≤ pot S + 1 := by
  unfold ansS
  split
  · rw [pot_app]
    have : wayP (S.held n p).answer.toList ≤ 1 := by
      cases hz : (S.held n p).answer with
      | none => exact Nat.zero_le _
      | some m =>
        rcases (I.pg p).ans n m hz with ⟨y, q', ws, rfl, z⟩ | ⟨y, q', rfl, z⟩ <;> exact Nat.le_refl _
    omega
  · exact Nat.le_succ _
theorem pot_same {x : Hold} (hp : p < S.pages) (hi : i < S.many) (e : x.asked = (S.held i p).asked) : pot (setHold S i p x) = pot S := by
  have := pot_hold (x := x) hp hi
  have e2 : gapP (S.homes p) (fun i => S.held i p) i = (x.asked - ((S.homes p).served i).getD 0).toNat := by rw [e]; rfl
  omega
theorem Inv.pot_put {y : Nat} {w : Wd} (I : Inv S) (hn : n < S.many) (hp : p < S.pages) (hq : 1 ≤ q) (hm : q ≤ (S.held n p).last ∨ (q = (S.homes p).number ∧ (S.homes p).waits n = some w)) : pot (putS S y n p q w) ≤ pot S + 1 := by
  unfold putS
  split
  · rename_i c
    rcases hm with z | ⟨z1, z2⟩
    · omega
    · subst z1
      have I2 := I.hold (p := p) (n := n) (x := putH (S.held n p) y n p (S.homes p).number w) (I.wf.hw n p) (.inr ⟨_, rfl, hn, hp, I.wf.hw n p⟩) ((I.pg p).put c z2 y) fun m z => mOk_ch z (Int.le_of_lt c) (Int.le_refl _) fun _ _ z => z
      have h2 := I2.pot_ans (n := n) (p := p) (q := (S.homes p).number)
      rw [pot_same (x := putH (S.held n p) y n p (S.homes p).number w) hp hn rfl] at h2
      exact h2
  · exact I.pot_ans
theorem Inv.pot_get {y : Nat} (I : Inv S) (hn : n < S.many) (hp : p < S.pages) (hq : 1 ≤ q) (hw : ws.length = 16) (hm : q ≤ (S.held n p).last ∨ (q = (S.homes p).number ∧ (S.homes p).asker = some n ∧ (S.homes p).kind = some k ∧ noW (S.homes p))) : pot (getS S y n p q k ws) ≤ pot S + 1 := by
  unfold getS
  split
  · rename_i c
    rcases hm with z | ⟨z1, z2, z3, z4⟩
    · omega
    · subst z1
      have I2 := I.hold (p := p) (n := n) (x := getH (S.held n p) y n p (S.homes p).number k ws) hw (.inr ⟨_, rfl, hn, hp⟩) ((I.pg p).get z2 z3 z4 c y ws) fun m z => mOk_ch z (Int.le_of_lt c) (Int.le_refl _) fun _ j z => by
        have e : (if (S.held n p).want = some .r ∨ k = .w then none else (S.held n p).want) = some j := z
        split at e
        · cases e
        · exact e
      have h2 := I2.pot_ans (n := n) (p := p) (q := (S.homes p).number)
      rw [pot_same (x := getH (S.held n p) y n p (S.homes p).number k ws) hp hn rfl] at h2
      exact h2
  · exact I.pot_ans
theorem Inv.pot_come (I : Inv S) (ho : okM S.many S.pages m) (hm : ∀ p, mOk p (S.homes p) (fun i => S.held i p) m) : pot (comeS S m) + 1 ≤ pot S + cost m := by
  cases m with
  | ask n y p q k => exact Nat.succ_le_succ (I.pot_asked ho.1 ho.2 (hm p rfl).1)
  | put y n p q w => exact Nat.succ_le_succ (I.pot_put ho.1 ho.2.1 ho.2.2 (hm p rfl))
  | grant y n p q k ws => exact Nat.succ_le_succ (I.pot_get ho.1 ho.2.1 ho.2.2.1 ho.2.2.2 (hm p rfl))
  | given n y p q ws => exact Nat.succ_le_succ (I.pot_given ho.2.1)
  | have_ n y p q => exact Nat.succ_le_succ (I.pot_had ho.2)
theorem pot_lose {j : Int} (h : S.way[plc S j]? = some m) : pot (loseS S j) + cost m = pot S := by
  have := erase_cost h
  show wayP (S.way.eraseIdx (plc S j)) + restP S + cost m = wayP S.way + restP S
  omega
theorem Inv.pot_deliver (I : Inv S) {j : Int} (h : S.way ≠ []) : pot (deliverS S j) + 1 ≤ pot S := by
  obtain ⟨p1, p2⟩ := plc_lt (k := j) h
  have hm : S.way[plc S j]? = some S.way[plc S j] := List.getElem?_eq_getElem p1
  have hin := List.mem_of_getElem? hm
  have h1 := pot_lose hm
  have h2 := (I.lose j).pot_come (m := S.way[plc S j]) (I.wf.ms _ hin) (I.ms _ hin)
  have e : deliverS S j = comeS (loseS S j) S.way[plc S j] := by
    unfold deliverS
    rw [hm]
  rw [e]
  omega
theorem pot_double {j : Int} : pot (doubleS S j) ≤ pot S + 2 := by
  unfold doubleS
  split
  · rename_i m hm
    rw [pot_app]
    have : wayP [m] ≤ 2 := by cases m <;> simp [wayP, cost]
    omega
  · omega
theorem pot_loses {j : Int} : pot (loseS S j) ≤ pot S := by
  by_cases c : plc S j < S.way.length
  · have := pot_lose (List.getElem?_eq_getElem c)
    omega
  · have : loseS S j = S := by
      unfold loseS
      rw [List.eraseIdx_of_length_le (by omega)]
    rw [this]
    exact Nat.le_refl _
theorem pot_want (hp : p < S.pages) (hi : i < S.many) : pot (setHold S i p (wantH (S.held i p) k)) ≤ pot S + 8 := by
  have h1 := pot_hold (x := wantH (S.held i p) k) hp hi
  have e2 : gapP (S.homes p) (fun i => S.held i p) i = ((S.held i p).asked - ((S.homes p).served i).getD 0).toNat := rfl
  have e3 : (wantH (S.held i p) k).asked ≤ (S.held i p).asked + 1 := by
    unfold wantH
    split
    · exact Int.le_refl _
    · omega
  omega
theorem pot_word {x : Nat} {wd : Int} (hp : p < S.pages) (hi : i < S.many) : pot (setHold S i p (putWord (S.held i p) x wd)) = pot S := pot_same hp hi rfl
theorem flat_cost {f g : Nat → List Msg} (c : Nat → Nat) : ∀ {n : Nat}, (∀ p, p < n → wayP (f p) ≤ c p) → wayP ((List.range n).flatMap f) ≤ sumR n c
  | 0, _ => Nat.zero_le _
  | n + 1, h => by
    rw [flat_succ, wayP_app, sumR_succ]
    have := flat_cost (f := f) (g := g) c (n := n) fun p hp => h p (by omega)
    have := h n (by omega)
    omega
def tickC (many pages i : Nat) : Nat := sumR pages (fun _ => 1) + sumR pages fun p => if p % many = i then max 2 (2 * (many - 1)) else 0
theorem tickC_le : ∀ many, many < 5 → ∀ pages, pages < 4 → ∀ i, i < many → tickC many pages i ≤ 9 := by decide
theorem Inv.pot_tick (I : Inv S) (hi : i < S.many) (h3 : S.pages ≤ 3) (hnode : ∀ p, (S.homes p).node = p % S.many) : pot (tickS S i) ≤ pot S + 9 := by
  have h1 : wayP ((List.range S.pages).flatMap (askL S i)) ≤ sumR S.pages fun _ => 1 := flat_cost (g := askL S i) _ fun p _ => by
    unfold askL
    split <;> simp [wayP, cost]
  have h2 : wayP ((List.range S.pages).flatMap (pushL S i)) ≤ sumR S.pages fun p => if p % S.many = i then max 2 (2 * (S.many - 1)) else 0 := flat_cost (g := pushL S i) _ fun p _ => by
    unfold pushL
    split
    · rename_i c
      rw [if_pos (by rw [← hnode p]; exact c.1)]
      obtain ⟨a, ha⟩ : ∃ a, (S.homes p).asker = some a := by
        cases hq : (S.homes p).asker with
        | none => exact absurd hq c.2
        | some a => exact ⟨a, rfl⟩
      have hw : (S.homes p).waits a = none := Classical.byContradiction fun z => (I.pg p).wna a z ha
      exact (push_cost I.wf.m4 ((I.wf.hm p).as_ a ha).1 hw).2
    · exact Nat.zero_le _
  have h4 := tickC_le S.many (by have := I.wf.m4; omega) S.pages (by omega) i hi
  unfold tickC at h4
  unfold tickS
  rw [pot_app]
  unfold tickL
  rw [wayP_app]
  omega
end
end K57
set_option Elab.async false
set_option linter.all false
set_option maxRecDepth 100000
set_option maxHeartbeats 4000000
/-! K57Ze: what is wanted comes, once all messages come. -/
namespace K57
open PySem L2 AB
/-- what a home waits for is on its way -/
def RepX (h : Hm) (p : Nat) (X : Msg → Prop) : Prop := ∀ a, h.asker = some a → (∀ n w, h.waits n = some w → (∃ y, X (.put y n p h.number w)) ∨ ∃ y ws, X (.given n y p h.number ws)) ∧
  (noW h → (∃ y k ws, X (.grant y a p h.number k ws)) ∨ ∃ y, X (.have_ a y p h.number))
/-- a want is gone, or will be -/
def ProgX (S : Sy) (p : Nat) (W : Nat → Option Kd) (X : Msg → Prop) : Prop := (∃ n, n < S.many ∧ W n ≠ none ∧ (S.held n p).want = none) ∨
  ((∀ n, (S.held n p).want = W n) ∧ (∀ n y q k, X (.ask n y p q k) → q = (S.held n p).asked ∧ W n = some k) ∧
    (((S.homes p).asker = none ∧ ∃ n y q k, X (.ask n y p q k)) ∨ ∃ a k, (S.homes p).asker = some a ∧ W a = some k ∧ (S.homes p).kind = some k ∧ (S.held a p).last < (S.homes p).number))
theorem RepX.mono {h : Hm} {p : Nat} {X Y : Msg → Prop} (R : RepX h p X) (f : ∀ m, X m → Y m) : RepX h p Y := fun a ha => ⟨fun n w hw => ((R a ha).1 n w hw).imp (fun ⟨y, z⟩ => ⟨y, f _ z⟩) (fun ⟨y, ws, z⟩ => ⟨y, ws, f _ z⟩),
  fun nw => ((R a ha).2 nw).imp (fun ⟨y, k, ws, z⟩ => ⟨y, k, ws, f _ z⟩) (fun ⟨y, z⟩ => ⟨y, f _ z⟩)⟩
theorem rep_push {many p : Nat} {h : Hm} {X : Msg → Prop} (w : WFh many h) (f : ∀ m ∈ pushW many p h, X m) : RepX h p X := by
  intro a ha
  refine ⟨fun n w' hw => .inl ⟨h.node, f _ (List.mem_append_left _ (List.mem_map.mpr ⟨n, List.mem_filter.mpr ⟨List.mem_range.mpr (w.wa n (by rw [hw]; exact fun z => nomatch z)), by simp [hw]⟩, ?_⟩))⟩, fun nw => .inl ⟨h.node, h.kind.getD .r, h.words, f _ (List.mem_append_right _ ?_)⟩⟩
  · unfold putM
    rw [hw]
    rfl
  · have g : granting many h = true := by
      rw [granting, ha, (noW_iff w.wa).mpr nw]
      rfl
    rw [if_pos g]
    unfold grantM
    rw [ha]
    exact List.mem_cons_self
section
variable {S : Sy} {m x : Msg} {n p r i y : Nat} {q : Int} {k : Kd} {w : Wd} {ws : List Int} {W : Nat → Option Kd}
theorem ans_way (h : x ∈ S.way) : x ∈ (ansS S n p q).way := by
  unfold ansS
  split
  · exact List.mem_append_left _ h
  · exact h
theorem ans_same : (ansS S n p q).homes = S.homes ∧ (ansS S n p q).held = S.held ∧ (ansS S n p q).many = S.many ∧ (ansS S n p q).pages = S.pages := by
  unfold ansS
  split <;> exact ⟨rfl, rfl, rfl, rfl⟩
theorem put_same : (putS S y n p q w).homes = S.homes ∧ (putS S y n p q w).many = S.many ∧ (putS S y n p q w).pages = S.pages := by
  unfold putS
  obtain ⟨e1, e2, e3, e4⟩ := ans_same (S := if q > (S.held n p).last then setHold S n p (putH (S.held n p) y n p q w) else S) (n := n) (p := p) (q := q)
  rw [e1, e3, e4]
  split <;> exact ⟨rfl, rfl, rfl⟩
theorem get_same : (getS S y n p q k ws).homes = S.homes ∧ (getS S y n p q k ws).many = S.many ∧ (getS S y n p q k ws).pages = S.pages := by
  unfold getS
  obtain ⟨e1, e2, e3, e4⟩ := ans_same (S := if q > (S.held n p).last then setHold S n p (getH (S.held n p) y n p q k ws) else S) (n := n) (p := p) (q := q)
  rw [e1, e3, e4]
  split <;> exact ⟨rfl, rfl, rfl⟩
theorem put_held (j r : Nat) : (putS S y n p q w).held j r = if q > (S.held n p).last ∧ j = n ∧ r = p then putH (S.held n p) y n p q w else S.held j r := by
  unfold putS
  rw [ans_same.2.1]
  split
  · rename_i c
    show (if j = n ∧ r = p then _ else _) = _
    by_cases c2 : j = n ∧ r = p
    · rw [if_pos c2, if_pos ⟨c, c2⟩]
    · rw [if_neg c2, if_neg fun z => c2 z.2]
  · rename_i c
    rw [if_neg fun z => c z.1]
theorem get_held (j r : Nat) : (getS S y n p q k ws).held j r = if q > (S.held n p).last ∧ j = n ∧ r = p then getH (S.held n p) y n p q k ws else S.held j r := by
  unfold getS
  rw [ans_same.2.1]
  split
  · rename_i c
    show (if j = n ∧ r = p then _ else _) = _
    by_cases c2 : j = n ∧ r = p
    · rw [if_pos c2, if_pos ⟨c, c2⟩]
    · rw [if_neg c2, if_neg fun z => c2 z.2]
  · rename_i c
    rw [if_neg fun z => c z.1]
theorem asked_same : (askedS S n p q k).held = S.held ∧ (askedS S n p q k).many = S.many ∧ (askedS S n p q k).pages = S.pages := by
  unfold askedS
  split
  · exact ⟨rfl, rfl, rfl⟩
  · split <;> exact ⟨rfl, rfl, rfl⟩
theorem given_sy : (givenS S n p q ws).held = S.held ∧ (givenS S n p q ws).many = S.many ∧ (givenS S n p q ws).pages = S.pages := by
  unfold givenS
  split <;> exact ⟨rfl, rfl, rfl⟩
theorem had_sy : (hadS S n p q).held = S.held ∧ (hadS S n p q).many = S.many ∧ (hadS S n p q).pages = S.pages ∧ (hadS S n p q).way = S.way := by
  unfold hadS
  split <;> exact ⟨rfl, rfl, rfl, rfl⟩
theorem come_dims : (comeS S m).many = S.many ∧ (comeS S m).pages = S.pages := by
  cases m with
  | ask => exact asked_same.2
  | put => exact put_same.2
  | grant => exact get_same.2
  | given => exact given_sy.2
  | have_ => exact ⟨had_sy.2.1, had_sy.2.2.1⟩
theorem come_way (h : x ∈ S.way) : x ∈ (comeS S m).way := by
  cases m with
  | ask n y p q k =>
    show x ∈ (askedS S n p q k).way
    unfold askedS
    split
    · exact h
    · split
      · exact h
      · exact List.mem_append_left _ h
  | put y n p q w =>
    show x ∈ (putS S y n p q w).way
    unfold putS
    refine ans_way ?_
    split <;> exact h
  | grant y n p q k ws =>
    show x ∈ (getS S y n p q k ws).way
    unfold getS
    refine ans_way ?_
    split <;> exact h
  | given n y p q ws =>
    show x ∈ (givenS S n p q ws).way
    unfold givenS
    split
    · exact List.mem_append_left _ h
    · exact h
  | have_ n y p q =>
    show x ∈ (hadS S n p q).way
    rw [had_sy.2.2.2]
    exact h
theorem come_far (c : m.page ≠ r) : (comeS S m).homes r = S.homes r ∧ ∀ i, (comeS S m).held i r = S.held i r := by
  cases m with
  | ask n y p q k =>
    refine ⟨?_, fun i => by show (askedS S n p q k).held i r = _; rw [asked_same.1]⟩
    show (askedS S n p q k).homes r = _
    unfold askedS
    split
    · rfl
    · split
      · exact setHome_ne fun z => c z.symm
      · exact setHome_ne fun z => c z.symm
  | put y n p q w => exact ⟨by show (putS S y n p q w).homes r = _; rw [put_same.1], fun i => by show (putS S y n p q w).held i r = _; rw [put_held, if_neg fun z => c z.2.2.symm]⟩
  | grant y n p q k ws => exact ⟨by show (getS S y n p q k ws).homes r = _; rw [get_same.1], fun i => by show (getS S y n p q k ws).held i r = _; rw [get_held, if_neg fun z => c z.2.2.symm]⟩
  | given n y p q ws =>
    refine ⟨?_, fun i => by show (givenS S n p q ws).held i r = _; rw [given_sy.1]⟩
    show (givenS S n p q ws).homes r = _
    unfold givenS
    split
    · exact setHome_ne fun z => c z.symm
    · rfl
  | have_ n y p q =>
    refine ⟨?_, fun i => by show (hadS S n p q).held i r = _; rw [had_sy.1]⟩
    show (hadS S n p q).homes r = _
    unfold hadS
    split
    · exact setHome_ne fun z => c z.symm
    · rfl
def isAsk : Msg → Prop
  | .ask _ _ _ _ _ => True
  | _ => False
theorem push_noask {many : Nat} {h : Hm} (hx : x ∈ pushW many p h) : ¬ isAsk x := by
  rcases List.mem_append.mp hx with z | z
  · obtain ⟨j, _, rfl⟩ := List.mem_map.mp z
    exact id
  · split at z
    · obtain rfl := List.mem_singleton.mp z
      exact id
    · cases z
theorem Inv.ans_noask (I : Inv S) (hx : x ∈ (ansS S n p q).way) (ha : isAsk x) : x ∈ S.way := by
  unfold ansS at hx
  split at hx
  · rcases List.mem_append.mp hx with z | z
    · exact z
    · cases hz : (S.held n p).answer with
      | none => rw [hz] at z; cases z
      | some m =>
        rw [hz] at z
        obtain rfl := List.mem_singleton.mp z
        rcases (I.pg p).ans n x hz with ⟨y, q', ws, rfl, _⟩ | ⟨y, q', rfl, _⟩ <;> exact ha.elim
  · exact hx
theorem Inv.come_ask (I : Inv S) (ho : okM S.many S.pages m) (hm : ∀ p, mOk p (S.homes p) (fun i => S.held i p) m) (hx : x ∈ (comeS S m).way) (ha : isAsk x) : x ∈ S.way := by
  cases m with
  | ask n y p q k =>
    have hx : x ∈ (askedS S n p q k).way := hx
    unfold askedS at hx
    split at hx
    · exact hx
    · split at hx
      · exact hx
      · rcases List.mem_append.mp hx with z | z
        · exact z
        · exact absurd ha (push_noask z)
  | put y n p q w =>
    have hx : x ∈ (ansS (if q > (S.held n p).last then setHold S n p (putH (S.held n p) y n p q w) else S) n p q).way := hx
    by_cases c : q > (S.held n p).last
    · rw [if_pos c] at hx
      unfold ansS at hx
      split at hx
      · rcases List.mem_append.mp hx with z | z
        · exact z
        · rw [setHold_same] at z
          have z' : x ∈ [Msg.given n y p q (S.held n p).words] := z
          rw [List.mem_singleton.mp z'] at ha
          exact ha.elim
      · exact hx
    · rw [if_neg c] at hx
      exact I.ans_noask hx ha
  | grant y n p q k ws =>
    have hx : x ∈ (ansS (if q > (S.held n p).last then setHold S n p (getH (S.held n p) y n p q k ws) else S) n p q).way := hx
    by_cases c : q > (S.held n p).last
    · rw [if_pos c] at hx
      unfold ansS at hx
      split at hx
      · rcases List.mem_append.mp hx with z | z
        · exact z
        · rw [setHold_same] at z
          have z' : x ∈ [Msg.have_ n y p q] := z
          rw [List.mem_singleton.mp z'] at ha
          exact ha.elim
      · exact hx
    · rw [if_neg c] at hx
      exact I.ans_noask hx ha
  | given n y p q ws =>
    have hx : x ∈ (givenS S n p q ws).way := hx
    unfold givenS at hx
    split at hx
    · rcases List.mem_append.mp hx with z | z
      · exact z
      · split at z
        · exact absurd ha (push_noask z)
        · cases z
    · exact hx
  | have_ n y p q =>
    have hx : x ∈ (hadS S n p q).way := hx
    rw [had_sy.2.2.2] at hx
    exact hx
theorem Inv.put_given (I : Inv S) (hq : q = (S.homes p).number) (hw : (S.homes p).waits n = some w) : ∃ z us, .given n z p q us ∈ (putS S y n p q w).way := by
  unfold putS
  by_cases c : q > (S.held n p).last
  · rw [if_pos c]
    unfold ansS
    rw [setHold_same, if_pos (show q = (putH (S.held n p) y n p q w).last from rfl)]
    exact ⟨y, _, List.mem_append_right _ List.mem_cons_self⟩
  · rw [if_neg c]
    have h1 := ((I.pg p).la n).2
    have h2 : (S.held n p).last = (S.homes p).number := by show (S.held n p).last = _; have : (S.held n p).last ≤ (S.homes p).number := h1; omega
    obtain ⟨_, z, us, e⟩ := (I.pg p).wal n w hw h2
    unfold ansS
    rw [if_pos (by omega), hq]
    refine ⟨z, us, List.mem_append_right _ ?_⟩
    have e' : (S.held n p).answer = some (.given n z p (S.homes p).number us) := e
    rw [e']
    exact List.mem_cons_self
theorem Inv.get_have (I : Inv S) (hq : q = (S.homes p).number) (hw : (S.homes p).asker = some n) : ∃ z, .have_ n z p q ∈ (getS S y n p q k ws).way := by
  unfold getS
  by_cases c : q > (S.held n p).last
  · rw [if_pos c]
    unfold ansS
    rw [setHold_same, if_pos (show q = (getH (S.held n p) y n p q k ws).last from rfl)]
    exact ⟨y, List.mem_append_right _ List.mem_cons_self⟩
  · rw [if_neg c]
    have h1 := ((I.pg p).la n).2
    have h2 : (S.held n p).last = (S.homes p).number := by show (S.held n p).last = _; have : (S.held n p).last ≤ (S.homes p).number := h1; omega
    obtain ⟨_, _, z, e⟩ := (I.pg p).asl n hw h2
    unfold ansS
    rw [if_pos (by omega), hq]
    refine ⟨z, List.mem_append_right _ ?_⟩
    have e' : (S.held n p).answer = some (.have_ n z p (S.homes p).number) := e
    rw [e']
    exact List.mem_cons_self
theorem Inv.rep_come (I : Inv S) (ho : okM S.many S.pages m) (hm : ∀ p, mOk p (S.homes p) (fun i => S.held i p) m) (R : RepX (S.homes r) r fun x => x = m ∨ x ∈ S.way) : RepX ((comeS S m).homes r) r fun x => x ∈ (comeS S m).way := by
  by_cases c : m.page = r
  · cases m with
    | ask n y p q k =>
      obtain rfl : p = r := c
      have R' : RepX (S.homes p) p fun x => x ∈ S.way := fun a ha => ⟨fun n w hw => ((R a ha).1 n w hw).imp (fun ⟨y, z⟩ => ⟨y, z.elim (fun e => nomatch e) id⟩) (fun ⟨y, ws, z⟩ => ⟨y, ws, z.elim (fun e => nomatch e) id⟩),
        fun nw => ((R a ha).2 nw).imp (fun ⟨y, k, ws, z⟩ => ⟨y, k, ws, z.elim (fun e => nomatch e) id⟩) (fun ⟨y, z⟩ => ⟨y, z.elim (fun e => nomatch e) id⟩)⟩
      show RepX ((askedS S n p q k).homes p) p fun x => x ∈ (askedS S n p q k).way
      unfold askedS
      split
      · exact R'
      · rename_i c1
        split
        · rw [setHome_same]; exact R'
        · show RepX ((setHome S p _).homes p) p _
          rw [setHome_same]
          exact rep_push (((I.wf.hm p).served).began ho.1) fun m hm => List.mem_append_right _ hm
    | put y n p q w =>
      obtain rfl : p = r := c
      show RepX ((putS S y n p q w).homes p) p fun x => x ∈ (putS S y n p q w).way
      rw [put_same.1]
      have wy : ∀ x, x ∈ S.way → x ∈ (putS S y n p q w).way := fun x hx => come_way (m := .put y n p q w) hx
      refine fun a ha => ⟨fun j v hv => ?_, fun nw => ((R a ha).2 nw).imp (fun ⟨y, k, ws, z⟩ => ⟨y, k, ws, z.elim (fun e => nomatch e) (wy _)⟩) (fun ⟨y, z⟩ => ⟨y, z.elim (fun e => nomatch e) (wy _)⟩)⟩
      rcases (R a ha).1 j v hv with ⟨y', z | z⟩ | ⟨y', ws, z | z⟩
      · injection z with z1 z2 z3 z4 z5
        subst z1 z2 z4 z5
        exact .inr (I.put_given rfl hv)
      · exact .inl ⟨y', wy _ z⟩
      · cases z
      · exact .inr ⟨y', ws, wy _ z⟩
    | grant y n p q k ws =>
      obtain rfl : p = r := c
      show RepX ((getS S y n p q k ws).homes p) p fun x => x ∈ (getS S y n p q k ws).way
      rw [get_same.1]
      have wy : ∀ x, x ∈ S.way → x ∈ (getS S y n p q k ws).way := fun x hx => come_way (m := .grant y n p q k ws) hx
      refine fun a ha => ⟨fun n w hw => ((R a ha).1 n w hw).imp (fun ⟨y, z⟩ => ⟨y, z.elim (fun e => nomatch e) (wy _)⟩) (fun ⟨y, ws, z⟩ => ⟨y, ws, z.elim (fun e => nomatch e) (wy _)⟩), fun nw => ?_⟩
      rcases (R a ha).2 nw with ⟨y', k', ws', z | z⟩ | ⟨y', z | z⟩
      · injection z with z1 z2 z3 z4 z5 z6
        subst z1 z2 z4 z5 z6
        exact .inr (I.get_have rfl ha)
      · exact .inl ⟨y', k', ws', wy _ z⟩
      · cases z
      · exact .inr ⟨y', wy _ z⟩
    | given n y p q ws =>
      obtain rfl : p = r := c
      show RepX ((givenS S n p q ws).homes p) p fun x => x ∈ (givenS S n p q ws).way
      unfold givenS
      split
      · rename_i c1
        show RepX ((setHome S p _).homes p) p _
        rw [setHome_same]
        obtain ⟨e1, e2, e3, e4, e5⟩ := givenH_same S.many (S.homes p) n ws
        intro a ha
        rw [e1]
        have ha' := e2.symm.trans ha
        refine ⟨fun j v hv => ?_, fun nw => ?_⟩
        · rw [e5] at hv
          by_cases cj : j = n
          · rw [if_pos cj] at hv; cases hv
          · rw [if_neg cj] at hv
            rcases (R a ha').1 j v hv with ⟨y', z | z⟩ | ⟨y', ws, z | z⟩
            · cases z
            · exact .inl ⟨y', List.mem_append_left _ z⟩
            · injection z with z1; exact absurd z1 cj
            · exact .inr ⟨y', ws, List.mem_append_left _ z⟩
        · have wh := (I.wf.hm p).given ho.1 ho.2.2
          have g : granting S.many (givenH S.many (S.homes p) n ws) = true := by
            rw [granting, ha, (noW_iff wh.wa).mpr nw]
            rfl
          have z := rep_push (p := p) (X := fun x => x ∈ S.way ++ if granting S.many (givenH S.many (S.homes p) n ws) = true then pushW S.many p (givenH S.many (S.homes p) n ws) else []) wh (fun m hm => by rw [if_pos g]; exact List.mem_append_right _ hm)
          have z2 := (z a ha).2 nw
          rw [e1] at z2
          exact z2
      · rename_i c1
        refine fun a ha => ⟨fun j v hv => ?_, fun nw => ((R a ha).2 nw).imp (fun ⟨y, k, ws, z⟩ => ⟨y, k, ws, z.elim (fun e => nomatch e) id⟩) (fun ⟨y, z⟩ => ⟨y, z.elim (fun e => nomatch e) id⟩)⟩
        rcases (R a ha).1 j v hv with ⟨y', z | z⟩ | ⟨y', ws, z | z⟩
        · cases z
        · exact .inl ⟨y', z⟩
        · injection z with z1 z2 z3 z4 z5
          subst z1 z4
          exact (c1 ⟨by rw [ha]; exact (fun z => nomatch z), rfl, by rw [hv]; exact (fun z => nomatch z)⟩).elim
        · exact .inr ⟨y', ws, z⟩
    | have_ n y p q =>
      obtain rfl : p = r := c
      show RepX ((hadS S n p q).homes p) p fun x => x ∈ (hadS S n p q).way
      rw [had_sy.2.2.2]
      unfold hadS
      split
      · rw [setHome_same]
        exact fun a ha => nomatch ha
      · rename_i c1
        refine fun a ha => ⟨fun n w hw => ((R a ha).1 n w hw).imp (fun ⟨y, z⟩ => ⟨y, z.elim (fun e => nomatch e) id⟩) (fun ⟨y, ws, z⟩ => ⟨y, ws, z.elim (fun e => nomatch e) id⟩), fun nw => ?_⟩
        rcases (R a ha).2 nw with ⟨y', k', ws', z | z⟩ | ⟨y', z | z⟩
        · cases z
        · exact .inl ⟨y', k', ws', z⟩
        · injection z with z1 z2 z3 z4
          subst z1 z4
          exact (c1 ⟨ha, rfl, by rw [granting, ha, (noW_iff (I.wf.hm p).wa).mpr nw]; rfl⟩).elim
        · exact .inr ⟨y', z⟩
  · have wy : ∀ x, x ∈ S.way → x ∈ (comeS S m).way := fun x hx => come_way hx
    rw [(come_far c).1]
    have no : ∀ x : Msg, x.page = r → x = m → False := fun x h1 h2 => c (by rw [← h2]; exact h1)
    exact fun a ha => ⟨fun n w hw => ((R a ha).1 n w hw).imp (fun ⟨y, z⟩ => ⟨y, z.elim (fun e => (no _ rfl e).elim) (wy _)⟩) (fun ⟨y, ws, z⟩ => ⟨y, ws, z.elim (fun e => (no _ rfl e).elim) (wy _)⟩),
      fun nw => ((R a ha).2 nw).imp (fun ⟨y, k, ws, z⟩ => ⟨y, k, ws, z.elim (fun e => (no _ rfl e).elim) (wy _)⟩) (fun ⟨y, z⟩ => ⟨y, z.elim (fun e => (no _ rfl e).elim) (wy _)⟩)⟩
end
end K57
set_option Elab.async false
set_option linter.all false
set_option maxRecDepth 100000
set_option maxHeartbeats 4000000
/-! K57Zf: rounds: all that is wanted comes. -/
namespace K57
open PySem L2 AB
section
variable {S : Sy} {m x : Msg} {n p r i y : Nat} {q : Int} {k : Kd} {w : Wd} {ws : List Int} {W : Nat → Option Kd}
theorem come_want (i r : Nat) : ((comeS S m).held i r).want = none ∨ ((comeS S m).held i r).want = (S.held i r).want := by
  cases m with
  | ask n y p q k => right; show ((askedS S n p q k).held i r).want = _; rw [asked_same.1]
  | put n y p q w =>
    right
    show ((putS S n y p q w).held i r).want = _
    rw [put_held]
    split
    · rename_i c
      rw [c.2.1, c.2.2]
      rfl
    · rfl
  | grant n y p q k ws =>
    show ((getS S n y p q k ws).held i r).want = none ∨ ((getS S n y p q k ws).held i r).want = _
    rw [get_held]
    split
    · rename_i c
      rw [c.2.1, c.2.2]
      show (if (S.held y p).want = some .r ∨ k = .w then none else (S.held y p).want) = none ∨ (if (S.held y p).want = some .r ∨ k = .w then none else (S.held y p).want) = _
      split
      · exact .inl rfl
      · exact .inr rfl
    · exact .inr rfl
  | given n y p q ws => right; show ((givenS S n p q ws).held i r).want = _; rw [given_sy.1]
  | have_ n y p q => right; show ((hadS S n p q).held i r).want = _; rw [had_sy.1]
theorem Inv.not_has (I : Inv S) (hid : (S.homes p).asker = none) (hw : (S.held n p).want = some k) : hasIt (S.homes p) n k = false := by
  have ag : (S.held n p).mode = hMode (S.homes p) n := (I.pg p).agr n (by rw [hid]; exact fun z => nomatch z) (.inl ((I.pg p).idl hid n))
  obtain ⟨w1, w2⟩ := (I.pg p).wmo n k hw
  have w1 : (S.held n p).mode ≠ some .w := w1
  have w2 : k = .r → (S.held n p).mode = none := w2
  rw [ag] at w1 w2
  cases hz : hasIt (S.homes p) n k with
  | false => rfl
  | true =>
    rw [hasIt, Bool.or_eq_true, Bool.and_eq_true, decide_eq_true_eq, decide_eq_true_eq] at hz
    rcases hz with z | z
    · exact absurd (hMode_w z) w1
    · have := w2 z.1
      rw [hMode_r (fun y => w1 (hMode_w y)) z.2] at this
      cases this
theorem Inv.prog_come (I : Inv S) (ho : okM S.many S.pages m) (hm : ∀ p, mOk p (S.homes p) (fun i => S.held i p) m) (R : ProgX S r W fun x => x = m ∨ x ∈ S.way) : ProgX (comeS S m) r W fun x => x ∈ (comeS S m).way := by
  rcases R with ⟨n, hn, h1, h2⟩ | ⟨hw, hf, hc⟩
  · left
    refine ⟨n, by rw [come_dims.1]; exact hn, h1, ?_⟩
    rcases come_want (S := S) (m := m) n r with z | z
    · exact z
    · exact z.trans h2
  -- nothing of it changes but for what is told
  have same : (∀ i, ((comeS S m).held i r).want = (S.held i r).want ∧ ((comeS S m).held i r).asked = (S.held i r).asked) →
      (((comeS S m).homes r).asker = none ∧ (∃ n y q k, Msg.ask n y r q k ∈ (comeS S m).way) ∨ ∃ a k, ((comeS S m).homes r).asker = some a ∧ W a = some k ∧ ((comeS S m).homes r).kind = some k ∧ ((comeS S m).held a r).last < ((comeS S m).homes r).number) →
      ProgX (comeS S m) r W fun x => x ∈ (comeS S m).way := fun e c => by
    right
    refine ⟨fun n => (e n).1.trans (hw n), fun n y q k hx => ?_, c⟩
    rw [(e n).2]
    exact hf n y q k (.inr (I.come_ask ho hm hx True.intro))
  by_cases c : m.page = r
  · cases m with
    | ask n y p q k =>
      obtain rfl : p = r := c
      obtain ⟨f1, f2⟩ := hf n y q k (.inl rfl)
      rcases hc with ⟨c1, _⟩ | ⟨a, k', c1, c2, c3, c4⟩
      · have h1 : (S.held n p).want = some k := (hw n).trans f2
        have nh := I.not_has c1 h1
        have hs : ((S.homes p).served n).getD 0 < q := by
          rcases (I.pg p).wan n k h1 with z | z
          · rw [f1]; exact z
          · rw [c1] at z; cases z.1
        have ea : askedS S n p q k = { setHome S p (beganH S.many (servedH (S.homes p) n q) n k) with way := S.way ++ pushW S.many p (beganH S.many (servedH (S.homes p) n q) n k) } := by
          unfold askedS
          rw [if_neg, if_neg]
          · rw [nh]; decide
          · rintro (z | z)
            · exact z c1
            · omega
        obtain ⟨e1, e2, e3, e4, e5⟩ := began_same S.many (servedH (S.homes p) n q) n k
        refine same (fun i => by show ((askedS S n p q k).held i p).want = _ ∧ ((askedS S n p q k).held i p).asked = _; rw [asked_same.1]; exact ⟨rfl, rfl⟩) (.inr ⟨n, k, ?_⟩)
        show ((askedS S n p q k).homes p).asker = some n ∧ _ ∧ ((askedS S n p q k).homes p).kind = some k ∧ ((askedS S n p q k).held n p).last < ((askedS S n p q k).homes p).number
        rw [asked_same.1, ea]
        show ((setHome S p _).homes p).asker = some n ∧ _ ∧ ((setHome S p _).homes p).kind = some k ∧ _ < ((setHome S p _).homes p).number
        rw [setHome_same, e2, e3, e4]
        have := ((I.pg p).la n).2
        have this : (S.held n p).last ≤ (S.homes p).number := this
        exact ⟨rfl, f2, rfl, by show _ < (S.homes p).number + 1; omega⟩
      · have ea : askedS S n p q k = S := by
          unfold askedS
          rw [if_pos (.inl (by rw [c1]; exact fun z => nomatch z))]
        refine same (fun i => by show ((askedS S n p q k).held i p).want = _ ∧ ((askedS S n p q k).held i p).asked = _; rw [asked_same.1]; exact ⟨rfl, rfl⟩) (.inr ⟨a, k', ?_⟩)
        show ((askedS S n p q k).homes p).asker = some a ∧ _ ∧ ((askedS S n p q k).homes p).kind = some k' ∧ ((askedS S n p q k).held a p).last < ((askedS S n p q k).homes p).number
        rw [ea]
        exact ⟨c1, c2, c3, c4⟩
    | put y n p q w =>
      obtain rfl : p = r := c
      refine same (fun i => ?_) ?_
      · show ((putS S y n p q w).held i p).want = _ ∧ ((putS S y n p q w).held i p).asked = _
        rw [put_held]
        split
        · rename_i c
          rw [c.2.1]
          exact ⟨rfl, rfl⟩
        · exact ⟨rfl, rfl⟩
      · show ((putS S y n p q w).homes p).asker = none ∧ _ ∨ ∃ a k, ((putS S y n p q w).homes p).asker = some a ∧ _ ∧ ((putS S y n p q w).homes p).kind = some k ∧ ((putS S y n p q w).held a p).last < ((putS S y n p q w).homes p).number
        rw [put_same.1]
        rcases hc with ⟨c1, n', y', q', k', z | z⟩ | ⟨a, k', c1, c2, c3, c4⟩
        · cases z
        · exact .inl ⟨c1, n', y', q', k', come_way z⟩
        · refine .inr ⟨a, k', c1, c2, c3, ?_⟩
          rw [put_held, if_neg]
          · exact c4
          · rintro ⟨d1, d2, _⟩
            rcases hm p rfl with z | z
            · have z : q ≤ (S.held n p).last := z
              omega
            · exact (I.pg p).wna n (by rw [z.2]; exact fun z => nomatch z) (by rw [← d2]; exact c1)
    | grant y n p q k ws =>
      obtain rfl : p = r := c
      by_cases cq : q > (S.held n p).last
      · obtain ⟨z1, z2, z3, z4⟩ : q = (S.homes p).number ∧ (S.homes p).asker = some n ∧ (S.homes p).kind = some k ∧ noW (S.homes p) := by
          rcases hm p rfl with z | z
          · have z : q ≤ (S.held n p).last := z
            omega
          · exact z
        rcases hc with ⟨c1, _⟩ | ⟨a, k', c1, c2, c3, c4⟩
        · rw [c1] at z2; cases z2
        · obtain rfl : n = a := Option.some.inj (z2.symm.trans c1)
          obtain rfl : k = k' := Option.some.inj (z3.symm.trans c3)
          left
          refine ⟨n, by rw [come_dims.1]; exact ((I.wf.hm p).as_ n c1).1, by rw [c2]; exact (fun z => nomatch z), ?_⟩
          show ((getS S y n p q k ws).held n p).want = none
          rw [get_held, if_pos ⟨cq, rfl, rfl⟩]
          refine if_pos ?_
          cases k with
          | r => exact .inl ((hw n).trans c2)
          | w => exact .inr rfl
      · have eh : ∀ i, (getS S y n p q k ws).held i p = S.held i p := fun i => by rw [get_held, if_neg fun z => cq z.1]
        refine same (fun i => ?_) ?_
        · show ((getS S y n p q k ws).held i p).want = _ ∧ ((getS S y n p q k ws).held i p).asked = _
          rw [eh]
          exact ⟨rfl, rfl⟩
        · show ((getS S y n p q k ws).homes p).asker = none ∧ _ ∨ ∃ a j, ((getS S y n p q k ws).homes p).asker = some a ∧ _ ∧ ((getS S y n p q k ws).homes p).kind = some j ∧ ((getS S y n p q k ws).held a p).last < ((getS S y n p q k ws).homes p).number
          rw [get_same.1]
          rcases hc with ⟨c1, n', y', q', k', z | z⟩ | ⟨a, k', c1, c2, c3, c4⟩
          · cases z
          · exact .inl ⟨c1, n', y', q', k', come_way z⟩
          · exact .inr ⟨a, k', c1, c2, c3, by rw [eh]; exact c4⟩
    | given n y p q ws =>
      obtain rfl : p = r := c
      refine same (fun i => by show ((givenS S n p q ws).held i p).want = _ ∧ ((givenS S n p q ws).held i p).asked = _; rw [given_sy.1]; exact ⟨rfl, rfl⟩) ?_
      show ((givenS S n p q ws).homes p).asker = none ∧ _ ∨ ∃ a k, ((givenS S n p q ws).homes p).asker = some a ∧ _ ∧ ((givenS S n p q ws).homes p).kind = some k ∧ ((givenS S n p q ws).held a p).last < ((givenS S n p q ws).homes p).number
      rw [given_sy.1]
      have eq : ((givenS S n p q ws).homes p).asker = (S.homes p).asker ∧ ((givenS S n p q ws).homes p).kind = (S.homes p).kind ∧ ((givenS S n p q ws).homes p).number = (S.homes p).number := by
        unfold givenS
        split
        · show ((setHome S p _).homes p).asker = _ ∧ ((setHome S p _).homes p).kind = _ ∧ ((setHome S p _).homes p).number = _
          rw [setHome_same]
          obtain ⟨e1, e2, e3, e4, e5⟩ := givenH_same S.many (S.homes p) n ws
          exact ⟨e2, e3, e1⟩
        · exact ⟨rfl, rfl, rfl⟩
      rw [eq.1, eq.2.1, eq.2.2]
      rcases hc with ⟨c1, n', y', q', k', z | z⟩ | ⟨a, k', c1, c2, c3, c4⟩
      · cases z
      · exact .inl ⟨c1, n', y', q', k', come_way z⟩
      · exact .inr ⟨a, k', c1, c2, c3, c4⟩
    | have_ n y p q =>
      obtain rfl : p = r := c
      refine same (fun i => by show ((hadS S n p q).held i p).want = _ ∧ ((hadS S n p q).held i p).asked = _; rw [had_sy.1]; exact ⟨rfl, rfl⟩) ?_
      have eh : hadS S n p q = S := by
        unfold hadS
        rw [if_neg]
        rintro ⟨z1, z2, _⟩
        rcases hc with ⟨c1, _⟩ | ⟨a, k', c1, c2, c3, c4⟩
        · rw [c1] at z1; cases z1
        · obtain rfl : n = a := Option.some.inj (z1.symm.trans c1)
          have := hm p rfl
          have this : q ≤ (S.held n p).last := this
          omega
      show ((hadS S n p q).homes p).asker = none ∧ (∃ n' y' q' k', _ ∈ (hadS S n p q).way) ∨ ∃ a k, ((hadS S n p q).homes p).asker = some a ∧ _ ∧ ((hadS S n p q).homes p).kind = some k ∧ ((hadS S n p q).held a p).last < ((hadS S n p q).homes p).number
      rw [eh]
      rcases hc with ⟨c1, n', y', q', k', z | z⟩ | ⟨a, k', c1, c2, c3, c4⟩
      · cases z
      · exact .inl ⟨c1, n', y', q', k', z⟩
      · exact .inr ⟨a, k', c1, c2, c3, c4⟩
  · obtain ⟨e1, e2⟩ := come_far c
    refine same (fun i => by rw [e2 i]; exact ⟨rfl, rfl⟩) ?_
    rw [e1]
    rcases hc with ⟨c1, n', y', q', k', z | z⟩ | ⟨a, k', c1, c2, c3, c4⟩
    · exact absurd (by rw [← z]; rfl) c
    · exact .inl ⟨c1, n', y', q', k', come_way z⟩
    · exact .inr ⟨a, k', c1, c2, c3, by rw [e2]; exact c4⟩
end
def idle (S : Sy) : Prop := ∀ p, p < S.pages → (S.homes p).asker = none
def nodeOk (S : Sy) : Prop := ∀ p, (S.homes p).node = p % S.many
/-- while all comes -/
structure DInv (W : Nat → Nat → Option Kd) (st : Prop) (many pages : Nat) (S : Sy) : Prop where
  inv : Inv S
  nd : nodeOk S
  dm : S.many = many ∧ S.pages = pages
  rep : ∀ p, p < pages → RepX (S.homes p) p fun x => x ∈ S.way
  le : ∀ i p, (S.held i p).want = none ∨ (S.held i p).want = W i p
  pr : st → ∀ p, p < pages → (∃ n, n < many ∧ W n p ≠ none) → ProgX S p (fun n => W n p) fun x => x ∈ S.way
theorem come_node {S : Sy} {m : Msg} (h : nodeOk S) : nodeOk (comeS S m) := by
  have gn : ∀ h : Hm, (grantH h).node = h.node := fun h => by unfold grantH; split <;> rfl
  intro r
  rw [come_dims.1]
  by_cases c : m.page = r
  · cases m with
    | ask n y p q k =>
      obtain rfl : p = r := c
      show ((askedS S n p q k).homes p).node = _
      unfold askedS
      split
      · exact h p
      · split
        · rw [setHome_same]; exact h p
        · show ((setHome S p _).homes p).node = _
          rw [setHome_same]
          unfold beganH
          split
          · rw [gn]; exact h p
          · exact h p
    | put y n p q w => show ((putS S y n p q w).homes r).node = _; rw [put_same.1]; exact h r
    | grant y n p q k ws => show ((getS S y n p q k ws).homes r).node = _; rw [get_same.1]; exact h r
    | given n y p q ws =>
      obtain rfl : p = r := c
      show ((givenS S n p q ws).homes p).node = _
      unfold givenS
      split
      · show ((setHome S p _).homes p).node = _
        rw [setHome_same]
        have g2 : (given2 (given1 (S.homes p) n ws) n).node = (S.homes p).node := by unfold given1; split <;> rfl
        unfold givenH
        split
        · rw [gn, g2]; exact h p
        · rw [g2]; exact h p
      · exact h p
    | have_ n y p q =>
      obtain rfl : p = r := c
      show ((hadS S n p q).homes p).node = _
      unfold hadS
      split
      · rw [setHome_same]; exact h p
      · exact h p
  · rw [(come_far c).1]; exact h r
theorem DInv.deliver {W : Nat → Nat → Option Kd} {st : Prop} {many pages : Nat} {S : Sy} (d : DInv W st many pages S) : DInv W st many pages (deliverS S 0) := by
  cases hw : S.way with
  | nil =>
    have e : deliverS S 0 = S := by unfold deliverS; rw [hw]; rfl
    rw [e]
    exact d
  | cons m ms =>
    have e0 : plc S 0 = 0 := by unfold plc; simp
    have e : deliverS S 0 = comeS { S with way := ms } m := by
      unfold deliverS loseS
      rw [e0, hw]
      rfl
    have I := d.inv
    have hin : m ∈ S.way := by rw [hw]; exact List.mem_cons_self
    have I2 : Inv { S with way := ms } := I.drop fun x hx => by rw [hw]; exact List.mem_cons_of_mem _ hx
    have ho := I.wf.ms m hin
    have hm := I.ms m hin
    have sub : ∀ x, x ∈ S.way → x = m ∨ x ∈ ms := fun x hx => by rw [hw] at hx; exact List.mem_cons.mp hx
    rw [e]
    refine ⟨I2.come ho hm, come_node (S := { S with way := ms }) d.nd, ?_, fun p hp => I2.rep_come ho hm ((d.rep p hp).mono sub), fun i p => ?_, fun hs p hp hn => ?_⟩
    · rw [come_dims.1, come_dims.2]; exact d.dm
    · rcases come_want (S := { S with way := ms }) (m := m) i p with z | z
      · exact .inl z
      · rcases d.le i p with y | y
        · exact .inl (z.trans y)
        · exact .inr (z.trans y)
    · refine I2.prog_come ho hm ?_
      rcases d.pr hs p hp hn with z | ⟨z1, z2, z3⟩
      · exact .inl z
      · refine .inr ⟨z1, fun n y q k hx => z2 n y q k ?_, z3.imp (fun ⟨y1, n, y, q, k, hx⟩ => ⟨y1, n, y, q, k, sub _ hx⟩) id⟩
        rw [hw]
        rcases hx with hx | hx
        · rw [hx]; exact List.mem_cons_self
        · exact List.mem_cons_of_mem _ hx
theorem DInv.done {W : Nat → Nat → Option Kd} {st : Prop} {many pages : Nat} {S : Sy} (d : DInv W st many pages S) (h : S.way = []) : idle S ∧ (st → ∀ p, p < pages → (∃ n, n < many ∧ W n p ≠ none) → ∃ n, n < many ∧ W n p ≠ none ∧ (S.held n p).want = none) := by
  have hi : idle S := fun p hp => by
    cases ha : (S.homes p).asker with
    | none => rfl
    | some a =>
      exfalso
      obtain ⟨r1, r2⟩ := d.rep p (by rw [← d.dm.2]; exact hp) a ha
      have nw : noW (S.homes p) := fun n => by
        cases hw : (S.homes p).waits n with
        | none => rfl
        | some w =>
          exfalso
          rcases r1 n w hw with ⟨y, z⟩ | ⟨y, ws, z⟩ <;> rw [h] at z <;> cases z
      rcases r2 nw with ⟨y, k, ws, z⟩ | ⟨y, z⟩ <;> rw [h] at z <;> cases z
  refine ⟨hi, fun hs p hp hn => ?_⟩
  rcases d.pr hs p hp hn with z | ⟨z1, z2, ⟨z3, n, y, q, k, z⟩ | ⟨a, k, z, _⟩⟩
  · rw [d.dm.1] at z; exact z
  · rw [h] at z; cases z
  · rw [hi p (by rw [d.dm.2]; exact hp)] at z; cases z
/-- the nodes send anew, one after the other -/
def ticksS (S : Sy) : Nat → Sy
  | 0 => S
  | j + 1 => tickS (ticksS S j) j
theorem ticks_eq (S : Sy) : ∀ j, ticksS S j = { S with way := S.way ++ (List.range j).flatMap (tickL S) }
  | 0 => by
    show S = { S with way := S.way ++ [] }
    rw [List.append_nil]
  | j + 1 => by
    show tickS (ticksS S j) j = _
    rw [ticks_eq S j, flat_succ, ← List.append_assoc]
    rfl
theorem ticks_inv {S : Sy} (I : Inv S) (nd : nodeOk S) (h3 : S.pages ≤ 3) : ∀ j, j ≤ S.many → Inv (ticksS S j) ∧ pot (ticksS S j) ≤ pot S + 9 * j
  | 0, _ => ⟨I, Nat.le_refl _⟩
  | j + 1, h => by
    obtain ⟨i1, i2⟩ := ticks_inv I nd h3 j (by omega)
    have e := ticks_eq S j
    have d1 : (ticksS S j).many = S.many := by rw [e]
    have d2 : (ticksS S j).pages = S.pages := by rw [e]
    have d3 : nodeOk (ticksS S j) := by rw [e]; exact nd
    refine ⟨i1.tick (by omega), ?_⟩
    have := i1.pot_tick (i := j) (by omega) (by omega) d3
    show pot (tickS (ticksS S j) j) ≤ _
    omega
theorem ticks_d {S : Sy} (I : Inv S) (nd : nodeOk S) (h3 : S.pages ≤ 3) : DInv (fun i p => (S.held i p).want) (S.way = [] ∧ idle S) S.many S.pages (ticksS S S.many) := by
  have i1 := (ticks_inv I nd h3 S.many (Nat.le_refl _)).1
  rw [ticks_eq] at i1 ⊢
  refine ⟨i1, nd, ⟨rfl, rfl⟩, fun p hp => ?_, fun i p => .inr rfl, fun hs p hp hn => ?_⟩
  · show RepX (S.homes p) p _
    intro a ha
    refine rep_push (I.wf.hm p) (fun m hm => ?_) a ha
    refine List.mem_append_right _ (List.mem_flatMap.mpr ⟨p % S.many, List.mem_range.mpr (Nat.mod_lt _ I.wf.m1), List.mem_append_right _ (List.mem_flatMap.mpr ⟨p, List.mem_range.mpr hp, ?_⟩)⟩)
    unfold pushL
    rw [if_pos ⟨nd p, by rw [ha]; exact (fun z => nomatch z)⟩]
    exact hm
  · right
    obtain ⟨hs1, hs2⟩ := hs
    have pn : ∀ i r, r < S.pages → pushL S i r = [] := fun i r hr => by
      unfold pushL
      rw [if_neg fun z => z.2 (hs2 r hr)]
    refine ⟨fun n => rfl, fun n y q k hx => ?_, .inl ⟨hs2 p hp, ?_⟩⟩
    · show q = (S.held n p).asked ∧ (S.held n p).want = some k
      have hx : Msg.ask n y p q k ∈ S.way ++ _ := hx
      rw [hs1, List.nil_append] at hx
      obtain ⟨i, _, hx⟩ := List.mem_flatMap.mp hx
      rcases List.mem_append.mp hx with z | z
      · obtain ⟨r, _, z⟩ := List.mem_flatMap.mp z
        unfold askL at z
        split at z
        · rename_i k' hk
          injection List.mem_singleton.mp z with z1 z2 z3 z4 z5
          subst z1 z3 z4 z5
          exact ⟨rfl, hk⟩
        · cases z
      · obtain ⟨r, hr, z⟩ := List.mem_flatMap.mp z
        rw [pn i r (List.mem_range.mp hr)] at z
        cases z
    · obtain ⟨n, hn1, hn2⟩ := hn
      obtain ⟨k, hk⟩ : ∃ k, (S.held n p).want = some k := by
        cases hq : (S.held n p).want with
        | none => exact absurd hq hn2
        | some k => exact ⟨k, rfl⟩
      refine ⟨n, (S.homes p).node, (S.held n p).asked, k, List.mem_append_right _ (List.mem_flatMap.mpr ⟨n, List.mem_range.mpr hn1, List.mem_append_left _ (List.mem_flatMap.mpr ⟨p, List.mem_range.mpr hp, ?_⟩)⟩)⟩
      unfold askL
      rw [hk]
      exact List.mem_cons_self
def wc (S : Sy) (p : Nat) : Nat := sumR S.many fun i => if (S.held i p).want = none then 0 else 1
/-- ahead of the r-th round -/
structure RInv (r : Nat) (S : Sy) : Prop where
  inv : Inv S
  nd : nodeOk S
  p3 : S.pages ≤ 3
  pt : pot S ≤ 1440 + 36 * r
  em : 1 ≤ r → S.way = [] ∧ idle S ∧ ∀ p, p < S.pages → wc S p = 0 ∨ wc S p + r ≤ 5
theorem wc_le {S : Sy} (h : S.many ≤ 4) (p : Nat) : wc S p ≤ 4 := by
  have := sumR_le (n := S.many) (f := fun i => if (S.held i p).want = none then 0 else 1) (g := fun _ => 1) fun i _ => by split <;> decide
  have e : sumR S.many (fun _ => 1) = S.many := by
    generalize S.many = m
    induction m with
    | zero => rfl
    | succ m ih => rw [sumR_succ, ih]
  unfold wc
  omega
theorem sumR_lt {f g : Nat → Nat} {n p : Nat} (hp : p < n) (h : ∀ i, i < n → f i ≤ g i) (hl : f p < g p) : sumR n f < sumR n g := by
  have h1 := sumR_one (f := fun i => if i = p then g p else f i) (g := f) hp fun i hi => if_neg hi
  have h2 := sumR_le (n := n) (f := fun i => if i = p then g p else f i) (g := g) fun i hi => by
    split
    · rename_i c; rw [c]; exact Nat.le_refl _
    · exact h i hi
  have e : (fun i => if i = p then g p else f i) p = g p := if_pos rfl
  dsimp only at h1 e
  rw [e] at h1
  omega
theorem RInv.next {r : Nat} {S S' : Sy} (R : RInv r S) (d : DInv (fun i p => (S.held i p).want) (S.way = [] ∧ idle S) S.many S.pages S') (hp : pot S' ≤ pot S + 36) (he : S'.way = []) : RInv (r + 1) S' := by
  obtain ⟨d1, d2⟩ := d.done he
  refine ⟨d.inv, d.nd, by rw [d.dm.2]; exact R.p3, by have := R.pt; omega, fun _ => ⟨he, d1, fun p hp => ?_⟩⟩
  have hp : p < S.pages := by rw [← d.dm.2]; exact hp
  have le : ∀ i, i < S.many → (if (S'.held i p).want = none then 0 else 1) ≤ (if (S.held i p).want = none then 0 else 1) := fun i _ => by
    rcases d.le i p with z | z
    · rw [if_pos z]; exact Nat.zero_le _
    · rw [z]; exact Nat.le_refl _
  have l1 : wc S' p ≤ wc S p := by
    unfold wc
    rw [d.dm.1]
    exact sumR_le le
  by_cases hr : 1 ≤ r
  · obtain ⟨e1, e2, e3⟩ := R.em hr
    rcases e3 p hp with z | z
    · exact .inl (by omega)
    · by_cases c : wc S p = 0
      · exact .inl (by omega)
      · right
        have hn : ∃ n, n < S.many ∧ (S.held n p).want ≠ none := Classical.byContradiction fun y => c (by
          have := sumR_congr (n := S.many) (f := fun i => if (S.held i p).want = none then 0 else 1) (g := fun _ => 0) fun i hi => if_pos (Classical.byContradiction fun x => y ⟨i, hi, x⟩)
          unfold wc
          rw [this]
          generalize S.many = m
          induction m with
          | zero => rfl
          | succ m ih => rw [sumR_succ, ih])
        obtain ⟨n, n1, n2, n3⟩ := d2 ⟨e1, e2⟩ p hp hn
        have : wc S' p < wc S p := by
          unfold wc
          rw [d.dm.1]
          exact sumR_lt n1 le (by rw [if_pos n3, if_neg n2]; decide)
        omega
  · right
    have := wc_le (S := S') (by rw [d.dm.1]; exact R.inv.wf.m4) p
    omega
theorem RInv.end_ {S : Sy} (R : RInv 12 S) : ∀ i, i < S.many → ∀ p, p < S.pages → (S.held i p).want = none := by
  intro i hi p hp
  rcases (R.em (by decide)).2.2 p hp with z | z
  · refine Classical.byContradiction fun c => ?_
    have h1 := sumR_lt (n := S.many) (p := i) (f := fun _ => 0) (g := fun i => if (S.held i p).want = none then 0 else 1) hi (fun _ _ => Nat.zero_le _) (by rw [if_neg c]; decide)
    unfold wc at z
    omega
  · omega
end K57
set_option Elab.async false
set_option linter.all false
set_option maxRecDepth 100000
set_option maxHeartbeats 4000000
/-! K57Wa: a home is asked. -/
namespace K57
open PySem L2 AB
def spAsked (K : PySem.W.Frag) (a : Ad) : Sp := fun vs H Q _ => ∃ (A : NAd) (S : Sy) (v : V) (n h p : Nat) (num : Int) (k : Kd), vs = [.ref A.n, v] ∧ NodesAt K a H A S ∧ MV K H v (.ask n h p num k) ∧ WF S ∧ n < S.many ∧ p < S.pages ∧ S.way.length + 10 < 100000 ∧
  ∀ H' A', Ch K a H A S H' A' (askedS S n p num k) → Q .non H'
theorem HmAt.seP {K : PySem.W.Frag} {a : Ad} {many : Nat} {H : Hp} {x r wt sv : Addr} {h h' : Hm} (q : HmAt K a many H x r wt sv h) {u : HO} (hd : DN (upd H sv u) sv many fun n => (h'.served n).map V.int)
    (e : h' = { h with served := h'.served }) : HmAt K a many (upd H sv u) x r wt sv h' ∧ Kp [sv] H (upd H sv u) := by
  obtain ⟨dx0, tw0, hx, htw⟩ := q.ob
  have kz := Kp.set (p := sv) (o := u) q.se.mut
  obtain ⟨k1, hr1, _⟩ := q.se.few
  have a1 : sv ≠ x := ne_of hr1 hx (by intro z; cases z)
  have nd := q.nd
  simp only [List.nodup_cons, List.mem_cons, List.not_mem_nil, or_false, not_or, List.nodup_nil, and_true, not_false_eq_true] at nd
  refine ⟨⟨⟨dx0, tw0, ?_, ?_⟩, ?_, ?_, hd, q.nd⟩, kz⟩
  · rw [e]; exact kz.st _ _ (by simp [a1.symm]) hx
  · rw [e]; exact kz.sqT htw
  · rw [e]; exact q.rd.kp kz (by simp only [List.mem_singleton]; exact nd.1.2)
  · rw [e]; exact q.wa.kp kz (by simp only [List.mem_singleton]; exact nd.2)
theorem noWaits_hn {many : Nat} {h : Hm} {n : Nat} {num : Int} {k : Kd} : hasIt (servedH h n num) n k = hasIt h n k := rfl
theorem setHome_same' {S : Sy} {p : Nat} {h : Hm} : (setHome S p h).homes p = h := if_pos rfl
section
variable {P : Program} {w : World} {K : PySem.W.Frag} {mg : Str → Option Value} {base : Heap} {a : Ad} {f : Addr} {fd : FuncData}
theorem ok_asked (F : Fun K "asked" "Nodes.asked" s_Nodes_asked f fd) (T : Txt K mg a) (G_Home_has_it : GMt P w K mg base 1 a.cm "has_it" ["self", "node", "kind"] (spHasIt K a)) (G_Home_begin : GMt P w K mg base 1 a.cm "begin" ["self", "asker", "kind"] (spBegin K a))
    (G_Home_grant : GMt P w K mg base 1 a.cm "grant" ["self"] (spGrant K a)) (G_Nodes_push : GMt P w K mg base 2 a.cn "push" ["self", "page", "home"] (spPush K a)) : FnOk P w K mg base (L2.CX P w) 3 f fd ["self", "message"] (spAsked K a) := by
  refine okT F sc_Nodes_asked (fun vs H Q E h => ?_) (fun cdv A' outer s H vs Q E hr tk hp h => ?_)
  · obtain ⟨A, S, v, n, h, p, num, k, rfl, _⟩ := h
    rfl
  · obtain ⟨A, S, v, n, h, p, num, kd, rfl, q, ⟨t, its, rfl, ht, rfl⟩, wf, hn4, hp', hwl, k⟩ := h
    have hn : ∀ {f : Str}, f ∈ (["many", "pages", "way", "homes", "held"] : List Str) → NoAttr K a.cn f := fun h => T.aN _ h
    have hnM : ∀ {f : Str}, f ∈ (["node", "writer", "readers", "words", "number", "asker", "kind", "waits", "served"] : List Str) → NoAttr K a.cm f := fun h => T.aM _ h
    obtain ⟨dx, hob⟩ := q.ob
    have qm := q.hm p hp'
    obtain ⟨d1, tw1, h1, htw1⟩ := qm.ob
    have wh := wf.hm p
    refine ⟨_, (pss_cons (ps_asg (pv 1) (pg_tup rfl (pgs_cons (pg_name (i := 2) sc_Nodes_asked.nd rfl (by first | exact Or.inl rfl | exact Or.inr rfl)) (pgs_cons (pg_name (i := 3) sc_Nodes_asked.nd rfl (by first | exact Or.inl rfl | exact Or.inr rfl)) (pgs_cons (pg_name (i := 3) sc_Nodes_asked.nd rfl (by first | exact Or.inl rfl | exact Or.inr rfl)) (pgs_cons (pg_name (i := 4) sc_Nodes_asked.nd rfl (by first | exact Or.inl rfl | exact Or.inr rfl)) (pgs_cons (pg_name (i := 5) sc_Nodes_asked.nd rfl (by first | exact Or.inl rfl | exact Or.inr rfl)) (pgs_cons (pg_name (i := 6) sc_Nodes_asked.nd rfl (by first | exact Or.inl rfl | exact Or.inr rfl)) pgs_nil)))))))) (pss_cons (ps_set (i := 7) sc_Nodes_asked.nd rfl (by first | exact Or.inl rfl | exact Or.inr rfl) (pe_ix (k_ixL K (by rfl)) (k_fld K (by rfl) (pe_fld (pv 0) (by rfl))) (pv 4) (fun _ _ => rfl))) (pss_cons (ps_if (PW.pt (pw_or (pt_cmpR op_notN (k_fld K (by rfl) (pe_fld (pv 7) (by rfl))) pe_non (nomark _)) (pw_or1 (pt_cmpR op_le (pv 5) (pe_dget2 (hu_of hr) (k_fld K (by rfl) (pe_fld (pv 7) (by rfl))) (pv 2) pe_int ⟨rfl, rfl, rfl, rfl⟩) (nomark _))))) (pss_one ps_retN) pss_nil) (pss_cons (ps_dput (hu_of hr) (k_fld K (by rfl) (pe_fld (pv 7) (by rfl))) (pv 2) (pv 5) rfl) (pss_cons (ps_if (pt_val (pe_mt (pv 7) G_Home_has_it (hr.mono (by decide)) tk (pa_cons (pv 2) (pa_cons (pv 6) pa_nil)))) (pss_one ps_retN) pss_nil) (pss_cons (ps_expr (pe_mt (pv 7) G_Home_begin (hr.mono (by decide)) tk (pa_cons (pv 2) (pa_cons (pv 6) pa_nil)))) (C8.pss_cut (ps_if (pt_cmpR op_eq (pe_callB call_lenD (by rfl) T.n_len (by decide +kernel) (pa_cons (k_fld K (by rfl) (pe_fld (pv 7) (by rfl))) pa_nil)) pe_int (nomark _)) (pss_one (ps_expr (pe_mt0 (pv 7) G_Home_grant (hr.mono (by decide)) tk))) pss_nil) (pss_one (ps_expr (pe_mt (pv 0) G_Nodes_push (hr.mono (by decide)) tk (pa_cons (pv 4) (pa_cons (pv 7) pa_nil)))))))))))), ?_⟩
    refine ⟨_, rfl, t, _, rfl, ht, rfl, _, _, rfl, _, _, rfl, _, _, rfl, _, _, rfl, _, _, rfl, _, _, rfl, rfl, ?_⟩
    refine ⟨_, rfl, A.n, a.cn, dx, _, _, rfl, hob, T.cN, hn (by simp), nF_homes, _, rfl, A.hs, _, _, _, rfl, rfl, SqL.of q.hs, atI_nat (v := .ref (A.home p)) (by simp [hp']), ?_⟩
    have out : ((S.homes p).asker ≠ none ∨ num ≤ ((S.homes p).served n).getD 0) → Q .non H := fun z => by
      refine k H A ?_
      rw [askedS, if_pos z]
      exact Ch.refl q
    refine ⟨_, rfl, A.home p, a.cm, d1, _, _, rfl, h1, T.cM, hnM (by simp), hF_asker, rfl, _, rfl, ?_⟩
    refine ite_of (fun e => ?_) (fun e => ?_)
    · refine iteT (out (.inl fun z => ?_))
      have e' : (!decide (nV (S.homes p).asker = V.non)) = true := e
      rw [z] at e'
      cases e'
    have hid : (S.homes p).asker = none := by
      cases hq : (S.homes p).asker with
      | none => rfl
      | some m =>
        have e' : (!decide (nV (S.homes p).asker = V.non)) = false := e
        rw [hq] at e'
        cases e'
    obtain ⟨ks, hs1, hsl, hsv⟩ := qm.se.few
    refine ⟨_, rfl, _, rfl, A.home p, a.cm, d1, _, _, rfl, h1, T.cM, hnM (by simp), hF_served, A.sv p, rfl, .inl ⟨ks, .inl hs1⟩, _, rfl, ((S.homes p).served n).map V.int, (by
      have z := DGet.k (k := Sum.inl (n : Int)) hs1
      rw [hsv n] at z
      exact z), num, ((S.homes p).served n).getD 0, rfl, by cases (S.homes p).served n <;> rfl, _, rfl, ?_⟩
    refine ite_of (fun e => ?_) (fun e => ?_)
    · exact out (.inr (of_decide_eq_true e))
    have hnum : ¬ num ≤ ((S.homes p).served n).getD 0 := of_decide_eq_false e
    have hno : ¬ ((S.homes p).asker ≠ none ∨ num ≤ ((S.homes p).served n).getD 0) := fun z => z.elim (fun y => y hid) hnum
    have qsv := qm.seP (h' := servedH (S.homes p) n num) (u := .dK (putK ks (Sum.inl (n : Int)) (.int num))) (by
      have fe : (fun j => if j = n then some (V.int num) else ((S.homes p).served j).map V.int) = fun j => ((servedH (S.homes p) n num).served j).map V.int := by
        funext j
        show _ = (if j = n then some num else (S.homes p).served j).map V.int
        by_cases c : j = n
        · rw [if_pos c, if_pos c]; rfl
        · rw [if_neg c, if_neg c]
      have z := DN.put hs1 qm.se hn4 (.int num)
      rw [fe] at z
      exact z) rfl
    refine ⟨_, rfl, _, rfl, A.home p, a.cm, d1, _, _, rfl, h1, T.cM, hnM (by simp), hF_served, _, rfl, A.sv p, _, rfl, .inl ⟨ks, Sum.inl (n : Int), hs1, rfl, small1000 (by have := wf.m4; omega), rfl⟩, ?_⟩
    obtain ⟨qm1, k1⟩ := qsv
    generalize upd H (A.sv p) (.dK (putK ks (Sum.inl (n : Int)) (.int num))) = H1 at *
    have mus : ∀ b ∈ [A.home p, A.rd p, A.wt p, A.sv p], Mut (H b) := fun b hb => by
      simp only [List.mem_cons, List.not_mem_nil, or_false] at hb
      rcases hb with rfl | rfl | rfl | rfl
      · rw [h1]; exact True.intro
      · exact qm.rd.mut
      · exact qm.wa.mut
      · exact qm.se.mut
    have kk1 : Kp [A.home p, A.rd p, A.wt p, A.sv p] H H1 := k1.wide (fun b hb => by rw [List.mem_singleton.mp hb]; simp) mus
    obtain ⟨d2, tw2, h2, htw2⟩ := qm1.ob
    refine ⟨_, rfl, A.home p, d2, _, rfl, h2, hF_no (by decide +kernel), _, rfl, _, rfl, A.home p, A.rd p, A.wt p, A.sv p, S.many, _, n, kd, rfl, qm1, _, rfl, ?_⟩
    refine ite_of (fun e => ?_) (fun e => ?_)
    · have hh : hasIt (S.homes p) n kd = true := e
      refine k H1 (A.put p (A.rd p) (A.wt p) (A.sv p)) ?_
      rw [askedS, if_neg hno, if_pos hh]
      exact Ch.home q hp' kk1 qm1 (.inl rfl) (.inl rfl) (.inl rfl)
    have hh : ¬ hasIt (S.homes p) n kd = true := by
      have e' : hasIt (S.homes p) n kd = false := e
      rw [e']
      decide
    refine ⟨_, rfl, A.home p, d2, _, rfl, h2, hF_no (by decide +kernel), _, rfl, _, rfl, A.home p, A.rd p, A.wt p, A.sv p, S.many, _, n, kd, rfl, qm1, hn4, wf.m4, wh.wr, wh.rd, fun H2 wt' k2 qm2 hwt' => ?_⟩
    have kk2 : Kp [A.home p, A.rd p, A.wt p, A.sv p] H H2 := kk1.trans k2 fun b hb => .inl (by rw [List.mem_singleton.mp hb]; simp)
    have hwtH : H wt' = none := kk1.fr _ hwt'
    refine ⟨fun σ H' => σ = [some (.ref A.n), some (.ref t), some (.int (n : Int)), some (.str "ask"), some (.int (p : Int)), some (.int num), some (.str kd.s), some (.ref (A.home p))] ∧ ∃ r', Kp [A.home p, A.rd p, A.wt p, A.sv p] H H' ∧ HmAt K a S.many H' (A.home p) r' wt' (A.sv p) (beganH S.many (servedH (S.homes p) n num) n kd) ∧ (r' = A.rd p ∨ H r' = none), ?_, ?_⟩
    · obtain ⟨d3, tw3, h3, htw3⟩ := qm2.ob
      obtain ⟨kw3, hw3, _, hwz, _⟩ := qm2.wa.len0
      refine ⟨_, rfl, A.home p, a.cm, d3, _, _, rfl, h3, T.cM, hnM (by simp), hF_waits, wt', kw3, rfl, hw3, rfl, _, rfl, ?_⟩
      have ez : decide (V.int (kw3.length : Int) = .int 0) = noWaits S.many (beginH (servedH (S.homes p) n num) n kd) := by
        rw [← hwz]
        exact decide_eq_decide.mpr ⟨fun z => V.int.inj z, fun z => by rw [z]⟩
      refine ite_of (fun e => ?_) (fun e => ?_)
      · have hz : noWaits S.many (beginH (servedH (S.homes p) n num) n kd) = true := ez.symm.trans e
        refine ⟨_, rfl, A.home p, d3, _, rfl, h3, hF_no (by decide +kernel), A.home p, A.rd p, wt', A.sv p, S.many, _, n, rfl, qm2, rfl, hn4, wf.m4, fun H4 r' k4 qm4 hr' => ⟨rfl, r', kk2.trans k4 fun b hb => .inl ?_, ?_, hr'.imp id fun z => kk2.fr _ z⟩⟩
        · rcases List.mem_cons.mp hb with e | e
          · simp [e]
          · simp [List.mem_singleton.mp e]
        · rw [beganH, if_pos hz]
          exact qm4
      · have hz : ¬ noWaits S.many (beginH (servedH (S.homes p) n num) n kd) = true := by rw [ez.symm.trans e]; decide
        refine ⟨rfl, A.rd p, kk2, ?_, .inl rfl⟩
        rw [beganH, if_neg hz]
        exact qm2
    · rintro σ' H3 ⟨rfl, r', k3, qm3, hr'⟩
      have c3 := Ch.home q hp' k3 qm3 hr' (.inr hwtH) (.inl rfl)
      obtain ⟨dn, hob3⟩ := c3.at_.ob
      refine ⟨_, rfl, A.n, dn, _, rfl, hob3, nF_no (by decide +kernel), _, rfl, _, rfl, A.put p r' wt' (A.sv p), _, p, rfl, c3.at_, hp', wf.m4, hwl, fun m hm => ?_, fun H4 k4 q4 => k H4 (A.put p r' wt' (A.sv p)) ?_⟩
      · rw [setHome_same'] at hm ⊢
        have e : ∀ h : Hm, (grantH h).kind = h.kind := fun h => by unfold grantH; split <;> rfl
        refine ⟨kd, ?_⟩
        unfold beganH
        split
        · rw [e]; rfl
        · rfl
      · rw [askedS, if_neg hno, if_neg hh]
        have z := c3.trans (Ch.way c3.at_ k4 q4)
        rw [setHome_same'] at z
        exact z
end
end K57
set_option Elab.async false
set_option linter.all false
set_option maxRecDepth 100000
set_option maxHeartbeats 4000000
/-! K57Wb: a home is answered. -/
namespace K57
open PySem L2 AB
def isAns : Msg → Prop
  | .given _ _ _ _ _ => True
  | .have_ _ _ _ _ => True
  | _ => False
def spAnswered (K : PySem.W.Frag) (a : Ad) : Sp := fun vs H Q _ => ∃ (A : NAd) (S : Sy) (v : V) (m : Msg), vs = [.ref A.n, v] ∧ NodesAt K a H A S ∧ MV K H v m ∧ WF S ∧ okM S.many S.pages m ∧ isAns m ∧ S.way.length + 10 < 100000 ∧
  ∀ H' A', Ch K a H A S H' A' (comeS S m) → Q .non H'
section
variable {P : Program} {w : World} {K : PySem.W.Frag} {mg : Str → Option Value} {base : Heap} {a : Ad} {f : Addr} {fd : FuncData}
theorem ok_answered (F : Fun K "answered" "Nodes.answered" s_Nodes_answered f fd) (T : Txt K mg a) (G_Home_is_granting : GMt P w K mg base 1 a.cm "is_granting" ["self"] (spGranting K a)) (G_Home_given : GMt P w K mg base 2 a.cm "given" ["self", "node", "words"] (spGiven K a))
    (G_Nodes_push : GMt P w K mg base 2 a.cn "push" ["self", "page", "home"] (spPush K a)) : FnOk P w K mg base (L2.CX P w) 3 f fd ["self", "message"] (spAnswered K a) := by
  refine okT F sc_Nodes_answered (fun vs H Q E h => ?_) (fun cdv A' outer s H vs Q E hr tk hp h => ?_)
  · obtain ⟨A, S, v, m, rfl, _⟩ := h
    rfl
  · obtain ⟨A, S, v, m, rfl, q0, ⟨t, its, rfl, ht0, hits⟩, wf, ho, hm, hwl, k⟩ := h
    have hn : ∀ {f : Str}, f ∈ (["many", "pages", "way", "homes", "held"] : List Str) → NoAttr K a.cn f := fun h => T.aN _ h
    have hnM : ∀ {f : Str}, f ∈ (["node", "writer", "readers", "words", "number", "asker", "kind", "waits", "served"] : List Str) → NoAttr K a.cm f := fun h => T.aM _ h
    refine ⟨_, (pss_cons (ps_asg (pe_slice (k_slT K (by rfl)) (pv 1) po_none (po_some pe_int)) (pg_tup rfl (pgs_cons (pg_name (i := 2) sc_Nodes_answered.nd rfl (by first | exact Or.inl rfl | exact Or.inr rfl)) (pgs_cons (pg_name (i := 3) sc_Nodes_answered.nd rfl (by first | exact Or.inl rfl | exact Or.inr rfl)) (pgs_cons (pg_name (i := 4) sc_Nodes_answered.nd rfl (by first | exact Or.inl rfl | exact Or.inr rfl)) (pgs_cons (pg_name (i := 5) sc_Nodes_answered.nd rfl (by first | exact Or.inl rfl | exact Or.inr rfl)) (pgs_cons (pg_name (i := 6) sc_Nodes_answered.nd rfl (by first | exact Or.inl rfl | exact Or.inr rfl)) pgs_nil))))))) (pss_cons (ps_set (i := 7) sc_Nodes_answered.nd rfl (by first | exact Or.inl rfl | exact Or.inr rfl) (pe_ix (k_ixL K (by rfl)) (k_fld K (by rfl) (pe_fld (pv 0) (by rfl))) (pv 5) (fun _ _ => rfl))) (pss_cons (ps_if (PW.pt (pw_or (pt_cmpR op_isN (k_fld K (by rfl) (pe_fld (pv 7) (by rfl))) pe_non (nomark _)) (pw_or1 (pt_cmpR op_ne (pv 6) (k_fld K (by rfl) (pe_fld (pv 7) (by rfl))) (nomark _))))) (pss_one ps_retN) pss_nil) (pss_one (ps_if (pt_cmpR op_eq (pv 4) pe_str (nomark _)) (pss_one (ps_if (PW.pt (pw_and (pt_cmpR op_eq (pv 2) (k_fld K (by rfl) (pe_fld (pv 7) (by rfl))) (nomark _)) (pw_and1 (pt_val (pe_mt0 (pv 7) G_Home_is_granting (hr.mono (by decide)) tk))))) (pss_one (ps_asg (pe_tup (pa_cons pe_non (pa_cons pe_non pa_nil))) (pg_tup rfl (pgs_cons (k_gfld K (by rfl) (pg_fld (pv 7))) (pgs_cons (k_gfld K (by rfl) (pg_fld (pv 7))) pgs_nil))))) pss_nil)) (pss_one (ps_if (pt_cmp (pc_din (hu_of hr) (pv 2) (k_fld K (by rfl) (pe_fld (pv 7) (by rfl)))) rfl) (pss_cons (ps_expr (pe_mt (pv 7) G_Home_given (hr.mono (by decide)) tk (pa_cons (pv 2) (pa_cons (pe_ix (k_ixT K (by rfl)) (pv 1) pe_int (fun _ _ => rfl)) pa_nil)))) (pss_one (ps_if (pt_val (pe_mt0 (pv 7) G_Home_is_granting (hr.mono (by decide)) tk)) (pss_one (ps_expr (pe_mt (pv 0) G_Nodes_push (hr.mono (by decide)) tk (pa_cons (pv 5) (pa_cons (pv 7) pa_nil))))) pss_nil))) pss_nil))))))), ?_⟩
    cases m with
    | ask => exact hm.elim
    | put => exact hm.elim
    | grant => exact hm.elim
    | given n y p num ws =>
      obtain ⟨tw, rfl, htw⟩ := hits
      refine ⟨_, rfl, ?_⟩
      unfold tNoPart
      dsimp only
      refine ⟨5, rfl, slA_of ht0 fun H1 t1 k1 ht1 => ?_⟩
      have q := q0.kp0 k1
      have ht := k1.sqT ht0
      obtain ⟨dx, hob⟩ := q.ob
      have hp' : p < S.pages := ho.2.1
      have qm := q.hm p hp'
      obtain ⟨d1, tw1, h1, htw1⟩ := qm.ob
      have wh := wf.hm p
      refine ⟨t1, [.int (n : Int), .int (y : Int), .str "given", .int (p : Int), .int num], rfl, ht1, rfl, _, _, rfl, _, _, rfl, _, _, rfl, _, _, rfl, _, _, rfl, rfl, ?_⟩
      refine ⟨_, rfl, A.n, a.cn, dx, _, _, rfl, hob, T.cN, hn (by simp), nF_homes, _, rfl, A.hs, _, _, _, rfl, rfl, SqL.of q.hs, atI_nat (v := .ref (A.home p)) (by simp [hp']), ?_⟩
      have out : ¬ ((S.homes p).asker ≠ none ∧ num = (S.homes p).number ∧ (S.homes p).waits n ≠ none) → Q .non H1 := fun z => by
        refine k H1 A ?_
        show Ch K a H A S H1 A (givenS S n p num ws)
        rw [givenS, if_neg z]
        exact Ch.of0 q0 k1
      refine ⟨_, rfl, A.home p, a.cm, d1, _, _, rfl, h1, T.cM, hnM (by simp), hF_asker, rfl, _, rfl, ?_⟩
      refine ite_of (fun e => ?_) (fun e => ?_)
      · refine iteT (out fun z => z.1 ?_)
        cases hq : (S.homes p).asker with
        | none => rfl
        | some m => rw [hq] at e; cases e
      obtain ⟨mm, ha⟩ : ∃ m, (S.homes p).asker = some m := by
        cases hq : (S.homes p).asker with
        | none => rw [hq] at e; cases e
        | some m => exact ⟨m, rfl⟩
      refine ⟨_, rfl, _, rfl, A.home p, a.cm, d1, _, _, rfl, h1, T.cM, hnM (by simp), hF_number, rfl, _, rfl, ?_⟩
      refine ite_of (fun e => ?_) (fun e => ?_)
      · refine out fun z => ?_
        have e' : (!decide (V.int num = .int (S.homes p).number)) = true := e
        rw [z.2.1] at e'
        simp at e'
      have hnum : num = (S.homes p).number := by
        have e' : (!decide (V.int num = .int (S.homes p).number)) = false := e
        simp at e'
        exact e'
      refine ⟨_, rfl, rfl, _, rfl, iteF ?_⟩
      obtain ⟨kw, hw1, hwl1, hwv1⟩ := qm.wa.few
      refine ⟨_, rfl, _, rfl, A.home p, a.cm, d1, _, _, rfl, h1, T.cM, hnM (by simp), hF_waits, A.wt p, _, rfl, DGet.k (k := Sum.inl (n : Int)) hw1, _, rfl, ?_⟩
      rw [hwv1 n]
      refine ite_of (fun e => ?_) (fun e => ?_)
      · have hwn : (S.homes p).waits n ≠ none := fun z => by rw [z] at e; cases e
        have cc : (S.homes p).asker ≠ none ∧ num = (S.homes p).number ∧ (S.homes p).waits n ≠ none := ⟨by rw [ha]; exact (fun z => nomatch z), hnum, hwn⟩
        refine ⟨_, rfl, A.home p, d1, _, rfl, h1, hF_no (by decide +kernel), _, rfl, _, rfl, t, _, 5, _, rfl, rfl, ht, rfl, A.home p, A.rd p, A.wt p, A.sv p, S.many, S.homes p, n, mm, tw, ws, rfl, k1.sqT htw, qm, ho.1, wf.m4, ha, (wh.as_ mm ha).1, hwn, fun H2 r' k2 qm2 hr' => ?_⟩
        have c2 := (Ch.of0 q0 k1).trans (Ch.home q hp' (k2.wide (fun b hb => by simp only [List.mem_cons, List.not_mem_nil, or_false] at hb ⊢; rcases hb with h | h | h <;> simp [h]) (fun b hb => by
          simp only [List.mem_cons, List.not_mem_nil, or_false] at hb
          rcases hb with rfl | rfl | rfl | rfl
          · rw [h1]; exact True.intro
          · exact qm.rd.mut
          · exact qm.wa.mut
          · exact qm.se.mut)) qm2 hr' (.inl rfl) (.inl rfl))
        obtain ⟨d2, tw2, h2, htw2⟩ := qm2.ob
        obtain ⟨dn, hob2⟩ := c2.at_.ob
        refine ⟨_, rfl, A.home p, d2, _, rfl, h2, hF_no (by decide +kernel), A.home p, r', A.wt p, A.sv p, S.many, _, rfl, qm2, _, rfl, ?_⟩
        refine ite_of (fun e => ?_) (fun e => ?_)
        · have hg : granting S.many (givenH S.many (S.homes p) n ws) = true := e
          refine ⟨_, rfl, A.n, dn, _, rfl, hob2, nF_no (by decide +kernel), _, rfl, _, rfl, A.put p r' (A.wt p) (A.sv p), _, p, rfl, c2.at_, hp', wf.m4, hwl, fun m hm => ?_, fun H4 k4 q4 => k H4 (A.put p r' (A.wt p) (A.sv p)) ?_⟩
          · have e := givenH_same S.many (S.homes p) n ws
            rw [setHome_same'] at hm ⊢
            rw [e.2.2.1]
            exact (wh.as_ mm ha).2.1
          · show Ch K a H A S H4 _ (givenS S n p num ws)
            rw [givenS, if_pos cc, if_pos hg]
            have z := c2.trans (Ch.way c2.at_ k4 q4)
            rw [setHome_same'] at z
            exact z
        · have hg : ¬ granting S.many (givenH S.many (S.homes p) n ws) = true := by
            have e' : granting S.many (givenH S.many (S.homes p) n ws) = false := e
            rw [e']
            decide
          refine k H2 (A.put p r' (A.wt p) (A.sv p)) ?_
          show Ch K a H A S H2 _ (givenS S n p num ws)
          rw [givenS, if_pos cc, if_neg hg, List.append_nil]
          exact c2
      · refine out fun z => z.2.2 ?_
        cases hq : (S.homes p).waits n with
        | none => rfl
        | some m => rw [hq] at e; cases e
    | have_ n y p num =>
      obtain rfl : its = _ := hits
      refine ⟨_, rfl, ?_⟩
      unfold tNoPart
      dsimp only
      refine ⟨5, rfl, slA_of ht0 fun H1 t1 k1 ht1 => ?_⟩
      have q := q0.kp0 k1
      obtain ⟨dx, hob⟩ := q.ob
      have hp' : p < S.pages := ho.2
      have qm := q.hm p hp'
      obtain ⟨d1, tw1, h1, htw1⟩ := qm.ob
      have wh := wf.hm p
      refine ⟨t1, [.int (n : Int), .int (y : Int), .str "have", .int (p : Int), .int num], rfl, ht1, rfl, _, _, rfl, _, _, rfl, _, _, rfl, _, _, rfl, _, _, rfl, rfl, ?_⟩
      refine ⟨_, rfl, A.n, a.cn, dx, _, _, rfl, hob, T.cN, hn (by simp), nF_homes, _, rfl, A.hs, _, _, _, rfl, rfl, SqL.of q.hs, atI_nat (v := .ref (A.home p)) (by simp [hp']), ?_⟩
      have out : ¬ ((S.homes p).asker = some n ∧ num = (S.homes p).number ∧ granting S.many (S.homes p) = true) → Q .non H1 := fun z => by
        refine k H1 A ?_
        show Ch K a H A S H1 A (hadS S n p num)
        rw [hadS, if_neg z]
        exact Ch.of0 q0 k1
      refine ⟨_, rfl, A.home p, a.cm, d1, _, _, rfl, h1, T.cM, hnM (by simp), hF_asker, rfl, _, rfl, ?_⟩
      refine ite_of (fun e => ?_) (fun e => ?_)
      · refine iteT (out fun z => ?_)
        rw [z.1] at e
        cases e
      refine ⟨_, rfl, _, rfl, A.home p, a.cm, d1, _, _, rfl, h1, T.cM, hnM (by simp), hF_number, rfl, _, rfl, ?_⟩
      refine ite_of (fun e => ?_) (fun e => ?_)
      · refine out fun z => ?_
        have e' : (!decide (V.int num = .int (S.homes p).number)) = true := e
        rw [z.2.1] at e'
        simp at e'
      have hnum : num = (S.homes p).number := by
        have e' : (!decide (V.int num = .int (S.homes p).number)) = false := e
        simp at e'
        exact e'
      refine ⟨_, rfl, rfl, _, rfl, iteT ?_⟩
      refine ⟨_, rfl, _, rfl, A.home p, a.cm, d1, _, _, rfl, h1, T.cM, hnM (by simp), hF_asker, by cases (S.homes p).asker <;> rfl, _, rfl, ?_⟩
      have en : decide (V.int (n : Int) = nV (S.homes p).asker) = decide ((S.homes p).asker = some n) := by
        cases (S.homes p).asker with
        | none => exact decide_eq_decide.mpr ⟨(fun z => nomatch z), (fun z => nomatch z)⟩
        | some m => exact decide_eq_decide.mpr ⟨fun z => by have := V.int.inj z; rw [show m = n by omega], fun z => by rw [Option.some.inj z]; rfl⟩
      refine ite_of (fun e => ?_) (fun e => ?_)
      · have ha : (S.homes p).asker = some n := of_decide_eq_true (en.symm.trans e)
        refine ⟨_, rfl, A.home p, d1, _, rfl, h1, hF_no (by decide +kernel), A.home p, A.rd p, A.wt p, A.sv p, S.many, S.homes p, rfl, qm, _, rfl, ?_⟩
        refine ite_of (fun e => ?_) (fun e => ?_)
        · have hg : granting S.many (S.homes p) = true := e
          refine ⟨(by show 2 ≤ sizeLine; decide), fun t2 ht2 => ?_⟩
          have k2 := Kp.new (o := .tup [V.non, .non]) ht2
          have e1 := k2.same _ _ h1
          refine ⟨t2, _, rfl, SqT.of upd_same, rfl, _, _, rfl, _, rfl, A.home p, a.cm, d1, _, rfl, e1, T.cM, hnM (by simp), hF_len, ?_⟩
          rw [hF_p_asker]
          refine ⟨_, _, rfl, _, rfl, A.home p, a.cm, d1, _, rfl, upd_same, T.cM, hnM (by simp), hF_len, rfl, ?_⟩
          rw [hF_p_kind, upd_upd]
          have qm2 := qm.kp k2 (by simp) (by simp) (by simp) (by simp)
          have z := HmAt.obj (h' := freeH (S.homes p)) qm2 rfl rfl rfl (dx := d1) (tw := tw1) (k2.sqT htw1)
          refine k _ (A.put p (A.rd p) (A.wt p) (A.sv p)) ?_
          show Ch K a H A S _ _ (hadS S n p num)
          rw [hadS, if_pos ⟨ha, hnum, hg⟩]
          have q2 := q.kp0 k2
          refine ((Ch.of0 q0 k1).trans (Ch.of0 q k2)).trans (Ch.home q2 hp' (z.2.wide (fun b hb => by rw [List.mem_singleton.mp hb]; simp) (fun b hb => ?_)) z.1 (.inl rfl) (.inl rfl) (.inl rfl))
          simp only [List.mem_cons, List.not_mem_nil, or_false] at hb
          rcases hb with rfl | rfl | rfl | rfl
          · rw [e1]; exact True.intro
          · exact qm2.rd.mut
          · exact qm2.wa.mut
          · exact qm2.se.mut
        · refine out fun z => ?_
          have e' : granting S.many (S.homes p) = false := e
          rw [e'] at z
          cases z.2.2
      · refine out fun z => ?_
        have := en.symm.trans e
        rw [z.1] at this
        simp at this
end
end K57
set_option Elab.async false
set_option linter.all false
set_option maxRecDepth 100000
set_option maxHeartbeats 4000000
/-! K57Wc: a node follows a call, takes a page. -/
namespace K57
open PySem L2 AB
def doneP (h : Hold) (w : Wd) : Hold := { h with mode := if w = .go then none else some .r }
def doneG (h : Hold) (k : Kd) (ws : List Int) : Hold := { h with mode := some k, words := ws, want := if h.want = some .r ∨ k = .w then none else h.want }
def spDone (K : PySem.W.Frag) (a : Ad) : Sp := fun vs H Q _ => ∃ (s x : Addr) (i : Nat) (v : V) (h : Hold), vs = [.ref s, .int (i : Int), .ref x, v] ∧ HoldAt K a H x h ∧
  ((∃ y n p q w, MV K H v (.put y n p q w) ∧ ∀ H' v', Kp [x] H H' → HoldAt K a H' x (doneP h w) → MV K H' v' (.given i y p q h.words) → Q v' H') ∨
   (∃ y n p q k ws, MV K H v (.grant y n p q k ws) ∧ ∀ H' v', Kp [x] H H' → HoldAt K a H' x (doneG h k ws) → MV K H' v' (.have_ i y p q) → Q v' H'))
section
variable {P : Program} {w : World} {K : PySem.W.Frag} {mg : Str → Option Value} {base : Heap} {a : Ad} {f : Addr} {fd : FuncData}
theorem ok_done (F : Fun K "done" "Nodes.done" s_Nodes_done f fd) (T : Txt K mg a) : FnOk P w K mg base (L2.CX P w) 1 f fd ["self", "node", "own", "message"] (spDone K a) := by
  refine okT F sc_Nodes_done (fun vs H Q E h => ?_) (fun cdv A' outer s H vs Q E hr tk hp h => ?_)
  · obtain ⟨s, x, i, v, h, rfl, _⟩ := h
    rfl
  · obtain ⟨sa, x, i, v, h, rfl, hh, kk⟩ := h
    have hnH : ∀ {f : Str}, f ∈ (["mode", "words", "want", "asked", "last", "answer"] : List Str) → NoAttr K a.ch f := fun h => T.aH _ h
    refine ⟨_, (pss_cons (ps_asg (pe_tup (pa_cons (pe_ix (k_ixT K (by rfl)) (pv 3) pe_int (fun _ _ => rfl)) (pa_cons (pe_ix (k_ixT K (by rfl)) (pv 3) pe_int (fun _ _ => rfl)) (pa_cons (pe_ix (k_ixT K (by rfl)) (pv 3) pe_int (fun _ _ => rfl)) (pa_cons (pe_ix (k_ixT K (by rfl)) (pv 3) pe_int (fun _ _ => rfl)) pa_nil))))) (pg_tup rfl (pgs_cons (pg_name (i := 4) sc_Nodes_done.nd rfl (by first | exact Or.inl rfl | exact Or.inr rfl)) (pgs_cons (pg_name (i := 5) sc_Nodes_done.nd rfl (by first | exact Or.inl rfl | exact Or.inr rfl)) (pgs_cons (pg_name (i := 6) sc_Nodes_done.nd rfl (by first | exact Or.inl rfl | exact Or.inr rfl)) (pgs_cons (pg_name (i := 7) sc_Nodes_done.nd rfl (by first | exact Or.inl rfl | exact Or.inr rfl)) pgs_nil)))))) (pss_cons (ps_if (pt_cmpR (k_in K (by rfl)) (pv 5) (pe_tup (pa_cons pe_str (pa_cons pe_str pa_nil))) (by rfl)) (pss_cons (ps_fld (pv 2) (pe_ifExp (pt_cmpR op_eq (pv 5) pe_str (nomark _)) pe_non (pe_gv T.c_READ)) rfl) (pss_one (ps_ret (pe_tup (pa_cons (pv 1) (pa_cons (pv 4) (pa_cons pe_str (pa_cons (pv 6) (pa_cons (pv 7) (pa_cons (k_fld K (by rfl) (pe_fld (pv 2) (by rfl))) pa_nil)))))))))) pss_nil) (pss_cons (ps_asg (pe_tup (pa_cons (pv 5) (pa_cons (pe_ix (k_ixT K (by rfl)) (pv 3) pe_int (fun _ _ => rfl)) pa_nil))) (pg_tup rfl (pgs_cons (k_gfld K (by rfl) (pg_fld (pv 2))) (pgs_cons (k_gfld K (by rfl) (pg_fld (pv 2))) pgs_nil)))) (C8.pss_cut (ps_if (PW.pt (pw_or (pt_cmpR op_eq (k_fld K (by rfl) (pe_fld (pv 2) (by rfl))) (pe_gv T.c_READ) (nomark _)) (pw_or1 (pt_cmpR op_eq (pv 5) (pe_gv T.c_WRITE) (nomark _))))) (pss_one (ps_fld (pv 2) pe_non rfl)) pss_nil) (pss_one (ps_ret (pe_tup (pa_cons (pv 1) (pa_cons (pv 4) (pa_cons pe_str (pa_cons (pv 6) (pa_cons (pv 7) pa_nil)))))))))))), ?_⟩
    obtain ⟨dx, tw, va, hx, htw, hva⟩ := hh
    have muH : Mut (H x) := by rw [hx]; exact True.intro
    rcases kk with ⟨y, n, p, q, wd, ⟨t, its, rfl, ht, rfl⟩, k⟩ | ⟨y, n, p, q, kd, ws, ⟨t, its, rfl, ht, t6, rfl, ht6⟩, k⟩
    · refine ⟨_, rfl, t, _, 0, _, rfl, rfl, ht, rfl, _, rfl, t, _, 2, _, rfl, rfl, ht, rfl, _, rfl, t, _, 3, _, rfl, rfl, ht, rfl, _, rfl, t, _, 4, _, rfl, rfl, ht, rfl, (by show 4 ≤ sizeLine; decide), fun t1 ht1 => ?_⟩
      refine ⟨t1, _, rfl, SqT.of upd_same, rfl, _, _, rfl, _, _, rfl, _, _, rfl, _, _, rfl, rfl, ?_⟩
      have k1 := Kp.new (o := .tup [V.int (y : Int), .str wd.s, .int (p : Int), .int q]) ht1
      refine ⟨_, rfl, (by show 2 ≤ sizeLine; decide), fun t2 ht2 => ⟨t2, _, rfl, .inr (SqT.of upd_same), rfl, rfl, true, by cases wd <;> rfl, iteT ?_⟩⟩
      have k2 := k1.trans0 (Kp.new (o := .tup [V.str "go", .str "share"]) ht2)
      generalize upd (upd H t1 (.tup [V.int (y : Int), .str wd.s, .int (p : Int), .int q])) t2 (.tup [V.str "go", .str "share"]) = H2 at *
      have hx2 := k2.same _ _ hx
      have fin : ∀ va', AV K H2 va' h.answer → ∀ mo : Option Kd, mo = (if wd = .go then none else some .r) → ∀ H3, H3 = upd H2 x (.ins a.ch dx (oF (kdV mo) (.ref tw) (kdV h.want) (.int h.asked) (.int h.last) va')) → ∀ t3, H3 t3 = none → Q (.ref t3) (upd H3 t3 (.tup [.int (i : Int), .int (y : Int), .str "given", .int (p : Int), .int q, .ref tw])) := by
        rintro va' hva' mo hmo H3 rfl t3 ht3
        have kz := Kp.set (p := x) (o := .ins a.ch dx (oF (kdV mo) (.ref tw) (kdV h.want) (.int h.asked) (.int h.last) va')) (show Mut (H2 x) by rw [hx2]; exact True.intro)
        have kt := Kp.new (o := .tup [.int (i : Int), .int (y : Int), .str "given", .int (p : Int), .int q, .ref tw]) ht3
        refine k _ _ (((k2.wide (m' := [x]) (fun b h => nomatch h) (fun b hb => by rw [List.mem_singleton.mp hb]; exact muH)).trans1 kz).trans0 kt) ?_ ⟨t3, _, rfl, SqT.of upd_same, tw, rfl, kt.sqT (kz.sqT (k2.sqT htw))⟩
        refine ⟨dx, tw, va', ?_, kt.sqT (kz.sqT (k2.sqT htw)), (hva'.kp kz).kp kt⟩
        have e := kt.same _ _ (upd_same (H := H2) (a := x) (o := .ins a.ch dx (oF (kdV mo) (.ref tw) (kdV h.want) (.int h.asked) (.int h.last) va')))
        rw [hmo] at e ⊢
        exact e
      cases wd with
      | go =>
        refine ⟨_, rfl, rfl, _, rfl, iteT ⟨_, rfl, x, a.ch, dx, _, rfl, hx2, T.cH, hnH (by simp), oF_len, ?_⟩⟩
        rw [oF_p_mode]
        refine ⟨_, rfl, _, rfl, _, rfl, _, rfl, _, rfl, x, a.ch, dx, _, _, rfl, upd_same, T.cH, hnH (by simp), oF_words, (by show 6 ≤ sizeLine; decide), fun t3 ht3 => ?_⟩
        exact fin va (hva.kp k2) none rfl _ rfl t3 ht3
      | sh =>
        refine ⟨_, rfl, rfl, _, rfl, iteF ⟨_, rfl, x, a.ch, dx, _, rfl, hx2, T.cH, hnH (by simp), oF_len, ?_⟩⟩
        rw [oF_p_mode]
        refine ⟨_, rfl, _, rfl, _, rfl, _, rfl, _, rfl, x, a.ch, dx, _, _, rfl, upd_same, T.cH, hnH (by simp), oF_words, (by show 6 ≤ sizeLine; decide), fun t3 ht3 => ?_⟩
        exact fin va (hva.kp k2) (some .r) rfl _ rfl t3 ht3
    · refine ⟨_, rfl, t, _, 0, _, rfl, rfl, ht, rfl, _, rfl, t, _, 2, _, rfl, rfl, ht, rfl, _, rfl, t, _, 3, _, rfl, rfl, ht, rfl, _, rfl, t, _, 4, _, rfl, rfl, ht, rfl, (by show 4 ≤ sizeLine; decide), fun t1 ht1 => ?_⟩
      refine ⟨t1, _, rfl, SqT.of upd_same, rfl, _, _, rfl, _, _, rfl, _, _, rfl, _, _, rfl, rfl, ?_⟩
      have k1 := Kp.new (o := .tup [V.int (y : Int), .str kd.s, .int (p : Int), .int q]) ht1
      refine ⟨_, rfl, (by show 2 ≤ sizeLine; decide), fun t2 ht2 => ⟨t2, _, rfl, .inr (SqT.of upd_same), rfl, rfl, false, by cases kd <;> rfl, iteF ?_⟩⟩
      have k2 := k1.trans0 (Kp.new (o := .tup [V.str "go", .str "share"]) ht2)
      generalize upd (upd H t1 (.tup [V.int (y : Int), .str kd.s, .int (p : Int), .int q])) t2 (.tup [V.str "go", .str "share"]) = H2 at *
      refine ⟨_, rfl, _, rfl, t, _, 5, _, rfl, rfl, k2.sqT ht, rfl, (by show 2 ≤ sizeLine; decide), fun t3 ht3 => ?_⟩
      have k3 := k2.trans0 (Kp.new (o := .tup [V.str kd.s, .ref t6]) ht3)
      have e3 := k3.same _ _ hx
      refine ⟨t3, _, rfl, SqT.of upd_same, rfl, _, _, rfl, _, rfl, x, a.ch, dx, _, rfl, e3, T.cH, hnH (by simp), oF_len, ?_⟩
      rw [oF_p_mode]
      refine ⟨_, _, rfl, _, rfl, x, a.ch, dx, _, rfl, upd_same, T.cH, hnH (by simp), oF_len, rfl, ?_⟩
      rw [oF_p_words, upd_upd]
      have kz := Kp.set (p := x) (o := .ins a.ch dx (oF (.str kd.s) (.ref t6) (kdV h.want) (.int h.asked) (.int h.last) va)) (show Mut (upd H2 t3 (.tup [V.str kd.s, .ref t6]) x) by rw [e3]; exact True.intro)
      have k4 := (k3.wide (m' := [x]) (fun b h => nomatch h) (fun b hb => by rw [List.mem_singleton.mp hb]; exact muH)).trans1 kz
      have e4 : upd (upd H2 t3 (.tup [V.str kd.s, .ref t6])) x (.ins a.ch dx (oF (.str kd.s) (.ref t6) (kdV h.want) (.int h.asked) (.int h.last) va)) x = some (.ins a.ch dx (oF (.str kd.s) (.ref t6) (kdV h.want) (.int h.asked) (.int h.last) va)) := upd_same
      generalize upd (upd H2 t3 (.tup [V.str kd.s, .ref t6])) x (.ins a.ch dx (oF (.str kd.s) (.ref t6) (kdV h.want) (.int h.asked) (.int h.last) va)) = H4 at *
      have ht4 := k4.sqT ht6
      have hv4 := hva.kp k4
      refine ⟨fun σ H' => σ = [some (.ref sa), some (.int (i : Int)), some (.ref x), some (.ref t), some (.int (y : Int)), some (.str kd.s), some (.int (p : Int)), some (.int q)] ∧ Kp [x] H H' ∧ HoldAt K a H' x (doneG h kd ws), ?_, ?_⟩
      · have clear : (h.want = some .r ∨ kd = .w) → Kp [x] H (upd H4 x (.ins a.ch dx (oF (.str kd.s) (.ref t6) .non (.int h.asked) (.int h.last) va))) ∧ HoldAt K a (upd H4 x (.ins a.ch dx (oF (.str kd.s) (.ref t6) .non (.int h.asked) (.int h.last) va))) x (doneG h kd ws) := fun c => by
          have ky := Kp.set (p := x) (o := .ins a.ch dx (oF (.str kd.s) (.ref t6) .non (.int h.asked) (.int h.last) va)) (show Mut (H4 x) by rw [e4]; exact True.intro)
          refine ⟨k4.trans1 ky, dx, t6, va, ?_, ky.sqT ht4, hv4.kp ky⟩
          have ew : (doneG h kd ws).want = none := if_pos c
          rw [ew]
          exact upd_same
        have e1 : decide (kdV h.want = .str "read") = decide (h.want = some .r) := by
          cases h.want with
          | none => exact decide_eq_decide.mpr ⟨(fun z => nomatch z), (fun z => nomatch z)⟩
          | some j => exact decide_eq_decide.mpr ⟨fun z => by rw [(kd_inj (j := .r)).mp z], fun z => by rw [Option.some.inj z]; rfl⟩
        refine ⟨_, rfl, x, a.ch, dx, _, _, rfl, e4, T.cH, hnH (by simp), oF_want, by cases h.want <;> rfl, _, rfl, ?_⟩
        refine ite_of (fun e => ?_) (fun e => ?_)
        · have c := clear (.inl (of_decide_eq_true (e1.symm.trans e)))
          refine iteT ⟨_, rfl, x, a.ch, dx, _, rfl, e4, T.cH, hnH (by simp), oF_len, ?_⟩
          rw [oF_p_want]
          exact ⟨rfl, c⟩
        · have c1 : ¬ h.want = some .r := of_decide_eq_false (e1.symm.trans e)
          refine ⟨_, rfl, by cases kd <;> rfl, _, rfl, ?_⟩
          have e2 : decide (V.str kd.s = .str "write") = decide (kd = .w) := decide_eq_decide.mpr (kd_inj (j := .w))
          refine ite_of (fun e => ?_) (fun e => ?_)
          · have c := clear (.inr (of_decide_eq_true (e2.symm.trans e)))
            refine ⟨_, rfl, x, a.ch, dx, _, rfl, e4, T.cH, hnH (by simp), oF_len, ?_⟩
            rw [oF_p_want]
            exact ⟨rfl, c⟩
          · have c2 : ¬ kd = .w := of_decide_eq_false (e2.symm.trans e)
            refine ⟨rfl, k4, dx, t6, va, ?_, ht4, hv4⟩
            have ew : (doneG h kd ws).want = h.want := if_neg fun z => z.elim c1 c2
            rw [ew]
            exact e4
      · rintro σ' H5 ⟨rfl, k5, hd⟩
        refine ⟨_, rfl, _, rfl, _, rfl, _, rfl, (by show 5 ≤ sizeLine; decide), fun t7 ht7 => ?_⟩
        have kt := Kp.new (o := .tup [.int (i : Int), .int (y : Int), .str "have", .int (p : Int), .int q]) ht7
        exact k _ _ (k5.trans0 kt) (hd.kp kt (by simp)) ⟨t7, _, rfl, SqT.of upd_same, rfl⟩
end
end K57
set_option Elab.async false
set_option linter.all false
set_option maxRecDepth 100000
set_option maxHeartbeats 4000000
/-! K57Wd: a node follows a message; a message comes; one is delivered. -/
namespace K57
open PySem L2 AB
def isCall : Msg → Prop
  | .put _ _ _ _ _ => True
  | .grant _ _ _ _ _ _ => True
  | _ => False
def spFollow (K : PySem.W.Frag) (a : Ad) : Sp := fun vs H Q _ => ∃ (A : NAd) (S : Sy) (v : V) (n p : Nat) (m : Msg), vs = [.ref A.n, .int (n : Int), .int (p : Int), v] ∧ NodesAt K a H A S ∧ MV K H v m ∧ WF S ∧ S.way.length + 10 < 100000 ∧
  n < S.many ∧ p < S.pages ∧ ((∃ y q w, m = .put y n p q w ∧ 1 ≤ q) ∨ ∃ y q k ws, m = .grant y n p q k ws ∧ 1 ≤ q) ∧ ∀ H', Ch K a H A S H' A (comeS S m) → Q .non H'
section
variable {P : Program} {w : World} {K : PySem.W.Frag} {mg : Str → Option Value} {base : Heap} {a : Ad} {f : Addr} {fd : FuncData}
theorem ok_follow (F : Fun K "follow" "Nodes.follow" s_Nodes_follow f fd) (T : Txt K mg a) (G_Nodes_done : GMt P w K mg base 1 a.cn "done" ["self", "node", "own", "message"] (spDone K a)) (G_Nodes_send : GMt P w K mg base 1 a.cn "send" ["self", "message"] (spSend K a)) :
    FnOk P w K mg base (L2.CX P w) 2 f fd ["self", "node", "page", "message"] (spFollow K a) := by
  refine okT F sc_Nodes_follow (fun vs H Q E h => ?_) (fun cdv A' outer s H vs Q E hr tk hp h => ?_)
  · obtain ⟨A, S, v, n, p, m, rfl, _⟩ := h
    rfl
  · obtain ⟨A, S, v, n, p, m, rfl, q0, ⟨t, its, rfl, ht, hits⟩, wf, hwl, hn4, hp', hm, k⟩ := h
    have hn : ∀ {f : Str}, f ∈ (["many", "pages", "way", "homes", "held"] : List Str) → NoAttr K a.cn f := fun h => T.aN _ h
    have hnH : ∀ {f : Str}, f ∈ (["mode", "words", "want", "asked", "last", "answer"] : List Str) → NoAttr K a.ch f := fun h => T.aH _ h
    refine ⟨_, (pss_cons (ps_par (i := 4) (j := 5) (by rfl) sc_Nodes_follow.nd rfl rfl (by decide) rfl rfl (pa_cons (pe_ix (k_ixL K (by rfl)) (pe_ix (k_ixL K (by rfl)) (k_fld K (by rfl) (pe_fld (pv 0) (by rfl))) (pv 1) (fun _ _ => rfl)) (pv 2) (fun _ _ => rfl)) (pa_cons (pe_ix (k_ixT K (by rfl)) (pv 3) pe_int (fun _ _ => rfl)) pa_nil)) (by rfl)) (C8.pss_cut (ps_if (pt_cmpR op_gt (pv 5) (k_fld K (by rfl) (pe_fld (pv 4) (by rfl))) (nomark _)) (pss_cons (ps_fld (pv 4) (pv 5) rfl) (pss_one (ps_fld (pv 4) (pe_mt (pv 0) G_Nodes_done (hr.mono (by decide)) tk (pa_cons (pv 1) (pa_cons (pv 4) (pa_cons (pv 3) pa_nil)))) rfl))) pss_nil) (pss_one (ps_if (pt_cmpR op_eq (pv 5) (k_fld K (by rfl) (pe_fld (pv 4) (by rfl))) (nomark _)) (pss_one (ps_expr (pe_mt (pv 0) G_Nodes_send (hr.mono (by decide)) tk (pa_cons (k_fld K (by rfl) (pe_fld (pv 4) (by rfl))) pa_nil)))) pss_nil)))), ?_⟩
    obtain ⟨dx, hob⟩ := q0.ob
    obtain ⟨d0, tw, va, h0, htw, hva⟩ := q0.ho n p hn4 hp'
    -- what is done, and what it leaves
    obtain ⟨num, mid, ans, h1, h4, hmid, hdone, hcome⟩ : ∃ (num : Int) (mid : Hold) (ans : Msg), 1 ≤ num ∧ atI its 4 = some (.int num) ∧ mid.last = num ∧
        (∀ (H1 : Hp) (Q1 : VK) (s1 : Addr), (∀ H' ms, Kp ms H H' → H1 = H' → msgL K H1 its m) → SqT K H1 t its → (msgL K H1 its m) → HoldAt K a H1 (A.hold n p) { S.held n p with last := num } → (∀ H' v', Kp [A.hold n p] H1 H' → HoldAt K a H' (A.hold n p) mid → MV K H' v' ans → Q1 v' H') → ∀ E1, spDone K a [.ref A.n, .int (n : Int), .ref (A.hold n p), .ref t] H1 Q1 E1) ∧
        comeS S m = ansS (if num > (S.held n p).last then setHold S n p { mid with answer := some ans } else S) n p num := by
      rcases hm with ⟨y, q, wd, rfl, hq⟩ | ⟨y, q, kd, ws, rfl, hq⟩
      · refine ⟨q, doneP { S.held n p with last := q } wd, .given n y p q (S.held n p).words, hq, ?_, rfl, fun H1 Q1 s1 _ ht1 hm1 hh kq E1 => ⟨A.n, A.hold n p, n, .ref t, _, rfl, hh, .inl ⟨y, n, p, q, wd, ⟨t, its, rfl, ht1, hm1⟩, kq⟩⟩, rfl⟩
        obtain rfl : its = _ := hits
        rfl
      · refine ⟨q, doneG { S.held n p with last := q } kd ws, .have_ n y p q, hq, ?_, rfl, fun H1 Q1 s1 _ ht1 hm1 hh kq E1 => ⟨A.n, A.hold n p, n, .ref t, _, rfl, hh, .inr ⟨y, n, p, q, kd, ws, ⟨t, its, rfl, ht1, hm1⟩, kq⟩⟩, rfl⟩
        obtain ⟨t6, rfl, _⟩ := hits
        rfl
    refine ⟨_, rfl, A.n, a.cn, dx, _, _, rfl, hob, T.cN, hn (by simp), nF_held, _, rfl, A.hd, _, _, _, rfl, rfl, SqL.of q0.hd, atI_nat (v := .ref (A.row n)) (by simp [hn4]), _, rfl, A.row n, _, _, _, rfl, rfl, SqL.of (q0.rw n hn4), atI_nat (v := .ref (A.hold n p)) (by simp [hp']), _, rfl, t, its, 4, _, rfl, rfl, ht, h4, _, _, rfl, ?_⟩
    obtain ⟨H1, eH⟩ : ∃ H1, H1 = H := ⟨H, rfl⟩
    have k1 : Kp [] H H1 := by rw [eH]; exact Kp.refl H
    have q1 := q0.kp0 k1
    have c1 := Ch.of0 q0 k1
    have e1 := k1.same _ _ h0
    have ht1' := k1.sqT ht
    have hits1 := hits.kp k1
    have htw1 := k1.sqT htw
    have hva1 := hva.kp k1
    rw [← eH]
    obtain ⟨dn, hob1⟩ := q1.ob
    refine ⟨fun σ H' => σ = [some (.ref A.n), some (.int (n : Int)), some (.int (p : Int)), some (.ref t), some (.ref (A.hold n p)), some (.int num)] ∧ Ch K a H A S H' A (if num > (S.held n p).last then setHold S n p { mid with answer := some ans } else S), ?_, ?_⟩
    · refine ⟨_, rfl, _, rfl, A.hold n p, a.ch, d0, _, _, rfl, e1, T.cH, hnH (by simp), oF_last, _, _, rfl, rfl, _, rfl, ?_⟩
      refine ite_of (fun e => ?_) (fun e => ?_)
      · have hg : num > (S.held n p).last := of_decide_eq_true e
        refine ⟨_, rfl, _, rfl, A.hold n p, a.ch, d0, _, rfl, e1, T.cH, hnH (by simp), oF_len, ?_⟩
        rw [oF_p_last]
        have k2 := Kp.set (p := A.hold n p) (o := .ins a.ch d0 (oF (kdV (S.held n p).mode) (.ref tw) (kdV (S.held n p).want) (.int (S.held n p).asked) (.int num) va)) (show Mut (H1 (A.hold n p)) by rw [e1]; exact True.intro)
        have hh2 : HoldAt K a (upd H1 (A.hold n p) (.ins a.ch d0 (oF (kdV (S.held n p).mode) (.ref tw) (kdV (S.held n p).want) (.int (S.held n p).asked) (.int num) va))) (A.hold n p) { S.held n p with last := num } := ⟨d0, tw, va, upd_same, k2.sqT htw1, hva1.kp k2⟩
        have c2 := Ch.hold q1 hn4 hp' k2 hh2
        obtain ⟨dn2, hob2⟩ := c2.at_.ob
        refine ⟨_, rfl, A.n, dn2, _, rfl, hob2, nF_no (by decide +kernel), _, rfl, _, rfl, _, rfl, ?_⟩
        refine hdone _ _ t (fun _ _ _ e => hits1.kp k2) (k2.sqT ht1') (hits1.kp k2) hh2 (fun H3 v3 k3 hh3 hv3 => ?_) E
        obtain ⟨d3, tw3, va3, h3, htw3, hva3⟩ := hh3
        refine ⟨_, rfl, A.hold n p, a.ch, d3, _, rfl, h3, T.cH, hnH (by simp), oF_len, ?_⟩
        rw [oF_p_answer]
        have k4 := Kp.set (p := A.hold n p) (o := .ins a.ch d3 (oF (kdV mid.mode) (.ref tw3) (kdV mid.want) (.int mid.asked) (.int mid.last) v3)) (show Mut (H3 (A.hold n p)) by rw [h3]; exact True.intro)
        refine ⟨rfl, ?_⟩
        rw [if_pos hg]
        exact c1.trans (Ch.hold q1 hn4 hp' ((k2.trans1 k3).trans1 k4) ⟨d3, tw3, v3, upd_same, k4.sqT htw3, hv3.kp k4⟩)
      · have hg : ¬ num > (S.held n p).last := of_decide_eq_false e
        rw [if_neg hg]
        exact ⟨rfl, c1⟩
    · rintro σ' H2 ⟨rfl, c2⟩
      generalize hS : (if num > (S.held n p).last then setHold S n p { mid with answer := some ans } else S) = S1 at *
      have dm : S1.many = S.many ∧ S1.pages = S.pages ∧ S1.way = S.way := by
        rw [← hS]
        split <;> exact ⟨rfl, rfl, rfl⟩
      have an : (S1.held n p).last = 0 ∨ ∃ m', (S1.held n p).answer = some m' := by
        rw [← hS]
        split
        · right
          refine ⟨ans, ?_⟩
          show (if n = n ∧ p = p then _ else _ : Hold).answer = _
          rw [if_pos ⟨rfl, rfl⟩]
        · exact (wf.ha n p).imp id fun ⟨m', e, _⟩ => ⟨m', e⟩
      obtain ⟨d2, tw2, va2, h2, htw2, hva2⟩ := c2.at_.ho n p (by rw [dm.1]; exact hn4) (by rw [dm.2.1]; exact hp')
      obtain ⟨dn2, hob2⟩ := c2.at_.ob
      refine ⟨_, rfl, _, rfl, A.hold n p, a.ch, d2, _, _, rfl, h2, T.cH, hnH (by simp), oF_last, rfl, _, rfl, ?_⟩
      refine ite_of (fun e => ?_) (fun e => ?_)
      · have hg : num = (S1.held n p).last := V.int.inj (of_decide_eq_true e)
        obtain ⟨m', hm'⟩ : ∃ m', (S1.held n p).answer = some m' := an.elim (fun z => by omega) id
        rw [hm'] at hva2
        refine ⟨_, rfl, A.n, dn2, _, rfl, hob2, nF_no (by decide +kernel), _, rfl, A.hold n p, a.ch, d2, _, _, rfl, h2, T.cH, hnH (by simp), oF_answer, A, S1, va2, m', rfl, c2.at_, hva2, by rw [dm.2.2]; omega, fun H4 k4 q4 => k H4 ?_⟩
        rw [hcome, ansS, if_pos hg, hm']
        exact c2.trans (Ch.way c2.at_ k4 q4)
      · have hg : ¬ num = (S1.held n p).last := fun z => by
          have e' : decide (V.int num = .int (S1.held n p).last) = false := e
          rw [z] at e'
          simp at e'
        refine k H2 ?_
        rw [hcome, ansS, if_neg hg]
        exact c2
end
end K57
set_option Elab.async false
set_option linter.all false
set_option maxRecDepth 100000
set_option maxHeartbeats 4000000
/-! K57We: a message comes; one is delivered. -/
namespace K57
open PySem L2 AB
def spCome (K : PySem.W.Frag) (a : Ad) : Sp := fun vs H Q _ => ∃ (A : NAd) (S : Sy) (v : V) (m : Msg), vs = [.ref A.n, v] ∧ NodesAt K a H A S ∧ MV K H v m ∧ WF S ∧ okM S.many S.pages m ∧ S.way.length + 10 < 100000 ∧
  ∀ H' A', Ch K a H A S H' A' (comeS S m) → Q .non H'
def spDeliver (K : PySem.W.Frag) (a : Ad) : Sp := fun vs H Q _ => ∃ (A : NAd) (S : Sy) (j : Int), vs = [.ref A.n, .int j] ∧ NodesAt K a H A S ∧ WF S ∧ 0 ≤ j ∧ S.way.length + 10 < 100000 ∧
  ∀ H' A', Ch K a H A S H' A' (deliverS S j) → Q (.bl (decide (S.way ≠ []))) H'
section
variable {P : Program} {w : World} {K : PySem.W.Frag} {mg : Str → Option Value} {base : Heap} {a : Ad} {f : Addr} {fd : FuncData}
theorem ok_come (F : Fun K "come" "Nodes.come" s_Nodes_come f fd) (T : Txt K mg a) (G_Nodes_asked : GMt P w K mg base 3 a.cn "asked" ["self", "message"] (spAsked K a)) (G_Nodes_answered : GMt P w K mg base 3 a.cn "answered" ["self", "message"] (spAnswered K a))
    (G_Nodes_follow : GMt P w K mg base 2 a.cn "follow" ["self", "node", "page", "message"] (spFollow K a)) : FnOk P w K mg base (L2.CX P w) 4 f fd ["self", "message"] (spCome K a) := by
  refine okT F sc_Nodes_come (fun vs H Q E h => ?_) (fun cdv A' outer s H vs Q E hr tk hp h => ?_)
  · obtain ⟨A, S, v, m, rfl, _⟩ := h
    rfl
  · obtain ⟨A, S, v, m, rfl, q, ⟨t, its, rfl, ht, hits⟩, wf, ho, hwl, k⟩ := h
    refine ⟨_, (pss_cons (ps_par (i := 2) (j := 3) (by rfl) sc_Nodes_come.nd rfl rfl (by decide) rfl rfl (pa_cons (pe_ix (k_ixT K (by rfl)) (pv 1) pe_int (fun _ _ => rfl)) (pa_cons (pe_ix (k_ixT K (by rfl)) (pv 1) pe_int (fun _ _ => rfl)) pa_nil)) (by rfl)) (pss_one (ps_if (pt_cmpR op_eq (pv 2) pe_str (nomark _)) (pss_one (ps_expr (pe_mt (pv 0) G_Nodes_asked (hr.mono (by decide)) tk (pa_cons (pv 1) pa_nil)))) (pss_one (ps_if (pt_cmpR (k_in K (by rfl)) (pv 2) (pe_tup (pa_cons pe_str (pa_cons pe_str pa_nil))) (by rfl)) (pss_one (ps_expr (pe_mt (pv 0) G_Nodes_answered (hr.mono (by decide)) tk (pa_cons (pv 1) pa_nil)))) (pss_one (ps_expr (pe_mt (pv 0) G_Nodes_follow (hr.mono (by decide)) tk (pa_cons (pe_ix (k_ixT K (by rfl)) (pv 1) pe_int (fun _ _ => rfl)) (pa_cons (pv 3) (pa_cons (pv 1) pa_nil))))))))))), ?_⟩
    obtain ⟨dx, hob⟩ := q.ob
    cases m with
    | ask n y p num kd =>
      obtain rfl : its = _ := hits
      refine ⟨_, rfl, t, _, 2, _, rfl, rfl, ht, rfl, _, rfl, t, _, 3, _, rfl, rfl, ht, rfl, _, _, rfl, ?_⟩
      refine ⟨_, rfl, rfl, _, rfl, iteT ?_⟩
      exact ⟨_, rfl, A.n, dx, _, rfl, hob, nF_no (by decide +kernel), _, rfl, A, S, .ref t, n, y, p, num, kd, rfl, q, ⟨t, _, rfl, ht, rfl⟩, wf, ho.1, ho.2, hwl, k⟩
    | put y n p num wd =>
      obtain rfl : its = _ := hits
      refine ⟨_, rfl, t, _, 2, _, rfl, rfl, ht, rfl, _, rfl, t, _, 3, _, rfl, rfl, ht, rfl, _, _, rfl, ?_⟩
      refine ⟨_, rfl, by cases wd <;> rfl, _, rfl, ?_⟩
      have e1 : decide (V.str wd.s = .str "ask") = false := by cases wd <;> decide +kernel
      rw [e1]
      refine iteF ⟨_, rfl, (by show 2 ≤ sizeLine; decide), fun t2 ht2 => ⟨t2, _, rfl, .inr (SqT.of upd_same), rfl, rfl, false, by cases wd <;> rfl, iteF ?_⟩⟩
      have k2 := Kp.new (o := .tup [V.str "given", .str "have"]) ht2
      have q2 := q.kp0 k2
      obtain ⟨dx2, hob2⟩ := q2.ob
      exact ⟨_, rfl, A.n, dx2, _, rfl, hob2, nF_no (by decide +kernel), _, rfl, t, _, 1, _, rfl, rfl, k2.sqT ht, rfl, _, rfl, _, rfl, A, S, .ref t, n, p, .put y n p num wd, rfl, q2, ⟨t, _, rfl, k2.sqT ht, rfl⟩, wf, hwl, ho.1, ho.2.1, .inl ⟨y, num, wd, rfl, ho.2.2⟩, fun H3 c3 => k H3 A ((Ch.of0 q k2).trans c3)⟩
    | grant y n p num kd ws =>
      have hits0 := hits
      obtain ⟨t6, rfl, ht6⟩ := hits
      refine ⟨_, rfl, t, _, 2, _, rfl, rfl, ht, rfl, _, rfl, t, _, 3, _, rfl, rfl, ht, rfl, _, _, rfl, ?_⟩
      refine ⟨_, rfl, by cases kd <;> rfl, _, rfl, ?_⟩
      have e1 : decide (V.str kd.s = .str "ask") = false := by cases kd <;> decide +kernel
      rw [e1]
      refine iteF ⟨_, rfl, (by show 2 ≤ sizeLine; decide), fun t2 ht2 => ⟨t2, _, rfl, .inr (SqT.of upd_same), rfl, rfl, false, by cases kd <;> rfl, iteF ?_⟩⟩
      have k2 := Kp.new (o := .tup [V.str "given", .str "have"]) ht2
      have q2 := q.kp0 k2
      obtain ⟨dx2, hob2⟩ := q2.ob
      exact ⟨_, rfl, A.n, dx2, _, rfl, hob2, nF_no (by decide +kernel), _, rfl, t, _, 1, _, rfl, rfl, k2.sqT ht, rfl, _, rfl, _, rfl, A, S, .ref t, n, p, .grant y n p num kd ws, rfl, q2, ⟨t, _, rfl, k2.sqT ht, hits0.kp k2⟩, wf, hwl, ho.1, ho.2.1, .inr ⟨y, num, kd, ws, rfl, ho.2.2.1⟩, fun H3 c3 => k H3 A ((Ch.of0 q k2).trans c3)⟩
    | given n y p num ws =>
      have hits0 := hits
      obtain ⟨t6, rfl, ht6⟩ := hits
      refine ⟨_, rfl, t, _, 2, _, rfl, rfl, ht, rfl, _, rfl, t, _, 3, _, rfl, rfl, ht, rfl, _, _, rfl, ?_⟩
      refine ⟨_, rfl, rfl, _, rfl, iteF ⟨_, rfl, (by show 2 ≤ sizeLine; decide), fun t2 ht2 => ⟨t2, _, rfl, .inr (SqT.of upd_same), rfl, rfl, true, rfl, iteT ?_⟩⟩⟩
      have k2 := Kp.new (o := .tup [V.str "given", .str "have"]) ht2
      have q2 := q.kp0 k2
      obtain ⟨dx2, hob2⟩ := q2.ob
      exact ⟨_, rfl, A.n, dx2, _, rfl, hob2, nF_no (by decide +kernel), _, rfl, A, S, .ref t, .given n y p num ws, rfl, q2, ⟨t, _, rfl, k2.sqT ht, hits0.kp k2⟩, wf, ho, True.intro, hwl, fun H3 A3 c3 => k H3 A3 ((Ch.of0 q k2).trans c3)⟩
    | have_ n y p num =>
      obtain rfl : its = _ := hits
      refine ⟨_, rfl, t, _, 2, _, rfl, rfl, ht, rfl, _, rfl, t, _, 3, _, rfl, rfl, ht, rfl, _, _, rfl, ?_⟩
      refine ⟨_, rfl, rfl, _, rfl, iteF ⟨_, rfl, (by show 2 ≤ sizeLine; decide), fun t2 ht2 => ⟨t2, _, rfl, .inr (SqT.of upd_same), rfl, rfl, true, rfl, iteT ?_⟩⟩⟩
      have k2 := Kp.new (o := .tup [V.str "given", .str "have"]) ht2
      have q2 := q.kp0 k2
      obtain ⟨dx2, hob2⟩ := q2.ob
      exact ⟨_, rfl, A.n, dx2, _, rfl, hob2, nF_no (by decide +kernel), _, rfl, A, S, .ref t, .have_ n y p num, rfl, q2, ⟨t, _, rfl, k2.sqT ht, rfl⟩, wf, ho, True.intro, hwl, fun H3 A3 c3 => k H3 A3 ((Ch.of0 q k2).trans c3)⟩
theorem ok_deliver (F : Fun K "deliver" "Nodes.deliver" s_Nodes_deliver f fd) (T : Txt K mg a) (G_Nodes_place : GMt P w K mg base 3 a.cn "place" ["self", "k"] (spPlace K a)) (G_Nodes_come : GMt P w K mg base 4 a.cn "come" ["self", "message"] (spCome K a)) : FnOk P w K mg base (L2.CX P w) 5 f fd ["self", "k"] (spDeliver K a) := by
  refine okT F sc_Nodes_deliver (fun vs H Q E h => ?_) (fun cdv A' outer s H vs Q E hr tk hp h => ?_)
  · obtain ⟨A, S, k, rfl, _⟩ := h
    rfl
  · obtain ⟨A, S, kn, rfl, q, wf, h0, hl, k⟩ := h
    obtain ⟨dx, hob⟩ := q.ob
    obtain ⟨xs, hw, px⟩ := q.wy
    have hxl := Paired.length px
    have hn : ∀ {f : Str}, f ∈ (["many", "pages", "way", "homes", "held"] : List Str) → NoAttr K a.cn f := fun h => T.aN _ h
    refine ⟨_, (pss_cons (ps_set (i := 2) sc_Nodes_deliver.nd rfl (by first | exact Or.inl rfl | exact Or.inr rfl) (pe_mt (pv 0) G_Nodes_place (hr.mono (by decide)) tk (pa_cons (pv 1) pa_nil))) (pss_cons (ps_if (pt_cmpR op_isN (pv 2) pe_non (nomark _)) (pss_one (ps_ret pe_bl)) pss_nil) (pss_cons (ps_expr (pe_mt (pv 0) G_Nodes_come (hr.mono (by decide)) tk (pa_cons (k_bm K (by rfl) (pe_bm PySem.F.plainAttrs_list PySem.F.slot_list_pop PySem.F.type_list_pop mt_popAt (k_fld K (by rfl) (pe_fld (pv 0) (by rfl)))  (pa_cons (pv 2) pa_nil))) pa_nil))) (pss_one (ps_ret pe_bl))))), ?_⟩
    refine ⟨_, rfl, A.n, dx, _, rfl, hob, nF_no (by decide +kernel), _, rfl, A, S, kn, rfl, q, h0, ?_⟩
    by_cases hz : S.way = []
    · rw [if_pos hz]
      refine ⟨_, rfl, rfl, _, rfl, iteT ?_⟩
      have e : deliverS S kn = S := by unfold deliverS; rw [hz]; rfl
      have z := k H A (by rw [e]; exact Ch.refl q)
      rw [decide_eq_false (fun h => h hz)] at z
      exact z
    · rw [if_neg hz]
      obtain ⟨p1, p2⟩ := plc_lt (k := kn) hz
      refine ⟨_, rfl, rfl, _, rfl, iteF ?_⟩
      have si : seqIndex? (kn % (S.way.length : Int)) xs.length = some (plc S kn) := by
        rw [← p2]
        unfold seqIndex?
        simp
        omega
      obtain ⟨m, hm, hmv⟩ := pair_at' px (show xs[plc S kn]? = some xs[plc S kn] by simp [hxl, p1])
      refine ⟨_, rfl, A.n, dx, _, rfl, hob, nF_no (by decide +kernel), _, rfl, A.n, a.cn, dx, _, _, rfl, hob, T.cN, hn (by simp), nF_way, .inl ⟨rfl, _, SqL.of hw⟩, _, rfl, A.way, xs, _, plc S kn, xs[plc S kn], rfl, rfl, hw, by omega, by omega, si, by simp [hxl, p1], ?_⟩
      have kz := Kp.set (p := A.way) (o := .lst (xs.eraseIdx (plc S kn))) (show Mut (H A.way) by rw [hw]; exact True.intro)
      have c1 : Ch K a H A S _ A (loseS S kn) := Ch.way q kz (q.kpWay kz upd_same (pair_erase (AB.Paired.imp (fun _ _ r => MV.kp kz r) px)))
      have wf1 : WF (loseS S kn) := ⟨wf.m1, wf.m4, wf.p1, wf.p8, wf.hw, wf.ha, wf.hm, fun m hm => wf.ms m (mem_erase hm)⟩
      refine ⟨A, loseS S kn, _, m, rfl, c1.at_, hmv.kp kz, wf1, wf.ms m (List.mem_of_getElem? hm), ?_, fun H3 A3 c3 => ?_⟩
      · have := List.length_eraseIdx_le S.way (plc S kn)
        show (S.way.eraseIdx (plc S kn)).length + 10 < 100000
        omega
      · have e : deliverS S kn = comeS (loseS S kn) m := by unfold deliverS; rw [hm]
        have z := k H3 A3 (by rw [e]; exact c1.trans c3)
        rw [decide_eq_true hz] at z
        exact z
end
end K57
set_option Elab.async false
set_option linter.all false
set_option maxRecDepth 100000
set_option maxHeartbeats 4000000
/-! K57Wf: who has a page, what a node wants. -/
namespace K57
open PySem L2 AB
def modeL (S : Sy) (p : Nat) (k : Kd) : List Nat := (List.range S.many).filter fun i => decide ((S.held i p).mode = some k)
def wantL (S : Sy) (i : Nat) : List Nat := (List.range S.pages).filter fun p => decide ((S.held i p).want ≠ none)
def spWho (K : PySem.W.Frag) (a : Ad) : Sp := fun vs H Q _ => ∃ (A : NAd) (S : Sy) (p : Nat), vs = [.ref A.n, .int (p : Int)] ∧ NodesAt K a H A S ∧ p < S.pages ∧ 0 < S.many ∧ S.many ≤ 4 ∧
  ∀ H' t t2, Kp [] H H' → SqT K H' t [nV (modeL S p .w).head?, .ref t2] → SqT K H' t2 ((modeL S p .r).map fun i : Nat => V.int (i : Int)) → Q (.ref t) H'
def spWants (K : PySem.W.Frag) (a : Ad) : Sp := fun vs H Q _ => ∃ (A : NAd) (S : Sy) (i : Nat), vs = [.ref A.n, .int (i : Int)] ∧ NodesAt K a H A S ∧ i < S.many ∧ 0 < S.pages ∧ S.pages ≤ 8 ∧
  ∀ H' t ts, Kp [] H H' → SqT K H' t (ts.map V.ref) → Paired (fun p l => SqT K H' l [.int (p : Nat), kdV (S.held i p).want]) (wantL S i) ts → Q (.ref t) H'
theorem mode_eq (m : Option Kd) (k : Kd) : decide (kdV m = .str k.s) = decide (m = some k) := by
  cases m with
  | none => exact decide_eq_decide.mpr ⟨(fun z => nomatch z), (fun z => nomatch z)⟩
  | some j => exact decide_eq_decide.mpr ⟨fun z => by rw [kd_inj.mp z], fun z => by rw [Option.some.inj z]; rfl⟩
section
variable {P : Program} {w : World} {K : PySem.W.Frag} {mg : Str → Option Value} {base : Heap} {a : Ad} {f : Addr} {fd : FuncData}
theorem ok_who (F : Fun K "who" "Nodes.who" s_Nodes_who f fd) (T : Txt K mg a) (G_Nodes_need : GMt P w K mg base 2 a.cn "need" ["self", "node", "page"] (spNeed K a)) : FnOk P w K mg base (L2.CX P w) 3 f fd ["self", "page"] (spWho K a) := by
  refine okT F sc_Nodes_who (fun vs H Q E h => ?_) (fun cdv A' outer s H vs Q E hr tk hp h => ?_)
  · obtain ⟨A, S, p, rfl, _⟩ := h
    rfl
  · obtain ⟨A, S, p, rfl, q, hp', hm0, hm4, k⟩ := h
    have hn : ∀ {f : Str}, f ∈ (["many", "pages", "way", "homes", "held"] : List Str) → NoAttr K a.cn f := fun h => T.aN _ h
    have hnH : ∀ {f : Str}, f ∈ (["mode", "words", "want", "asked", "last", "answer"] : List Str) → NoAttr K a.ch f := fun h => T.aH _ h
    refine ⟨_, (pss_cons (ps_expr (pe_mt (pv 0) G_Nodes_need (hr.mono (by decide)) tk (pa_cons pe_int (pa_cons (pv 1) pa_nil)))) (pss_cons (ps_setLc (i := 2) (own := [("node", 4)]) (g := gName 4) (by rfl) sc_Nodes_who.nd rfl rfl (sw_true rfl rfl rfl (by decide +kernel)) (pi_range1 (by rfl) T.n_range (pa_cons (k_fld K (by rfl) (pe_fld (pv 0) (by rfl))) pa_nil)) (blkOk_by (own := [("node", 4)]) (N := N_Nodes_who) (sc := defScope s_Nodes_who) (by decide +kernel)) (fun _ _ _ _ _ => pg_name (i := 4) sc_Nodes_who.nd rfl (Or.inl rfl)) (fun _ _ _ _ _ => by exact pts_one (pt_cmpR op_eq (k_fld K (by rfl) (pe_fld (pe_ix (k_ixL K (by rfl)) (pe_ix (k_ixL K (by rfl)) (k_fld K (by rfl) (pe_fld (pv 0) (by rfl))) (pv 4) (fun _ _ => rfl)) (pv 1) (fun _ _ => rfl)) (by rfl))) (pe_gv T.c_WRITE) (nomark _))) (fun _ _ _ _ _ => by exact (pv 4))) (pss_cons (ps_setLc (i := 3) (own := [("node", 4)]) (g := gName 4) (by rfl) sc_Nodes_who.nd rfl rfl (sw_true rfl rfl rfl (by decide +kernel)) (pi_range1 (by rfl) T.n_range (pa_cons (k_fld K (by rfl) (pe_fld (pv 0) (by rfl))) pa_nil)) (blkOk_by (own := [("node", 4)]) (N := N_Nodes_who) (sc := defScope s_Nodes_who) (by decide +kernel)) (fun _ _ _ _ _ => pg_name (i := 4) sc_Nodes_who.nd rfl (Or.inl rfl)) (fun _ _ _ _ _ => by exact pts_one (pt_cmpR op_eq (k_fld K (by rfl) (pe_fld (pe_ix (k_ixL K (by rfl)) (pe_ix (k_ixL K (by rfl)) (k_fld K (by rfl) (pe_fld (pv 0) (by rfl))) (pv 4) (fun _ _ => rfl)) (pv 1) (fun _ _ => rfl)) (by rfl))) (pe_gv T.c_READ) (nomark _))) (fun _ _ _ _ _ => by exact (pv 4))) (pss_one (ps_ret (pe_tup (pa_cons (pe_ifExp (pt_cmpR op_gt (pe_callB (k_len K (by rfl)) (by rfl) T.n_len (by decide +kernel) (pa_cons (pv 2) pa_nil)) pe_int (nomark _)) (pe_ix (k_ixL K (by rfl)) (pv 2) pe_int (fun _ _ => rfl)) pe_non) (pa_cons (pe_callTy (k_tupOf K (by rfl)) (by rfl) T.n_tuple (by decide +kernel) (pa_cons (pv 3) pa_nil)) pa_nil)))))))), ?_⟩
    obtain ⟨dx, hob⟩ := q.ob
    refine ⟨_, rfl, A.n, dx, _, rfl, hob, nF_no (by decide +kernel), _, rfl, A, S, 0, p, rfl, q, hm0, hp', ?_⟩
    refine ⟨_, rfl, A.n, a.cn, dx, _, _, rfl, hob, T.cN, hn (by simp), nF_many, _, rfl, by omega, by omega, fun D hD => ?_⟩
    refine lc_pure walk_range (show ((S.many : Int)).toNat < sizeLine from small1000 (by omega)) hD (fun i => decide ((S.held i p).mode = some .w)) (fun j v _ => v = .int (j : Int)) (fun j v H H' _ r => r) (fun _ _ => trivial) ?_ ?_
    · rintro j v H3 H4 hj k3 ⟨rfl, hv⟩ N F' hN hF
      obtain rfl : v = .int (j : Int) := by rw [hv]; exact congrArg V.int (Int.zero_add _)
      have hj' : j < S.many := by simpa using hj
      have q3 := q.kp0 k3
      obtain ⟨dn, hob3⟩ := q3.ob
      obtain ⟨d0, tw, va, h0, htw, hva⟩ := q3.ho j p hj' hp'
      refine ⟨rfl, _, rfl, A.n, a.cn, dn, _, _, rfl, hob3, T.cN, hn (by simp), nF_held, _, rfl, A.hd, _, _, _, rfl, rfl, SqL.of q3.hd, atI_nat (v := .ref (A.row j)) (by simp [hj']), _, rfl, A.row j, _, _, _, rfl, rfl, SqL.of (q3.rw j hj'), atI_nat (v := .ref (A.hold j p)) (by simp [hp']), A.hold j p, a.ch, d0, _, _, rfl, h0, T.cH, hnH (by simp), oF_mode, by cases (S.held j p).mode <;> rfl, _, rfl, ?_⟩
      refine ite_of (fun e => ?_) (fun e => ?_)
      · exact ⟨_, rfl, hN _ _ ((mode_eq _ .w).symm.trans e) (Kp.refl _) rfl⟩
      · exact hF _ ((mode_eq _ .w).symm.trans e) (Kp.refl _)
    · intro H1 acc k1 hacc pr
      have eacc := Paired.eqs pr
      have ew : (List.range ((S.many : Int)).toNat).filter (fun i => decide ((S.held i p).mode = some .w)) = modeL S p .w := by rw [Int.toNat_natCast]; rfl
      rw [ew] at eacc
      have q1 := q.kp0 k1
      obtain ⟨dx1, hob1⟩ := q1.ob
      refine ⟨_, rfl, A.n, a.cn, dx1, _, _, rfl, hob1, T.cN, hn (by simp), nF_many, _, rfl, by omega, by omega, fun D2 hD2 => ?_⟩
      refine lc_pure walk_range (show ((S.many : Int)).toNat < sizeLine from small1000 (by omega)) hD2 (fun i => decide ((S.held i p).mode = some .r)) (fun j v _ => v = .int (j : Int)) (fun j v H H' _ r => r) (fun _ _ => trivial) ?_ ?_
      · rintro j v H3 H4 hj k3 ⟨rfl, hv⟩ N F' hN hF
        obtain rfl : v = .int (j : Int) := by rw [hv]; exact congrArg V.int (Int.zero_add _)
        have hj' : j < S.many := by simpa using hj
        have q3 := q1.kp0 k3
        obtain ⟨dn, hob3⟩ := q3.ob
        obtain ⟨d0, tw, va, h0, htw, hva⟩ := q3.ho j p hj' hp'
        refine ⟨rfl, _, rfl, A.n, a.cn, dn, _, _, rfl, hob3, T.cN, hn (by simp), nF_held, _, rfl, A.hd, _, _, _, rfl, rfl, SqL.of q3.hd, atI_nat (v := .ref (A.row j)) (by simp [hj']), _, rfl, A.row j, _, _, _, rfl, rfl, SqL.of (q3.rw j hj'), atI_nat (v := .ref (A.hold j p)) (by simp [hp']), A.hold j p, a.ch, d0, _, _, rfl, h0, T.cH, hnH (by simp), oF_mode, by cases (S.held j p).mode <;> rfl, _, rfl, ?_⟩
        refine ite_of (fun e => ?_) (fun e => ?_)
        · exact ⟨_, rfl, hN _ _ ((mode_eq _ .r).symm.trans e) (Kp.refl _) rfl⟩
        · exact hF _ ((mode_eq _ .r).symm.trans e) (Kp.refl _)
      · intro H2 acc2 k2 hacc2 pr2
        have eacc2 := Paired.eqs pr2
        have ew2 : (List.range ((S.many : Int)).toNat).filter (fun i => decide ((S.held i p).mode = some .r)) = modeL S p .r := by rw [Int.toNat_natCast]; rfl
        rw [ew2] at eacc2
        have hacc' := k2.same _ _ hacc
        have fin : ∀ v, v = nV (modeL S p .w).head? → ∀ t2, H2 t2 = none → ∀ t, (upd H2 t2 (.tup acc2)) t = none → Q (.ref t) (upd (upd H2 t2 (.tup acc2)) t (.tup [v, .ref t2])) := by
          rintro v rfl t2 ht2 t ht
          have ka := Kp.new (o := .tup acc2) ht2
          have kb := Kp.new (o := .tup [nV (modeL S p .w).head?, .ref t2]) ht
          exact k _ t t2 ((k1.trans0 k2).trans0 (ka.trans0 kb)) (SqT.of upd_same) (kb.sqT (by rw [← eacc2]; exact SqT.of upd_same))
        refine ⟨_, rfl, D, acc, rfl, .inl (SqL.of hacc'), _, _, rfl, rfl, _, rfl, ?_⟩
        refine ite_of (fun e => ?_) (fun e => ?_)
        · have hpos : (0 : Int) < (acc.length : Int) := of_decide_eq_true e
          cases hm : modeL S p .w with
          | nil => rw [eacc, hm] at hpos; simp at hpos
          | cons x l =>
            refine ⟨_, rfl, D, acc, 0, .int (x : Int), rfl, rfl, SqL.of hacc', by rw [eacc, hm]; exact atI_nat (j := 0) rfl, ?_⟩
            refine ⟨_, rfl, D2, acc2, rfl, .inl ⟨SqL.of hacc2, fun t2 ht2 => ⟨(by show 2 ≤ sizeLine; decide), fun t ht => ?_⟩⟩⟩
            exact fin (.int (x : Int)) (by rw [hm]; rfl) t2 ht2 t ht
        · have hz : modeL S p .w = [] := by
            have h1 : ¬ (0 : Int) < (acc.length : Int) := of_decide_eq_false e
            rw [eacc, List.length_map] at h1
            exact List.eq_nil_of_length_eq_zero (by omega)
          refine ⟨_, rfl, D2, acc2, rfl, .inl ⟨SqL.of hacc2, fun t2 ht2 => ⟨(by show 2 ≤ sizeLine; decide), fun t ht => ?_⟩⟩⟩
          exact fin .non (by rw [hz]; rfl) t2 ht2 t ht
theorem ok_wants (F : Fun K "wants" "Nodes.wants" s_Nodes_wants f fd) (T : Txt K mg a) (G_Nodes_need : GMt P w K mg base 2 a.cn "need" ["self", "node", "page"] (spNeed K a)) : FnOk P w K mg base (L2.CX P w) 3 f fd ["self", "node"] (spWants K a) := by
  refine okT F sc_Nodes_wants (fun vs H Q E h => ?_) (fun cdv A' outer s H vs Q E hr tk hp h => ?_)
  · obtain ⟨A, S, i, rfl, _⟩ := h
    rfl
  · obtain ⟨A, S, i, rfl, q, hi, hp0, hp8, k⟩ := h
    have hn : ∀ {f : Str}, f ∈ (["many", "pages", "way", "homes", "held"] : List Str) → NoAttr K a.cn f := fun h => T.aN _ h
    have hnH : ∀ {f : Str}, f ∈ (["mode", "words", "want", "asked", "last", "answer"] : List Str) → NoAttr K a.ch f := fun h => T.aH _ h
    refine ⟨_, (pss_cons (ps_expr (pe_mt (pv 0) G_Nodes_need (hr.mono (by decide)) tk (pa_cons (pv 1) (pa_cons pe_int pa_nil)))) (pss_one (ps_ret (pe_callTy (k_tupOf K (by rfl)) (by rfl) T.n_tuple (by decide +kernel) (pa_cons (pe_lc (own := [("page", 2), ("own", 3)]) (g := gTup K 2 (gCons (gName 2) (gCons (gName 3) gNil))) (by rfl) sc_Nodes_wants.nd (k_piEnum K (by rfl) (pi_enum (by rfl) T.n_enumerate (pa_cons (pe_ix (k_ixL K (by rfl)) (k_fld K (by rfl) (pe_fld (pv 0) (by rfl))) (pv 1) (fun _ _ => rfl)) pa_nil))) (blkOk_by (own := [("page", 2), ("own", 3)]) (N := N_Nodes_wants) (sc := defScope s_Nodes_wants) (by decide +kernel)) (fun _ _ _ _ _ => pg_tup rfl (pgs_cons (pg_name (i := 2) sc_Nodes_wants.nd rfl (Or.inl rfl)) (pgs_cons (pg_name (i := 3) sc_Nodes_wants.nd rfl (Or.inl rfl)) pgs_nil))) (fun _ _ _ _ _ => by exact pts_one (pt_cmpR op_notN (k_fld K (by rfl) (pe_fld (pv 3) (by rfl))) pe_non (nomark _))) (fun _ _ _ _ _ => by exact (pe_tup (pa_cons (pv 2) (pa_cons (k_fld K (by rfl) (pe_fld (pv 3) (by rfl))) pa_nil))))) pa_nil))))), ?_⟩
    obtain ⟨dx, hob⟩ := q.ob
    refine ⟨_, rfl, A.n, dx, _, rfl, hob, nF_no (by decide +kernel), _, rfl, A, S, i, 0, rfl, q, hi, hp0, ?_⟩
    refine ⟨_, rfl, A.n, a.cn, dx, _, _, rfl, hob, T.cN, hn (by simp), nF_held, _, rfl, A.hd, _, _, _, rfl, rfl, SqL.of q.hd, atI_nat (v := .ref (A.row i)) (by simp [hi]), A.row i, _, rfl, SqL.of (q.rw i hi), fun D hD => ?_⟩
    have hlen : ((List.range S.pages).map fun p => V.ref (A.hold i p)).length = S.pages := by simp
    refine lc_pure walk_enum (by rw [hlen]; exact small1000 (by omega)) hD (fun p => decide ((S.held i p).want ≠ none)) (fun j v H => ∃ l, v = .ref l ∧ SqT K H l [.int (j : Nat), kdV (S.held i j).want]) (fun j v H H' k ⟨l, e, h⟩ => ⟨l, e, k.sqT h⟩) (fun H k => k.sqL0 (SqL.of (q.rw i hi))) ?_ ?_
    · rintro j x H6 H7 hj k6 ⟨T', x1, x2, rfl, hT, rfl, hx1, hx2⟩ N F' hN hF
      rw [hlen] at hj
      obtain rfl : V.int (j : Nat) = x1 := Option.some.inj hx1
      obtain rfl : V.ref (A.hold i j) = x2 := by
        dsimp only at hx2
        rw [List.getElem?_map, List.getElem?_range hj] at hx2
        exact Option.some.inj hx2
      have k7 := Kp.new (o := .tup [V.int (j : Nat), V.ref (A.hold i j)]) hT
      have q7 := (q.kp0 k6).kp0 k7
      obtain ⟨d0, tw, va, h0, htw, hva⟩ := q7.ho i j hi hj
      refine ⟨T', _, rfl, SqT.of upd_same, rfl, _, _, rfl, _, _, rfl, rfl, rfl, _, rfl, A.hold i j, a.ch, d0, _, _, rfl, h0, T.cH, hnH (by simp), oF_want, rfl, _, rfl, ?_⟩
      have ew : (!decide (kdV (S.held i j).want = V.non)) = decide ((S.held i j).want ≠ none) := by
        cases (S.held i j).want <;> rfl
      refine ite_of (fun e => ?_) (fun e => ?_)
      · refine ⟨_, rfl, _, rfl, A.hold i j, a.ch, d0, _, _, rfl, h0, T.cH, hnH (by simp), oF_want, (by show 2 ≤ sizeLine; decide), fun t ht => ?_⟩
        exact hN _ _ (ew.symm.trans e) (k7.trans0 (Kp.new ht)) ⟨t, rfl, SqT.of upd_same⟩
      · exact hF _ (ew.symm.trans e) k7
    · intro H6 acc k6 hacc pr
      rw [hlen] at pr
      obtain ⟨ts, rfl, pts⟩ := refs_of pr
      refine ⟨D, _, rfl, .inl ⟨SqL.of hacc, fun t ht => ?_⟩⟩
      have kt := Kp.new (o := .tup (ts.map V.ref)) ht
      exact k _ t ts (k6.trans0 kt) (SqT.of upd_same) (AB.Paired.imp (fun _ _ r => kt.sqT r) pts)
end
end K57
set_option Elab.async false
set_option linter.all false
set_option maxRecDepth 100000
set_option maxHeartbeats 4000000
/-! K57Wg: the nodes made. -/
namespace K57
open PySem L2 AB
def initS (many pages : Nat) : Sy := ⟨many, pages, fun i p => hold0 (if p % many = i then some .r else none), fun p => home0 (p % many), []⟩
def spNodesInit (K : PySem.W.Frag) (a : Ad) : Sp := fun vs H Q _ => ∃ (x dx : Addr) (many pages : Nat), vs = [.ref x, .int (many : Int), .int (pages : Int)] ∧ H x = some (.ins a.cn dx []) ∧ 1 ≤ many ∧ many ≤ 4 ∧ 1 ≤ pages ∧ pages ≤ 8 ∧
  ∀ H' A, A.n = x → Kp [x] H H' → (∀ b, b ∈ A.foot many pages → b = x ∨ H b = none) → NodesAt K a H' A (initS many pages) → Q .non H'
theorem HmAt.kpL {K : PySem.W.Frag} {a : Ad} {many : Nat} {H H' : Hp} {D x r wt sv : Addr} {l : List V} {h : Hm} (q : HmAt K a many H x r wt sv h) (k : Kp [D] H H') (hD : H D = some (.lst l)) : HmAt K a many H' x r wt sv h := by
  obtain ⟨dx, tw, hx, _⟩ := q.ob
  obtain ⟨k1, h1, _⟩ := q.rd.few
  obtain ⟨k2, h2, _⟩ := q.wa.few
  obtain ⟨k3, h3, _⟩ := q.se.few
  exact q.kp k (by simp only [List.mem_singleton]; exact ne_of hx hD (by intro z; cases z)) (by simp only [List.mem_singleton]; exact ne_of h1 hD (by intro z; cases z)) (by simp only [List.mem_singleton]; exact ne_of h2 hD (by intro z; cases z)) (by simp only [List.mem_singleton]; exact ne_of h3 hD (by intro z; cases z))
theorem HoldAt.kpL {K : PySem.W.Frag} {a : Ad} {H H' : Hp} {D x : Addr} {l : List V} {h : Hold} (q : HoldAt K a H x h) (k : Kp [D] H H') (hD : H D = some (.lst l)) : HoldAt K a H' x h := by
  obtain ⟨dx, tw, va, hx, hh⟩ := id q
  exact q.kp k (by simp only [List.mem_singleton]; exact ne_of hx hD (by intro z; cases z))
theorem range_snoc {α : Type} (f : Nat → Addr) (i : Nat) (x : Addr) : (List.range i).map (fun p => V.ref (f p)) ++ [V.ref x] = (List.range (i + 1)).map fun p => V.ref (atP i x f p) := by
  rw [List.range_succ, List.map_append]
  congr 1
  · refine List.map_congr_left fun p hp => ?_
    have := List.mem_range.mp hp
    rw [atP_ne (by omega)]
  · show _ = [V.ref (atP i x f i)]
    rw [atP_same]
structure HomesMade (K : PySem.W.Frag) (a : Ad) (many : Nat) (Hb H : Hp) (n : Nat) (hm rd wt sv : Nat → Addr) : Prop where
  at_ : ∀ p, p < n → HmAt K a many H (hm p) (rd p) (wt p) (sv p) (home0 (p % many))
  fr : ∀ p, p < n → Hb (hm p) = none ∧ Hb (rd p) = none ∧ Hb (wt p) = none ∧ Hb (sv p) = none
  im : ∀ p p', p < n → p' < n → hm p = hm p' → p = p'
  dj : ∀ p p' d, p < n → p' < n → d ∈ [rd p, wt p, sv p] → d ∈ [rd p', wt p', sv p'] → p = p'
theorem HmAt.some {K : PySem.W.Frag} {a : Ad} {many : Nat} {H : Hp} {x r wt sv : Addr} {h : Hm} (q : HmAt K a many H x r wt sv h) : H x ≠ none ∧ ∀ d, d ∈ [r, wt, sv] → H d ≠ none := by
  obtain ⟨dx, tw, hx, _⟩ := q.ob
  obtain ⟨k1, h1, _⟩ := q.rd.few
  obtain ⟨k2, h2, _⟩ := q.wa.few
  obtain ⟨k3, h3, _⟩ := q.se.few
  refine ⟨by rw [hx]; exact (fun z => nomatch z), fun d hd => ?_⟩
  simp only [List.mem_cons, List.not_mem_nil, or_false] at hd
  rcases hd with rfl | rfl | rfl
  · rw [h1]; exact fun z => nomatch z
  · rw [h2]; exact fun z => nomatch z
  · rw [h3]; exact fun z => nomatch z
theorem HomesMade.snoc {K : PySem.W.Frag} {a : Ad} {many : Nat} {Hb H H4 H5 : Hp} {n : Nat} {hm rd wt sv : Nat → Addr} {x r w s D : Addr} {l : List V} (q : HomesMade K a many Hb H n hm rd wt sv) (kb : Kp [] Hb H) (k : Kp [] H H4) (hx : H x = none) (hr : H r = none) (hw : H w = none) (hs : H s = none)
    (z : HmAt K a many H4 x r w s (home0 (n % many))) (kd : Kp [D] H4 H5) (hD : H4 D = some (.lst l)) : HomesMade K a many Hb H5 (n + 1) (atP n x hm) (atP n r rd) (atP n w wt) (atP n s sv) := by
  have old : ∀ p, p < n → HmAt K a many H (hm p) (rd p) (wt p) (sv p) (home0 (p % many)) := q.at_
  refine ⟨fun p hp => ?_, fun p hp => ?_, fun p p' hp hp' e => ?_, fun p p' d hp hp' e e' => ?_⟩
  · by_cases c : p = n
    · subst c; rw [atP_same, atP_same, atP_same, atP_same]; exact z.kpL kd hD
    · rw [atP_ne c, atP_ne c, atP_ne c, atP_ne c]
      exact ((old p (by omega)).kp k (by simp) (by simp) (by simp) (by simp)).kpL kd hD
  · by_cases c : p = n
    · subst c; rw [atP_same, atP_same, atP_same, atP_same]; exact ⟨kb.fr _ hx, kb.fr _ hr, kb.fr _ hw, kb.fr _ hs⟩
    · rw [atP_ne c, atP_ne c, atP_ne c, atP_ne c]; exact q.fr p (by omega)
  · by_cases c : p = n
    · by_cases c' : p' = n
      · rw [c, c']
      · subst c
        rw [atP_same, atP_ne c'] at e
        exact absurd (by rw [← e]; exact hx) (old p' (by omega)).some.1
    · by_cases c' : p' = n
      · subst c'
        rw [atP_same, atP_ne c] at e
        exact absurd (by rw [e]; exact hx) (old p (by omega)).some.1
      · rw [atP_ne c, atP_ne c'] at e
        exact q.im p p' (by omega) (by omega) e
  · have fresh : ∀ d, d ∈ [r, w, s] → H d = none := fun d hd => by
      simp only [List.mem_cons, List.not_mem_nil, or_false] at hd
      rcases hd with rfl | rfl | rfl
      · exact hr
      · exact hw
      · exact hs
    by_cases c : p = n
    · by_cases c' : p' = n
      · rw [c, c']
      · subst c
        rw [atP_same, atP_same, atP_same] at e
        rw [atP_ne c', atP_ne c', atP_ne c'] at e'
        exact absurd (fresh d e) ((old p' (by omega)).some.2 d e')
    · by_cases c' : p' = n
      · subst c'
        rw [atP_ne c, atP_ne c, atP_ne c] at e
        rw [atP_same, atP_same, atP_same] at e'
        exact absurd (fresh d e') ((old p (by omega)).some.2 d e)
      · rw [atP_ne c, atP_ne c, atP_ne c] at e
        rw [atP_ne c', atP_ne c', atP_ne c'] at e'
        exact q.dj p p' d (by omega) (by omega) e e'
end K57
set_option Elab.async false
set_option linter.all false
set_option maxRecDepth 100000
set_option maxHeartbeats 4000000
/-! K57Wh: the nodes made: the walk. -/
namespace K57
open PySem L2 AB
structure HoldsMade (K : PySem.W.Frag) (a : Ad) (Hb H : Hp) (n : Nat) (md : Nat → Option Kd) (ho : Nat → Addr) : Prop where
  at_ : ∀ p, p < n → HoldAt K a H (ho p) (hold0 (md p))
  fr : ∀ p, p < n → Hb (ho p) = none
  im : ∀ p p', p < n → p' < n → ho p = ho p' → p = p'
theorem HoldAt.some {K : PySem.W.Frag} {a : Ad} {H : Hp} {x : Addr} {h : Hold} (q : HoldAt K a H x h) : H x ≠ none := by
  obtain ⟨dx, tw, va, hx, _⟩ := q
  rw [hx]
  exact fun z => nomatch z
theorem HoldsMade.snoc {K : PySem.W.Frag} {a : Ad} {Hb H H4 H5 : Hp} {n : Nat} {md : Nat → Option Kd} {ho : Nat → Addr} {x D : Addr} {l : List V} (q : HoldsMade K a Hb H n md ho) (kb : Kp [] Hb H) (k : Kp [] H H4) (hx : H x = none)
    (z : HoldAt K a H4 x (hold0 (md n))) (kd : Kp [D] H4 H5) (hD : H4 D = some (.lst l)) : HoldsMade K a Hb H5 (n + 1) md (atP n x ho) := by
  refine ⟨fun p hp => ?_, fun p hp => ?_, fun p p' hp hp' e => ?_⟩
  · by_cases c : p = n
    · subst c; rw [atP_same]; exact z.kpL kd hD
    · rw [atP_ne c]
      exact ((q.at_ p (by omega)).kp k (by simp)).kpL kd hD
  · by_cases c : p = n
    · subst c; rw [atP_same]; exact kb.fr _ hx
    · rw [atP_ne c]; exact q.fr p (by omega)
  · by_cases c : p = n
    · by_cases c' : p' = n
      · rw [c, c']
      · subst c
        rw [atP_same, atP_ne c'] at e
        exact absurd (by rw [← e]; exact hx) (q.at_ p' (by omega)).some
    · by_cases c' : p' = n
      · subst c'
        rw [atP_same, atP_ne c] at e
        exact absurd (by rw [e]; exact hx) (q.at_ p (by omega)).some
      · rw [atP_ne c, atP_ne c'] at e
        exact q.im p p' (by omega) (by omega) e
structure RowsMade (K : PySem.W.Frag) (a : Ad) (Hb H : Hp) (n pages : Nat) (md : Nat → Nat → Option Kd) (row : Nat → Addr) (ho : Nat → Nat → Addr) : Prop where
  rw : ∀ i, i < n → H (row i) = some (.lst ((List.range pages).map fun p => V.ref (ho i p)))
  at_ : ∀ i p, i < n → p < pages → HoldAt K a H (ho i p) (hold0 (md i p))
  fr : ∀ i, i < n → Hb (row i) = none ∧ ∀ p, p < pages → Hb (ho i p) = none
  ih : ∀ i p i' p', i < n → p < pages → i' < n → p' < pages → ho i p = ho i' p' → i = i' ∧ p = p'
theorem RowsMade.snoc {K : PySem.W.Frag} {a : Ad} {Hb H H4 H5 : Hp} {n pages : Nat} {md : Nat → Nat → Option Kd} {row : Nat → Addr} {ho : Nat → Nat → Addr} {h1 : Nat → Addr} {x D : Addr} {l : List V} (q : RowsMade K a Hb H n pages md row ho) (kb : Kp [] Hb H) (k : Kp [] H H4) (hx : H x = none)
    (z : HoldsMade K a H H4 pages (md n) h1) (hl : H4 x = some (.lst ((List.range pages).map fun p => V.ref (h1 p)))) (kd : Kp [D] H4 H5) (hD : H4 D = some (.lst l)) (xD : x ≠ D) (hDH : ∀ i, i < n → row i ≠ D) :
    RowsMade K a Hb H5 (n + 1) pages md (atP n x row) (fun i => if i = n then h1 else ho i) := by
  refine ⟨fun i hi => ?_, fun i p hi hp => ?_, fun i hi => ⟨?_, fun p hp => ?_⟩, fun i p i' p' hi hp hi' hp' e => ?_⟩
  · by_cases c : i = n
    · subst c; rw [atP_same, if_pos rfl]; exact kd.st _ _ (by simp [xD]) hl
    · rw [atP_ne c, if_neg c]; exact kd.st _ _ (by simp [hDH i (by omega)]) (k.same _ _ (q.rw i (by omega)))
  · by_cases c : i = n
    · subst c; rw [if_pos rfl]; exact (z.at_ p hp).kpL kd hD
    · rw [if_neg c]; exact ((q.at_ i p (by omega) hp).kp k (by simp)).kpL kd hD
  · by_cases c : i = n
    · subst c; rw [atP_same]; exact kb.fr _ hx
    · rw [atP_ne c]; exact (q.fr i (by omega)).1
  · by_cases c : i = n
    · rw [if_pos c]; exact kb.fr _ (z.fr p hp)
    · rw [if_neg c]; exact (q.fr i (by omega)).2 p hp
  · by_cases c : i = n
    · by_cases c' : i' = n
      · rw [if_pos c, if_pos c'] at e
        exact ⟨by rw [c, c'], z.im p p' hp hp' e⟩
      · rw [if_pos c, if_neg c'] at e
        exact absurd (by rw [← e]; exact z.fr p hp) (q.at_ i' p' (by omega) hp').some
    · by_cases c' : i' = n
      · rw [if_neg c, if_pos c'] at e
        exact absurd (by rw [e]; exact z.fr p' hp') (q.at_ i p (by omega) hp).some
      · rw [if_neg c, if_neg c'] at e
        exact q.ih i p i' p' (by omega) hp (by omega) hp' e
section
variable {P : Program} {w : World} {K : PySem.W.Frag} {mg : Str → Option Value} {base : Heap} {a : Ad} {f : Addr} {fd : FuncData}
theorem ok_nodes_init (F : Fun K "__init__" "Nodes.__init__" s_Nodes_init f fd) (T : Txt K mg a) (G_check : GFn P w K mg base 1 "check" ["is_right"] (spCheck a.nr)) (G_is_within : GFn P w K mg base 2 "is_within" ["value", "low", "high"] spWithin)
    (G_Holding_init : GMk P w K mg base 1 a.ch "Holding" ["self", "mode"] (spHoldInit K a)) (G_Home_init : GMk P w K mg base 1 a.cm "Home" ["self", "node"] (spHomeInit K a)) : FnOk P w K mg base (L2.CX P w) 3 f fd ["self", "many", "pages"] (spNodesInit K a) := by
  refine okT F sc_Nodes_init (fun vs H Q E h => ?_) (fun cdv A' outer s H vs Q E hr tk hp h => ?_)
  · obtain ⟨x, dx, many, pages, rfl, _⟩ := h
    rfl
  · obtain ⟨x, dx, many, pages, rfl, hx, hm1, hm4, hp1, hp8, k⟩ := h
    have hn : ∀ {f : Str}, f ∈ (["many", "pages", "way", "homes", "held"] : List Str) → NoAttr K a.cn f := fun h => T.aN _ h
    refine ⟨_, (pss_cons (ps_expr (pe_cl G_check (hr.mono (by decide)) tk (pa_cons (pe_cl G_is_within (hr.mono (by decide)) tk (pa_cons (pv 1) (pa_cons pe_int (pa_cons (pe_gv T.c_MOST_NODES) pa_nil)))) pa_nil))) (pss_cons (ps_expr (pe_cl G_check (hr.mono (by decide)) tk (pa_cons (pe_cl G_is_within (hr.mono (by decide)) tk (pa_cons (pv 2) (pa_cons pe_int (pa_cons (pe_gv T.c_MOST_PAGES) pa_nil)))) pa_nil))) (pss_cons (ps_asg (pe_tup (pa_cons (pv 1) (pa_cons (pv 2) (pa_cons (pe_lst pa_nil) pa_nil)))) (pg_tup rfl (pgs_cons (k_gfld K (by rfl) (pg_fld (pv 0))) (pgs_cons (k_gfld K (by rfl) (pg_fld (pv 0))) (pgs_cons (k_gfld K (by rfl) (pg_fld (pv 0))) pgs_nil))))) (pss_cons (ps_fld (pv 0) (pe_lc (own := [("page", 3)]) (g := gName 3) (tt := tYes) (by rfl) sc_Nodes_init.nd (pi_range1 (by rfl) T.n_range (pa_cons (pv 2) pa_nil)) (blkOk_by (own := [("page", 3)]) (N := N_Nodes_init) (sc := defScope s_Nodes_init) (by decide +kernel)) (fun _ _ _ _ _ => pg_name (i := 3) sc_Nodes_init.nd rfl (by first | exact Or.inl rfl | exact Or.inr rfl)) (fun _ _ _ _ _ => pts_nil) (fun _ _ _ _ _ => by exact (pe_mk G_Home_init (hr.mono (by decide)) takes0 (pa_cons (pe_op op_mod (pv 3) (pv 1)) pa_nil)))) rfl) (pss_one (ps_fld (pv 0) (pe_lc (own := [("node", 4)]) (g := gName 4) (tt := tYes) (by rfl) sc_Nodes_init.nd (pi_range1 (by rfl) T.n_range (pa_cons (pv 1) pa_nil)) (blkOk_by (own := [("node", 4)]) (N := N_Nodes_init) (sc := defScope s_Nodes_init) (by decide +kernel)) (fun _ _ _ _ _ => pg_name (i := 4) sc_Nodes_init.nd rfl (by first | exact Or.inl rfl | exact Or.inr rfl)) (fun _ _ _ _ _ => pts_nil) (fun _ _ _ _ _ => by exact (pe_lc (own := [("page", 3)]) (g := gName 3) (tt := tYes) (by rfl) sc_Nodes_init.nd (pi_range1 (by rfl) T.n_range (pa_cons (pv 2) pa_nil)) (blkOk_by (own := [("page", 3)]) (N := N_Nodes_init) (by kernel_rfl)) (fun _ _ _ _ _ => pg_name (i := 3) sc_Nodes_init.nd rfl (by first | exact Or.inl rfl | exact Or.inr rfl)) (fun _ _ _ _ _ => pts_nil) (fun _ _ _ _ _ => by exact (pe_mk G_Holding_init (hr.mono (by decide)) takes0 (pa_cons (pe_ifExp (pt_cmpR op_eq (pe_op op_mod (pv 3) (pv 1)) (pv 4) (nomark _)) (pe_gv T.c_READ) pe_non) pa_nil)))))) rfl)))))), ?_⟩
    refine ⟨_, rfl, (many : Int), 1, 4, rfl, true, by rw [decide_eq_true (show (1 : Int) ≤ (many : Int) ∧ (many : Int) ≤ 4 by omega)], fun _ => ?_, fun z => nomatch z⟩
    refine ⟨_, rfl, (pages : Int), 1, 8, rfl, true, by rw [decide_eq_true (show (1 : Int) ≤ (pages : Int) ∧ (pages : Int) ≤ 8 by omega)], fun _ => ?_, fun z => nomatch z⟩
    -- self.many, self.pages, self.way
    refine ⟨_, rfl, _, rfl, Nat.zero_le _, fun l hl => ⟨(by show 3 ≤ sizeLine; decide), fun t ht => ?_⟩⟩
    have k1 := (Kp.new (o := .lst []) hl).trans0 (Kp.new (o := .tup [V.int (many : Int), .int (pages : Int), .ref l]) ht)
    have e1 := k1.same _ _ hx
    refine ⟨t, _, rfl, SqT.of upd_same, rfl, _, _, rfl, _, rfl, x, a.cn, dx, _, rfl, e1, T.cN, hn (by simp), (by show 0 < 1000; decide), ?_⟩
    refine ⟨_, _, rfl, _, rfl, x, a.cn, dx, _, rfl, upd_same, T.cN, hn (by simp), (lt1000 (by kernel_rfl)), ?_⟩
    refine ⟨_, _, rfl, _, rfl, x, a.cn, dx, _, rfl, upd_same, T.cN, hn (by simp), (lt1000 (by kernel_rfl)), rfl, ?_⟩
    rw [upd_upd, upd_upd]
    obtain ⟨O, hO⟩ : ∃ O, O = putF "way" (.ref l) (putF "pages" (.int (pages : Int)) (putF "many" (.int (many : Int)) [])) := ⟨_, rfl⟩
    rw [← hO]
    have kx := Kp.set (p := x) (o := .ins a.cn dx O) (show Mut (upd (upd H l (.lst [])) t (.tup [V.int (many : Int), .int (pages : Int), .ref l]) x) by rw [e1]; exact True.intro)
    have muH : ∀ b ∈ [x], Mut (H b) := fun b hb => by rw [List.mem_singleton.mp hb, hx]; exact True.intro
    have kb : Kp [x] H (upd (upd (upd H l (.lst [])) t (.tup [V.int (many : Int), .int (pages : Int), .ref l])) x (.ins a.cn dx O)) := (k1.wide (fun b h => nomatch h) muH).trans1 kx
    have lx : l ≠ x := (ne_of_none hx hl).symm
    have eb : upd (upd (upd H l (.lst [])) t (.tup [V.int (many : Int), .int (pages : Int), .ref l])) x (.ins a.cn dx O) x = some (.ins a.cn dx O) := upd_same
    have el : upd (upd (upd H l (.lst [])) t (.tup [V.int (many : Int), .int (pages : Int), .ref l])) x (.ins a.cn dx O) l = some (.lst []) := kx.st l _ (by simp [lx]) ((Kp.new (o := .tup [V.int (many : Int), .int (pages : Int), .ref l]) ht).same _ _ upd_same)
    generalize upd (upd (upd H l (.lst [])) t (.tup [V.int (many : Int), .int (pages : Int), .ref l])) x (.ins a.cn dx O) = Hb at *
    -- self.homes
    refine ⟨_, rfl, (pages : Int), rfl, by omega, by omega, fun D hD => ?_⟩
    have npg : ((pages : Int)).toNat = pages := Int.toNat_natCast pages
    refine lc_it walk_range (fun i H1 => Kp [] Hb H1 ∧ ∃ hm rd wt sv : Nat → Addr, H1 D = some (.lst ((List.range i).map fun p => V.ref (hm p))) ∧ HomesMade K a many Hb H1 i hm rd wt sv)
      ⟨Kp.new hD, fun _ => 0, fun _ => 0, fun _ => 0, fun _ => 0, upd_same, ⟨fun p h => absurd h (by omega), fun p h => absurd h (by omega), fun p p' h => absurd h (by omega), fun p p' d h => absurd h (by omega)⟩⟩ (fun _ _ _ _ => trivial) ?_ ?_
    · rintro j v H3 H4 hj ⟨k3, hm, rd, wt, sv, hD3, q3⟩ ⟨rfl, hv⟩
      obtain rfl : v = .int (j : Int) := by rw [hv]; exact congrArg V.int (Int.zero_add _)
      refine ⟨rfl, _, rfl, _, rfl, _, _, rfl, rfl, (by omega), fun y dy hy hdy hne => ?_⟩
      refine ⟨y, dy, j % many, many, rfl, upd_same, Nat.mod_lt _ (by omega), fun H5 r' w' s' k5 z hr' hw' hs' => ⟨rfl, ?_⟩⟩
      have ka := Kp.new (o := .own y) hdy
      have kn : Kp [] H4 (upd (upd H4 dy (.own y)) y (.ins a.cm dy [])) := ka.trans0 (Kp.new (by rw [upd_ne hne.symm]; exact hy))
      have k45 : Kp [] H4 H5 := kn.trans k5 fun b hb => .inr (by rw [List.mem_singleton.mp hb]; exact hy)
      have fr : ∀ d, upd (upd H4 dy (.own y)) y (.ins a.cm dy []) d = none → H4 d = none := fun d hd => kn.fr _ hd
      have hD5 := k45.same _ _ hD3
      have kd := Kp.set (p := D) (o := .lst ((List.range j).map (fun p => V.ref (hm p)) ++ [V.ref y])) (show Mut (H5 D) by rw [hD5]; exact True.intro)
      refine ⟨_, hD5, (by rw [List.length_map, List.length_range]; exact small1000 (by omega)), (k3.trans0 k45).trans kd fun b hb => .inr (by rw [List.mem_singleton.mp hb]; exact hD), atP j y hm, atP j r' rd, atP j w' wt, atP j s' sv, ?_, q3.snoc k3 k45 hy (fr _ hr') (fr _ hw') (fr _ hs') z kd hD5⟩
      rw [upd_same, range_snoc (α := Unit)]
    · rintro H3 ⟨k3, hm, rd, wt, sv, hD3, q3⟩
      rw [npg] at hD3 q3
      have e3 := k3.same _ _ eb
      have l3 := k3.same _ _ el
      refine ⟨_, rfl, x, a.cn, dx, _, rfl, e3, T.cN, hn (by simp), (by rw [hO]; exact lt1000 (by kernel_rfl)), ?_⟩
      have kx3 := Kp.set (p := x) (o := .ins a.cn dx (putF "homes" (.ref D) O)) (show Mut (H3 x) by rw [e3]; exact True.intro)
      have ec : upd H3 x (.ins a.cn dx (putF "homes" (.ref D) O)) x = some (.ins a.cn dx (putF "homes" (.ref D) O)) := upd_same
      have Dx : D ≠ x := (ne_of_none eb hD).symm
      have Dl : D ≠ l := (ne_of_none el hD).symm
      have hDc := kx3.st D _ (by simp [Dx]) hD3
      have lc := kx3.st l _ (by simp [lx]) l3
      have kc : Kp [x] H (upd H3 x (.ins a.cn dx (putF "homes" (.ref D) O))) := (kb.trans0 k3).trans1 kx3
      have qc : ∀ p, p < pages → HmAt K a many (upd H3 x (.ins a.cn dx (putF "homes" (.ref D) O))) (hm p) (rd p) (wt p) (sv p) (home0 (p % many)) := fun p hp => by
        have sm := (q3.at_ p hp).some
        have nx : ∀ d, Hb d = none → d ∉ [x] := fun d hd => by
          simp only [List.mem_singleton]
          exact (ne_of_none eb hd).symm
        obtain ⟨f1, f2, f3, f4⟩ := q3.fr p hp
        exact (q3.at_ p hp).kp kx3 (nx _ f1) (nx _ f2) (nx _ f3) (nx _ f4)
      generalize upd H3 x (.ins a.cn dx (putF "homes" (.ref D) O)) = Hc at *
      -- self.held
      refine ⟨_, rfl, (many : Int), rfl, by omega, by omega, fun E1 hE1 => ?_⟩
      have nmn : ((many : Int)).toNat = many := Int.toNat_natCast many
      have md : ∀ i p : Nat, True := fun _ _ => trivial
      refine lc_it walk_range (fun i H1 => Kp [] Hc H1 ∧ ∃ (row : Nat → Addr) (ho : Nat → Nat → Addr), H1 E1 = some (.lst ((List.range i).map fun p => V.ref (row p))) ∧ RowsMade K a Hc H1 i pages (fun i p => if p % many = i then some .r else none) row ho ∧ ∀ i', i' < i → row i' ≠ E1)
        ⟨Kp.new hE1, fun _ => 0, fun _ _ => 0, upd_same, ⟨fun p h => absurd h (by omega), fun p _ h => absurd h (by omega), fun p h => absurd h (by omega), fun p p' _ _ h => absurd h (by omega)⟩, fun i' h => absurd h (by omega)⟩ (fun _ _ _ _ => trivial) ?_ ?_
      · rintro i v H4 H5 hi ⟨k4, row, ho, hE4, q4, rE⟩ ⟨rfl, hv⟩
        obtain rfl : v = .int (i : Int) := by rw [hv]; exact congrArg V.int (Int.zero_add _)
        refine ⟨rfl, _, rfl, (pages : Int), rfl, by omega, by omega, fun E2 hE2 => ?_⟩
        refine lc_it walk_range (fun j H1 => Kp [] H5 H1 ∧ ∃ (h1 : Nat → Addr), H1 E2 = some (.lst ((List.range j).map fun p => V.ref (h1 p))) ∧ HoldsMade K a H5 H1 j (fun p => if p % many = i then some .r else none) h1)
          ⟨Kp.new hE2, fun _ => 0, upd_same, ⟨fun p h => absurd h (by omega), fun p h => absurd h (by omega), fun p p' h => absurd h (by omega)⟩⟩ (fun _ _ _ _ => trivial) ?_ ?_
        · rintro j v H6 H7 hj ⟨k6, h1, hE6, q6⟩ ⟨rfl, hv⟩
          obtain rfl : v = .int (j : Int) := by rw [hv]; exact congrArg V.int (Int.zero_add _)
          have mk : ∀ mo : Option Kd, mo = (if j % many = i then some .r else none) → ∀ y dy, H7 y = none → H7 dy = none → dy ≠ y → ∀ H8, Kp [y] (upd (upd H7 dy (.own y)) y (.ins a.ch dy [])) H8 → HoldAt K a H8 y (hold0 mo) →
              ∃ acc, H8 E2 = some (.lst acc) ∧ acc.length < sizeLine ∧ (Kp [] H5 (upd H8 E2 (.lst (acc ++ [V.ref y]))) ∧ ∃ (h1 : Nat → Addr), (upd H8 E2 (.lst (acc ++ [V.ref y]))) E2 = some (.lst ((List.range (j + 1)).map fun p => V.ref (h1 p))) ∧ HoldsMade K a H5 (upd H8 E2 (.lst (acc ++ [V.ref y]))) (j + 1) (fun p => if p % many = i then some .r else none) h1) := by
            rintro mo rfl y dy hy hdy hne H8 k8 z
            have ka := Kp.new (o := .own y) hdy
            have kn : Kp [] H7 (upd (upd H7 dy (.own y)) y (.ins a.ch dy [])) := ka.trans0 (Kp.new (by rw [upd_ne hne.symm]; exact hy))
            have k78 : Kp [] H7 H8 := kn.trans k8 fun b hb => .inr (by rw [List.mem_singleton.mp hb]; exact hy)
            have hE8 := k78.same _ _ hE6
            have kd := Kp.set (p := E2) (o := .lst ((List.range j).map (fun p => V.ref (h1 p)) ++ [V.ref y])) (show Mut (H8 E2) by rw [hE8]; exact True.intro)
            refine ⟨_, hE8, (by rw [List.length_map, List.length_range]; exact small1000 (by omega)), (k6.trans0 k78).trans kd fun b hb => .inr (by rw [List.mem_singleton.mp hb]; exact hE2), atP j y h1, ?_, q6.snoc k6 k78 hy z kd hE8⟩
            rw [upd_same, range_snoc (α := Unit)]
          refine ⟨rfl, _, rfl, _, rfl, _, _, rfl, rfl, (by omega), _, rfl, rfl, _, rfl, ?_⟩
          have ee : decide (V.int ((j : Int) % (many : Int)) = .int (i : Int)) = decide (j % many = i) := decide_eq_decide.mpr ⟨fun z => by have := V.int.inj z; omega, fun z => by rw [← z]; exact congrArg V.int (by omega)⟩
          refine ite_of (fun e => ?_) (fun e => ?_)
          · have c : j % many = i := of_decide_eq_true (ee.symm.trans e)
            intro y dy hy hdy hne
            exact ⟨y, dy, some .r, rfl, upd_same, fun H8 k8 z => ⟨rfl, mk (some .r) (if_pos c).symm y dy hy hdy hne H8 k8 z⟩⟩
          · have c : ¬ j % many = i := of_decide_eq_false (ee.symm.trans e)
            intro y dy hy hdy hne
            exact ⟨y, dy, none, rfl, upd_same, fun H8 k8 z => ⟨rfl, mk none (if_neg c).symm y dy hy hdy hne H8 k8 z⟩⟩
        · rintro H6 ⟨k6, h1, hE6, q6⟩
          rw [npg] at hE6 q6
          have hE6' := k6.same _ _ hE4
          have E12 : E1 ≠ E2 := ne_of_none hE4 hE2
          have kd := Kp.set (p := E1) (o := .lst ((List.range i).map (fun p => V.ref (row p)) ++ [V.ref E2])) (show Mut (H6 E1) by rw [hE6']; exact True.intro)
          refine ⟨_, hE6', (by rw [List.length_map, List.length_range]; exact small1000 (by omega)), (k4.trans0 k6).trans kd fun b hb => .inr (by rw [List.mem_singleton.mp hb]; exact hE1), atP i E2 row, fun i' => if i' = i then h1 else ho i', ?_, q4.snoc k4 k6 hE2 q6 hE6 kd hE6' E12.symm rE, fun i' hi' => ?_⟩
          · rw [upd_same, range_snoc (α := Unit)]
          · by_cases c : i' = i
            · rw [c, atP_same]; exact E12.symm
            · rw [atP_ne c]; exact rE i' (by omega)
      · rintro H4 ⟨k4, row, ho, hE4, q4, rE⟩
        rw [nmn] at hE4 q4
        have e4 := k4.same _ _ ec
        refine ⟨_, rfl, x, a.cn, dx, _, rfl, e4, T.cN, hn (by simp), (by rw [hO]; exact lt1000 (by kernel_rfl)), ?_⟩
        have kz := Kp.set (p := x) (o := .ins a.cn dx (putF "held" (.ref E1) (putF "homes" (.ref D) O))) (show Mut (H4 x) by rw [e4]; exact True.intro)
        have nx : ∀ d, Hc d = none → d ∉ [x] := fun d hd => by
          simp only [List.mem_singleton]
          exact (ne_of_none ec hd).symm
        have en : upd H4 x (.ins a.cn dx (putF "held" (.ref E1) (putF "homes" (.ref D) O))) x = some (.ins a.cn dx (nF (.int (many : Int)) (.int (pages : Int)) (.ref l) (.ref D) (.ref E1))) := by
          rw [upd_same, hO, nF_mk]
        have hDz := kz.st D _ (by simp [Dx]) (k4.same _ _ hDc)
        have lz := kz.st l _ (by simp [lx]) (k4.same _ _ lc)
        have hEz := kz.st E1 _ (nx _ hE1) hE4
        have kcH : ∀ d, Hc d = none → H d = none := fun d hd => kc.fr _ hd
        have kbH : ∀ d, Hb d = none → H d = none := fun d hd => kb.fr _ hd
        refine k _ ⟨x, l, D, E1, row, ho, hm, rd, wt, sv⟩ rfl ((kc.trans0 k4).trans1 kz) (fun b hb => ?_) ⟨⟨dx, en⟩, ⟨[], lz, .nil⟩, hDz, hEz, fun i hi => kz.st _ _ (nx _ (q4.fr i hi).1) (q4.rw i hi), fun i p hi hp => (q4.at_ i p hi hp).kp kz (nx _ ((q4.fr i hi).2 p hp)), fun p hp => ?_, fun i p i' p' hi hp hi' hp' e => q4.ih i p i' p' hi hp hi' hp' e, fun p p' hp hp' e => q3.im p p' hp hp' e, fun p p' d hp hp' e e' => q3.dj p p' d hp hp' e e', ⟨Dl.symm, (ne_of_none lc hE1), fun i hi => ne_of_none lc (q4.fr i hi).1⟩⟩
        · rcases NAd.mem_foot.mp hb with (rfl | rfl | rfl | rfl) | ⟨i, hi, rfl⟩ | ⟨i, hi, j, hj, rfl⟩ | ⟨j, hj, rfl | hb⟩
          · exact .inl rfl
          · exact .inr hl
          · exact .inr (kbH _ hD)
          · exact .inr (kcH _ hE1)
          · exact .inr (kcH _ (q4.fr i hi).1)
          · exact .inr (kcH _ ((q4.fr i hi).2 j hj))
          · exact .inr (kbH _ (q3.fr j hj).1)
          · obtain ⟨f1, f2, f3, f4⟩ := q3.fr j hj
            simp only [NAd.ds, List.mem_cons, List.not_mem_nil, or_false] at hb
            rcases hb with rfl | rfl | rfl
            · exact .inr (kbH _ f2)
            · exact .inr (kbH _ f3)
            · exact .inr (kbH _ f4)
        · have nb : ∀ d, Hb d = none → d ∉ [x] := fun d hd => by
            simp only [List.mem_singleton]
            exact (ne_of_none eb hd).symm
          obtain ⟨f1, f2, f3, f4⟩ := q3.fr p hp
          exact ((qc p hp).kp k4 (by simp) (by simp) (by simp) (by simp)).kp kz (nb _ f1) (nb _ f2) (nb _ f3) (nb _ f4)
end
end K57
set_option Elab.async false
set_option linter.all false
set_option maxRecDepth 100000
set_option maxHeartbeats 4000000
/-! K57X: the law's likeness. -/
namespace K57
open PySem L2 AB
def isFlat : V → Bool
  | .non => true
  | .bl _ => true
  | .int _ => true
  | .str _ => true
  | _ => false
def Lk (K : PySem.W.Frag) : Nat → Hp → V → V → Prop
  | 0, _, x, y => x = y ∧ isFlat x = true
  | d + 1, H, x, y => (x = y ∧ isFlat x = true) ∨ ∃ a b xs ys, x = .ref a ∧ y = .ref b ∧ SqT K H a xs ∧ SqT K H b ys ∧ Paired (fun u v => Lk K d H u v) xs ys ∧ xs.length ≤ 100000
def spSame (K : PySem.W.Frag) (d : Nat) : Sp := fun vs H Q _ => ∃ x y, vs = [x, y] ∧ Lk K d H x y ∧ ∀ H', Kp [] H H' → Q (.bl true) H'
theorem Lk.kp {K : PySem.W.Frag} {H H' : Hp} {m : List Addr} (k : Kp m H H') : ∀ {d : Nat} {x y : V}, Lk K d H x y → Lk K d H' x y
  | 0, _, _, h => h
  | d + 1, x, y, h => by
    rcases h with h | ⟨a, b, xs, ys, e1, e2, h1, h2, h3, h4⟩
    · exact .inl h
    · exact .inr ⟨a, b, xs, ys, e1, e2, k.sqT h1, k.sqT h2, AB.Paired.imp (fun _ _ r => Lk.kp k r) h3, h4⟩
theorem Lk.flat {K : PySem.W.Frag} {H : Hp} {x : V} (h : isFlat x = true) : ∀ {d : Nat}, Lk K d H x x
  | 0 => ⟨rfl, h⟩
  | d + 1 => .inl ⟨rfl, h⟩
section
variable {P : Program} {w : World} {K : PySem.W.Frag} {mg : Str → Option Value} {base : Heap} {a : Ad} {f : Addr} {fd : FuncData}
theorem same_one (F : Fun K "_law_same" "_law_same" s_law_same f fd) (T : Txt K mg a) (d j : Nat) (spR : Sp) (G_law_same : GFn P w K mg base j "_law_same" ["actual", "due"] spR) (hR : ∀ x y H Q E, d ≠ 0 → Lk K (d - 1) H x y → (∀ H', Kp [] H H' → Q (.bl true) H') → spR [x, y] H Q E) : FnOk P w K mg base (L2.CX P w) (j + 1) f fd ["actual", "due"] (spSame K d) := by
  refine okT F sc_law_same (fun vs H Q E h => ?_) (fun cdv A' outer s H vs Q E hr tk hp h => ?_)
  · obtain ⟨x, y, rfl, _⟩ := h
    rfl
  · obtain ⟨x, y, rfl, hl, k⟩ := h
    refine ⟨_, (pss_cons (ps_if (pt_cmpR op_isN (pv 1) pe_non (nomark _)) (pss_one (ps_ret (pe_cmpR op_isN (pv 0) pe_non (nomark _)))) pss_nil) (pss_cons (ps_if (PW.pt (pw_or (pt_val (pe_callB (k_isi K (by rfl)) (by rfl) T.n_isinstance (by decide +kernel) (pa_cons (pv 1) (pa_cons (pe_bltn (v := .ty "tuple") (u := .type "tuple") (by rfl) T.n_tuple (by decide +kernel) rfl) pa_nil)))) (pw_or1 (pt_val (pe_callB (k_isi K (by rfl)) (by rfl) T.n_isinstance (by decide +kernel) (pa_cons (pv 1) (pa_cons (pe_bltn (v := .ty "list") (u := .type "list") (by rfl) T.n_list (by decide +kernel) rfl) pa_nil))))))) (pss_cons (ps_if (PW.pt (pw_or (pt_cmpR op_ne (pe_callB (k_isi K (by rfl)) (by rfl) T.n_isinstance (by decide +kernel) (pa_cons (pv 1) (pa_cons (pe_bltn (v := .ty "tuple") (u := .type "tuple") (by rfl) T.n_tuple (by decide +kernel) rfl) pa_nil))) (pe_callB (k_isi K (by rfl)) (by rfl) T.n_isinstance (by decide +kernel) (pa_cons (pv 0) (pa_cons (pe_bltn (v := .ty "tuple") (u := .type "tuple") (by rfl) T.n_tuple (by decide +kernel) rfl) pa_nil))) (nomark _)) (pw_or1 (pt_cmpR op_ne (pe_callB (k_isi K (by rfl)) (by rfl) T.n_isinstance (by decide +kernel) (pa_cons (pv 1) (pa_cons (pe_bltn (v := .ty "list") (u := .type "list") (by rfl) T.n_list (by decide +kernel) rfl) pa_nil))) (pe_callB (k_isi K (by rfl)) (by rfl) T.n_isinstance (by decide +kernel) (pa_cons (pv 0) (pa_cons (pe_bltn (v := .ty "list") (u := .type "list") (by rfl) T.n_list (by decide +kernel) rfl) pa_nil))) (nomark _))))) (pss_one (ps_ret pe_bl)) pss_nil) (pss_one (ps_ret (pe_and (pe_cmpR op_eq (pe_callB (k_len K (by rfl)) (by rfl) T.n_len (by decide +kernel) (pa_cons (pv 0) pa_nil)) (pe_callB (k_len K (by rfl)) (by rfl) T.n_len (by decide +kernel) (pa_cons (pv 1) pa_nil)) (nomark _)) (pe_one (pe_cmpR (k_eqD K (by rfl) hr.units) (pe_lc (own := [("k", 2)]) (g := gName 2) (by rfl) sc_law_same.nd (pi_range1 (by rfl) T.n_range (pa_cons (pe_callB (k_len K (by rfl)) (by rfl) T.n_len (by decide +kernel) (pa_cons (pv 1) pa_nil)) pa_nil)) (blkOk_by (own := [("k", 2)]) (N := N_law_same) (sc := defScope s_law_same) (by decide +kernel)) (fun _ _ _ _ _ => pg_name (i := 2) sc_law_same.nd rfl (by first | exact Or.inl rfl | exact Or.inr rfl)) (fun _ _ _ _ _ => by exact pts_one (pt_not (k_tru K (by rfl) (pt_truth (pe_cl G_law_same (hr.mono (Nat.le_refl _)) takes0 (pa_cons (pe_ix (k_ixT K (by rfl)) (pv 0) (pv 2) (fun _ _ => rfl)) (pa_cons (pe_ix (k_ixT K (by rfl)) (pv 1) (pv 2) (fun _ _ => rfl)) pa_nil))) (by intro _; rfl))))) (fun _ _ _ _ _ => by exact (pv 2))) (pe_lst pa_nil) (nomark _))))))) pss_nil) (pss_cons (ps_if (pt_val (pe_callB (k_isi K (by rfl)) (by rfl) T.n_isinstance (by decide +kernel) (pa_cons (pv 1) (pa_cons (pe_bltn (v := .ty "dict") (u := .type "dict") (by rfl) T.n_dict (by decide +kernel) rfl) pa_nil)))) (pss_cons (ps_if (PW.pt (pw_or (pt_not (pt_val (pe_callB (k_isi K (by rfl)) (by rfl) T.n_isinstance (by decide +kernel) (pa_cons (pv 0) (pa_cons (pe_bltn (v := .ty "dict") (u := .type "dict") (by rfl) T.n_dict (by decide +kernel) rfl) pa_nil))))) (pw_or1 (pt_cmpR (k_neD K (by rfl) hr.units) (pe_callTy (k_listOf K (by rfl)) (by rfl) T.n_list (by decide +kernel) (pa_cons (pv 0) pa_nil)) (pe_callTy (k_listOf K (by rfl)) (by rfl) T.n_list (by decide +kernel) (pa_cons (pv 1) pa_nil)) (nomark _))))) (pss_one (ps_ret pe_bl)) pss_nil) (pss_one (ps_ret (pe_cmpR (k_eqD K (by rfl) hr.units) (pe_lc (own := [("key", 3)]) (g := gName 3) (by rfl) sc_law_same.nd (k_piT K (by rfl) (pi_tup (pv 1))) (blkOk_by (own := [("key", 3)]) (N := N_law_same) (sc := defScope s_law_same) (by decide +kernel)) (fun _ _ _ _ _ => pg_name (i := 3) sc_law_same.nd rfl (by first | exact Or.inl rfl | exact Or.inr rfl)) (fun _ _ _ _ _ => by exact pts_one (pt_not (k_tru K (by rfl) (pt_truth (pe_cl G_law_same (hr.mono (Nat.le_refl _)) takes0 (pa_cons (pe_ix (k_ixT K (by rfl)) (pv 0) (pv 3) (fun _ _ => rfl)) (pa_cons (pe_ix (k_ixT K (by rfl)) (pv 1) (pv 3) (fun _ _ => rfl)) pa_nil))) (by intro _; rfl))))) (fun _ _ _ _ _ => by exact (pv 3))) (pe_lst pa_nil) (nomark _))))) pss_nil) (pss_cons (ps_if (pt_cmpR op_ne (pe_callB (k_isi K (by rfl)) (by rfl) T.n_isinstance (by decide +kernel) (pa_cons (pv 1) (pa_cons (pe_bltn (v := .ty "bool") (u := .type "bool") (by rfl) T.n_bool (by decide +kernel) rfl) pa_nil))) (pe_callB (k_isi K (by rfl)) (by rfl) T.n_isinstance (by decide +kernel) (pa_cons (pv 0) (pa_cons (pe_bltn (v := .ty "bool") (u := .type "bool") (by rfl) T.n_bool (by decide +kernel) rfl) pa_nil))) (nomark _)) (pss_one (ps_ret pe_bl)) pss_nil) (pss_cons (ps_if (PW.pt (pw_or (pt_cmpR op_ne (pe_callB (k_isi K (by rfl)) (by rfl) T.n_isinstance (by decide +kernel) (pa_cons (pv 1) (pa_cons (pe_bltn (v := .ty "int") (u := .type "int") (by rfl) T.n_int (by decide +kernel) rfl) pa_nil))) (pe_callB (k_isi K (by rfl)) (by rfl) T.n_isinstance (by decide +kernel) (pa_cons (pv 0) (pa_cons (pe_bltn (v := .ty "int") (u := .type "int") (by rfl) T.n_int (by decide +kernel) rfl) pa_nil))) (nomark _)) (pw_or1 (pt_cmpR op_ne (pe_callB (k_isi K (by rfl)) (by rfl) T.n_isinstance (by decide +kernel) (pa_cons (pv 1) (pa_cons (pe_bltn (v := .ty "str") (u := .type "str") (by rfl) T.n_str (by decide +kernel) rfl) pa_nil))) (pe_callB (k_isi K (by rfl)) (by rfl) T.n_isinstance (by decide +kernel) (pa_cons (pv 0) (pa_cons (pe_bltn (v := .ty "str") (u := .type "str") (by rfl) T.n_str (by decide +kernel) rfl) pa_nil))) (nomark _))))) (pss_one (ps_ret pe_bl)) pss_nil) (pss_one (ps_ret (pe_cmpR op_eq (pv 0) (pv 1) (nomark _))))))))), ?_⟩
    have hcase : (x = y ∧ isFlat x = true) ∨ (d ≠ 0 ∧ ∃ a b xs ys, x = .ref a ∧ y = .ref b ∧ SqT K H a xs ∧ SqT K H b ys ∧ Paired (fun u v => Lk K (d - 1) H u v) xs ys ∧ xs.length ≤ 100000) := by
      cases d with
      | zero => exact .inl hl
      | succ d => exact hl.imp id fun h => ⟨by omega, h⟩
    rcases hcase with ⟨rfl, hf⟩ | ⟨hd, p, q, xs, ys, rfl, rfl, hx, hy, pxy, hlen⟩
    · cases x with
      | non => exact ⟨_, rfl, rfl, _, rfl, iteT ⟨_, rfl, rfl, k _ (Kp.refl _)⟩⟩
      | bl b =>
        refine ⟨_, rfl, rfl, _, rfl, iteF ?_⟩
        refine ⟨_, rfl, .bl b, .ty "tuple", .type "bool", .type "tuple", false, rfl, .ty _, .base (.bl b), kit_ty (by decide +kernel), false, rfl, iteF ⟨_, rfl, .bl b, .ty "list", .type "bool", .type "list", false, rfl, .ty _, .base (.bl b), kit_ty (by decide +kernel), false, rfl, iteF ?_⟩⟩
        refine ⟨_, rfl, .bl b, .ty "dict", .type "bool", .type "dict", false, rfl, .ty _, .base (.bl b), kit_ty (by decide +kernel), false, rfl, iteF ?_⟩
        refine ⟨_, rfl, .bl b, .ty "bool", .type "bool", .type "bool", true, rfl, .ty _, .base (.bl b), kit_ty (by decide +kernel), _, rfl, .bl b, .ty "bool", .type "bool", .type "bool", true, rfl, .ty _, .base (.bl b), kit_ty (by decide +kernel), rfl, false, by simp, iteF ?_⟩
        refine ⟨_, rfl, .bl b, .ty "int", .type "bool", .type "int", true, rfl, .ty _, .base (.bl b), kit_ty (by decide +kernel), _, rfl, .bl b, .ty "int", .type "bool", .type "int", true, rfl, .ty _, .base (.bl b), kit_ty (by decide +kernel), rfl, false, by simp, iteF ⟨_, rfl, .bl b, .ty "str", .type "bool", .type "str", false, rfl, .ty _, .base (.bl b), kit_ty (by decide +kernel), _, rfl, .bl b, .ty "str", .type "bool", .type "str", false, rfl, .ty _, .base (.bl b), kit_ty (by decide +kernel), rfl, false, by simp, iteF ?_⟩⟩
        refine ⟨_, rfl, _, rfl, rfl, ?_⟩
        rw [decide_eq_true rfl]
        exact k _ (Kp.refl _)
      | int b =>
        refine ⟨_, rfl, rfl, _, rfl, iteF ?_⟩
        refine ⟨_, rfl, .int b, .ty "tuple", .type "int", .type "tuple", false, rfl, .ty _, .base (.int b), kit_ty (by decide +kernel), false, rfl, iteF ⟨_, rfl, .int b, .ty "list", .type "int", .type "list", false, rfl, .ty _, .base (.int b), kit_ty (by decide +kernel), false, rfl, iteF ?_⟩⟩
        refine ⟨_, rfl, .int b, .ty "dict", .type "int", .type "dict", false, rfl, .ty _, .base (.int b), kit_ty (by decide +kernel), false, rfl, iteF ?_⟩
        refine ⟨_, rfl, .int b, .ty "bool", .type "int", .type "bool", false, rfl, .ty _, .base (.int b), kit_ty (by decide +kernel), _, rfl, .int b, .ty "bool", .type "int", .type "bool", false, rfl, .ty _, .base (.int b), kit_ty (by decide +kernel), rfl, false, by simp, iteF ?_⟩
        refine ⟨_, rfl, .int b, .ty "int", .type "int", .type "int", true, rfl, .ty _, .base (.int b), kit_ty (by decide +kernel), _, rfl, .int b, .ty "int", .type "int", .type "int", true, rfl, .ty _, .base (.int b), kit_ty (by decide +kernel), rfl, false, by simp, iteF ⟨_, rfl, .int b, .ty "str", .type "int", .type "str", false, rfl, .ty _, .base (.int b), kit_ty (by decide +kernel), _, rfl, .int b, .ty "str", .type "int", .type "str", false, rfl, .ty _, .base (.int b), kit_ty (by decide +kernel), rfl, false, by simp, iteF ?_⟩⟩
        refine ⟨_, rfl, _, rfl, rfl, ?_⟩
        rw [decide_eq_true rfl]
        exact k _ (Kp.refl _)
      | str b =>
        refine ⟨_, rfl, rfl, _, rfl, iteF ?_⟩
        refine ⟨_, rfl, .str b, .ty "tuple", .type "str", .type "tuple", false, rfl, .ty _, .base (.str b), kit_ty (by decide +kernel), false, rfl, iteF ⟨_, rfl, .str b, .ty "list", .type "str", .type "list", false, rfl, .ty _, .base (.str b), kit_ty (by decide +kernel), false, rfl, iteF ?_⟩⟩
        refine ⟨_, rfl, .str b, .ty "dict", .type "str", .type "dict", false, rfl, .ty _, .base (.str b), kit_ty (by decide +kernel), false, rfl, iteF ?_⟩
        refine ⟨_, rfl, .str b, .ty "bool", .type "str", .type "bool", false, rfl, .ty _, .base (.str b), kit_ty (by decide +kernel), _, rfl, .str b, .ty "bool", .type "str", .type "bool", false, rfl, .ty _, .base (.str b), kit_ty (by decide +kernel), rfl, false, by simp, iteF ?_⟩
        refine ⟨_, rfl, .str b, .ty "int", .type "str", .type "int", false, rfl, .ty _, .base (.str b), kit_ty (by decide +kernel), _, rfl, .str b, .ty "int", .type "str", .type "int", false, rfl, .ty _, .base (.str b), kit_ty (by decide +kernel), rfl, false, by simp, iteF ⟨_, rfl, .str b, .ty "str", .type "str", .type "str", true, rfl, .ty _, .base (.str b), kit_ty (by decide +kernel), _, rfl, .str b, .ty "str", .type "str", .type "str", true, rfl, .ty _, .base (.str b), kit_ty (by decide +kernel), rfl, false, by simp, iteF ?_⟩⟩
        refine ⟨_, rfl, _, rfl, rfl, ?_⟩
        rw [decide_eq_true rfl]
        exact k _ (Kp.refl _)
      | byt => cases hf
      | flt => cases hf
      | ref => cases hf
      | ty => cases hf
    · have hle := Paired.length pxy
      refine ⟨_, rfl, rfl, _, rfl, iteF ?_⟩
      refine ⟨_, rfl, .ref q, .ty "tuple", .type "tuple", .type "tuple", true, rfl, .ty _, TyX.sqT hy, kit_ty (by decide +kernel), true, rfl, iteT ?_⟩
      refine ⟨_, rfl, .ref q, .ty "tuple", .type "tuple", .type "tuple", true, rfl, .ty _, TyX.sqT hy, kit_ty (by decide +kernel), _, rfl, .ref p, .ty "tuple", .type "tuple", .type "tuple", true, rfl, .ty _, TyX.sqT hx, kit_ty (by decide +kernel), rfl, false, by simp, iteF ⟨_, rfl, .ref q, .ty "list", .type "tuple", .type "list", false, rfl, .ty _, TyX.sqT hy, kit_ty (by decide +kernel), _, rfl, .ref p, .ty "list", .type "tuple", .type "list", false, rfl, .ty _, TyX.sqT hx, kit_ty (by decide +kernel), rfl, false, by simp, iteF ?_⟩⟩
      refine ⟨_, rfl, p, xs, rfl, .inr hx, _, rfl, q, ys, rfl, .inr hy, rfl, true, by rw [hle]; simp, iteT ?_⟩
      refine ⟨_, rfl, q, ys, rfl, .inr hy, _, rfl, by omega, by omega, fun D hD => ?_⟩
      have nn : ((ys.length : Int)).toNat = ys.length := Int.toNat_natCast _
      refine lc_pure walk_range (show ((ys.length : Int)).toNat < sizeLine from Nat.lt_of_le_of_lt (show _ ≤ 100000 by omega) (by decide)) hD (fun _ => false) (fun _ _ _ => True) (fun j v H H' _ r => r) (fun _ _ => trivial) ?_ ?_
      · rintro j v H3 H4 hj k3 ⟨rfl, hv⟩ N F' hN hF
        obtain rfl : v = .int (j : Int) := by rw [hv]; exact congrArg V.int (Int.zero_add _)
        have hj2 : j < ys.length := by omega
        have hj1 : j < xs.length := by omega
        refine ⟨rfl, _, rfl, _, rfl, p, xs, _, xs[j], rfl, rfl, k3.sqT hx, atI_nat (by simp [hj1]), _, rfl, _, rfl, q, ys, _, ys[j], rfl, rfl, k3.sqT hy, atI_nat (by simp [hj2]), ?_⟩
        exact hR _ _ _ _ _ hd ((paired_get pxy j hj1 hj2).kp k3) fun H5 k5 => ⟨true, rfl, hF _ rfl k5⟩
      · intro H1 acc k1 hacc pr
        have e0 : (List.range ((ys.length : Int)).toNat).filter (fun _ => false) = [] := by simp
        rw [e0] at pr
        cases pr
        refine ⟨Nat.zero_le _, fun e he => ⟨.list [], .list [], .lst (SqL.of ((Kp.new (o := .lst []) he).same _ _ hacc)) .nil, .lst (SqL.of upd_same) .nil, rfl, rfl, ?_⟩⟩
        exact k _ (k1.trans0 (Kp.new he))
theorem ok_law_same (F : Fun K "_law_same" "_law_same" s_law_same f fd) (T : Txt K mg a) (hmg : mg "_law_same" = some (.ref f)) (hkp : PySem.W.keepIn K (.ref f) = true) (hbd : Binds K fd ["actual", "due"] []) : FnOk P w K mg base (L2.CX P w) 5 f fd ["actual", "due"] (spSame K 3) := by
  have f0 : FnOk P w K mg base (L2.CX P w) 1 f fd ["actual", "due"] (fun _ _ _ _ => False) := okT F sc_law_same (fun vs H Q E h => h.elim) (fun cdv A outer s H vs Q E hr tk hp h => h.elim)
  have g0 : GFn P w K mg base 1 "_law_same" ["actual", "due"] (fun _ _ _ _ => False) := ⟨⟨f, fd, f0, hmg, hkp, hbd⟩⟩
  have g1 : GFn P w K mg base 2 "_law_same" ["actual", "due"] (spSame K 0) := ⟨⟨f, fd, same_one F T 0 1 _ g0 (fun _ _ _ _ _ h => absurd rfl h), hmg, hkp, hbd⟩⟩
  have g2 : GFn P w K mg base 3 "_law_same" ["actual", "due"] (spSame K 1) := ⟨⟨f, fd, same_one F T 1 2 _ g1 (fun x y H Q E _ h k => ⟨x, y, rfl, h, k⟩), hmg, hkp, hbd⟩⟩
  have g3 : GFn P w K mg base 4 "_law_same" ["actual", "due"] (spSame K 2) := ⟨⟨f, fd, same_one F T 2 3 _ g2 (fun x y H Q E _ h k => ⟨x, y, rfl, h, k⟩), hmg, hkp, hbd⟩⟩
  exact same_one F T 3 4 _ g3 (fun x y H Q E _ h k => ⟨x, y, rfl, h, k⟩)
end
end K57
set_option Elab.async false
set_option linter.all false
set_option maxRecDepth 100000
set_option maxHeartbeats 4000000
/-! K57Xa: the law's own nodes in the heap. -/
namespace K57
open PySem L2 AB
def oD (v0 v1 v2 v3 v4 v5 : V) : List (Key × V) := [(Sum.inr "mode", v0), (Sum.inr "words", v1), (Sum.inr "want", v2), (Sum.inr "asked", v3), (Sum.inr "last", v4), (Sum.inr "answer", v5)]
section
variable {v0 v1 v2 v3 v4 v5 u : V} {H : Hp} {x : Addr}
theorem oD_mode : valV (oD v0 v1 v2 v3 v4 v5) (Sum.inr "mode") = some v0 := by kernel_rfl
theorem oD_p_mode : putK (oD v0 v1 v2 v3 v4 v5) (Sum.inr "mode") u = oD u v1 v2 v3 v4 v5 := by kernel_rfl
theorem oG_mode (h : H x = some (.dK (oD v0 v1 v2 v3 v4 v5))) : DGet H x (.str "mode") (some v0) := by
  have z := DGet.k (k := Sum.inr "mode") h
  rw [oD_mode] at z
  exact z
theorem oD_words : valV (oD v0 v1 v2 v3 v4 v5) (Sum.inr "words") = some v1 := by kernel_rfl
theorem oD_p_words : putK (oD v0 v1 v2 v3 v4 v5) (Sum.inr "words") u = oD v0 u v2 v3 v4 v5 := by kernel_rfl
theorem oG_words (h : H x = some (.dK (oD v0 v1 v2 v3 v4 v5))) : DGet H x (.str "words") (some v1) := by
  have z := DGet.k (k := Sum.inr "words") h
  rw [oD_words] at z
  exact z
theorem oD_want : valV (oD v0 v1 v2 v3 v4 v5) (Sum.inr "want") = some v2 := by kernel_rfl
theorem oD_p_want : putK (oD v0 v1 v2 v3 v4 v5) (Sum.inr "want") u = oD v0 v1 u v3 v4 v5 := by kernel_rfl
theorem oG_want (h : H x = some (.dK (oD v0 v1 v2 v3 v4 v5))) : DGet H x (.str "want") (some v2) := by
  have z := DGet.k (k := Sum.inr "want") h
  rw [oD_want] at z
  exact z
theorem oD_asked : valV (oD v0 v1 v2 v3 v4 v5) (Sum.inr "asked") = some v3 := by kernel_rfl
theorem oD_p_asked : putK (oD v0 v1 v2 v3 v4 v5) (Sum.inr "asked") u = oD v0 v1 v2 u v4 v5 := by kernel_rfl
theorem oG_asked (h : H x = some (.dK (oD v0 v1 v2 v3 v4 v5))) : DGet H x (.str "asked") (some v3) := by
  have z := DGet.k (k := Sum.inr "asked") h
  rw [oD_asked] at z
  exact z
theorem oD_last : valV (oD v0 v1 v2 v3 v4 v5) (Sum.inr "last") = some v4 := by kernel_rfl
theorem oD_p_last : putK (oD v0 v1 v2 v3 v4 v5) (Sum.inr "last") u = oD v0 v1 v2 v3 u v5 := by kernel_rfl
theorem oG_last (h : H x = some (.dK (oD v0 v1 v2 v3 v4 v5))) : DGet H x (.str "last") (some v4) := by
  have z := DGet.k (k := Sum.inr "last") h
  rw [oD_last] at z
  exact z
theorem oD_answer : valV (oD v0 v1 v2 v3 v4 v5) (Sum.inr "answer") = some v5 := by kernel_rfl
theorem oD_p_answer : putK (oD v0 v1 v2 v3 v4 v5) (Sum.inr "answer") u = oD v0 v1 v2 v3 v4 u := by kernel_rfl
theorem oG_answer (h : H x = some (.dK (oD v0 v1 v2 v3 v4 v5))) : DGet H x (.str "answer") (some v5) := by
  have z := DGet.k (k := Sum.inr "answer") h
  rw [oD_answer] at z
  exact z
theorem oD_len : (oD v0 v1 v2 v3 v4 v5).length < sizeLine := by show 6 < sizeLine; decide
end
def hD (v0 v1 v2 v3 v4 v5 v6 v7 v8 : V) : List (Key × V) := [(Sum.inr "writer", v0), (Sum.inr "words", v1), (Sum.inr "number", v2), (Sum.inr "asker", v3), (Sum.inr "kind", v4), (Sum.inr "node", v5), (Sum.inr "readers", v6), (Sum.inr "waits", v7), (Sum.inr "served", v8)]
section
variable {v0 v1 v2 v3 v4 v5 v6 v7 v8 u : V} {H : Hp} {x : Addr}
theorem hD_writer : valV (hD v0 v1 v2 v3 v4 v5 v6 v7 v8) (Sum.inr "writer") = some v0 := by kernel_rfl
theorem hD_p_writer : putK (hD v0 v1 v2 v3 v4 v5 v6 v7 v8) (Sum.inr "writer") u = hD u v1 v2 v3 v4 v5 v6 v7 v8 := by kernel_rfl
theorem hG_writer (h : H x = some (.dK (hD v0 v1 v2 v3 v4 v5 v6 v7 v8))) : DGet H x (.str "writer") (some v0) := by
  have z := DGet.k (k := Sum.inr "writer") h
  rw [hD_writer] at z
  exact z
theorem hD_words : valV (hD v0 v1 v2 v3 v4 v5 v6 v7 v8) (Sum.inr "words") = some v1 := by kernel_rfl
theorem hD_p_words : putK (hD v0 v1 v2 v3 v4 v5 v6 v7 v8) (Sum.inr "words") u = hD v0 u v2 v3 v4 v5 v6 v7 v8 := by kernel_rfl
theorem hG_words (h : H x = some (.dK (hD v0 v1 v2 v3 v4 v5 v6 v7 v8))) : DGet H x (.str "words") (some v1) := by
  have z := DGet.k (k := Sum.inr "words") h
  rw [hD_words] at z
  exact z
theorem hD_number : valV (hD v0 v1 v2 v3 v4 v5 v6 v7 v8) (Sum.inr "number") = some v2 := by kernel_rfl
theorem hD_p_number : putK (hD v0 v1 v2 v3 v4 v5 v6 v7 v8) (Sum.inr "number") u = hD v0 v1 u v3 v4 v5 v6 v7 v8 := by kernel_rfl
theorem hG_number (h : H x = some (.dK (hD v0 v1 v2 v3 v4 v5 v6 v7 v8))) : DGet H x (.str "number") (some v2) := by
  have z := DGet.k (k := Sum.inr "number") h
  rw [hD_number] at z
  exact z
theorem hD_asker : valV (hD v0 v1 v2 v3 v4 v5 v6 v7 v8) (Sum.inr "asker") = some v3 := by kernel_rfl
theorem hD_p_asker : putK (hD v0 v1 v2 v3 v4 v5 v6 v7 v8) (Sum.inr "asker") u = hD v0 v1 v2 u v4 v5 v6 v7 v8 := by kernel_rfl
theorem hG_asker (h : H x = some (.dK (hD v0 v1 v2 v3 v4 v5 v6 v7 v8))) : DGet H x (.str "asker") (some v3) := by
  have z := DGet.k (k := Sum.inr "asker") h
  rw [hD_asker] at z
  exact z
theorem hD_kind : valV (hD v0 v1 v2 v3 v4 v5 v6 v7 v8) (Sum.inr "kind") = some v4 := by kernel_rfl
theorem hD_p_kind : putK (hD v0 v1 v2 v3 v4 v5 v6 v7 v8) (Sum.inr "kind") u = hD v0 v1 v2 v3 u v5 v6 v7 v8 := by kernel_rfl
theorem hG_kind (h : H x = some (.dK (hD v0 v1 v2 v3 v4 v5 v6 v7 v8))) : DGet H x (.str "kind") (some v4) := by
  have z := DGet.k (k := Sum.inr "kind") h
  rw [hD_kind] at z
  exact z
theorem hD_node : valV (hD v0 v1 v2 v3 v4 v5 v6 v7 v8) (Sum.inr "node") = some v5 := by kernel_rfl
theorem hD_p_node : putK (hD v0 v1 v2 v3 v4 v5 v6 v7 v8) (Sum.inr "node") u = hD v0 v1 v2 v3 v4 u v6 v7 v8 := by kernel_rfl
theorem hG_node (h : H x = some (.dK (hD v0 v1 v2 v3 v4 v5 v6 v7 v8))) : DGet H x (.str "node") (some v5) := by
  have z := DGet.k (k := Sum.inr "node") h
  rw [hD_node] at z
  exact z
theorem hD_readers : valV (hD v0 v1 v2 v3 v4 v5 v6 v7 v8) (Sum.inr "readers") = some v6 := by kernel_rfl
theorem hD_p_readers : putK (hD v0 v1 v2 v3 v4 v5 v6 v7 v8) (Sum.inr "readers") u = hD v0 v1 v2 v3 v4 v5 u v7 v8 := by kernel_rfl
theorem hG_readers (h : H x = some (.dK (hD v0 v1 v2 v3 v4 v5 v6 v7 v8))) : DGet H x (.str "readers") (some v6) := by
  have z := DGet.k (k := Sum.inr "readers") h
  rw [hD_readers] at z
  exact z
theorem hD_waits : valV (hD v0 v1 v2 v3 v4 v5 v6 v7 v8) (Sum.inr "waits") = some v7 := by kernel_rfl
theorem hD_p_waits : putK (hD v0 v1 v2 v3 v4 v5 v6 v7 v8) (Sum.inr "waits") u = hD v0 v1 v2 v3 v4 v5 v6 u v8 := by kernel_rfl
theorem hG_waits (h : H x = some (.dK (hD v0 v1 v2 v3 v4 v5 v6 v7 v8))) : DGet H x (.str "waits") (some v7) := by
  have z := DGet.k (k := Sum.inr "waits") h
  rw [hD_waits] at z
  exact z
theorem hD_served : valV (hD v0 v1 v2 v3 v4 v5 v6 v7 v8) (Sum.inr "served") = some v8 := by kernel_rfl
theorem hD_p_served : putK (hD v0 v1 v2 v3 v4 v5 v6 v7 v8) (Sum.inr "served") u = hD v0 v1 v2 v3 v4 v5 v6 v7 u := by kernel_rfl
theorem hG_served (h : H x = some (.dK (hD v0 v1 v2 v3 v4 v5 v6 v7 v8))) : DGet H x (.str "served") (some v8) := by
  have z := DGet.k (k := Sum.inr "served") h
  rw [hD_served] at z
  exact z
theorem hD_len : (hD v0 v1 v2 v3 v4 v5 v6 v7 v8).length < sizeLine := by show 9 < sizeLine; decide
end
def mD (v0 v1 v2 : V) : List (Key × V) := [(Sum.inr "held", v0), (Sum.inr "homes", v1), (Sum.inr "way", v2)]
section
variable {v0 v1 v2 u : V} {H : Hp} {x : Addr}
theorem mD_held : valV (mD v0 v1 v2) (Sum.inr "held") = some v0 := by kernel_rfl
theorem mD_p_held : putK (mD v0 v1 v2) (Sum.inr "held") u = mD u v1 v2 := by kernel_rfl
theorem mG_held (h : H x = some (.dK (mD v0 v1 v2))) : DGet H x (.str "held") (some v0) := by
  have z := DGet.k (k := Sum.inr "held") h
  rw [mD_held] at z
  exact z
theorem mD_homes : valV (mD v0 v1 v2) (Sum.inr "homes") = some v1 := by kernel_rfl
theorem mD_p_homes : putK (mD v0 v1 v2) (Sum.inr "homes") u = mD v0 u v2 := by kernel_rfl
theorem mG_homes (h : H x = some (.dK (mD v0 v1 v2))) : DGet H x (.str "homes") (some v1) := by
  have z := DGet.k (k := Sum.inr "homes") h
  rw [mD_homes] at z
  exact z
theorem mD_way : valV (mD v0 v1 v2) (Sum.inr "way") = some v2 := by kernel_rfl
theorem mD_p_way : putK (mD v0 v1 v2) (Sum.inr "way") u = mD v0 v1 u := by kernel_rfl
theorem mG_way (h : H x = some (.dK (mD v0 v1 v2))) : DGet H x (.str "way") (some v2) := by
  have z := DGet.k (k := Sum.inr "way") h
  rw [mD_way] at z
  exact z
theorem mD_len : (mD v0 v1 v2).length < sizeLine := by show 3 < sizeLine; decide
end
theorem dk_ne {H : Hp} {x y : Addr} {f g : Str} {v u : V} {fs gs : List (Key × V)} (hx : H x = some (.dK ((Sum.inr f, v) :: fs))) (hy : H y = some (.dK ((Sum.inr g, u) :: gs))) (h : f ≠ g) : x ≠ y := by
  intro e
  rw [e, hy] at hx
  have z := Option.some.inj hx
  simp only [HO.dK.injEq, List.cons.injEq, Prod.mk.injEq] at z
  exact h (Sum.inr.inj z.1.1).symm
theorem dn_ne {H : Hp} {d x : Addr} {many : Nat} {F : Nat → Option V} {f : Str} {v : V} {fs : List (Key × V)} (hd : DN H d many F) (hx : H x = some (.dK ((Sum.inr f, v) :: fs))) : d ≠ x := by
  intro e
  obtain ⟨kvs, h1, h2, h3, h4⟩ := hd
  rw [e, hx] at h1
  obtain rfl := HO.dK.inj (Option.some.inj h1)
  obtain ⟨n, _, z⟩ := h3 _ List.mem_cons_self
  cases z
def rdL (many : Nat) (h : Hm) : List Nat := (List.range many).filter fun n => h.readers n
structure MAd where
  (m ld lh way : Addr)
  (row : Nat → Addr)
  (own : Nat → Nat → Addr)
  (home rd wt sv : Nat → Addr)
def OwnAt (K : PySem.W.Frag) (H : Hp) (x : Addr) (h : Hold) : Prop := ∃ tw va, H x = some (.dK (oD (kdV h.mode) (.ref tw) (kdV h.want) (.int h.asked) (.int h.last) va)) ∧ SqT K H tw (h.words.map V.int) ∧ AV K H va h.answer
theorem OwnAt.kp {K : PySem.W.Frag} {H H' : Hp} {ms : List Addr} {x : Addr} {h : Hold} (q : OwnAt K H x h) (k : Kp ms H H') (hx : x ∉ ms) : OwnAt K H' x h := by
  obtain ⟨tw, va, h1, h2, h3⟩ := q
  exact ⟨tw, va, k.st _ _ hx h1, k.sqT h2, h3.kp k⟩
structure MomAt (K : PySem.W.Frag) (many : Nat) (H : Hp) (x r wt sv : Addr) (h : Hm) : Prop where
  ob : ∃ tw, H x = some (.dK (hD (nV h.writer) (.ref tw) (.int h.number) (nV h.asker) (kdV h.kind) (.int (h.node : Int)) (.ref r) (.ref wt) (.ref sv))) ∧ SqT K H tw (h.words.map V.int)
  rd : H r = some (.lst ((rdL many h).map fun n : Nat => V.int (n : Int)))
  wa : DN H wt many fun n => (h.waits n).map fun w => .str w.s
  se : DN H sv many fun n => (h.served n).map V.int
  nd : wt ≠ sv
theorem MomAt.kp {K : PySem.W.Frag} {many : Nat} {H H' : Hp} {ms : List Addr} {x r wt sv : Addr} {h : Hm} (q : MomAt K many H x r wt sv h) (k : Kp ms H H') (hx : x ∉ ms) (hr : r ∉ ms) (hw : wt ∉ ms) (hs : sv ∉ ms) : MomAt K many H' x r wt sv h := by
  obtain ⟨⟨tw, h1, h2⟩, h3, h4, h5, h6⟩ := q
  exact ⟨⟨tw, k.st _ _ hx h1, k.sqT h2⟩, k.st _ _ hr h3, h4.kp k hw, h5.kp k hs, h6⟩
structure ModAt (K : PySem.W.Frag) (H : Hp) (B : MAd) (S : Sy) : Prop where
  ob : H B.m = some (.dK (mD (.ref B.ld) (.ref B.lh) (.ref B.way)))
  wy : ∃ xs, H B.way = some (.lst xs) ∧ Paired (fun v m => MV K H v m) xs S.way
  ld : H B.ld = some (.lst ((List.range S.many).map fun i => V.ref (B.row i)))
  lh : H B.lh = some (.lst ((List.range S.pages).map fun p => V.ref (B.home p)))
  rw : ∀ i, i < S.many → H (B.row i) = some (.lst ((List.range S.pages).map fun p => V.ref (B.own i p)))
  ho : ∀ i p, i < S.many → p < S.pages → OwnAt K H (B.own i p) (S.held i p)
  hm : ∀ p, p < S.pages → MomAt K S.many H (B.home p) (B.rd p) (B.wt p) (B.sv p) (S.homes p)
  ih : ∀ i p i' p', i < S.many → p < S.pages → i' < S.many → p' < S.pages → B.own i p = B.own i' p' → i = i' ∧ p = p'
  im : ∀ p p', p < S.pages → p' < S.pages → B.home p = B.home p' → p = p'
  dj : ∀ p p' d, p < S.pages → p' < S.pages → d ∈ [B.wt p, B.sv p] → d ∈ [B.wt p', B.sv p'] → p = p'
  nw : B.way ≠ B.ld ∧ B.way ≠ B.lh ∧ (∀ i, i < S.many → B.way ≠ B.row i) ∧ ∀ p, p < S.pages → B.way ≠ B.rd p
def MAd.foot (B : MAd) (m p : Nat) : List Addr := [B.m, B.ld, B.lh, B.way] ++ ((List.range m).map B.row ++ ((List.range m).flatMap (fun i => (List.range p).map (B.own i)) ++ (List.range p).flatMap (fun j => [B.home j, B.rd j, B.wt j, B.sv j])))
theorem MAd.mem_foot {B : MAd} {m p : Nat} {b : Addr} : b ∈ B.foot m p ↔ (b = B.m ∨ b = B.ld ∨ b = B.lh ∨ b = B.way) ∨ (∃ i, i < m ∧ B.row i = b) ∨ (∃ i, i < m ∧ ∃ j, j < p ∧ B.own i j = b) ∨ (∃ j, j < p ∧ (b = B.home j ∨ b = B.rd j ∨ b = B.wt j ∨ b = B.sv j)) := by
  simp [MAd.foot, or_assoc]
section
variable {K : PySem.W.Frag} {H H' H'' : Hp} {B B' B'' : MAd} {S S' S'' : Sy}
theorem ModAt.mut (q : ModAt K H B S) : ∀ b, b ∈ B.foot S.many S.pages → Mut (H b) := by
  intro b hb
  rcases MAd.mem_foot.mp hb with (rfl | rfl | rfl | rfl) | ⟨i, hi, rfl⟩ | ⟨i, hi, j, hj, rfl⟩ | ⟨j, hj, rfl | rfl | rfl | rfl⟩
  · rw [q.ob]; exact True.intro
  · rw [q.ld]; exact True.intro
  · rw [q.lh]; exact True.intro
  · obtain ⟨xs, h, _⟩ := q.wy; rw [h]; exact True.intro
  · rw [q.rw i hi]; exact True.intro
  · obtain ⟨tw, va, h, _⟩ := q.ho i j hi hj; rw [h]; exact True.intro
  · obtain ⟨tw, h, _⟩ := (q.hm j hj).ob; rw [h]; exact True.intro
  · rw [(q.hm j hj).rd]; exact True.intro
  · exact (q.hm j hj).wa.mut
  · exact (q.hm j hj).se.mut
theorem ModAt.far {ms : List Addr} (q : ModAt K H B S) (k : Kp ms H H') (d : ∀ b, b ∈ B.foot S.many S.pages → b ∉ ms) : ModAt K H' B S := by
  obtain ⟨xs, hx, px⟩ := q.wy
  have o1 : ∀ b, (b = B.m ∨ b = B.ld ∨ b = B.lh ∨ b = B.way) → b ∉ ms := fun b h => d b (MAd.mem_foot.mpr (.inl h))
  refine ⟨k.st _ _ (o1 _ (.inl rfl)) q.ob, ⟨xs, k.st _ _ (o1 _ (.inr (.inr (.inr rfl)))) hx, AB.Paired.imp (fun _ _ r => MV.kp k r) px⟩, k.st _ _ (o1 _ (.inr (.inl rfl))) q.ld, k.st _ _ (o1 _ (.inr (.inr (.inl rfl)))) q.lh,
    fun i hi => k.st _ _ (d _ (MAd.mem_foot.mpr (.inr (.inl ⟨i, hi, rfl⟩)))) (q.rw i hi), fun i p hi hp => (q.ho i p hi hp).kp k (d _ (MAd.mem_foot.mpr (.inr (.inr (.inl ⟨i, hi, p, hp, rfl⟩))))), fun p hp => ?_, q.ih, q.im, q.dj, q.nw⟩
  have o2 : ∀ b, (b = B.home p ∨ b = B.rd p ∨ b = B.wt p ∨ b = B.sv p) → b ∉ ms := fun b h => d b (MAd.mem_foot.mpr (.inr (.inr (.inr ⟨p, hp, h⟩))))
  exact (q.hm p hp).kp k (o2 _ (.inl rfl)) (o2 _ (.inr (.inl rfl))) (o2 _ (.inr (.inr (.inl rfl)))) (o2 _ (.inr (.inr (.inr rfl))))
theorem ModAt.kp0 (q : ModAt K H B S) (k : Kp [] H H') : ModAt K H' B S := q.far k fun b _ => by simp
/-- what differs from what -/
theorem ModAt.lst_nin (q : ModAt K H B S) {y : Addr} {ys : List V} (hy : H y = some (.lst ys)) : y ≠ B.m ∧ (∀ i p, i < S.many → p < S.pages → y ≠ B.own i p) ∧ ∀ p, p < S.pages → y ≠ B.home p ∧ y ≠ B.wt p ∧ y ≠ B.sv p := by
  refine ⟨ne_of hy q.ob (by intro z; cases z), fun i p hi hp => ?_, fun p hp => ⟨?_, ?_, ?_⟩⟩
  · obtain ⟨tw, va, h, _⟩ := q.ho i p hi hp
    exact ne_of hy h (by intro z; cases z)
  · obtain ⟨tw, h, _⟩ := (q.hm p hp).ob
    exact ne_of hy h (by intro z; cases z)
  · obtain ⟨k, h, _⟩ := (q.hm p hp).wa
    exact ne_of hy h (by intro z; cases z)
  · obtain ⟨k, h, _⟩ := (q.hm p hp).se
    exact ne_of hy h (by intro z; cases z)
/-- the way's list alone -/
theorem ModAt.kpWay {xs : List V} {ms : List Msg} (q : ModAt K H B S) (k : Kp [B.way] H H') (hx : H' B.way = some (.lst xs)) (px : Paired (fun v m => MV K H' v m) xs ms) : ModAt K H' B { S with way := ms } := by
  obtain ⟨ys, hy, _⟩ := q.wy
  obtain ⟨n1, n2, n3⟩ := q.lst_nin hy
  refine ⟨k.st _ _ (by simp [n1.symm]) q.ob, ⟨xs, hx, px⟩, k.st _ _ (by simp [q.nw.1.symm]) q.ld, k.st _ _ (by simp [q.nw.2.1.symm]) q.lh, fun i hi => k.st _ _ (by simp [(q.nw.2.2.1 i hi).symm]) (q.rw i hi), fun i p hi hp => (q.ho i p hi hp).kp k (by simp [(n2 i p hi hp).symm]), fun p hp => ?_, q.ih, q.im, q.dj, q.nw⟩
  obtain ⟨a1, a2, a3⟩ := n3 p hp
  exact (q.hm p hp).kp k (by simp [a1.symm]) (by simp [(q.nw.2.2.2 p hp).symm]) (by simp [a2.symm]) (by simp [a3.symm])
/-- the way is another list now -/
theorem ModAt.kpM {w : Addr} {xs : List V} {ms : List Msg} (q : ModAt K H B S) (k : Kp [B.m] H H') (hm : H' B.m = some (.dK (mD (.ref B.ld) (.ref B.lh) (.ref w)))) (hx : H' w = some (.lst xs)) (px : Paired (fun v m => MV K H' v m) xs ms)
    (nw : w ≠ B.ld ∧ w ≠ B.lh ∧ (∀ i, i < S.many → w ≠ B.row i) ∧ ∀ p, p < S.pages → w ≠ B.rd p) : ModAt K H' { B with way := w } { S with way := ms } := by
  have ln : ∀ {y : Addr} {ys : List V}, H y = some (.lst ys) → y ∉ [B.m] := fun h => by simp [(q.lst_nin h).1]
  refine ⟨hm, ⟨xs, hx, px⟩, k.st _ _ (ln q.ld) q.ld, k.st _ _ (ln q.lh) q.lh, fun i hi => k.st _ _ (ln (q.rw i hi)) (q.rw i hi), fun i p hi hp => ?_, fun p hp => ?_, q.ih, q.im, q.dj, nw⟩
  · have z := q.ho i p hi hp
    obtain ⟨tw, va, h, _⟩ := id z
    exact z.kp k (by simp only [List.mem_singleton]; exact dk_ne h q.ob (by decide +kernel))
  · have z := q.hm p hp
    obtain ⟨tw, h, _⟩ := z.ob
    exact z.kp k (by simp only [List.mem_singleton]; exact dk_ne h q.ob (by decide +kernel)) (ln z.rd) (by simp only [List.mem_singleton]; exact dn_ne z.wa q.ob) (by simp only [List.mem_singleton]; exact dn_ne z.se q.ob)
theorem ModAt.kpOwn {i p : Nat} {h' : Hold} (q : ModAt K H B S) (hi : i < S.many) (hp : p < S.pages) (k : Kp [B.own i p] H H') (hx : OwnAt K H' (B.own i p) h') : ModAt K H' B (setHold S i p h') := by
  obtain ⟨tw0, va0, h0, _⟩ := q.ho i p hi hp
  have ln : ∀ {y : Addr} {ys : List V}, H y = some (.lst ys) → y ∉ [B.own i p] := fun h => by simp [(q.lst_nin h).2.1 i p hi hp]
  obtain ⟨xs, hw, px⟩ := q.wy
  refine ⟨k.st _ _ (by simp only [List.mem_singleton]; exact dk_ne q.ob h0 (by decide +kernel)) q.ob, ⟨xs, k.st _ _ (ln hw) hw, AB.Paired.imp (fun _ _ r => MV.kp k r) px⟩, k.st _ _ (ln q.ld) q.ld, k.st _ _ (ln q.lh) q.lh, fun i hi => k.st _ _ (ln (q.rw i hi)) (q.rw i hi), fun j r hj hr => ?_, fun r hr => ?_, q.ih, q.im, q.dj, q.nw⟩
  · show OwnAt K H' (B.own j r) (if j = i ∧ r = p then h' else S.held j r)
    by_cases c : j = i ∧ r = p
    · rw [if_pos c, c.1, c.2]; exact hx
    · rw [if_neg c]
      refine (q.ho j r hj hr).kp k ?_
      simp only [List.mem_singleton]
      exact fun z => c (q.ih j r i p hj hr hi hp z)
  · have z := q.hm r hr
    obtain ⟨tw, h, _⟩ := z.ob
    exact z.kp k (by simp only [List.mem_singleton]; exact dk_ne h h0 (by decide +kernel)) (ln z.rd) (by simp only [List.mem_singleton]; exact dn_ne z.wa h0) (by simp only [List.mem_singleton]; exact dn_ne z.se h0)
def MAd.put (B : MAd) (p : Nat) (r w : Addr) : MAd := { B with rd := atP p r B.rd, wt := atP p w B.wt }
/-- a home changed -/
theorem ModAt.kpHome {p : Nat} {r' w' : Addr} {h' : Hm} (q : ModAt K H B S) (hp : p < S.pages) (k : Kp [B.home p, B.wt p, B.sv p] H H') (hx : MomAt K S.many H' (B.home p) r' w' (B.sv p) h') (er : r' = B.rd p ∨ H r' = none) (ew : w' = B.wt p ∨ H w' = none) :
    ModAt K H' (B.put p r' w') (setHome S p h') := by
  have zp := q.hm p hp
  obtain ⟨tw0, h0, _⟩ := zp.ob
  obtain ⟨xs, hw, px⟩ := q.wy
  have ln : ∀ {y : Addr} {ys : List V}, H y = some (.lst ys) → y ∉ [B.home p, B.wt p, B.sv p] := fun h => by
    obtain ⟨a1, a2, a3⟩ := (q.lst_nin h).2.2 p hp
    simp [a1, a2, a3]
  have dk : ∀ {y : Addr} {f : Str} {v : V} {fs : List (Key × V)}, H y = some (.dK ((Sum.inr f, v) :: fs)) → y ≠ B.home p → y ∉ [B.home p, B.wt p, B.sv p] := fun h hne => by
    simp only [List.mem_cons, List.not_mem_nil, or_false, not_or]
    exact ⟨hne, (dn_ne zp.wa h).symm, (dn_ne zp.se h).symm⟩
  refine ⟨k.st _ _ (dk q.ob (dk_ne q.ob h0 (by decide +kernel))) q.ob, ⟨xs, k.st _ _ (ln hw) hw, AB.Paired.imp (fun _ _ r => MV.kp k r) px⟩, k.st _ _ (ln q.ld) q.ld, k.st _ _ (ln q.lh) q.lh, fun i hi => k.st _ _ (ln (q.rw i hi)) (q.rw i hi), fun j r hj hr => ?_, fun r hr => ?_, q.ih, q.im, fun x y d hx' hy' dx' dy' => ?_, q.nw.1, q.nw.2.1, q.nw.2.2.1, fun r hr => ?_⟩
  · have z := q.ho j r hj hr
    obtain ⟨tw, va, h, _⟩ := id z
    exact z.kp k (dk h (dk_ne h h0 (by decide +kernel)))
  · show MomAt K S.many H' (B.home r) (atP p r' B.rd r) (atP p w' B.wt r) (B.sv r) (if r = p then h' else S.homes r)
    by_cases c : r = p
    · subst c
      rw [if_pos rfl, atP_same, atP_same]
      exact hx
    · rw [if_neg c, atP_ne c, atP_ne c]
      have z := q.hm r hr
      obtain ⟨tw, h, _⟩ := z.ob
      have o : ∀ d, d ∈ [B.wt r, B.sv r] → d ∉ [B.home p, B.wt p, B.sv p] := fun d hd => by
        have hne : d ≠ B.home p := by
          simp only [List.mem_cons, List.not_mem_nil, or_false] at hd
          rcases hd with rfl | rfl
          · exact dn_ne z.wa h0
          · exact dn_ne z.se h0
        have : d ∉ [B.wt p, B.sv p] := fun y => c (q.dj r p d hr hp hd y)
        simp only [List.mem_cons, List.not_mem_nil, or_false, not_or] at this ⊢
        exact ⟨hne, this⟩
      exact z.kp k (dk h fun y => c (q.im r p hr hp y)) (ln z.rd) (o _ (by simp)) (o _ (by simp))
  · show x = y
    have some : ∀ r, r < S.pages → ∀ d, d ∈ [B.wt r, B.sv r] → H d ≠ none := fun r hr d hd => by
      simp only [List.mem_cons, List.not_mem_nil, or_false] at hd
      obtain ⟨_, z1, _⟩ := (q.hm r hr).wa
      obtain ⟨_, z2, _⟩ := (q.hm r hr).se
      rcases hd with rfl | rfl
      · rw [z1]; exact fun z => nomatch z
      · rw [z2]; exact fun z => nomatch z
    have nw : ∀ d, d ∈ [w', B.sv p] → d ∈ [B.wt p, B.sv p] ∨ H d = none := fun d hd => by
      simp only [List.mem_cons, List.not_mem_nil, or_false] at hd
      rcases hd with rfl | rfl
      · exact ew.imp (fun z => by rw [z]; simp) fun z => z
      · exact .inl (by simp)
    have dx2 : d ∈ [atP p w' B.wt x, B.sv x] := dx'
    have dy2 : d ∈ [atP p w' B.wt y, B.sv y] := dy'
    by_cases cx : x = p
    · by_cases cy : y = p
      · rw [cx, cy]
      · exfalso
        subst cx
        rw [atP_same] at dx2
        rw [atP_ne cy] at dy2
        rcases nw d dx2 with z | z
        · exact cy (q.dj x y d hx' hy' z dy2).symm
        · exact some y hy' d dy2 z
    · rw [atP_ne cx] at dx2
      by_cases cy : y = p
      · exfalso
        subst cy
        rw [atP_same] at dy2
        rcases nw d dy2 with z | z
        · exact cx (q.dj x y d hx' hy' dx2 z)
        · exact some x hx' d dx2 z
      · rw [atP_ne cy] at dy2
        exact q.dj x y d hx' hy' dx2 dy2
  · show B.way ≠ atP p r' B.rd r
    by_cases c : r = p
    · subst c
      rw [atP_same]
      rcases er with e | e
      · rw [e]; exact q.nw.2.2.2 r hr
      · exact ne_of_none hw e
    · rw [atP_ne c]; exact q.nw.2.2.2 r hr
end
structure Cm (K : PySem.W.Frag) (H : Hp) (B : MAd) (S : Sy) (H' : Hp) (B' : MAd) (S' : Sy) : Prop where
  at_ : ModAt K H' B' S'
  e : ∃ y r w, B' = { B with way := y, rd := r, wt := w }
  k : Kp (B.foot S.many S.pages) H H'
  f : ∀ b, b ∈ B'.foot S.many S.pages → b ∈ B.foot S.many S.pages ∨ H b = none
  mp : S'.many = S.many ∧ S'.pages = S.pages
section
variable {K : PySem.W.Frag} {H H' H'' : Hp} {B B' B'' : MAd} {S S' S'' : Sy}
theorem Cm.of0 (q : ModAt K H B S) (k : Kp [] H H') : Cm K H B S H' B S := ⟨q.kp0 k, ⟨_, _, _, rfl⟩, k.wide (fun b h => nomatch h) q.mut, fun b h => .inl h, rfl, rfl⟩
theorem Cm.refl (q : ModAt K H B S) : Cm K H B S H B S := Cm.of0 q (Kp.refl _)
theorem Cm.trans (c : Cm K H B S H' B' S') (d : Cm K H' B' S' H'' B'' S'') : Cm K H B S H'' B'' S'' := by
  have e1 := c.mp
  have dk := d.k
  have df := d.f
  rw [e1.1, e1.2] at dk df
  refine ⟨d.at_, ?_, c.k.trans dk fun b hb => c.f b hb, fun b hb => ?_, d.mp.1.trans e1.1, d.mp.2.trans e1.2⟩
  · obtain ⟨y, r, w, rfl⟩ := c.e
    obtain ⟨y', r', w', rfl⟩ := d.e
    exact ⟨_, _, _, rfl⟩
  · rcases df b hb with h | h
    · exact c.f b h
    · exact .inr (c.k.fr _ h)
theorem Cm.way {ms : List Msg} {xs : List V} (q : ModAt K H B S) (k : Kp [B.way] H H') (hx : H' B.way = some (.lst xs)) (px : Paired (fun v m => MV K H' v m) xs ms) : Cm K H B S H' B { S with way := ms } :=
  ⟨q.kpWay k hx px, ⟨_, _, _, rfl⟩, k.wide (fun b hb => by rw [List.mem_singleton.mp hb]; exact MAd.mem_foot.mpr (.inl (.inr (.inr (.inr rfl))))) q.mut, fun b h => .inl h, rfl, rfl⟩
theorem Cm.own {i p : Nat} {h : Hold} (q : ModAt K H B S) (hi : i < S.many) (hp : p < S.pages) (k : Kp [B.own i p] H H') (hx : OwnAt K H' (B.own i p) h) : Cm K H B S H' B (setHold S i p h) :=
  ⟨q.kpOwn hi hp k hx, ⟨_, _, _, rfl⟩, k.wide (fun b hb => by rw [List.mem_singleton.mp hb]; exact MAd.mem_foot.mpr (.inr (.inr (.inl ⟨i, hi, p, hp, rfl⟩)))) q.mut, fun b h => .inl h, rfl, rfl⟩
theorem Cm.home {p : Nat} {r' w' : Addr} {h : Hm} (q : ModAt K H B S) (hp : p < S.pages) (k : Kp [B.home p, B.wt p, B.sv p] H H') (hx : MomAt K S.many H' (B.home p) r' w' (B.sv p) h) (er : r' = B.rd p ∨ H r' = none) (ew : w' = B.wt p ∨ H w' = none) :
    Cm K H B S H' (B.put p r' w') (setHome S p h) := by
  refine ⟨q.kpHome hp k hx er ew, ⟨_, _, _, rfl⟩, k.wide (fun b hb => MAd.mem_foot.mpr (.inr (.inr (.inr ⟨p, hp, ?_⟩)))) q.mut, fun b hb => ?_, rfl, rfl⟩
  · simp only [List.mem_cons, List.not_mem_nil, or_false] at hb
    rcases hb with rfl | rfl | rfl
    · exact .inl rfl
    · exact .inr (.inr (.inl rfl))
    · exact .inr (.inr (.inr rfl))
  · rcases MAd.mem_foot.mp hb with z | z | z | ⟨j, hj, z | z | z | z⟩
    · exact .inl (MAd.mem_foot.mpr (.inl z))
    · exact .inl (MAd.mem_foot.mpr (.inr (.inl z)))
    · exact .inl (MAd.mem_foot.mpr (.inr (.inr (.inl z))))
    · exact .inl (MAd.mem_foot.mpr (.inr (.inr (.inr ⟨j, hj, .inl z⟩))))
    · have z : b = atP p r' B.rd j := z
      by_cases c : j = p
      · subst c
        rw [atP_same] at z
        rw [z]
        exact er.imp (fun y => by rw [y]; exact MAd.mem_foot.mpr (.inr (.inr (.inr ⟨j, hj, .inr (.inl rfl)⟩)))) fun y => y
      · rw [atP_ne c] at z
        exact .inl (MAd.mem_foot.mpr (.inr (.inr (.inr ⟨j, hj, .inr (.inl z)⟩))))
    · have z : b = atP p w' B.wt j := z
      by_cases c : j = p
      · subst c
        rw [atP_same] at z
        rw [z]
        exact ew.imp (fun y => by rw [y]; exact MAd.mem_foot.mpr (.inr (.inr (.inr ⟨j, hj, .inr (.inr (.inl rfl))⟩)))) fun y => y
      · rw [atP_ne c] at z
        exact .inl (MAd.mem_foot.mpr (.inr (.inr (.inr ⟨j, hj, .inr (.inr (.inl z))⟩))))
    · exact .inl (MAd.mem_foot.mpr (.inr (.inr (.inr ⟨j, hj, .inr (.inr (.inr z))⟩))))
theorem Cm.newWay {w : Addr} {xs : List V} {ms : List Msg} (q : ModAt K H B S) (k : Kp [B.m] H H') (hm : H' B.m = some (.dK (mD (.ref B.ld) (.ref B.lh) (.ref w)))) (hx : H' w = some (.lst xs)) (px : Paired (fun v m => MV K H' v m) xs ms) (hw : H w = none) : Cm K H B S H' { B with way := w } { S with way := ms } := by
  refine ⟨q.kpM k hm hx px ⟨(ne_of_none q.ld hw).symm, (ne_of_none q.lh hw).symm, fun i hi => (ne_of_none (q.rw i hi) hw).symm, fun p hp => (ne_of_none (q.hm p hp).rd hw).symm⟩, ⟨_, _, _, rfl⟩, k.wide (fun b hb => by rw [List.mem_singleton.mp hb]; exact MAd.mem_foot.mpr (.inl (.inl rfl))) q.mut, fun b hb => ?_, rfl, rfl⟩
  rcases MAd.mem_foot.mp hb with (z | z | z | z) | z | z | z
  · exact .inl (MAd.mem_foot.mpr (.inl (.inl z)))
  · exact .inl (MAd.mem_foot.mpr (.inl (.inr (.inl z))))
  · exact .inl (MAd.mem_foot.mpr (.inl (.inr (.inr (.inl z)))))
  · exact .inr (by rw [z]; exact hw)
  · exact .inl (MAd.mem_foot.mpr (.inr (.inl z)))
  · exact .inl (MAd.mem_foot.mpr (.inr (.inr (.inl z))))
  · exact .inl (MAd.mem_foot.mpr (.inr (.inr (.inr z))))
end
end K57
set_option Elab.async false
set_option linter.all false
set_option maxRecDepth 100000
set_option maxHeartbeats 4000000
/-! K57Xb: the law's wants, and what its homes send. -/
namespace K57
open PySem L2 AB
def spWantM (K : PySem.W.Frag) : Sp := fun vs H Q _ => ∃ (x : Addr) (h : Hold) (k : Kd), vs = [.ref x, .str k.s] ∧ OwnAt K H x h ∧ ∀ H', Kp [x] H H' → OwnAt K H' x (wantH h k) → Q .non H'
def spPushM (K : PySem.W.Frag) : Sp := fun vs H Q _ => ∃ (B : MAd) (S : Sy) (p : Nat), vs = [.ref B.m, .int (p : Int)] ∧ ModAt K H B S ∧ p < S.pages ∧ S.many ≤ 4 ∧ S.way.length + 10 < 100000 ∧ (∀ m, (S.homes p).asker = some m → ∃ k, (S.homes p).kind = some k) ∧
  ∀ H', Cm K H B S H' B { S with way := S.way ++ pushW S.many p (S.homes p) } → Q .non H'
theorem Cm.trans0' {K : PySem.W.Frag} {H H' H'' : Hp} {B B' : MAd} {S S' : Sy} (c : Cm K H B S H' B' S') (k : Kp [] H' H'') : Cm K H B S H'' B' S' := c.trans (Cm.of0 c.at_ k)
section
variable {P : Program} {w : World} {K : PySem.W.Frag} {mg : Str → Option Value} {base : Heap} {a : Ad} {f : Addr} {fd : FuncData}
theorem ok_law_want (F : Fun K "_law_want" "_law_want" s_law_want f fd) (T : Txt K mg a) : FnOk P w K mg base (L2.CX P w) 1 f fd ["own", "kind"] (spWantM K) := by
  refine okT F sc_law_want (fun vs H Q E h => ?_) (fun cdv A' outer s H vs Q E hr tk hp h => ?_)
  · obtain ⟨x, h, k, rfl, _⟩ := h
    rfl
  · obtain ⟨x, h, kd, rfl, ⟨tw, va, hx, htw, hva⟩, k⟩ := h
    refine ⟨_, (pss_one (ps_if (PW.pt (pw_and (pt_cmpR op_ne (pe_dget (hu_of hr) (pv 0) pe_str (fun _ _ => rfl)) pe_str (nomark _)) (pw_and1 (pt_cmpR op_ne (pe_dget (hu_of hr) (pv 0) pe_str (fun _ _ => rfl)) (pv 1) (nomark _))))) (pss_one (ps_asg (pe_tup (pa_cons (pv 1) (pa_cons (pe_op op_add (pe_dget (hu_of hr) (pv 0) pe_str (fun _ _ => rfl)) pe_int) pa_nil))) (pg_tup rfl (pgs_cons (pg_sub (pv 0) pe_str (set_dict (hu_of hr))) (pgs_cons (pg_sub (pv 0) pe_str (set_dict (hu_of hr))) pgs_nil))))) pss_nil)), ?_⟩
    have e1 : ∀ j : Kd, (!decide (kdV h.want = .str j.s)) = decide (h.want ≠ some j) := fun j => by
      rw [mode_eq]
      simp
    have mux : Mut (H x) := by rw [hx]; exact True.intro
    have stay : ¬ (h.want ≠ some .w ∧ h.want ≠ some kd) → Q .non H := fun z => by
      refine k H ((Kp.refl _).wide (fun b h => nomatch h) fun b hb => by rw [List.mem_singleton.mp hb]; exact mux) ?_
      rw [wantH, if_neg z]
      exact ⟨tw, va, hx, htw, hva⟩
    refine ⟨_, rfl, x, _, rfl, oG_want hx, by cases h.want <;> rfl, _, rfl, ?_⟩
    refine ite_of (fun e => ?_) (fun e => ?_)
    · have h1 : h.want ≠ some .w := of_decide_eq_true ((e1 .w).symm.trans e)
      refine ⟨_, rfl, x, _, rfl, oG_want hx, _, rfl, by cases h.want <;> rfl, _, rfl, ?_⟩
      refine ite_of (fun e => ?_) (fun e => ?_)
      · have h2 : h.want ≠ some kd := of_decide_eq_true ((e1 kd).symm.trans e)
        refine ⟨_, rfl, _, rfl, x, _, rfl, oG_asked hx, _, _, rfl, rfl, (by show 2 ≤ sizeLine; decide), fun t ht => ?_⟩
        have k1 := Kp.new (o := .tup [V.str kd.s, .int (h.asked + 1)]) ht
        have e2 := k1.same _ _ hx
        refine ⟨t, _, rfl, SqT.of upd_same, rfl, _, _, rfl, _, rfl, x, _, rfl, .inl ⟨_, Sum.inr "want", e2, rfl, oD_len, rfl⟩, ?_⟩
        rw [oD_p_want]
        refine ⟨_, _, rfl, _, rfl, x, _, rfl, .inl ⟨_, Sum.inr "asked", upd_same, rfl, oD_len, rfl⟩, rfl, ?_⟩
        rw [oD_p_asked, upd_upd]
        have kz := Kp.set (p := x) (o := .dK (oD (kdV h.mode) (.ref tw) (.str kd.s) (.int (h.asked + 1)) (.int h.last) va)) (show Mut (upd H t (.tup [V.str kd.s, .int (h.asked + 1)]) x) by rw [e2]; exact True.intro)
        refine k _ ((k1.wide (m' := [x]) (fun b h => nomatch h) (fun b hb => by rw [List.mem_singleton.mp hb]; exact mux)).trans1 kz) ?_
        rw [wantH, if_pos ⟨h1, h2⟩]
        exact ⟨tw, va, upd_same, kz.sqT (k1.sqT htw), (hva.kp k1).kp kz⟩
      · exact stay fun z => of_decide_eq_false ((e1 kd).symm.trans e) z.2
    · exact stay fun z => of_decide_eq_false ((e1 .w).symm.trans e) z.1
theorem ok_law_pushed (F : Fun K "_law_pushed" "_law_pushed" s_law_pushed f fd) (T : Txt K mg a) : FnOk P w K mg base (L2.CX P w) 1 f fd ["m", "page"] (spPushM K) := by
  refine okT F sc_law_pushed (fun vs H Q E h => ?_) (fun cdv A' outer s H vs Q E hr tk hp h => ?_)
  · obtain ⟨B, S, p, rfl, _⟩ := h
    rfl
  · obtain ⟨B, S, p, rfl, q, hp', hm4, hwl, hkd, k⟩ := h
    refine ⟨_, (pss_cons (ps_set (i := 2) sc_law_pushed.nd rfl (by first | exact Or.inl rfl | exact Or.inr rfl) (pe_ix (k_ixL K (by rfl)) (pe_dget (hu_of hr) (pv 0) pe_str (fun _ _ => rfl)) (pv 1) (fun _ _ => rfl))) (pss_cons (ps_for hp rfl (k_piL K (by rfl) (pi_list (pe_callB (k_sorted K (by rfl)) (by rfl) T.n_sorted (by decide +kernel) (pa_cons (pe_callTy (call_listD rfl) (by rfl) T.n_list (by decide +kernel) (pa_cons (pe_dget (hu_of hr) (pv 2) pe_str (fun _ _ => rfl)) pa_nil)) pa_nil)))) (pg_name (i := 3) sc_law_pushed.nd rfl (by first | exact Or.inl rfl | exact Or.inr rfl)) (pss_one (ps_expr (k_bm K (by rfl) (pe_bm PySem.F.plainAttrs_list PySem.F.slot_list_append PySem.F.type_list_append mt_append (pe_dget (hu_of hr) (pv 0) pe_str (fun _ _ => rfl))  (pa_cons (pe_tup (pa_cons (pe_dget (hu_of hr) (pv 2) pe_str (fun _ _ => rfl)) (pa_cons (pv 3) (pa_cons (pe_dget (hu_of hr) (pe_dget (hu_of hr) (pv 2) pe_str (fun _ _ => rfl)) (pv 3) (fun _ _ => rfl)) (pa_cons (pv 1) (pa_cons (pe_dget (hu_of hr) (pv 2) pe_str (fun _ _ => rfl)) pa_nil)))))) pa_nil)))))) (pss_one (ps_if (PW.pt (pw_and (pt_cmpR op_notN (pe_dget (hu_of hr) (pv 2) pe_str (fun _ _ => rfl)) pe_non (nomark _)) (pw_and1 (pt_cmpR (op_eqE (Nat.lt_of_succ_lt (hu_of hr))) (pe_dget (hu_of hr) (pv 2) pe_str (fun _ _ => rfl)) pe_dnewK (nomark _))))) (pss_one (ps_expr (k_bm K (by rfl) (pe_bm PySem.F.plainAttrs_list PySem.F.slot_list_append PySem.F.type_list_append mt_append (pe_dget (hu_of hr) (pv 0) pe_str (fun _ _ => rfl))  (pa_cons (pe_tup (pa_cons (pe_dget (hu_of hr) (pv 2) pe_str (fun _ _ => rfl)) (pa_cons (pe_dget (hu_of hr) (pv 2) pe_str (fun _ _ => rfl)) (pa_cons (pe_dget (hu_of hr) (pv 2) pe_str (fun _ _ => rfl)) (pa_cons (pv 1) (pa_cons (pe_dget (hu_of hr) (pv 2) pe_str (fun _ _ => rfl)) (pa_cons (pe_dget (hu_of hr) (pv 2) pe_str (fun _ _ => rfl)) pa_nil))))))) pa_nil))))) pss_nil)))), ?_⟩
    refine ⟨_, rfl, B.m, _, rfl, mG_homes q.ob, _, rfl, B.lh, _, _, _, rfl, rfl, SqL.of q.lh, atI_nat (v := .ref (B.home p)) (by simp [hp']), ?_⟩
    obtain ⟨tw, hx, htw⟩ := (q.hm p hp').ob
    obtain ⟨kvs, ks, hw, hwk, hwp, hwn, hwv⟩ := (q.hm p hp').wa.keys
    have elst : kvs.map (fun kv => kV kv.1) = (ks.map fun n : Nat => (n : Int)).map V.int := by
      have : kvs.map (fun kv => kV kv.1) = (kvs.map (·.1)).map kV := by rw [List.map_map]; rfl
      rw [this, hwk, List.map_map, List.map_map]
      rfl
    refine ⟨_, rfl, B.home p, _, rfl, hG_waits hx, B.wt p, kvs, rfl, .inl hw, fun l1 hl1 => ?_⟩
    rw [elst]
    have k1 := Kp.new (o := .lst ((ks.map fun n : Nat => (n : Int)).map V.int)) hl1
    refine ⟨l1, ks.map (fun n : Nat => (n : Int)), rfl, SqL.of upd_same, by rw [List.length_map]; omega, fun ys l hperm hsort hl => ?_⟩
    obtain rfl := sorted_keys hwp hperm hsort
    have kl := k1.trans0 (Kp.new (o := .lst (((keysN S.many fun n => ((S.homes p).waits n).map fun w => V.str w.s).map fun n : Nat => (n : Int)).map V.int)) hl)
    have hlen : (waitsL S.many (S.homes p)).length ≤ 4 := by
      refine Nat.le_trans (List.length_filter_le _ _) ?_
      rw [List.length_range]
      exact hm4
    have lway : l ≠ B.way := by
      obtain ⟨xs, h, _⟩ := q.wy
      exact (ne_of_none (k1.same _ _ h) hl).symm
    have lsame : upd (upd H l1 (.lst ((ks.map fun n : Nat => (n : Int)).map V.int))) l (.lst (((keysN S.many fun n => ((S.homes p).waits n).map fun w => V.str w.s).map fun n : Nat => (n : Int)).map V.int)) l = some (.lst (((keysN S.many fun n => ((S.homes p).waits n).map fun w => V.str w.s).map fun n : Nat => (n : Int)).map V.int)) := upd_same
    generalize upd (upd H l1 (.lst ((ks.map fun n : Nat => (n : Int)).map V.int))) l (.lst (((keysN S.many fun n => ((S.homes p).waits n).map fun w => V.str w.s).map fun n : Nat => (n : Int)).map V.int)) = H0 at *
    have c0 := Cm.of0 q kl
    refine ⟨l, rfl, ⟨_, SqL.of lsame⟩, ?_⟩
    refine for_it walk_list (fun i σ H' => (∃ y3, σ = [some (.ref B.m), some (.int (p : Int)), some (.ref (B.home p)), y3]) ∧ Kp [B.way] H0 H' ∧ Cm K H B S H' B { S with way := S.way ++ ((waitsL S.many (S.homes p)).take i).map (putM p (S.homes p)) })
      ⟨⟨none, rfl⟩, (Kp.refl _).wide (fun b h => nomatch h) (fun b hb => by
        obtain ⟨xs, h, _⟩ := c0.at_.wy
        rw [List.mem_singleton.mp hb, h]
        exact True.intro), by simpa using c0⟩ (fun i σ H' _ pv => pv.2.1.sqL (SqL.of lsame) (by simp [lway])) ?_ ?_
    · rintro i v σ H2 H1 hi ⟨⟨y3, rfl⟩, k2, c1⟩ ⟨rfl, hv⟩
      rw [List.map_map] at hv
      obtain ⟨n, hnn, rfl⟩ := map_at (g := fun n : Nat => V.int (n : Int)) hv
      have hnL : (waitsL S.many (S.homes p))[i]? = some n := hnn
      obtain ⟨wd, hwd⟩ : ∃ wd, (S.homes p).waits n = some wd := by
        have := (List.mem_filter.mp (List.mem_of_getElem? hnL)).2
        cases hq : (S.homes p).waits n with
        | none => simp [hq] at this
        | some wd => exact ⟨wd, rfl⟩
      have q1 := c1.at_
      obtain ⟨tw1, hx1, htw1⟩ := (q1.hm p hp').ob
      obtain ⟨kv1, hw1, hwl1, hwv1⟩ := (q1.hm p hp').wa.few
      obtain ⟨xs1, hy1, px1⟩ := q1.wy
      have hxl := Paired.length px1
      refine ⟨_, rfl, B.m, _, rfl, mG_way q1.ob, .inl ⟨rfl, _, SqL.of hy1⟩, _, rfl, B.home p, _, rfl, hG_node hx1, _, rfl, _, rfl, B.home p, _, rfl, hG_waits hx1, _, rfl, B.wt p, .str wd.s, rfl, (by
        have z := DGet.k (k := Sum.inl (n : Int)) hw1
        rw [hwv1 n, hwd] at z
        exact z), _, rfl, _, rfl, B.home p, _, rfl, hG_number hx1, (by show 5 ≤ sizeLine; decide), fun t ht => ?_⟩
      have kt := Kp.new (o := .tup [V.int ((S.homes p).node : Int), .int (n : Int), .str wd.s, .int (p : Int), .int (S.homes p).number]) ht
      have q2 := q1.kp0 kt
      have hy2 := kt.same _ _ hy1
      have kz := Kp.set (p := B.way) (o := .lst (xs1 ++ [V.ref t])) (show Mut (upd H1 t (.tup [V.int ((S.homes p).node : Int), .int (n : Int), .str wd.s, .int (p : Int), .int (S.homes p).number]) B.way) by rw [hy2]; exact True.intro)
      have mt : MV K (upd H1 t (.tup [V.int ((S.homes p).node : Int), .int (n : Int), .str wd.s, .int (p : Int), .int (S.homes p).number])) (.ref t) (putM p (S.homes p) n) := ⟨t, _, rfl, SqT.of upd_same, by
        show _ = _
        rw [hwd]
        rfl⟩
      refine ⟨B.way, xs1, .ref t, rfl, rfl, hy2, ?_, ⟨_, rfl⟩, (k2.trans0 kt).trans1 kz, ?_⟩
      · refine Nat.lt_of_le_of_lt (show xs1.length ≤ 100000 from ?_) (by decide)
        have : (S.way ++ ((waitsL S.many (S.homes p)).take i).map (putM p (S.homes p))).length ≤ 100000 := by
          rw [List.length_append, List.length_map, List.length_take]
          omega
        rw [hxl]
        exact this
      · have e : S.way ++ ((waitsL S.many (S.homes p)).take (i + 1)).map (putM p (S.homes p)) = (S.way ++ ((waitsL S.many (S.homes p)).take i).map (putM p (S.homes p))) ++ [putM p (S.homes p) n] := by
          rw [List.take_add_one, hnL, List.map_append, List.append_assoc]
          rfl
        rw [e]
        exact (c1.trans0' kt).trans (Cm.way q2 kz upd_same (AB.Paired.snoc (AB.Paired.imp (fun _ _ r => MV.kp kz (MV.kp kt r)) px1) (mt.kp kz)))
    · rintro σ H1 ⟨⟨y3, rfl⟩, k2, c1⟩
      have el : ((waitsL S.many (S.homes p)).take (((keysN S.many fun n => ((S.homes p).waits n).map fun w => V.str w.s).map fun n : Nat => (n : Int)).map V.int).length) = waitsL S.many (S.homes p) := by
        rw [List.length_map, List.length_map]
        exact List.take_length
      rw [el] at c1
      have q1 := c1.at_
      obtain ⟨tw1, hx1, htw1⟩ := (q1.hm p hp').ob
      obtain ⟨kv1, hw1, hwl1, hwz1, hwv1⟩ := (q1.hm p hp').wa.len0
      obtain ⟨xs1, hy1, px1⟩ := q1.wy
      have hxl := Paired.length px1
      have nogr' : ∀ HX, Kp [] H1 HX → granting S.many (S.homes p) ≠ true → Q .non HX := fun HX kX hg => by
        refine k HX ?_
        have ep : S.way ++ pushW S.many p (S.homes p) = S.way ++ (waitsL S.many (S.homes p)).map (putM p (S.homes p)) := by
          rw [pushW, if_neg hg, List.append_nil]
        rw [ep]
        exact c1.trans0' kX
      have nogr := nogr' H1 (Kp.refl _)
      refine ⟨_, rfl, B.home p, _, rfl, hG_asker hx1, rfl, _, rfl, ?_⟩
      refine ite_of (fun e => ?_) (fun e => ?_)
      · obtain ⟨m, ham⟩ : ∃ m, (S.homes p).asker = some m := by
          cases hq : (S.homes p).asker with
          | none =>
            have e' : (!decide (nV (S.homes p).asker = V.non)) = true := e
            rw [hq] at e'
            cases e'
          | some m => exact ⟨m, rfl⟩
        obtain ⟨kd, hkk⟩ := hkd m ham
        refine ⟨_, rfl, B.home p, _, rfl, hG_waits hx1, fun d hd => ⟨B.wt p, d, kv1, rfl, rfl, (Kp.new (o := .dK []) hd).same _ _ hw1, upd_same, _, rfl, ?_⟩⟩
        have kd1 := Kp.new (o := .dK []) hd
        have q2 := q1.kp0 kd1
        have hx2 := kd1.same _ _ hx1
        have hy2 := kd1.same _ _ hy1
        have ez : kv1.isEmpty = noWaits S.many (S.homes p) := by
          rw [← hwz1]
          cases kv1 with
          | nil => rfl
          | cons x l => exact (decide_eq_false (by simp; omega)).symm
        refine ite_of (fun e => ?_) (fun e => ?_)
        · have hg : granting S.many (S.homes p) = true := by
            rw [granting, ham, ← ez, e]
            rfl
          refine ⟨_, rfl, B.m, _, rfl, mG_way q2.ob, .inl ⟨rfl, _, SqL.of hy2⟩, _, rfl, B.home p, _, rfl, hG_node hx2, _, rfl, B.home p, _, rfl, hG_asker hx2, _, rfl, B.home p, _, rfl, hG_kind hx2, _, rfl, _, rfl, B.home p, _, rfl, hG_number hx2, _, rfl, B.home p, _, rfl, hG_words hx2, (by show 6 ≤ sizeLine; decide), fun t ht => ?_⟩
          have kt := Kp.new (o := .tup [V.int ((S.homes p).node : Int), nV (S.homes p).asker, kdV (S.homes p).kind, .int (p : Int), .int (S.homes p).number, .ref tw1]) ht
          have q3 := q2.kp0 kt
          have hy3 := kt.same _ _ hy2
          have kz := Kp.set (p := B.way) (o := .lst (xs1 ++ [V.ref t])) (show Mut (upd (upd H1 d (.dK [])) t (.tup [V.int ((S.homes p).node : Int), nV (S.homes p).asker, kdV (S.homes p).kind, .int (p : Int), .int (S.homes p).number, .ref tw1]) B.way) by rw [hy3]; exact True.intro)
          have mt : MV K (upd (upd H1 d (.dK [])) t (.tup [V.int ((S.homes p).node : Int), nV (S.homes p).asker, kdV (S.homes p).kind, .int (p : Int), .int (S.homes p).number, .ref tw1])) (.ref t) (grantM p (S.homes p)) := ⟨t, _, rfl, SqT.of upd_same, tw1, by
            rw [ham, hkk]
            rfl, kt.sqT (kd1.sqT htw1)⟩
          refine ⟨B.way, xs1, .ref t, rfl, rfl, hy3, ?_, ?_⟩
          · refine Nat.lt_of_le_of_lt (show xs1.length ≤ 100000 from ?_) (by decide)
            have : (S.way ++ (waitsL S.many (S.homes p)).map (putM p (S.homes p))).length ≤ 100000 := by
              rw [List.length_append, List.length_map]
              omega
            rw [hxl]
            exact this
          · refine k _ ?_
            have ep : S.way ++ pushW S.many p (S.homes p) = (S.way ++ (waitsL S.many (S.homes p)).map (putM p (S.homes p))) ++ [grantM p (S.homes p)] := by
              rw [pushW, if_pos hg, List.append_assoc]
            rw [ep]
            exact ((c1.trans0' kd1).trans0' kt).trans (Cm.way q3 kz upd_same (AB.Paired.snoc (AB.Paired.imp (fun _ _ r => MV.kp kz (MV.kp kt (MV.kp kd1 r))) px1) (mt.kp kz)))
        · refine nogr' _ kd1 fun z => ?_
          rw [granting, ham, ← ez, e] at z
          cases z
      · refine nogr fun z => ?_
        have e' : (!decide (nV (S.homes p).asker = V.non)) = false := e
        rw [granting] at z
        cases hq : (S.homes p).asker with
        | none => rw [hq] at z; cases z
        | some m => rw [hq] at e'; cases e'
end
end K57
set_option Elab.async false
set_option linter.all false
set_option maxRecDepth 100000
set_option maxHeartbeats 4000000
/-! K57Xc: the law's ticks. -/
namespace K57
open PySem L2 AB
def spTickM (K : PySem.W.Frag) : Sp := fun vs H Q _ => ∃ (B : MAd) (S : Sy) (i : Nat), vs = [.ref B.m, .int (i : Int)] ∧ ModAt K H B S ∧ i < S.many ∧ 0 < S.pages ∧ S.pages ≤ 8 ∧ S.many ≤ 4 ∧ S.way.length + 100 < 100000 ∧ (∀ p, p < S.pages → ∀ m, (S.homes p).asker = some m → ∃ k, (S.homes p).kind = some k) ∧
  ∀ H', Cm K H B S H' B (tickS S i) → Q (.int ((tickL S i).length : Int)) H'
section
variable {P : Program} {w : World} {K : PySem.W.Frag} {mg : Str → Option Value} {base : Heap} {a : Ad} {f : Addr} {fd : FuncData}
theorem ok_law_tick (F : Fun K "_law_tick" "_law_tick" s_law_tick f fd) (T : Txt K mg a) (G_law_pushed : GFn P w K mg base 1 "_law_pushed" ["m", "page"] (spPushM K)) : FnOk P w K mg base (L2.CX P w) 2 f fd ["m", "node"] (spTickM K) := by
  refine okT F sc_law_tick (fun vs H Q E h => ?_) (fun cdv A' outer s H vs Q E hr tk hp h => ?_)
  · obtain ⟨B, S, i, rfl, _⟩ := h
    rfl
  · obtain ⟨B, S, i, rfl, q, hi, hp0, hp8, hm4, hwl, hkd, k⟩ := h
    obtain ⟨xs, hw, px⟩ := q.wy
    have hxl := Paired.length px
    refine ⟨_, (pss_cons (ps_set (i := 2) sc_law_tick.nd rfl (by first | exact Or.inl rfl | exact Or.inr rfl) (pe_callB (k_len K (by rfl)) (by rfl) T.n_len (by decide +kernel) (pa_cons (pe_dget (hu_of hr) (pv 0) pe_str (fun _ _ => rfl)) pa_nil))) (pss_cons (ps_for hp rfl (pi_range1 (by rfl) T.n_range (pa_cons (pe_callB (k_len K (by rfl)) (by rfl) T.n_len (by decide +kernel) (pa_cons (pe_dget (hu_of hr) (pv 0) pe_str (fun _ _ => rfl)) pa_nil)) pa_nil)) (pg_name (i := 3) sc_law_tick.nd rfl (by first | exact Or.inl rfl | exact Or.inr rfl)) (pss_cons (ps_set (i := 4) sc_law_tick.nd rfl (by first | exact Or.inl rfl | exact Or.inr rfl) (pe_ix (k_ixL K (by rfl)) (pe_ix (k_ixL K (by rfl)) (pe_dget (hu_of hr) (pv 0) pe_str (fun _ _ => rfl)) (pv 1) (fun _ _ => rfl)) (pv 3) (fun _ _ => rfl))) (pss_one (ps_if (pt_cmpR op_notN (pe_dget (hu_of hr) (pv 4) pe_str (fun _ _ => rfl)) pe_non (nomark _)) (pss_one (ps_expr (k_bm K (by rfl) (pe_bm PySem.F.plainAttrs_list PySem.F.slot_list_append PySem.F.type_list_append mt_append (pe_dget (hu_of hr) (pv 0) pe_str (fun _ _ => rfl))  (pa_cons (pe_tup (pa_cons (pv 1) (pa_cons (pe_dget (hu_of hr) (pe_ix (k_ixL K (by rfl)) (pe_dget (hu_of hr) (pv 0) pe_str (fun _ _ => rfl)) (pv 3) (fun _ _ => rfl)) pe_str (fun _ _ => rfl)) (pa_cons pe_str (pa_cons (pv 3) (pa_cons (pe_dget (hu_of hr) (pv 4) pe_str (fun _ _ => rfl)) (pa_cons (pe_dget (hu_of hr) (pv 4) pe_str (fun _ _ => rfl)) pa_nil))))))) pa_nil))))) pss_nil)))) (pss_cons (ps_for hp rfl (pi_range1 (by rfl) T.n_range (pa_cons (pe_callB (k_len K (by rfl)) (by rfl) T.n_len (by decide +kernel) (pa_cons (pe_dget (hu_of hr) (pv 0) pe_str (fun _ _ => rfl)) pa_nil)) pa_nil)) (pg_name (i := 3) sc_law_tick.nd rfl (by first | exact Or.inl rfl | exact Or.inr rfl)) (pss_one (ps_if (PW.pt (pw_and (pt_cmpR op_eq (pe_dget (hu_of hr) (pe_ix (k_ixL K (by rfl)) (pe_dget (hu_of hr) (pv 0) pe_str (fun _ _ => rfl)) (pv 3) (fun _ _ => rfl)) pe_str (fun _ _ => rfl)) (pv 1) (nomark _)) (pw_and1 (pt_cmpR op_notN (pe_dget (hu_of hr) (pe_ix (k_ixL K (by rfl)) (pe_dget (hu_of hr) (pv 0) pe_str (fun _ _ => rfl)) (pv 3) (fun _ _ => rfl)) pe_str (fun _ _ => rfl)) pe_non (nomark _))))) (pss_one (ps_expr (pe_cl G_law_pushed (hr.mono (by decide)) tk (pa_cons (pv 0) (pa_cons (pv 3) pa_nil))))) pss_nil))) (pss_one (ps_ret (pe_op op_sub (pe_callB (k_len K (by rfl)) (by rfl) T.n_len (by decide +kernel) (pa_cons (pe_dget (hu_of hr) (pv 0) pe_str (fun _ _ => rfl)) pa_nil)) (pv 2))))))), ?_⟩
    refine ⟨_, rfl, B.m, _, rfl, mG_way q.ob, B.way, xs, rfl, .inl (SqL.of hw), ?_⟩
    have npg : (((List.range S.pages).map fun p => V.ref (B.home p)).length : Int) = (S.pages : Int) := by simp
    refine ⟨_, rfl, B.m, _, rfl, mG_homes q.ob, B.lh, _, rfl, .inl (SqL.of q.lh), _, rfl, by rw [npg]; omega, by rw [npg]; omega, ?_⟩
    have npt : ((((List.range S.pages).map fun p => V.ref (B.home p)).length : Int)).toNat = S.pages := by rw [npg]; exact Int.toNat_natCast _
    refine for_it walk_range (fun j σ H' => (∃ y3 y4, σ = [some (.ref B.m), some (.int (i : Int)), some (.int (xs.length : Int)), y3, y4]) ∧ Cm K H B S H' B { S with way := S.way ++ (List.range j).flatMap (askL S i) })
      ⟨⟨none, none, rfl⟩, by simpa using Cm.refl q⟩ (fun _ _ _ _ _ => trivial) ?_ ?_
    · rintro j x σ H2 H1 hj ⟨⟨y3, y4, rfl⟩, c1⟩ ⟨rfl, hv⟩
      rw [npt] at hj
      obtain rfl : x = .int (j : Int) := by rw [hv]; exact congrArg V.int (Int.zero_add _)
      have q1 := c1.at_
      obtain ⟨tw, va, h0, htw, hva⟩ := q1.ho i j hi hj
      obtain ⟨tw1, h1, htw1⟩ := (q1.hm j hj).ob
      obtain ⟨xs1, hy1, px1⟩ := q1.wy
      have hxl1 := Paired.length px1
      refine ⟨_, rfl, B.m, _, rfl, mG_held q1.ob, _, rfl, B.ld, _, _, _, rfl, rfl, SqL.of q1.ld, atI_nat (v := .ref (B.row i)) (by simp [hi]), _, rfl, B.row i, _, _, _, rfl, rfl, SqL.of (q1.rw i hi), atI_nat (v := .ref (B.own i j)) (by simp [hj]), ?_⟩
      refine ⟨_, rfl, B.own i j, _, rfl, oG_want h0, rfl, _, rfl, ?_⟩
      refine ite_of (fun e => ?_) (fun e => ?_)
      · obtain ⟨kd, hk⟩ : ∃ kd, (S.held i j).want = some kd := by
          cases hq : (S.held i j).want with
          | none =>
            have e' : (!decide (kdV (S.held i j).want = V.non)) = true := e
            rw [hq] at e'
            cases e'
          | some kd => exact ⟨kd, rfl⟩
        refine ⟨_, rfl, B.m, _, rfl, mG_way q1.ob, .inl ⟨rfl, _, SqL.of hy1⟩, _, rfl, _, rfl, B.m, _, rfl, mG_homes q1.ob, _, rfl, B.lh, _, _, _, rfl, rfl, SqL.of q1.lh, atI_nat (v := .ref (B.home j)) (by simp [hj]), B.home j, _, rfl, hG_node h1, _, rfl,
          _, rfl, B.own i j, _, rfl, oG_asked h0, _, rfl, B.own i j, _, rfl, oG_want h0, (by show 6 ≤ sizeLine; decide), fun t ht => ?_⟩
        have kt := Kp.new (o := .tup [V.int (i : Int), .int ((S.homes j).node : Int), .str "ask", .int (j : Nat), .int (S.held i j).asked, kdV (S.held i j).want]) ht
        have q2 := q1.kp0 kt
        have hy2 := kt.same _ _ hy1
        have kz := Kp.set (p := B.way) (o := .lst (xs1 ++ [V.ref t])) (show Mut (upd H1 t (.tup [V.int (i : Int), .int ((S.homes j).node : Int), .str "ask", .int (j : Nat), .int (S.held i j).asked, kdV (S.held i j).want]) B.way) by rw [hy2]; exact True.intro)
        have mt : MV K (upd H1 t (.tup [V.int (i : Int), .int ((S.homes j).node : Int), .str "ask", .int (j : Nat), .int (S.held i j).asked, kdV (S.held i j).want])) (.ref t) (.ask i (S.homes j).node j (S.held i j).asked kd) := ⟨t, _, rfl, SqT.of upd_same, by
          show _ = _
          rw [hk]
          rfl⟩
        refine ⟨B.way, xs1, .ref t, rfl, rfl, hy2, ?_, ⟨_, _, rfl⟩, ?_⟩
        · refine Nat.lt_of_le_of_lt (show xs1.length ≤ 100000 from ?_) (by decide)
          have : (S.way ++ (List.range j).flatMap (askL S i)).length ≤ 100000 := by
            rw [List.length_append]
            have := askL_sum S i j
            omega
          rw [hxl1]
          exact this
        · have e2 : S.way ++ (List.range (j + 1)).flatMap (askL S i) = (S.way ++ (List.range j).flatMap (askL S i)) ++ [.ask i (S.homes j).node j (S.held i j).asked kd] := by
            rw [flat_succ, List.append_assoc]
            congr 2
            unfold askL
            rw [hk]
          rw [e2]
          exact (c1.trans0' kt).trans (Cm.way q2 kz upd_same (AB.Paired.snoc (AB.Paired.imp (fun _ _ r => MV.kp kz (MV.kp kt r)) px1) (mt.kp kz)))
      · have hk : (S.held i j).want = none := by
          cases hq : (S.held i j).want with
          | none => rfl
          | some kd =>
            have e' : (!decide (kdV (S.held i j).want = V.non)) = false := e
            rw [hq] at e'
            cases e'
        refine ⟨⟨_, _, rfl⟩, ?_⟩
        have e2 : (List.range (j + 1)).flatMap (askL S i) = (List.range j).flatMap (askL S i) := by
          rw [flat_succ]
          unfold askL
          rw [hk, List.append_nil]
        rw [e2]
        exact c1
    · rintro σ H1 ⟨⟨y3, y4, rfl⟩, c1⟩
      rw [npt] at c1
      have q1 := c1.at_
      refine ⟨_, rfl, B.m, _, rfl, mG_homes q1.ob, B.lh, (List.range S.pages).map (fun p => V.ref (B.home p)), rfl, .inl (SqL.of q1.lh), _, rfl, by rw [npg]; omega, by rw [npg]; omega, ?_⟩
      refine for_it walk_range (fun j σ H' => (∃ y3 y4, σ = [some (.ref B.m), some (.int (i : Int)), some (.int (xs.length : Int)), y3, y4]) ∧ Cm K H B S H' B { S with way := (S.way ++ (List.range S.pages).flatMap (askL S i)) ++ (List.range j).flatMap (pushL S i) })
        ⟨⟨_, _, rfl⟩, by simpa using c1⟩ (fun _ _ _ _ _ => trivial) ?_ ?_
      · rintro j x σ H2 H3 hj ⟨⟨y3, y4, rfl⟩, c3⟩ ⟨rfl, hv⟩
        rw [npt] at hj
        obtain rfl : x = .int (j : Int) := by rw [hv]; exact congrArg V.int (Int.zero_add _)
        have q3 := c3.at_
        obtain ⟨tw1, h1, htw1⟩ := (q3.hm j hj).ob
        have stay : pushL S i j = [] → (∃ z3 z4, [some (V.ref B.m), some (.int (i : Int)), some (.int (xs.length : Int)), some (.int (j : Nat)), y4] = [some (V.ref B.m), some (.int (i : Int)), some (.int (xs.length : Int)), z3, z4]) ∧ Cm K H B S H3 B { S with way := (S.way ++ (List.range S.pages).flatMap (askL S i)) ++ (List.range (j + 1)).flatMap (pushL S i) } := fun z => by
          refine ⟨⟨_, _, rfl⟩, ?_⟩
          rw [flat_succ, z, List.append_nil]
          exact c3
        refine ⟨_, rfl, B.m, _, rfl, mG_homes q3.ob, _, rfl, B.lh, _, _, _, rfl, rfl, SqL.of q3.lh, atI_nat (v := .ref (B.home j)) (by simp [hj]), B.home j, _, rfl, hG_node h1, _, rfl, rfl, _, rfl, ?_⟩
        have ei : decide (V.int ((S.homes j).node : Int) = .int (i : Int)) = decide ((S.homes j).node = i) := decide_eq_decide.mpr ⟨fun z => by have := V.int.inj z; omega, fun z => by rw [z]⟩
        refine ite_of (fun e => ?_) (fun e => ?_)
        · have e1 : (S.homes j).node = i := of_decide_eq_true (ei.symm.trans e)
          refine ⟨_, rfl, B.m, _, rfl, mG_homes q3.ob, _, rfl, B.lh, _, _, _, rfl, rfl, SqL.of q3.lh, atI_nat (v := .ref (B.home j)) (by simp [hj]), B.home j, _, rfl, hG_asker h1, rfl, _, rfl, ?_⟩
          refine ite_of (fun e => ?_) (fun e => ?_)
          · have e2 : (S.homes j).asker ≠ none := fun z => by
              have e' : (!decide (nV (S.homes j).asker = V.non)) = true := e
              rw [z] at e'
              cases e'
            have ep : pushL S i j = pushW S.many j (S.homes j) := if_pos ⟨e1, e2⟩
            refine ⟨_, rfl, _, rfl, B, _, j, rfl, q3, hj, hm4, ?_, hkd j hj, fun H4 c4 => ⟨⟨_, _, rfl⟩, ?_⟩⟩
            · show ((S.way ++ (List.range S.pages).flatMap (askL S i)) ++ (List.range j).flatMap (pushL S i)).length + 10 < 100000
              rw [List.length_append, List.length_append]
              have := askL_sum S i S.pages
              have := pushL_sum hm4 i j
              omega
            · rw [flat_succ, ep, ← List.append_assoc]
              exact c3.trans c4
          · have e2 : ¬ (S.homes j).asker ≠ none := fun z => by
              have e' : (!decide (nV (S.homes j).asker = V.non)) = false := e
              cases hq : (S.homes j).asker with
              | none => exact z hq
              | some m => rw [hq] at e'; cases e'
            exact stay (if_neg fun z => e2 z.2)
        · have e1 : ¬ (S.homes j).node = i := of_decide_eq_false (ei.symm.trans e)
          exact stay (if_neg fun z => e1 z.1)
      · rintro σ H3 ⟨⟨y3, y4, rfl⟩, c3⟩
        rw [npt, List.append_assoc] at c3
        have q3 := c3.at_
        obtain ⟨xs3, hw3, px3⟩ := q3.wy
        have hxl3 := Paired.length px3
        refine ⟨_, rfl, B.m, _, rfl, mG_way q3.ob, B.way, xs3, rfl, .inl (SqL.of hw3), _, rfl, _, _, rfl, rfl, ?_⟩
        have z := k H3 c3
        have ez : ((tickL S i).length : Int) = (xs3.length : Int) - (xs.length : Int) := by
          have : xs3.length = S.way.length + (tickL S i).length := by
            rw [hxl3]
            show (S.way ++ tickL S i).length = _
            rw [List.length_append]
          omega
        rw [ez] at z
        exact z
end
end K57
set_option Elab.async false
set_option linter.all false
set_option maxRecDepth 100000
set_option maxHeartbeats 4000000
/-! K57Xd: the law's homes grant. -/
namespace K57
open PySem L2 AB
section
variable {P : Program} {w : World} {K : PySem.W.Frag} {mg : Str → Option Value} {base : Heap} {a : Ad} {f : Addr} {fd : FuncData}
theorem MomAt.obj {many : Nat} {H H1 : Hp} {x r wt sv : Addr} {h : Hm} (q : MomAt K many H x r wt sv h) (k : Kp [] H H1) {h' : Hm} {r' wt' tw' : Addr} (rd' : H1 r' = some (.lst ((rdL many h').map fun n : Nat => V.int (n : Int)))) (wa' : DN H1 wt' many fun n => (h'.waits n).map fun w => .str w.s)
    (es : h'.served = h.served) (ht : SqT K H1 tw' (h'.words.map V.int)) (nd : wt' ≠ sv) :
    MomAt K many (upd H1 x (.dK (hD (nV h'.writer) (.ref tw') (.int h'.number) (nV h'.asker) (kdV h'.kind) (.int (h'.node : Int)) (.ref r') (.ref wt') (.ref sv)))) x r' wt' sv h' ∧ Kp [x] H (upd H1 x (.dK (hD (nV h'.writer) (.ref tw') (.int h'.number) (nV h'.asker) (kdV h'.kind) (.int (h'.node : Int)) (.ref r') (.ref wt') (.ref sv)))) := by
  obtain ⟨tw, hx, _⟩ := q.ob
  have hx1 := k.same _ _ hx
  have kz := Kp.set (p := x) (o := .dK (hD (nV h'.writer) (.ref tw') (.int h'.number) (nV h'.asker) (kdV h'.kind) (.int (h'.node : Int)) (.ref r') (.ref wt') (.ref sv))) (show Mut (H1 x) by rw [hx1]; exact True.intro)
  refine ⟨⟨⟨tw', upd_same, kz.sqT ht⟩, kz.st _ _ (by simp only [List.mem_singleton]; exact ne_of rd' hx1 (by intro z; cases z)) rd', wa'.kp kz (by simp only [List.mem_singleton]; exact dn_ne wa' hx1), ?_, nd⟩, (k.wide (fun b h => nomatch h) fun b hb => by rw [List.mem_singleton.mp hb, hx]; exact True.intro).trans1 kz⟩
  have s1 := q.se.kp k (by simp)
  rw [es]
  exact s1.kp kz (by simp only [List.mem_singleton]; exact dn_ne s1 hx1)
theorem sortedB {many : Nat} {F : Nat → Bool} {ks : List Nat} (nd : ks.Nodup) (hk : ∀ j, j ∈ ks ↔ j < many ∧ F j = true) {ys : List Int} (h1 : ys.Perm (ks.map fun n : Nat => (n : Int))) (h2 : ys.Pairwise (· ≤ ·)) : ys = ((List.range many).filter F).map fun n : Nat => (n : Int) := by
  have hp : ks.Perm ((List.range many).filter F) := (List.perm_ext_iff_of_nodup nd (List.Pairwise.filter _ List.nodup_range)).mpr fun n => by rw [hk, List.mem_filter, List.mem_range]
  have h3 : ys.Perm (((List.range many).filter F).map fun n : Nat => (n : Int)) := h1.trans (hp.map _)
  refine List.Perm.eq_of_pairwise (le := fun (a b : Int) => a ≤ b) (fun a b _ _ x y => by omega) h2 ?_ h3
  rw [List.pairwise_map]
  exact List.Pairwise.imp (fun {a b} (h : a < b) => by omega) (List.Pairwise.filter _ List.pairwise_lt_range)
def spGrantM (K : PySem.W.Frag) : Sp := fun vs H Q _ => ∃ (x r wt sv : Addr) (many : Nat) (h : Hm) (n : Nat), vs = [.ref x] ∧ MomAt K many H x r wt sv h ∧ h.asker = some n ∧ n < many ∧ many ≤ 4 ∧ ∀ H' r', Kp [x] H H' → MomAt K many H' x r' wt sv (grantH h) → H r' = none → Q .non H'
theorem ok_law_grant (F : Fun K "_law_grant" "_law_grant" s_law_grant f fd) (T : Txt K mg a) : FnOk P w K mg base (L2.CX P w) 1 f fd ["home"] (spGrantM K) := by
  refine okT F sc_law_grant (fun vs H Q E h => ?_) (fun cdv A' outer s H vs Q E hr tk hp h => ?_)
  · obtain ⟨x, r, wt, sv, many, h, n, rfl, _⟩ := h
    rfl
  · obtain ⟨x, r, wt, sv, many, h, n, rfl, q, ha, hn4, hm4, k⟩ := h
    refine ⟨_, (pss_one (ps_if (pt_cmpR op_eq (pe_dget (hu_of hr) (pv 0) pe_str (fun _ _ => rfl)) pe_str (nomark _)) (pss_one (ps_asg (pe_tup (pa_cons (pe_dget (hu_of hr) (pv 0) pe_str (fun _ _ => rfl)) (pa_cons (pe_lst pa_nil) pa_nil))) (pg_tup rfl (pgs_cons (pg_sub (pv 0) pe_str (set_dict (hu_of hr))) (pgs_cons (pg_sub (pv 0) pe_str (set_dict (hu_of hr))) pgs_nil))))) (pss_one (ps_dput (hu_of hr) (pv 0) pe_str (pe_callB (k_sorted K (by rfl)) (by rfl) T.n_sorted (by decide +kernel) (pa_cons (pe_op op_cat (pe_lc (own := [("node", 1)]) (g := gName 1) (by rfl) sc_law_grant.nd (k_piL K (by rfl) (pi_list (pe_dget (hu_of hr) (pv 0) pe_str (fun _ _ => rfl)))) (blkOk_by (own := [("node", 1)]) (N := N_law_grant) (sc := defScope s_law_grant) (by decide +kernel)) (fun _ _ _ _ _ => pg_name (i := 1) sc_law_grant.nd rfl (by first | exact Or.inl rfl | exact Or.inr rfl)) (fun _ _ _ _ _ => by exact pts_one (pt_cmpR op_ne (pv 1) (pe_dget (hu_of hr) (pv 0) pe_str (fun _ _ => rfl)) (nomark _))) (fun _ _ _ _ _ => by exact (pv 1))) (pe_lst (pa_cons (pe_dget (hu_of hr) (pv 0) pe_str (fun _ _ => rfl)) pa_nil))) pa_nil)) rfl)))), ?_⟩
    obtain ⟨tw, hx, htw⟩ := q.ob
    refine ⟨_, rfl, x, _, rfl, hG_kind hx, by cases h.kind <;> rfl, _, rfl, ?_⟩
    refine ite_of (fun e => ?_) (fun e => ?_)
    · have hk : h.kind = some .w := of_decide_eq_true ((mode_eq _ .w).symm.trans e)
      refine ⟨_, rfl, x, _, rfl, hG_asker hx, Nat.zero_le _, fun l hl => ⟨(by show 2 ≤ sizeLine; decide), fun t ht => ?_⟩⟩
      have k1 := (Kp.new (o := .lst []) hl).trans0 (Kp.new (o := .tup [nV h.asker, V.ref l]) ht)
      have e1 := k1.same _ _ hx
      have el : upd (upd H l (.lst [])) t (.tup [nV h.asker, V.ref l]) l = some (.lst []) := (Kp.new (o := .tup [nV h.asker, V.ref l]) ht).same _ _ upd_same
      refine ⟨t, _, rfl, SqT.of upd_same, rfl, _, _, rfl, _, rfl, x, _, rfl, .inl ⟨_, Sum.inr "writer", e1, rfl, hD_len, rfl⟩, ?_⟩
      rw [hD_p_writer]
      refine ⟨_, _, rfl, _, rfl, x, _, rfl, .inl ⟨_, Sum.inr "readers", upd_same, rfl, hD_len, rfl⟩, rfl, ?_⟩
      rw [hD_p_readers, upd_upd]
      have eg : grantH h = { h with writer := h.asker, readers := fun _ => false } := if_pos hk
      have er : rdL many (grantH h) = [] := by
        rw [eg]
        unfold rdL
        simp
      obtain ⟨z1, z2⟩ := q.obj k1 (h' := grantH h) (r' := l) (wt' := wt) (tw' := tw) (by rw [er]; exact el) (by rw [(grantH_same h).2.2.2.1]; exact q.wa.kp k1 (by simp)) (grantH_same h).2.2.2.2 (by rw [show (grantH h).words = h.words by rw [eg]]; exact k1.sqT htw) q.nd
      have ew : (grantH h).writer = h.asker ∧ (grantH h).number = h.number ∧ (grantH h).asker = h.asker ∧ (grantH h).kind = h.kind ∧ (grantH h).node = h.node := by rw [eg]; exact ⟨rfl, rfl, rfl, rfl, rfl⟩
      obtain ⟨w1, w2, w3, w4, w5⟩ := ew
      rw [w1, w2, w3, w4, w5] at z1 z2
      exact k _ l z2 z1 hl
    · have hk : ¬ h.kind = some .w := of_decide_eq_false ((mode_eq _ .w).symm.trans e)
      have hlr : (rdL many h).length ≤ 4 := by
        refine Nat.le_trans (List.length_filter_le _ _) ?_
        rw [List.length_range]
        exact hm4
      refine ⟨_, rfl, x, _, rfl, hG_readers hx, r, rfl, ⟨_, SqL.of q.rd⟩, fun D hD => ?_⟩
      have hlen : ((rdL many h).map fun n : Nat => V.int (n : Int)).length = (rdL many h).length := by simp
      refine lc_pure walk_list (by rw [hlen]; exact small1000 (by omega)) hD (fun j => decide ((rdL many h).getD j 0 ≠ n)) (fun j v _ => v = .int (((rdL many h).getD j 0 : Nat) : Int)) (fun j v H H' _ r => r) (fun H k => k.sqL0 (SqL.of q.rd)) ?_ ?_
      · rintro j y H5 H6 hj k5 ⟨rfl, hy⟩ N F' hN hF
        obtain ⟨m, hm1, rfl⟩ := map_at (g := fun j : Nat => V.int (j : Int)) hy
        have eg : (rdL many h).getD j 0 = m := by rw [List.getD_eq_getElem?_getD, hm1]; rfl
        have hx5 := k5.same _ _ hx
        refine ⟨rfl, _, rfl, _, rfl, x, _, rfl, hG_asker hx5, by cases h.asker <;> rfl, _, rfl, ?_⟩
        have en : (!decide (V.int (m : Int) = nV h.asker)) = decide ((rdL many h).getD j 0 ≠ n) := by
          rw [eg, ha, Bool.eq_iff_iff]
          simp only [Bool.not_eq_true', decide_eq_false_iff_not, decide_eq_true_eq]
          exact ⟨fun z q => z (by rw [q]; rfl), fun z q => z (by have := V.int.inj q; omega)⟩
        refine ite_of (fun e => ?_) (fun e => ?_)
        · exact ⟨_, rfl, hN _ _ (en.symm.trans e) (Kp.refl _) (by rw [eg])⟩
        · exact hF _ (en.symm.trans e) (Kp.refl _)
      · intro H1 acc k1 hacc pr
        rw [hlen] at pr
        have eacc : acc = ((rdL many h).filter fun j => decide (j ≠ n)).map fun j : Nat => V.int (j : Int) := (Paired.eqs pr).trans (filt_getD (fun j => decide (j ≠ n)) (fun j : Nat => V.int (j : Int)) (rdL many h))
        have hx1 := k1.same _ _ hx
        refine ⟨_, rfl, x, _, rfl, hG_asker hx1, (by show 1 ≤ sizeLine; decide), fun l2 hl2 => ?_⟩
        have k2 := Kp.new (o := .lst [nV h.asker]) hl2
        refine ⟨D, l2, acc, [nV h.asker], rfl, rfl, k2.same _ _ hacc, upd_same, ?_, fun l3 hl3 => ?_⟩
        · rw [eacc, List.length_map]
          have := List.length_filter_le (fun j => decide (j ≠ n)) (rdL many h)
          exact Nat.le_trans (show _ ≤ 5 by simp only [List.length_cons, List.length_nil]; omega) (by decide)
        · have k3 := Kp.new (o := .lst (acc ++ [nV h.asker])) hl3
          have ns : acc ++ [nV h.asker] = ((((rdL many h).filter fun j => decide (j ≠ n)) ++ [n]).map fun n : Nat => (n : Int)).map V.int := by
            rw [eacc, ha, List.map_append, List.map_append, List.map_map]
            rfl
          refine ⟨l3, ((((rdL many h).filter fun j => decide (j ≠ n)) ++ [n]).map fun n : Nat => (n : Int)), rfl, ?_, ?_, fun ys l4 hperm hsort hl4 => ?_⟩
          · rw [← ns]; exact SqL.of upd_same
          · rw [List.length_map, List.length_append]
            have := List.length_filter_le (fun j => decide (j ≠ n)) (rdL many h)
            simp only [List.length_cons, List.length_nil]
            omega
          · have eg : grantH h = { h with readers := fun n => decide (h.asker = some n) || h.readers n } := if_neg hk
            have ndr : (rdL many h).Nodup := List.Pairwise.filter _ List.nodup_range
            have e : ys = (rdL many (grantH h)).map fun n : Nat => (n : Int) := by
              refine sortedB (ks := ((rdL many h).filter fun j => decide (j ≠ n)) ++ [n]) ?_ (fun j => ?_) hperm hsort
              · rw [List.nodup_append]
                refine ⟨List.Pairwise.filter _ ndr, by simp, fun a ha b hb e => ?_⟩
                have h1 := (List.mem_filter.mp ha).2
                rw [List.mem_singleton.mp hb] at e
                simp [e] at h1
              · rw [eg, List.mem_append, List.mem_filter, List.mem_singleton]
                unfold rdL
                rw [List.mem_filter, List.mem_range, decide_eq_true_eq]
                show _ ↔ j < many ∧ (decide (h.asker = some j) || h.readers j) = true
                rw [Bool.or_eq_true, decide_eq_true_eq, ha]
                constructor
                · rintro (⟨⟨z1, z2⟩, z3⟩ | z)
                  · exact ⟨z1, .inr z2⟩
                  · rw [z]; exact ⟨hn4, .inl rfl⟩
                · rintro ⟨z1, z2⟩
                  by_cases c : j = n
                  · exact .inr c
                  · rcases z2 with z2 | z2
                    · exact absurd (Option.some.inj z2).symm c
                    · exact .inl ⟨⟨z1, z2⟩, c⟩
            subst e
            have k4 := Kp.new (o := .lst (((rdL many (grantH h)).map fun n : Nat => (n : Int)).map V.int)) hl4
            have kk := ((k1.trans0 k2).trans0 k3).trans0 k4
            have hx4 := kk.same _ _ hx
            refine ⟨_, rfl, x, _, rfl, .inl ⟨_, Sum.inr "readers", hx4, rfl, hD_len, rfl⟩, ?_⟩
            rw [hD_p_readers]
            obtain ⟨z1, z2⟩ := q.obj kk (h' := grantH h) (r' := l4) (wt' := wt) (tw' := tw) (by rw [upd_same, List.map_map]; rfl) (by rw [(grantH_same h).2.2.2.1]; exact q.wa.kp kk (by simp)) (grantH_same h).2.2.2.2 (by rw [show (grantH h).words = h.words by rw [eg]]; exact kk.sqT htw) q.nd
            have hl4H : H l4 = none := k1.fr _ (k2.fr _ (k3.fr _ hl4))
            have ew : (grantH h).writer = h.writer ∧ (grantH h).number = h.number ∧ (grantH h).asker = h.asker ∧ (grantH h).kind = h.kind ∧ (grantH h).node = h.node := by rw [eg]; exact ⟨rfl, rfl, rfl, rfl, rfl⟩
            obtain ⟨w1, w2, w3, w4, w5⟩ := ew
            rw [w1, w2, w3, w4, w5] at z1 z2
            exact k _ l4 z2 z1 hl4H
end
end K57
set_option Elab.async false
set_option linter.all false
set_option maxRecDepth 100000
set_option maxHeartbeats 4000000
/-! K57Xe: the law's homes are asked. -/
namespace K57
open PySem L2 AB
theorem inV_nats {i : Nat} {bad : List Nat} : inV (V.int (i : Int)) (bad.map fun j => V.int (j : Nat)) = decide (i ∈ bad) := by
  rw [Bool.eq_iff_iff]
  simp only [inV, List.any_eq_true, List.mem_map, decide_eq_true_eq]
  constructor
  · rintro ⟨y, ⟨j, hj, rfl⟩, e⟩
    have e' : decide ((j : Int) = (i : Int)) = true := by simpa [eqV] using e
    have := of_decide_eq_true e'
    rw [show i = j by omega]
    exact hj
  · intro h
    exact ⟨_, ⟨i, h, rfl⟩, by simp [eqV]⟩
theorem flat_nats (bad : List Nat) : (bad.map fun j => V.int (j : Nat)).all flatV = true := by
  rw [List.all_map]
  exact List.all_eq_true.mpr fun _ _ => rfl
theorem merge_app : ∀ (kvs acc : List (Key × V)), (kvs.map (·.1)).Nodup → (∀ p ∈ kvs, valV acc p.1 = none) → mergeK acc kvs = acc ++ kvs
  | [], acc, _, _ => by rw [List.append_nil]; rfl
  | p :: kvs, acc, nd, h => by
    rw [List.map_cons, List.nodup_cons] at nd
    show mergeK (putK acc p.1 p.2) kvs = _
    rw [putK_new _ (h p List.mem_cons_self), merge_app kvs _ nd.2 fun q hq => ?_, List.append_assoc]
    · rfl
    · have hne : q.1 ≠ p.1 := fun z => nd.1 (by rw [← z]; exact List.mem_map.mpr ⟨q, hq, rfl⟩)
      rw [← putK_new p.2 (h p List.mem_cons_self), valV_put, if_neg hne]
      exact h q (List.mem_cons_of_mem _ hq)
theorem merge_nil {kvs : List (Key × V)} (nd : (kvs.map (·.1)).Nodup) : mergeK [] kvs = kvs := merge_app kvs [] nd fun _ _ => rfl
section
variable {K : PySem.W.Frag} {many : Nat} {H : Hp} {x r wt sv : Addr} {h h' : Hm}
theorem MomAt.seP (q : MomAt K many H x r wt sv h) {u : HO} (hd : DN (upd H sv u) sv many fun n => (h'.served n).map V.int) (e : h' = { h with served := h'.served }) : MomAt K many (upd H sv u) x r wt sv h' ∧ Kp [sv] H (upd H sv u) := by
  obtain ⟨tw, hx, htw⟩ := q.ob
  have kz := Kp.set (p := sv) (o := u) q.se.mut
  obtain ⟨k1, hs1, _⟩ := q.se.few
  refine ⟨⟨⟨tw, ?_, ?_⟩, ?_, ?_, hd, q.nd⟩, kz⟩
  · rw [e]; exact kz.st _ _ (by simp only [List.mem_singleton]; exact (dn_ne q.se hx).symm) hx
  · rw [e]; exact kz.sqT htw
  · rw [e]; exact kz.st _ _ (by simp only [List.mem_singleton]; exact ne_of q.rd hs1 (by intro z; cases z)) q.rd
  · rw [e]; exact q.wa.kp kz (by simp [q.nd])
theorem MomAt.waP (q : MomAt K many H x r wt sv h) {u : HO} (hd : DN (upd H wt u) wt many fun n => (h'.waits n).map fun w => .str w.s) (e : h' = { h with waits := h'.waits }) : MomAt K many (upd H wt u) x r wt sv h' ∧ Kp [wt] H (upd H wt u) := by
  obtain ⟨tw, hx, htw⟩ := q.ob
  have kz := Kp.set (p := wt) (o := u) q.wa.mut
  obtain ⟨k1, hs1, _⟩ := q.wa.few
  refine ⟨⟨⟨tw, ?_, ?_⟩, ?_, hd, ?_, q.nd⟩, kz⟩
  · rw [e]; exact kz.st _ _ (by simp only [List.mem_singleton]; exact (dn_ne q.wa hx).symm) hx
  · rw [e]; exact kz.sqT htw
  · rw [e]; exact kz.st _ _ (by simp only [List.mem_singleton]; exact ne_of q.rd hs1 (by intro z; cases z)) q.rd
  · rw [e]; exact q.se.kp kz (by simp [q.nd.symm])
end
def spAskedM (K : PySem.W.Frag) : Sp := fun vs H Q _ => ∃ (B : MAd) (S : Sy) (v : V) (n y p : Nat) (num : Int) (k : Kd), vs = [.ref B.m, v] ∧ ModAt K H B S ∧ MV K H v (.ask n y p num k) ∧ WF S ∧ n < S.many ∧ p < S.pages ∧ S.way.length + 10 < 100000 ∧
  ∀ H' B', Cm K H B S H' B' (askedS S n p num k) → Q .non H'
def mid1 (h : Hm) (n : Nat) (k : Kd) : Hm := { h with number := h.number + 1, asker := some n, kind := some k }
def mid2 (h : Hm) (n : Nat) (k : Kd) : Hm := { mid1 h n k with waits := fun j => if k = .w ∧ h.readers j = true ∧ j ≠ n then some .go else none }
theorem filt_get {α : Type} (p : Nat → Bool) (f : Nat → α) (bl : List Nat) : ((List.range bl.length).filter fun j => p (bl.getD j 0)).map (fun j => f (bl.getD j 0)) = (bl.filter p).map f := by
  have e3 : bl = (List.range bl.length).map fun j => bl.getD j 0 := by
    apply List.ext_getElem
    · simp
    · intro j h1 h2
      simp [List.getD_eq_getElem?_getD, List.getElem?_eq_getElem h1]
  conv => rhs; rw [e3, List.filter_map, List.map_map]
  rfl
theorem paired_map {α β γ : Type} {R : α → β → Prop} {R' : β → γ → Prop} {g : α → γ} (h : ∀ a b, R a b → R' b (g a)) : ∀ {xs : List α} {ys : List β}, Paired R xs ys → Paired R' ys (xs.map g)
  | _, _, .nil => .nil
  | _, _, .cons r t => .cons (h _ _ r) (paired_map h t)
def MidA (K : PySem.W.Frag) (B : MAd) (p many : Nat) (H : Hp) (sl : L2.St) (h' : Hm) : L2.St → Hp → Prop := fun σ H' => σ = sl ∧ ∃ r' wt', Kp [B.home p, B.wt p, B.sv p] H H' ∧ MomAt K many H' (B.home p) r' wt' (B.sv p) h' ∧ (r' = B.rd p ∨ H r' = none) ∧ (wt' = B.wt p ∨ H wt' = none)
section
variable {P : Program} {w : World} {K : PySem.W.Frag} {mg : Str → Option Value} {base : Heap} {a : Ad} {f : Addr} {fd : FuncData}
theorem ok_law_asked (F : Fun K "_law_asked" "_law_asked" s_law_asked f fd) (T : Txt K mg a) (G_law_grant : GFn P w K mg base 1 "_law_grant" ["home"] (spGrantM K)) (G_law_pushed : GFn P w K mg base 1 "_law_pushed" ["m", "page"] (spPushM K)) : FnOk P w K mg base (L2.CX P w) 2 f fd ["m", "message"] (spAskedM K) := by
  refine okT F sc_law_asked (fun vs H Q E h => ?_) (fun cdv A' outer s H vs Q E hr tk hp h => ?_)
  · obtain ⟨B, S, v, n, y, p, num, k, rfl, _⟩ := h
    rfl
  · obtain ⟨B, S, v, n, y, p, num, kd, rfl, q, ⟨t, its, rfl, ht, rfl⟩, wf, hn4, hp', hwl, k⟩ := h
    have qm := q.hm p hp'
    obtain ⟨tw1, h1, htw1⟩ := qm.ob
    have wh := wf.hm p
    have hm4 := wf.m4
    refine ⟨_, (pss_cons (ps_asg (pv 1) (pg_tup rfl (pgs_cons (pg_name (i := 2) sc_law_asked.nd rfl (by first | exact Or.inl rfl | exact Or.inr rfl)) (pgs_cons (pg_name (i := 3) sc_law_asked.nd rfl (by first | exact Or.inl rfl | exact Or.inr rfl)) (pgs_cons (pg_name (i := 4) sc_law_asked.nd rfl (by first | exact Or.inl rfl | exact Or.inr rfl)) (pgs_cons (pg_name (i := 5) sc_law_asked.nd rfl (by first | exact Or.inl rfl | exact Or.inr rfl)) (pgs_cons (pg_name (i := 6) sc_law_asked.nd rfl (by first | exact Or.inl rfl | exact Or.inr rfl)) (pgs_cons (pg_name (i := 7) sc_law_asked.nd rfl (by first | exact Or.inl rfl | exact Or.inr rfl)) pgs_nil)))))))) (pss_cons (ps_set (i := 8) sc_law_asked.nd rfl (by first | exact Or.inl rfl | exact Or.inr rfl) (pe_ix (k_ixL K (by rfl)) (pe_dget (hu_of hr) (pv 0) pe_str (fun _ _ => rfl)) (pv 5) (fun _ _ => rfl))) (pss_cons (ps_if (PW.pt (pw_or (pt_cmpR op_notN (pe_dget (hu_of hr) (pv 8) pe_str (fun _ _ => rfl)) pe_non (nomark _)) (pw_or1 (pt_cmpR op_le (pv 6) (pe_dget2 (hu_of hr) (pe_dget (hu_of hr) (pv 8) pe_str (fun _ _ => rfl)) (pv 2) pe_int ⟨rfl, rfl, rfl, rfl⟩) (nomark _))))) (pss_one ps_retN) pss_nil) (pss_cons (ps_dput (hu_of hr) (pe_dget (hu_of hr) (pv 8) pe_str (fun _ _ => rfl)) (pv 2) (pv 6) rfl) (C8.pss_cut (ps_if (PW.pt (pw_or (pt_cmpR op_eq (pe_dget (hu_of hr) (pv 8) pe_str (fun _ _ => rfl)) (pv 2) (nomark _)) (pw_or1 (PW.pt (pw_and (pt_cmpR op_eq (pv 7) pe_str (nomark _)) (pw_and1 (pt_cmpR (k_in K (by rfl)) (pv 2) (pe_dget (hu_of hr) (pv 8) pe_str (fun _ _ => rfl)) (by rfl)))))))) (pss_one ps_retN) pss_nil) (C8.pss_cut (ps_asg (pe_tup (pa_cons (pe_op op_add (pe_dget (hu_of hr) (pv 8) pe_str (fun _ _ => rfl)) pe_int) (pa_cons (pv 2) (pa_cons (pv 7) pa_nil)))) (pg_tup rfl (pgs_cons (pg_sub (pv 8) pe_str (set_dict (hu_of hr))) (pgs_cons (pg_sub (pv 8) pe_str (set_dict (hu_of hr))) (pgs_cons (pg_sub (pv 8) pe_str (set_dict (hu_of hr))) pgs_nil))))) (C8.pss_cut (ps_dput (hu_of hr) (pv 8) pe_str (pe_callTy (k_dictP K (by rfl) rfl) (by rfl) T.n_dict (by decide +kernel) (pa_cons (pe_lc (own := [("own", 9)]) (g := gName 9) (by rfl) sc_law_asked.nd (k_piL K (by rfl) (pi_list (pe_dget (hu_of hr) (pv 8) pe_str (fun _ _ => rfl)))) (blkOk_by (own := [("own", 9)]) (N := N_law_asked) (sc := defScope s_law_asked) (by decide +kernel)) (fun _ _ _ _ _ => pg_name (i := 9) sc_law_asked.nd rfl (by first | exact Or.inl rfl | exact Or.inr rfl)) (fun _ _ _ _ _ => by exact pts_one (PW.pt (pw_and (pt_cmpR op_eq (pv 7) pe_str (nomark _)) (pw_and1 (pt_cmpR op_ne (pv 9) (pv 2) (nomark _)))))) (fun _ _ _ _ _ => by exact (pe_tup (pa_cons (pv 9) (pa_cons pe_str pa_nil))))) pa_nil)) rfl) (C8.pss_cut (ps_if (pt_cmpR op_notN (pe_dget (hu_of hr) (pv 8) pe_str (fun _ _ => rfl)) pe_non (nomark _)) (pss_one (ps_dput (hu_of hr) (pe_dget (hu_of hr) (pv 8) pe_str (fun _ _ => rfl)) (pe_dget (hu_of hr) (pv 8) pe_str (fun _ _ => rfl)) (pe_ifExp (pt_cmpR op_eq (pv 7) pe_str (nomark _)) pe_str pe_str) rfl)) pss_nil) (C8.pss_cut (ps_if (pt_cmpR (op_eqE (Nat.lt_of_succ_lt (hu_of hr))) (pe_dget (hu_of hr) (pv 8) pe_str (fun _ _ => rfl)) pe_dnewK (nomark _)) (pss_one (ps_expr (pe_cl G_law_grant (hr.mono (by decide)) tk (pa_cons (pv 8) pa_nil)))) pss_nil) (pss_one (ps_expr (pe_cl G_law_pushed (hr.mono (by decide)) tk (pa_cons (pv 0) (pa_cons (pv 5) pa_nil)))))))))))))), ?_⟩
    refine ⟨_, rfl, t, _, rfl, ht, rfl, _, _, rfl, _, _, rfl, _, _, rfl, _, _, rfl, _, _, rfl, _, _, rfl, rfl, ?_⟩
    refine ⟨_, rfl, B.m, _, rfl, mG_homes q.ob, _, rfl, B.lh, _, _, _, rfl, rfl, SqL.of q.lh, atI_nat (v := .ref (B.home p)) (by simp [hp']), ?_⟩
    have out : ((S.homes p).asker ≠ none ∨ num ≤ ((S.homes p).served n).getD 0) → Q .non H := fun z => by
      refine k H B ?_
      rw [askedS, if_pos z]
      exact Cm.refl q
    refine ⟨_, rfl, B.home p, _, rfl, hG_asker h1, rfl, _, rfl, ?_⟩
    refine ite_of (fun e => ?_) (fun e => ?_)
    · refine iteT (out (.inl fun z => ?_))
      have e' : (!decide (nV (S.homes p).asker = V.non)) = true := e
      rw [z] at e'
      cases e'
    have hid : (S.homes p).asker = none := by
      cases hq : (S.homes p).asker with
      | none => rfl
      | some m =>
        have e' : (!decide (nV (S.homes p).asker = V.non)) = false := e
        rw [hq] at e'
        cases e'
    obtain ⟨ks, hs1, hsl, hsv⟩ := qm.se.few
    refine ⟨_, rfl, _, rfl, B.home p, _, rfl, hG_served h1, B.sv p, rfl, .inl ⟨ks, .inl hs1⟩, _, rfl, ((S.homes p).served n).map V.int, (by
      have z := DGet.k (k := Sum.inl (n : Int)) hs1
      rw [hsv n] at z
      exact z), num, ((S.homes p).served n).getD 0, rfl, by cases (S.homes p).served n <;> rfl, _, rfl, ?_⟩
    refine ite_of (fun e => ?_) (fun e => ?_)
    · exact out (.inr (of_decide_eq_true e))
    have hnum : ¬ num ≤ ((S.homes p).served n).getD 0 := of_decide_eq_false e
    have hno : ¬ ((S.homes p).asker ≠ none ∨ num ≤ ((S.homes p).served n).getD 0) := fun z => z.elim (fun y => y hid) hnum
    have qsv := qm.seP (h' := servedH (S.homes p) n num) (u := .dK (putK ks (Sum.inl (n : Int)) (.int num))) (by
      have fe : (fun j => if j = n then some (V.int num) else ((S.homes p).served j).map V.int) = fun j => ((servedH (S.homes p) n num).served j).map V.int := by
        funext j
        show _ = (if j = n then some num else (S.homes p).served j).map V.int
        by_cases c : j = n
        · rw [if_pos c, if_pos c]; rfl
        · rw [if_neg c, if_neg c]
      have z := DN.put hs1 qm.se hn4 (.int num)
      rw [fe] at z
      exact z) rfl
    refine ⟨_, rfl, _, rfl, B.home p, _, rfl, hG_served h1, _, rfl, B.sv p, _, rfl, .inl ⟨ks, Sum.inl (n : Int), hs1, rfl, small1000 (by omega), rfl⟩, ?_⟩
    obtain ⟨qm1, k1⟩ := qsv
    have muH : ∀ b ∈ [B.home p, B.wt p, B.sv p], Mut (H b) := fun b hb => by
      simp only [List.mem_cons, List.not_mem_nil, or_false] at hb
      rcases hb with rfl | rfl | rfl
      · rw [h1]; exact True.intro
      · exact qm.wa.mut
      · exact qm.se.mut
    generalize upd H (B.sv p) (.dK (putK ks (Sum.inl (n : Int)) (.int num))) = H1 at *
    have kk1 : Kp [B.home p, B.wt p, B.sv p] H H1 := k1.wide (fun b hb => by rw [List.mem_singleton.mp hb]; simp) muH
    obtain ⟨tw2, h2, htw2⟩ := qm1.ob
    have has : hasIt (S.homes p) n kd = true → Q .non H1 := fun hh => by
      refine k H1 (B.put p (B.rd p) (B.wt p)) ?_
      rw [askedS, if_neg hno, if_pos hh]
      exact Cm.home q hp' kk1 qm1 (.inl rfl) (.inl rfl)
    have ewr : decide (nV (S.homes p).writer = .int (n : Int)) = decide ((S.homes p).writer = some n) := by
      cases (S.homes p).writer with
      | none => exact decide_eq_decide.mpr ⟨(fun z => nomatch z), (fun z => nomatch z)⟩
      | some m => exact decide_eq_decide.mpr ⟨fun z => by have := V.int.inj z; rw [show m = n by omega], fun z => by rw [Option.some.inj z]; rfl⟩


    refine ⟨fun σ H' => σ = [some (.ref B.m), some (.ref t), some (.int (n : Int)), some (.int (y : Int)), some (.str "ask"), some (.int (p : Int)), some (.int num), some (.str kd.s), some (.ref (B.home p)), none] ∧ H' = H1 ∧ hasIt (S.homes p) n kd = false, ?_, ?_⟩
    · refine ⟨_, rfl, B.home p, _, rfl, hG_writer h2, _, rfl, by show scal (nV (S.homes p).writer) _ = true; cases (S.homes p).writer <;> rfl, _, rfl, ?_⟩
      refine ite_of (fun e => ?_) (fun e => ?_)
      · exact iteT (has (by rw [hasIt, ← ewr, show decide (nV (S.homes p).writer = .int (n : Int)) = true from e]; rfl))
      · refine ⟨_, rfl, by cases kd <;> rfl, _, rfl, ?_⟩
        have e1 : decide ((S.homes p).writer = some n) = false := ewr.symm.trans e
        have e2 : decide (V.str kd.s = .str "read") = decide (kd = .r) := decide_eq_decide.mpr (kd_inj (j := .r))
        refine ite_of (fun z => ?_) (fun z => ?_)
        · refine ⟨_, rfl, _, rfl, B.home p, _, rfl, hG_readers h2, B.rd p, _, rfl, .inl (SqL.of qm1.rd), rfl, flat_nats _, _, rfl, ?_⟩
          have e3 : inV (V.int (n : Int)) ((rdL S.many (servedH (S.homes p) n num)).map fun n : Nat => V.int (n : Int)) = (S.homes p).readers n := by
            rw [inV_nats, Bool.eq_iff_iff, decide_eq_true_eq]
            unfold rdL
            rw [List.mem_filter, List.mem_range]
            exact ⟨fun y => y.2, fun y => ⟨hn4, y⟩⟩
          refine ite_of (fun y => ?_) (fun y => ?_)
          · exact has (by rw [hasIt, e1, ← e2, show decide (V.str kd.s = .str "read") = true from z, ← e3, show inV (V.int (n : Int)) ((rdL S.many (servedH (S.homes p) n num)).map fun n : Nat => V.int (n : Int)) = true from y]; rfl)
          · exact ⟨rfl, rfl, by rw [hasIt, e1, ← e2, show decide (V.str kd.s = .str "read") = true from z, ← e3, show inV (V.int (n : Int)) ((rdL S.many (servedH (S.homes p) n num)).map fun n : Nat => V.int (n : Int)) = false from y]; rfl⟩
        · exact ⟨rfl, rfl, by rw [hasIt, e1, ← e2, show decide (V.str kd.s = .str "read") = false from z]; rfl⟩
    rintro σ' H1' ⟨rfl, rfl, hh⟩
    have hh' : ¬ hasIt (S.homes p) n kd = true := by rw [hh]; decide
    obtain ⟨sl, hsl'⟩ : ∃ sl : L2.St, sl = [some (.ref B.m), some (.ref t), some (.int (n : Int)), some (.int (y : Int)), some (.str "ask"), some (.int (p : Int)), some (.int num), some (.str kd.s), some (.ref (B.home p)), none] := ⟨_, rfl⟩
    have kof : ∀ {HX HY : Hp}, Kp [B.home p, B.wt p, B.sv p] H HX → Kp [B.home p] HX HY → Kp [B.home p, B.wt p, B.sv p] H HY := fun a b => a.trans b fun z hz => .inl (by rw [List.mem_singleton.mp hz]; simp)
    -- number, asker, kind
    refine ⟨MidA K B p S.many H sl (mid1 (servedH (S.homes p) n num) n kd), ?_, ?_⟩
    · refine ⟨_, rfl, B.home p, _, rfl, hG_number h2, _, _, rfl, rfl, _, rfl, _, rfl, (by show 3 ≤ sizeLine; decide), fun t3 ht3 => ?_⟩
      have k3 := Kp.new (o := .tup [V.int ((S.homes p).number + 1), .int (n : Int), .str kd.s]) ht3
      have e3 := k3.same _ _ h2
      refine ⟨t3, _, rfl, SqT.of upd_same, rfl, _, _, rfl, _, rfl, B.home p, _, rfl, .inl ⟨_, Sum.inr "number", e3, rfl, hD_len, rfl⟩, ?_⟩
      rw [hD_p_number]
      refine ⟨_, _, rfl, _, rfl, B.home p, _, rfl, .inl ⟨_, Sum.inr "asker", upd_same, rfl, hD_len, rfl⟩, ?_⟩
      rw [hD_p_asker]
      refine ⟨_, _, rfl, _, rfl, B.home p, _, rfl, .inl ⟨_, Sum.inr "kind", upd_same, rfl, hD_len, rfl⟩, rfl, ?_⟩
      rw [hD_p_kind, upd_upd, upd_upd]
      obtain ⟨z1, z2⟩ := qm1.obj k3 (h' := mid1 (servedH (S.homes p) n num) n kd) (r' := B.rd p) (wt' := B.wt p) (tw' := tw2) (k3.same _ _ qm1.rd) (qm1.wa.kp k3 (by simp)) rfl (k3.sqT htw2) qm1.nd
      exact ⟨hsl'.symm, B.rd p, B.wt p, kof kk1 z2, z1, .inl rfl, .inl rfl⟩
    rintro σ2 H2 ⟨rfl, r2, wt2, kk2, qm2, hr2, hw2⟩
    subst hsl'
    obtain ⟨tw3, h3, htw3⟩ := qm2.ob
    obtain ⟨sl, hsl'⟩ : ∃ sl : L2.St, sl = [some (.ref B.m), some (.ref t), some (.int (n : Int)), some (.int (y : Int)), some (.str "ask"), some (.int (p : Int)), some (.int num), some (.str kd.s), some (.ref (B.home p)), none] := ⟨_, rfl⟩
    -- waits
    refine ⟨MidA K B p S.many H sl (mid2 (servedH (S.homes p) n num) n kd), ?_, ?_⟩
    · refine ⟨_, rfl, B.home p, _, rfl, hG_readers h3, r2, rfl, ⟨_, SqL.of qm2.rd⟩, fun D hD => ?_⟩
      obtain ⟨rl, hrl⟩ : ∃ rl, rl = rdL S.many (mid1 (servedH (S.homes p) n num) n kd) := ⟨_, rfl⟩
      have erl : ∀ j, j ∈ rl ↔ j < S.many ∧ (S.homes p).readers j = true := fun j => by
        rw [hrl]
        unfold rdL
        rw [List.mem_filter, List.mem_range]
        exact Iff.rfl
      have rnd : rl.Nodup := by rw [hrl]; exact List.Pairwise.filter _ List.nodup_range
      have rle : rl.length ≤ 4 := by
        rw [hrl]
        refine Nat.le_trans (List.length_filter_le _ _) ?_
        rw [List.length_range]
        exact hm4
      have hrd := qm2.rd
      rw [← hrl] at hrd
      have hlen : (rl.map fun n : Nat => V.int (n : Int)).length = rl.length := by simp
      obtain ⟨cnd, hcnd⟩ : ∃ cnd : Nat → Bool, cnd = fun j => decide (kd = .w) && decide (j ≠ n) := ⟨_, rfl⟩
      refine lc_pure walk_list (by rw [hlen]; exact small1000 (by omega)) hD (fun j => cnd (rl.getD j 0)) (fun j v H => ∃ l, v = .ref l ∧ SqT K H l [.int ((rl.getD j 0 : Nat) : Int), .str "go"]) (fun j v H H' k ⟨l, e, h⟩ => ⟨l, e, k.sqT h⟩) (fun H k => k.sqL0 (SqL.of hrd)) ?_ ?_
      · rintro j x H5 H6 hj k5 ⟨rfl, hy⟩ N F' hN hF
        obtain ⟨m, hm1, rfl⟩ := map_at (g := fun j : Nat => V.int (j : Int)) hy
        have eg : rl.getD j 0 = m := by rw [List.getD_eq_getElem?_getD, hm1]; rfl
        have e2 : decide (V.str kd.s = .str "write") = decide (kd = .w) := decide_eq_decide.mpr (kd_inj (j := .w))
        refine ⟨rfl, _, rfl, by cases kd <;> rfl, _, rfl, ?_⟩
        refine ite_of (fun e => ?_) (fun e => ?_)
        · have hw : decide (kd = .w) = true := e2.symm.trans e
          refine ⟨_, rfl, _, rfl, rfl, _, rfl, ?_⟩
          have en : (!decide (V.int (m : Int) = .int (n : Int))) = decide (m ≠ n) := by
            rw [Bool.eq_iff_iff]
            simp only [Bool.not_eq_true', decide_eq_false_iff_not, decide_eq_true_eq]
            exact ⟨fun z q => z (by rw [q]), fun z q => z (by have := V.int.inj q; omega)⟩
          refine ite_of (fun e => ?_) (fun e => ?_)
          · refine ⟨_, rfl, (by show 2 ≤ sizeLine; decide), fun t5 ht5 => ?_⟩
            exact hN _ _ (by rw [eg, hcnd]; show (decide (kd = .w) && decide (m ≠ n)) = true; rw [hw, en.symm.trans e]; rfl) (Kp.new ht5) ⟨t5, rfl, by rw [eg]; exact SqT.of upd_same⟩
          · exact hF _ (by rw [eg, hcnd]; show (decide (kd = .w) && decide (m ≠ n)) = false; rw [hw, en.symm.trans e]; rfl) (Kp.refl _)
        · have hw : decide (kd = .w) = false := e2.symm.trans e
          exact iteF (hF _ (by rw [hcnd]; show (decide (kd = .w) && _) = false; rw [hw]; rfl) (Kp.refl _))
      · intro H5 acc k5 hacc pr
        rw [hlen] at pr
        obtain ⟨ts, rfl, pts⟩ := refs_of pr
        obtain ⟨os, hos⟩ : ∃ os, os = rl.filter cnd := ⟨_, rfl⟩
        have osn : os.Nodup := by rw [hos]; exact List.Pairwise.filter _ rnd
        have osm : ∀ j, j ∈ os ↔ kd = .w ∧ (S.homes p).readers j = true ∧ j ≠ n := fun j => by
          rw [hos, List.mem_filter, erl, hcnd]
          simp only [Bool.and_eq_true, decide_eq_true_eq]
          exact ⟨fun z => ⟨z.2.1, z.1.2, z.2.2⟩, fun z => ⟨⟨wh.rd j z.2.1, z.2.1⟩, z.1, z.2.2⟩⟩
        have pkv := paired_map (R' := fun l (kv : Key × V) => SqT K H5 l [kV kv.1, kv.2]) (g := fun j => ((Sum.inl ((rl.getD j 0 : Nat) : Int) : Key), V.str "go")) (fun j l r => r) pts
        rw [filt_get cnd (fun j : Nat => ((Sum.inl (j : Int) : Key), V.str "go")) rl, ← hos] at pkv
        have ndk : ((os.map fun j : Nat => ((Sum.inl (j : Int) : Key), V.str "go")).map (·.1)).Nodup := by
          rw [List.map_map]
          refine List.Pairwise.map _ (fun a b hab z => hab ?_) osn
          have := Sum.inl.inj z
          omega
        refine ⟨D, ts, _, rfl, SqL.of hacc, pkv, fun d hd => ?_⟩
        rw [merge_nil ndk]
        have kd1 := k5.trans0 (Kp.new (o := .dK (os.map fun j : Nat => ((Sum.inl (j : Int) : Key), V.str "go"))) hd)
        have h5 := kd1.same _ _ h3
        refine ⟨_, rfl, B.home p, _, rfl, .inl ⟨_, Sum.inr "waits", h5, rfl, hD_len, rfl⟩, ?_⟩
        rw [hD_p_waits]
        have dn : DN (upd H5 d (.dK (os.map fun j : Nat => ((Sum.inl (j : Int) : Key), V.str "go")))) d S.many fun j => ((mid2 (servedH (S.homes p) n num) n kd).waits j).map fun w => V.str w.s := by
          refine ⟨_, upd_same, ndk, fun q hq => ?_, fun j => (val_same _ j os).trans ?_⟩
          · obtain ⟨j, hj, rfl⟩ := List.mem_map.mp hq
            exact ⟨j, wh.rd j ((osm j).mp hj).2.1, rfl⟩
          · show _ = (if kd = .w ∧ (S.homes p).readers j = true ∧ j ≠ n then some Wd.go else none).map _
            by_cases c : j ∈ os
            · rw [if_pos c, if_pos ((osm j).mp c)]; rfl
            · rw [if_neg c, if_neg (fun z => c ((osm j).mpr z))]; rfl
        have hdH2 : H2 d = none := k5.fr _ hd
        obtain ⟨ksv, hsv2, _⟩ := qm2.se.few
        obtain ⟨z1, z2⟩ := qm2.obj kd1 (h' := mid2 (servedH (S.homes p) n num) n kd) (r' := r2) (wt' := d) (tw' := tw3) (kd1.same _ _ qm2.rd) dn rfl (kd1.sqT htw3) (ne_of_none hsv2 hdH2).symm
        exact ⟨hsl'.symm, r2, d, kof kk2 z2, z1, hr2, .inr (kk2.fr _ hdH2)⟩
    rintro σ3 H3 ⟨rfl, r3, wt3, kk3, qm3, hr3, hw3⟩
    subst hsl'
    obtain ⟨tw4, h4, htw4⟩ := qm3.ob
    obtain ⟨sl, hsl'⟩ : ∃ sl : L2.St, sl = [some (.ref B.m), some (.ref t), some (.int (n : Int)), some (.int (y : Int)), some (.str "ask"), some (.int (p : Int)), some (.int num), some (.str kd.s), some (.ref (B.home p)), none] := ⟨_, rfl⟩
    -- the writer's
    refine ⟨MidA K B p S.many H sl (beginH (servedH (S.homes p) n num) n kd), ?_, ?_⟩
    · refine ⟨_, rfl, B.home p, _, rfl, hG_writer h4, rfl, _, rfl, ?_⟩
      refine ite_of (fun e => ?_) (fun e => ?_)
      · obtain ⟨m, hwm⟩ : ∃ m, (S.homes p).writer = some m := by
          cases hw : (S.homes p).writer with
          | none =>
            have e' : (!decide (nV (S.homes p).writer = V.non)) = true := e
            rw [hw] at e'
            cases e'
          | some m => exact ⟨m, rfl⟩
        obtain ⟨kvs, hd, hdl, hdv⟩ := qm3.wa.few
        have put : ∀ wd : Wd, wd = (if kd = .w then Wd.go else .sh) → MidA K B p S.many H sl (beginH (servedH (S.homes p) n num) n kd) [some (.ref B.m), some (.ref t), some (.int (n : Int)), some (.int (y : Int)), some (.str "ask"), some (.int (p : Int)), some (.int num), some (.str kd.s), some (.ref (B.home p)), none] (upd H3 wt3 (.dK (putK kvs (Sum.inl (m : Int)) (.str wd.s)))) := fun wd hwd => by
          have dn2 := DN.put hd qm3.wa (wh.wr m hwm) (.str wd.s)
          have ef : (fun j => if j = m then some (V.str wd.s) else ((mid2 (servedH (S.homes p) n num) n kd).waits j).map fun w => V.str w.s) = fun j => ((beginH (servedH (S.homes p) n num) n kd).waits j).map fun w => V.str w.s := by
            funext j
            show (if j = m then some (V.str wd.s) else (if kd = .w ∧ (S.homes p).readers j = true ∧ j ≠ n then some Wd.go else none).map _) = (if (S.homes p).writer = some j then some (if kd = .w then Wd.go else .sh) else if kd = .w ∧ (S.homes p).readers j = true ∧ j ≠ n then some .go else none).map _
            by_cases cm : j = m
            · subst cm
              rw [if_pos rfl, if_pos hwm, ← hwd]
              rfl
            · rw [if_neg cm, show (if (S.homes p).writer = some j then some (if kd = .w then Wd.go else .sh) else if kd = .w ∧ (S.homes p).readers j = true ∧ j ≠ n then some .go else none) = (if kd = .w ∧ (S.homes p).readers j = true ∧ j ≠ n then some Wd.go else none) from if_neg (fun z => cm (Option.some.inj (hwm.symm.trans z)).symm)]
          rw [ef] at dn2
          obtain ⟨z1, z2⟩ := qm3.waP (h' := beginH (servedH (S.homes p) n num) n kd) dn2 rfl
          exact ⟨hsl'.symm, r3, wt3, kk3.trans z2 fun b hb => by
            rw [List.mem_singleton.mp hb]
            exact hw3.imp (fun z => by rw [z]; simp) fun z => z, z1, hr3, hw3⟩
        refine ⟨_, rfl, by cases kd <;> rfl, _, rfl, ?_⟩
        have ek : decide (V.str kd.s = .str "write") = decide (kd = .w) := decide_eq_decide.mpr (kd_inj (j := .w))
        refine ite_of (fun e => ?_) (fun e => ?_)
        · have hk : kd = .w := of_decide_eq_true (ek.symm.trans e)
          exact ⟨_, rfl, B.home p, _, rfl, hG_waits h4, _, rfl, B.home p, _, rfl, hG_writer h4, wt3, _, rfl, .inl ⟨_, Sum.inl (m : Int), hd, by show nV (S.homes p).writer = _; rw [hwm]; rfl, small1000 (by omega), rfl⟩, put .go (by rw [if_pos hk])⟩
        · have hk : ¬ kd = .w := of_decide_eq_false (ek.symm.trans e)
          exact ⟨_, rfl, B.home p, _, rfl, hG_waits h4, _, rfl, B.home p, _, rfl, hG_writer h4, wt3, _, rfl, .inl ⟨_, Sum.inl (m : Int), hd, by show nV (S.homes p).writer = _; rw [hwm]; rfl, small1000 (by omega), rfl⟩, put .sh (by rw [if_neg hk])⟩
      · have hw : (S.homes p).writer = none := by
          cases hw : (S.homes p).writer with
          | none => rfl
          | some m =>
            have e' : (!decide (nV (S.homes p).writer = V.non)) = false := e
            rw [hw] at e'
            cases e'
        refine ⟨hsl'.symm, r3, wt3, kk3, ?_, hr3, hw3⟩
        have eb : beginH (servedH (S.homes p) n num) n kd = mid2 (servedH (S.homes p) n num) n kd := by
          have ef : (fun j => if (S.homes p).writer = some j then some (if kd = .w then Wd.go else .sh) else if kd = .w ∧ (S.homes p).readers j = true ∧ j ≠ n then some .go else none) = fun j => if kd = .w ∧ (S.homes p).readers j = true ∧ j ≠ n then some Wd.go else none := by
            funext j
            rw [if_neg (by rw [hw]; exact fun z => nomatch z)]
          unfold beginH mid2 mid1
          exact congrArg (fun z => Hm.mk _ _ _ _ _ _ _ z _) ef
        rw [eb]
        exact qm3
    rintro σ4 H4 ⟨rfl, r4, wt4, kk4, qm4, hr4, hw4⟩
    subst hsl'
    obtain ⟨tw5, h5, htw5⟩ := qm4.ob
    obtain ⟨sl, hsl'⟩ : ∃ sl : L2.St, sl = [some (.ref B.m), some (.ref t), some (.int (n : Int)), some (.int (y : Int)), some (.str "ask"), some (.int (p : Int)), some (.int num), some (.str kd.s), some (.ref (B.home p)), none] := ⟨_, rfl⟩
    -- granted
    refine ⟨MidA K B p S.many H sl (beganH S.many (servedH (S.homes p) n num) n kd), ?_, ?_⟩
    · obtain ⟨kw, hw5, hwl5, hwz5, hwv5⟩ := qm4.wa.len0
      refine ⟨_, rfl, B.home p, _, rfl, hG_waits h5, fun d hd => ⟨wt4, d, kw, rfl, rfl, (Kp.new (o := .dK []) hd).same _ _ hw5, upd_same, _, rfl, ?_⟩⟩
      have kd1 := Kp.new (o := .dK []) hd
      have qm5 := qm4.kp kd1 (by simp) (by simp) (by simp) (by simp)
      have ez : kw.isEmpty = noWaits S.many (beginH (servedH (S.homes p) n num) n kd) := by
        rw [← hwz5]
        cases kw with
        | nil => rfl
        | cons x l => exact (decide_eq_false (by simp; omega)).symm
      refine ite_of (fun e => ?_) (fun e => ?_)
      · have hz : noWaits S.many (beginH (servedH (S.homes p) n num) n kd) = true := ez.symm.trans e
        refine ⟨_, rfl, B.home p, r4, wt4, B.sv p, S.many, _, n, rfl, qm5, rfl, hn4, hm4, fun H6 r' k6 qm6 hr' => ⟨hsl'.symm, r', wt4, kof (kk4.trans0 kd1) k6, ?_, .inr (kk4.fr _ (kd1.fr _ hr')), hw4⟩⟩
        rw [beganH, if_pos hz]
        exact qm6
      · have hz : ¬ noWaits S.many (beginH (servedH (S.homes p) n num) n kd) = true := by rw [ez.symm.trans e]; decide
        refine ⟨hsl'.symm, r4, wt4, kk4.trans0 kd1, ?_, hr4, hw4⟩
        rw [beganH, if_neg hz]
        exact qm5
    rintro σ5 H5 ⟨rfl, r5, wt5, kk5, qm5, hr5, hw5⟩
    subst hsl'
    have c5 := Cm.home q hp' kk5 qm5 hr5 hw5
    refine ⟨_, rfl, _, rfl, B.put p r5 wt5, _, p, rfl, c5.at_, hp', hm4, hwl, fun m hm => ?_, fun H6 c6 => k H6 (B.put p r5 wt5) ?_⟩
    · rw [setHome_same'] at hm ⊢
      exact ⟨kd, (began_same _ _ _ _).2.2.1⟩
    · rw [askedS, if_neg hno, if_neg hh']
      have z := c5.trans c6
      rw [setHome_same'] at z
      exact z
end
end K57
set_option Elab.async false
set_option linter.all false
set_option maxRecDepth 100000
set_option maxHeartbeats 4000000
/-! K57Xf: the law's homes are answered. -/
namespace K57
open PySem L2 AB
def spAnsweredM (K : PySem.W.Frag) : Sp := fun vs H Q _ => ∃ (B : MAd) (S : Sy) (v : V) (m : Msg), vs = [.ref B.m, v] ∧ ModAt K H B S ∧ MV K H v m ∧ WF S ∧ okM S.many S.pages m ∧ isAns m ∧ S.way.length + 10 < 100000 ∧
  ∀ H' B', Cm K H B S H' B' (comeS S m) → Q .non H'
def giv3 (g : Hm) (n : Nat) : Hm := { g with readers := fun j => if j = n then decide (g.waits n = some .sh) else g.readers j }
section
variable {P : Program} {w : World} {K : PySem.W.Frag} {mg : Str → Option Value} {base : Heap} {a : Ad} {f : Addr} {fd : FuncData}
theorem ok_law_answered (F : Fun K "_law_answered" "_law_answered" s_law_answered f fd) (T : Txt K mg a) (G_law_grant : GFn P w K mg base 1 "_law_grant" ["home"] (spGrantM K)) (G_law_pushed : GFn P w K mg base 1 "_law_pushed" ["m", "page"] (spPushM K)) : FnOk P w K mg base (L2.CX P w) 2 f fd ["m", "message"] (spAnsweredM K) := by
  refine okT F sc_law_answered (fun vs H Q E h => ?_) (fun cdv A' outer s H vs Q E hr tk hp h => ?_)
  · obtain ⟨B, S, v, m, rfl, _⟩ := h
    rfl
  · obtain ⟨B, S, v, m, rfl, q0, ⟨t, its, rfl, ht0, hits⟩, wf, ho, hm, hwl, k⟩ := h
    have hm4 := wf.m4
    refine ⟨_, (pss_cons (ps_asg (pe_tup (pa_cons (pe_ix (k_ixT K (by rfl)) (pv 1) pe_int (fun _ _ => rfl)) (pa_cons (pe_ix (k_ixT K (by rfl)) (pv 1) pe_int (fun _ _ => rfl)) (pa_cons (pe_ix (k_ixT K (by rfl)) (pv 1) pe_int (fun _ _ => rfl)) (pa_cons (pe_ix (k_ixT K (by rfl)) (pv 1) pe_int (fun _ _ => rfl)) pa_nil))))) (pg_tup rfl (pgs_cons (pg_name (i := 2) sc_law_answered.nd rfl (by first | exact Or.inl rfl | exact Or.inr rfl)) (pgs_cons (pg_name (i := 3) sc_law_answered.nd rfl (by first | exact Or.inl rfl | exact Or.inr rfl)) (pgs_cons (pg_name (i := 4) sc_law_answered.nd rfl (by first | exact Or.inl rfl | exact Or.inr rfl)) (pgs_cons (pg_name (i := 5) sc_law_answered.nd rfl (by first | exact Or.inl rfl | exact Or.inr rfl)) pgs_nil)))))) (pss_cons (ps_set (i := 6) sc_law_answered.nd rfl (by first | exact Or.inl rfl | exact Or.inr rfl) (pe_ix (k_ixL K (by rfl)) (pe_dget (hu_of hr) (pv 0) pe_str (fun _ _ => rfl)) (pv 4) (fun _ _ => rfl))) (pss_cons (ps_if (PW.pt (pw_or (pt_cmpR op_isN (pe_dget (hu_of hr) (pv 6) pe_str (fun _ _ => rfl)) pe_non (nomark _)) (pw_or1 (pt_cmpR op_ne (pv 5) (pe_dget (hu_of hr) (pv 6) pe_str (fun _ _ => rfl)) (nomark _))))) (pss_one ps_retN) pss_nil) (pss_one (ps_if (pt_cmpR op_eq (pv 3) pe_str (nomark _)) (pss_one (ps_if (PW.pt (pw_and (pt_cmpR op_eq (pv 2) (pe_dget (hu_of hr) (pv 6) pe_str (fun _ _ => rfl)) (nomark _)) (pw_and1 (pt_cmpR (op_eqE (Nat.lt_of_succ_lt (hu_of hr))) (pe_dget (hu_of hr) (pv 6) pe_str (fun _ _ => rfl)) pe_dnewK (nomark _))))) (pss_one (ps_asg (pe_tup (pa_cons pe_non (pa_cons pe_non pa_nil))) (pg_tup rfl (pgs_cons (pg_sub (pv 6) pe_str (set_dict (hu_of hr))) (pgs_cons (pg_sub (pv 6) pe_str (set_dict (hu_of hr))) pgs_nil))))) pss_nil)) (pss_one (ps_if (pt_cmp (pc_din (hu_of hr) (pv 2) (pe_dget (hu_of hr) (pv 6) pe_str (fun _ _ => rfl))) rfl) (C8.pss_cut (ps_if (pt_cmpR op_eq (pe_dget (hu_of hr) (pv 6) pe_str (fun _ _ => rfl)) (pv 2) (nomark _)) (pss_one (ps_asg (pe_tup (pa_cons pe_non (pa_cons (pe_ix (k_ixT K (by rfl)) (pv 1) pe_int (fun _ _ => rfl)) pa_nil))) (pg_tup rfl (pgs_cons (pg_sub (pv 6) pe_str (set_dict (hu_of hr))) (pgs_cons (pg_sub (pv 6) pe_str (set_dict (hu_of hr))) pgs_nil))))) pss_nil) (C8.pss_cut (ps_dput (hu_of hr) (pv 6) pe_str (pe_callB (k_sorted K (by rfl)) (by rfl) T.n_sorted (by decide +kernel) (pa_cons (pe_op op_cat (pe_lc (own := [("own", 7)]) (g := gName 7) (by rfl) sc_law_answered.nd (k_piL K (by rfl) (pi_list (pe_dget (hu_of hr) (pv 6) pe_str (fun _ _ => rfl)))) (blkOk_by (own := [("own", 7)]) (N := N_law_answered) (sc := defScope s_law_answered) (by decide +kernel)) (fun _ _ _ _ _ => pg_name (i := 7) sc_law_answered.nd rfl (by first | exact Or.inl rfl | exact Or.inr rfl)) (fun _ _ _ _ _ => by exact pts_one (pt_cmpR op_ne (pv 7) (pv 2) (nomark _))) (fun _ _ _ _ _ => by exact (pv 7))) (pe_op op_rep (pe_lst (pa_cons (pv 2) pa_nil)) (pe_callTy call_int1 (by rfl) T.n_int (by decide +kernel) (pa_cons (pe_cmpR op_eq (pe_dget (hu_of hr) (pe_dget (hu_of hr) (pv 6) pe_str (fun _ _ => rfl)) (pv 2) (fun _ _ => rfl)) pe_str (nomark _)) pa_nil)))) pa_nil)) rfl) (pss_cons (ps_expr (pe_dpop1 (pe_dget (hu_of hr) (pv 6) pe_str (fun _ _ => rfl)) (pv 2) ⟨rfl, rfl, rfl, rfl⟩)) (pss_one (ps_if (pt_cmpR (op_eqE (Nat.lt_of_succ_lt (hu_of hr))) (pe_dget (hu_of hr) (pv 6) pe_str (fun _ _ => rfl)) pe_dnewK (nomark _)) (pss_cons (ps_expr (pe_cl G_law_grant (hr.mono (by decide)) tk (pa_cons (pv 6) pa_nil))) (pss_one (ps_expr (pe_cl G_law_pushed (hr.mono (by decide)) tk (pa_cons (pv 0) (pa_cons (pv 4) pa_nil)))))) pss_nil))))) pss_nil))))))), ?_⟩
    cases m with
    | ask => exact hm.elim
    | put => exact hm.elim
    | grant => exact hm.elim
    | given n y p num ws =>
      obtain ⟨t6, rfl, ht6⟩ := hits
      have hp' : p < S.pages := ho.2.1
      have hn4 : n < S.many := ho.1
      refine ⟨_, rfl, t, _, 0, _, rfl, rfl, ht0, rfl, _, rfl, t, _, 2, _, rfl, rfl, ht0, rfl, _, rfl, t, _, 3, _, rfl, rfl, ht0, rfl, _, rfl, t, _, 4, _, rfl, rfl, ht0, rfl, (by show 4 ≤ sizeLine; decide), fun t1 ht1 => ?_⟩
      refine ⟨t1, _, rfl, SqT.of upd_same, rfl, _, _, rfl, _, _, rfl, _, _, rfl, _, _, rfl, rfl, ?_⟩
      have k1 := Kp.new (o := .tup [V.int (n : Int), .str "given", .int (p : Int), .int num]) ht1
      have c1 := Cm.of0 q0 k1
      have ht := k1.sqT ht0
      have ht6' := k1.sqT ht6
      generalize upd H t1 (.tup [V.int (n : Int), .str "given", .int (p : Int), .int num]) = H1 at *
      have q := c1.at_
      have qm := q.hm p hp'
      obtain ⟨tw1, h1, htw1⟩ := qm.ob
      have wh := wf.hm p
      refine ⟨_, rfl, B.m, _, rfl, mG_homes q.ob, _, rfl, B.lh, _, _, _, rfl, rfl, SqL.of q.lh, atI_nat (v := .ref (B.home p)) (by simp [hp']), ?_⟩
      have out : ¬ ((S.homes p).asker ≠ none ∧ num = (S.homes p).number ∧ (S.homes p).waits n ≠ none) → Q .non H1 := fun z => by
        refine k H1 B ?_
        show Cm K H B S H1 B (givenS S n p num ws)
        rw [givenS, if_neg z]
        exact c1
      refine ⟨_, rfl, B.home p, _, rfl, hG_asker h1, rfl, _, rfl, ?_⟩
      refine ite_of (fun e => ?_) (fun e => ?_)
      · refine iteT (out fun z => z.1 ?_)
        cases hq : (S.homes p).asker with
        | none => rfl
        | some m => rw [hq] at e; cases e
      obtain ⟨mm, ha⟩ : ∃ m, (S.homes p).asker = some m := by
        cases hq : (S.homes p).asker with
        | none => rw [hq] at e; cases e
        | some m => exact ⟨m, rfl⟩
      refine ⟨_, rfl, _, rfl, B.home p, _, rfl, hG_number h1, rfl, _, rfl, ?_⟩
      refine ite_of (fun e => ?_) (fun e => ?_)
      · refine out fun z => ?_
        have e' : (!decide (V.int num = .int (S.homes p).number)) = true := e
        rw [z.2.1] at e'
        simp at e'
      have hnum : num = (S.homes p).number := by
        have e' : (!decide (V.int num = .int (S.homes p).number)) = false := e
        simp at e'
        exact e'
      refine ⟨_, rfl, rfl, _, rfl, iteF ?_⟩
      obtain ⟨kw, hw1, hwl1, hwv1⟩ := qm.wa.few
      refine ⟨_, rfl, _, rfl, B.home p, _, rfl, hG_waits h1, B.wt p, _, rfl, DGet.k (k := Sum.inl (n : Int)) hw1, _, rfl, ?_⟩
      rw [hwv1 n]
      refine ite_of (fun e => ?_) (fun e => ?_)
      · obtain ⟨wd, hwd⟩ : ∃ wd, (S.homes p).waits n = some wd := by
          cases hq : (S.homes p).waits n with
          | none => rw [hq] at e; cases e
          | some wd => exact ⟨wd, rfl⟩
        have hwn : (S.homes p).waits n ≠ none := by rw [hwd]; exact fun z => nomatch z
        have cc : (S.homes p).asker ≠ none ∧ num = (S.homes p).number ∧ (S.homes p).waits n ≠ none := ⟨by rw [ha]; exact (fun z => nomatch z), hnum, hwn⟩
        have muH : ∀ b ∈ [B.home p, B.wt p, B.sv p], Mut (H1 b) := fun b hb => by
          simp only [List.mem_cons, List.not_mem_nil, or_false] at hb
          rcases hb with rfl | rfl | rfl
          · rw [h1]; exact True.intro
          · exact qm.wa.mut
          · exact qm.se.mut
        have kof : ∀ {HX HY : Hp}, Kp [B.home p, B.wt p, B.sv p] H1 HX → Kp [B.home p] HX HY → Kp [B.home p, B.wt p, B.sv p] H1 HY := fun a b => a.trans b fun z hz => .inl (by rw [List.mem_singleton.mp hz]; simp)
        have kr : Kp [B.home p, B.wt p, B.sv p] H1 H1 := (Kp.refl _).wide (fun b h => nomatch h) muH
        obtain ⟨sl, hsl'⟩ : ∃ sl : L2.St, sl = [some (.ref B.m), some (.ref t), some (.int (n : Int)), some (.str "given"), some (.int (p : Int)), some (.int num), some (.ref (B.home p)), none] := ⟨_, rfl⟩
        have ewr : decide (nV (S.homes p).writer = .int (n : Int)) = decide ((S.homes p).writer = some n) := by
          cases (S.homes p).writer with
          | none => exact decide_eq_decide.mpr ⟨(fun z => nomatch z), (fun z => nomatch z)⟩
          | some m => exact decide_eq_decide.mpr ⟨fun z => by have := V.int.inj z; rw [show m = n by omega], fun z => by rw [Option.some.inj z]; rfl⟩
        -- its writer gives back
        refine ⟨MidA K B p S.many H1 sl (given1 (S.homes p) n ws), ?_, ?_⟩
        · refine ⟨_, rfl, B.home p, _, rfl, hG_writer h1, _, rfl, by cases (S.homes p).writer <;> rfl, _, rfl, ?_⟩
          refine ite_of (fun e => ?_) (fun e => ?_)
          · have hw : (S.homes p).writer = some n := of_decide_eq_true (ewr.symm.trans e)
            refine ⟨_, rfl, t, _, 5, _, rfl, rfl, ht, rfl, (by show 2 ≤ sizeLine; decide), fun t2 ht2 => ?_⟩
            have k2 := Kp.new (o := .tup [V.non, .ref t6]) ht2
            have e2 := k2.same _ _ h1
            refine ⟨t2, _, rfl, SqT.of upd_same, rfl, _, _, rfl, _, rfl, B.home p, _, rfl, .inl ⟨_, Sum.inr "writer", e2, rfl, hD_len, rfl⟩, ?_⟩
            rw [hD_p_writer]
            refine ⟨_, _, rfl, _, rfl, B.home p, _, rfl, .inl ⟨_, Sum.inr "words", upd_same, rfl, hD_len, rfl⟩, rfl, ?_⟩
            rw [hD_p_words, upd_upd]
            have eg : given1 (S.homes p) n ws = { S.homes p with writer := none, words := ws } := if_pos hw
            rw [eg]
            obtain ⟨z1, z2⟩ := qm.obj k2 (h' := { S.homes p with writer := none, words := ws }) (r' := B.rd p) (wt' := B.wt p) (tw' := t6) (k2.same _ _ qm.rd) (qm.wa.kp k2 (by simp)) rfl (k2.sqT ht6') qm.nd
            exact ⟨hsl'.symm, B.rd p, B.wt p, kof kr z2, z1, .inl rfl, .inl rfl⟩
          · have hw : ¬ (S.homes p).writer = some n := of_decide_eq_false (ewr.symm.trans e)
            have eg : given1 (S.homes p) n ws = S.homes p := if_neg hw
            rw [eg]
            exact ⟨hsl'.symm, B.rd p, B.wt p, kr, qm, .inl rfl, .inl rfl⟩
        rintro σ2 H2 ⟨rfl, r2, wt2, kk2, qm2, hr2, hw2⟩
        subst hsl'
        obtain ⟨sl, hsl'⟩ : ∃ sl : L2.St, sl = [some (.ref B.m), some (.ref t), some (.int (n : Int)), some (.str "given"), some (.int (p : Int)), some (.int num), some (.ref (B.home p)), none] := ⟨_, rfl⟩
        have gf : (given1 (S.homes p) n ws).waits = (S.homes p).waits ∧ (given1 (S.homes p) n ws).asker = (S.homes p).asker := by unfold given1; split <;> exact ⟨rfl, rfl⟩
        obtain ⟨g, hg⟩ : ∃ g, g = given1 (S.homes p) n ws := ⟨_, rfl⟩
        rw [← hg] at qm2 gf
        have hgw : g.waits n = some wd := by rw [gf.1]; exact hwd
        have hga : g.asker = some mm := by rw [gf.2]; exact ha
        obtain ⟨tw3, h3, htw3⟩ := qm2.ob
        -- its readers
        refine ⟨MidA K B p S.many H1 sl (giv3 g n), ?_, ?_⟩
        · have hlr : (rdL S.many g).length ≤ 4 := by
            refine Nat.le_trans (List.length_filter_le _ _) ?_
            rw [List.length_range]
            exact hm4
          refine ⟨_, rfl, B.home p, _, rfl, hG_readers h3, r2, rfl, ⟨_, SqL.of qm2.rd⟩, fun D hD => ?_⟩
          have hlen : ((rdL S.many g).map fun n : Nat => V.int (n : Int)).length = (rdL S.many g).length := by simp
          refine lc_pure walk_list (by rw [hlen]; exact small1000 (by omega)) hD (fun j => decide ((rdL S.many g).getD j 0 ≠ n)) (fun j v _ => v = .int (((rdL S.many g).getD j 0 : Nat) : Int)) (fun j v H H' _ r => r) (fun H k => k.sqL0 (SqL.of qm2.rd)) ?_ ?_
          · rintro j y H5 H6 hj k5 ⟨rfl, hy⟩ N F' hN hF
            obtain ⟨m, hm1, rfl⟩ := map_at (g := fun j : Nat => V.int (j : Int)) hy
            have eg : (rdL S.many g).getD j 0 = m := by rw [List.getD_eq_getElem?_getD, hm1]; rfl
            refine ⟨rfl, _, rfl, _, rfl, rfl, _, rfl, ?_⟩
            have en : (!decide (V.int (m : Int) = .int (n : Int))) = decide ((rdL S.many g).getD j 0 ≠ n) := by
              rw [eg, Bool.eq_iff_iff]
              simp only [Bool.not_eq_true', decide_eq_false_iff_not, decide_eq_true_eq]
              exact ⟨fun z q => z (by rw [q]), fun z q => z (by have := V.int.inj q; omega)⟩
            refine ite_of (fun e => ?_) (fun e => ?_)
            · exact ⟨_, rfl, hN _ _ (en.symm.trans e) (Kp.refl _) (by rw [eg])⟩
            · exact hF _ (en.symm.trans e) (Kp.refl _)
          · intro H3 acc k3 hacc pr
            rw [hlen] at pr
            have eacc : acc = ((rdL S.many g).filter fun j => decide (j ≠ n)).map fun j : Nat => V.int (j : Int) := (Paired.eqs pr).trans (filt_getD (fun j => decide (j ≠ n)) (fun j : Nat => V.int (j : Int)) (rdL S.many g))
            have hx3 := k3.same _ _ h3
            refine ⟨_, rfl, (by show 1 ≤ sizeLine; decide), fun l2 hl2 => ?_⟩
            have k4 := Kp.new (o := .lst [V.int (n : Int)]) hl2
            have hx4 := k4.same _ _ hx3
            obtain ⟨kw4, hw4, _, hwv4⟩ := ((qm2.wa.kp k3 (by simp)).kp k4 (by simp)).few
            refine ⟨_, rfl, B.home p, _, rfl, hG_waits hx4, _, rfl, wt2, .str wd.s, rfl, (by
              have z := DGet.k (k := Sum.inl (n : Int)) hw4
              rw [hwv4 n, hgw] at z
              exact z), by cases wd <;> rfl, .inr ⟨_, rfl, l2, _, [V.int (n : Int)], rfl, rfl, upd_same, ?_, ?_, ?_, fun l3 hl3 => ?_⟩⟩
            · split <;> decide
            · split <;> decide
            · exact Nat.le_trans (show _ ≤ 1 by split <;> simp) (by decide)
            have es : decide (V.str wd.s = .str "share") = decide (wd = .sh) := by cases wd <;> decide +kernel
            obtain ⟨nl, hnl⟩ : ∃ nl : List Nat, nl = if wd = .sh then [n] else [] := ⟨_, rfl⟩
            have enl : (List.replicate ((if decide (V.str wd.s = .str "share") = true then 1 else 0 : Int)).toNat [V.int (n : Int)]).flatten = nl.map fun j : Nat => V.int (j : Int) := by
              rw [es, hnl]
              cases wd <;> rfl
            rw [enl]
            have k5 := Kp.new (o := .lst (nl.map fun j : Nat => V.int (j : Int))) hl3
            have nle : nl.length ≤ 1 := by rw [hnl]; split <;> simp
            refine ⟨D, l3, acc, _, rfl, rfl, k5.same _ _ (k4.same _ _ hacc), upd_same, ?_, fun l4 hl4 => ?_⟩
            · rw [eacc, List.length_map, List.length_map]
              have := List.length_filter_le (fun j => decide (j ≠ n)) (rdL S.many g)
              exact Nat.le_trans (show _ ≤ 5 by omega) (by decide)
            · have k6 := Kp.new (o := .lst (acc ++ nl.map fun j : Nat => V.int (j : Int))) hl4
              have ns : acc ++ nl.map (fun j : Nat => V.int (j : Int)) = ((((rdL S.many g).filter fun j => decide (j ≠ n)) ++ nl).map fun n : Nat => (n : Int)).map V.int := by
                rw [eacc, List.map_append, List.map_append, List.map_map, List.map_map]
                rfl
              refine ⟨l4, ((((rdL S.many g).filter fun j => decide (j ≠ n)) ++ nl).map fun n : Nat => (n : Int)), rfl, ?_, ?_, fun ys l5 hperm hsort hl5 => ?_⟩
              · rw [← ns]; exact SqL.of upd_same
              · rw [List.length_map, List.length_append]
                have := List.length_filter_le (fun j => decide (j ≠ n)) (rdL S.many g)
                omega
              · have ndr : (rdL S.many g).Nodup := List.Pairwise.filter _ List.nodup_range
                have mnl : ∀ j, j ∈ nl ↔ j = n ∧ wd = .sh := fun j => by
                  rw [hnl]
                  by_cases c : wd = .sh
                  · rw [if_pos c, List.mem_singleton]; exact ⟨fun z => ⟨z, c⟩, fun z => z.1⟩
                  · rw [if_neg c]; exact ⟨fun z => (nomatch z), fun z => absurd z.2 c⟩
                have e : ys = (rdL S.many (giv3 g n)).map fun n : Nat => (n : Int) := by
                  refine sortedB (ks := ((rdL S.many g).filter fun j => decide (j ≠ n)) ++ nl) ?_ (fun j => ?_) hperm hsort
                  · rw [List.nodup_append]
                    refine ⟨List.Pairwise.filter _ ndr, by rw [hnl]; split <;> simp, fun a ha b hb e => ?_⟩
                    have h1 := (List.mem_filter.mp ha).2
                    rw [((mnl b).mp hb).1] at e
                    simp [e] at h1
                  · rw [List.mem_append, List.mem_filter, mnl]
                    unfold rdL
                    rw [List.mem_filter, List.mem_range, decide_eq_true_eq]
                    show _ ↔ j < S.many ∧ (if j = n then decide (g.waits n = some .sh) else g.readers j) = true
                    by_cases c : j = n
                    · rw [if_pos c, hgw, decide_eq_true_eq]
                      exact ⟨fun z => ⟨by rw [c]; exact hn4, z.elim (fun y => absurd c y.2) fun y => by rw [y.2]⟩, fun z => .inr ⟨c, Option.some.inj z.2⟩⟩
                    · rw [if_neg c]
                      exact ⟨fun z => z.elim (fun y => y.1) fun y => absurd y.1 c, fun z => .inl ⟨z, c⟩⟩
                subst e
                have k7 := Kp.new (o := .lst (((rdL S.many (giv3 g n)).map fun n : Nat => (n : Int)).map V.int)) hl5
                have kk := (((k3.trans0 k4).trans0 k5).trans0 k6).trans0 k7
                have hx7 := kk.same _ _ h3
                refine ⟨_, rfl, B.home p, _, rfl, .inl ⟨_, Sum.inr "readers", hx7, rfl, hD_len, rfl⟩, ?_⟩
                rw [hD_p_readers]
                obtain ⟨z1, z2⟩ := qm2.obj kk (h' := giv3 g n) (r' := l5) (wt' := wt2) (tw' := tw3) (by rw [upd_same, List.map_map]; rfl) (qm2.wa.kp kk (by simp)) rfl (kk.sqT htw3) qm2.nd
                exact ⟨hsl'.symm, l5, wt2, kof kk2 z2, z1, .inr (kk2.fr _ (k3.fr _ (k4.fr _ (k5.fr _ (k6.fr _ hl5))))), hw2⟩
        rintro σ3 H3 ⟨rfl, r3, wt3, kk3, qm3, hr3, hw3⟩
        subst hsl'
        obtain ⟨tw4, h4, htw4⟩ := qm3.ob
        obtain ⟨kw4, hw4, hwl4, hwv4⟩ := qm3.wa.few
        have dn4 := DN.drop hw4 qm3.wa n
        have fe : (fun j => if j = n then none else ((giv3 g n).waits j).map fun w => V.str w.s) = fun j => ((given2 g n).waits j).map fun w => V.str w.s := by
          funext j
          show _ = ((if j = n then none else g.waits j : Option Wd)).map fun w => V.str w.s
          by_cases c : j = n
          · rw [if_pos c, if_pos c]; rfl
          · rw [if_neg c, if_neg c]; rfl
        rw [fe] at dn4
        obtain ⟨qm5, k5⟩ := qm3.waP (h' := given2 g n) dn4 rfl
        have kk5 : Kp [B.home p, B.wt p, B.sv p] H1 (upd H3 wt3 (.dK (dropK kw4 (Sum.inl (n : Int))))) := kk3.trans k5 fun b hb => by
          rw [List.mem_singleton.mp hb]
          exact hw3.imp (fun z => by rw [z]; simp) fun z => z
        refine ⟨_, rfl, B.home p, _, rfl, hG_waits h4, wt3, rfl, .inl ⟨kw4, .inl hw4⟩, _, rfl, kw4, Sum.inl (n : Int), .str wd.s, hw4, rfl, by rw [hwv4 n]; show (g.waits n).map _ = _; rw [hgw]; rfl, ?_⟩
        generalize upd H3 wt3 (.dK (dropK kw4 (Sum.inl (n : Int)))) = H5 at *
        obtain ⟨tw6, h6, htw6⟩ := qm5.ob
        obtain ⟨kw6, hw6, hwl6, hwz6, hwv6⟩ := qm5.wa.len0
        refine ⟨_, rfl, B.home p, _, rfl, hG_waits h6, fun d hd => ⟨wt3, d, kw6, rfl, rfl, (Kp.new (o := .dK []) hd).same _ _ hw6, upd_same, _, rfl, ?_⟩⟩
        have kd1 := Kp.new (o := .dK []) hd
        have qm6 := qm5.kp kd1 (by simp) (by simp) (by simp) (by simp)
        have ez : kw6.isEmpty = noWaits S.many (given2 g n) := by
          rw [← hwz6]
          cases kw6 with
          | nil => rfl
          | cons x l => exact (decide_eq_false (by simp; omega)).symm
        have g2a : (given2 g n).asker = some mm := hga
        refine ite_of (fun e => ?_) (fun e => ?_)
        · have hz : noWaits S.many (given2 g n) = true := ez.symm.trans e
          have eG : givenH S.many (S.homes p) n ws = grantH (given2 g n) := by
            unfold givenH
            rw [← hg, if_pos hz]
          have gg : granting S.many (grantH (given2 g n)) = true := by
            obtain ⟨f1, f2, f3, f4, f5⟩ := grantH_same (given2 g n)
            unfold granting noWaits
            rw [f2, f4, g2a]
            exact hz
          refine ⟨_, rfl, B.home p, r3, wt3, B.sv p, S.many, _, mm, rfl, qm6, g2a, (wh.as_ mm ha).1, hm4, fun H7 r' k7 qm7 hr' => ?_⟩
          have c7 := c1.trans (Cm.home q hp' (kof (kk5.trans0 kd1) k7) qm7 (.inr (kk5.fr _ (kd1.fr _ hr'))) hw3)
          refine ⟨_, rfl, _, rfl, B.put p r' wt3, _, p, rfl, c7.at_, hp', hm4, hwl, fun m hm => ?_, fun H8 c8 => k H8 (B.put p r' wt3) ?_⟩
          · rw [setHome_same'] at hm ⊢
            have f3 := (givenH_same S.many (S.homes p) n ws).2.2.1
            rw [eG] at f3
            rw [f3]
            exact (wh.as_ mm ha).2.1
          · show Cm K H B S H8 _ (givenS S n p num ws)
            rw [givenS, if_pos cc, eG, if_pos gg]
            have z := c7.trans c8
            rw [setHome_same'] at z
            exact z
        · have hz : ¬ noWaits S.many (given2 g n) = true := by rw [ez.symm.trans e]; decide
          have eG : givenH S.many (S.homes p) n ws = given2 g n := by
            unfold givenH
            rw [← hg, if_neg hz]
          have gg : ¬ granting S.many (given2 g n) = true := fun z => by
            rw [granting, Bool.and_eq_true] at z
            exact hz z.2
          refine k _ (B.put p r3 wt3) ?_
          show Cm K H B S _ _ (givenS S n p num ws)
          rw [givenS, if_pos cc, eG, if_neg gg, List.append_nil]
          exact c1.trans (Cm.home q hp' (kk5.trans0 kd1) qm6 hr3 hw3)
      · refine out fun z => z.2.2 ?_
        cases hq : (S.homes p).waits n with
        | none => rfl
        | some m => rw [hq] at e; cases e
    | have_ n y p num =>
      obtain rfl : its = _ := hits
      have hp' : p < S.pages := ho.2
      refine ⟨_, rfl, t, _, 0, _, rfl, rfl, ht0, rfl, _, rfl, t, _, 2, _, rfl, rfl, ht0, rfl, _, rfl, t, _, 3, _, rfl, rfl, ht0, rfl, _, rfl, t, _, 4, _, rfl, rfl, ht0, rfl, (by show 4 ≤ sizeLine; decide), fun t1 ht1 => ?_⟩
      refine ⟨t1, _, rfl, SqT.of upd_same, rfl, _, _, rfl, _, _, rfl, _, _, rfl, _, _, rfl, rfl, ?_⟩
      have k1 := Kp.new (o := .tup [V.int (n : Int), .str "have", .int (p : Int), .int num]) ht1
      have c1 := Cm.of0 q0 k1
      generalize upd H t1 (.tup [V.int (n : Int), .str "have", .int (p : Int), .int num]) = H1 at *
      have q := c1.at_
      have qm := q.hm p hp'
      obtain ⟨tw1, h1, htw1⟩ := qm.ob
      have wh := wf.hm p
      refine ⟨_, rfl, B.m, _, rfl, mG_homes q.ob, _, rfl, B.lh, _, _, _, rfl, rfl, SqL.of q.lh, atI_nat (v := .ref (B.home p)) (by simp [hp']), ?_⟩
      have out : ∀ HX, Kp [] H1 HX → ¬ ((S.homes p).asker = some n ∧ num = (S.homes p).number ∧ granting S.many (S.homes p) = true) → Q .non HX := fun HX kX z => by
        refine k HX B ?_
        show Cm K H B S HX B (hadS S n p num)
        rw [hadS, if_neg z]
        exact c1.trans0' kX
      refine ⟨_, rfl, B.home p, _, rfl, hG_asker h1, rfl, _, rfl, ?_⟩
      refine ite_of (fun e => ?_) (fun e => ?_)
      · refine iteT (out H1 (Kp.refl _) fun z => ?_)
        rw [z.1] at e
        cases e
      refine ⟨_, rfl, _, rfl, B.home p, _, rfl, hG_number h1, rfl, _, rfl, ?_⟩
      refine ite_of (fun e => ?_) (fun e => ?_)
      · refine out H1 (Kp.refl _) fun z => ?_
        have e' : (!decide (V.int num = .int (S.homes p).number)) = true := e
        rw [z.2.1] at e'
        simp at e'
      have hnum : num = (S.homes p).number := by
        have e' : (!decide (V.int num = .int (S.homes p).number)) = false := e
        simp at e'
        exact e'
      refine ⟨_, rfl, rfl, _, rfl, iteT ?_⟩
      refine ⟨_, rfl, _, rfl, B.home p, _, rfl, hG_asker h1, by cases (S.homes p).asker <;> rfl, _, rfl, ?_⟩
      have en : decide (V.int (n : Int) = nV (S.homes p).asker) = decide ((S.homes p).asker = some n) := by
        cases (S.homes p).asker with
        | none => exact decide_eq_decide.mpr ⟨(fun z => nomatch z), (fun z => nomatch z)⟩
        | some m => exact decide_eq_decide.mpr ⟨fun z => by have := V.int.inj z; rw [show m = n by omega], fun z => by rw [Option.some.inj z]; rfl⟩
      refine ite_of (fun e => ?_) (fun e => ?_)
      · have ha : (S.homes p).asker = some n := of_decide_eq_true (en.symm.trans e)
        obtain ⟨kw6, hw6, hwl6, hwz6, hwv6⟩ := qm.wa.len0
        refine ⟨_, rfl, B.home p, _, rfl, hG_waits h1, fun d hd => ⟨B.wt p, d, kw6, rfl, rfl, (Kp.new (o := .dK []) hd).same _ _ hw6, upd_same, _, rfl, ?_⟩⟩
        have kd1 := Kp.new (o := .dK []) hd
        have ez : kw6.isEmpty = noWaits S.many (S.homes p) := by
          rw [← hwz6]
          cases kw6 with
          | nil => rfl
          | cons x l => exact (decide_eq_false (by simp; omega)).symm
        refine ite_of (fun e => ?_) (fun e => ?_)
        · have hg : granting S.many (S.homes p) = true := by
            rw [granting, ha, ← ez, e]
            rfl
          refine ⟨(by show 2 ≤ sizeLine; decide), fun t2 ht2 => ?_⟩
          have k2 := kd1.trans0 (Kp.new (o := .tup [V.non, .non]) ht2)
          have e1 := k2.same _ _ h1
          refine ⟨t2, _, rfl, SqT.of upd_same, rfl, _, _, rfl, _, rfl, B.home p, _, rfl, .inl ⟨_, Sum.inr "asker", e1, rfl, hD_len, rfl⟩, ?_⟩
          rw [hD_p_asker]
          refine ⟨_, _, rfl, _, rfl, B.home p, _, rfl, .inl ⟨_, Sum.inr "kind", upd_same, rfl, hD_len, rfl⟩, rfl, ?_⟩
          rw [hD_p_kind, upd_upd]
          obtain ⟨z1, z2⟩ := qm.obj k2 (h' := freeH (S.homes p)) (r' := B.rd p) (wt' := B.wt p) (tw' := tw1) (k2.same _ _ qm.rd) (qm.wa.kp k2 (by simp)) rfl (k2.sqT htw1) qm.nd
          refine k _ (B.put p (B.rd p) (B.wt p)) ?_
          show Cm K H B S _ _ (hadS S n p num)
          rw [hadS, if_pos ⟨ha, hnum, hg⟩]
          refine c1.trans (Cm.home q hp' (z2.wide (fun b hb => by rw [List.mem_singleton.mp hb]; simp) (fun b hb => ?_)) z1 (.inl rfl) (.inl rfl))
          simp only [List.mem_cons, List.not_mem_nil, or_false] at hb
          rcases hb with rfl | rfl | rfl
          · rw [h1]; exact True.intro
          · exact qm.wa.mut
          · exact qm.se.mut
        · refine out _ kd1 fun z => ?_
          rw [granting, ha, ← ez, e] at z
          cases z.2.2
      · refine out H1 (Kp.refl _) fun z => ?_
        have := en.symm.trans e
        rw [z.1] at this
        simp at this
end
end K57
set_option Elab.async false
set_option linter.all false
set_option maxRecDepth 100000
set_option maxHeartbeats 4000000
/-! K57Xg: the law's nodes follow. -/
namespace K57
open PySem L2 AB
def spFollowM (K : PySem.W.Frag) : Sp := fun vs H Q _ => ∃ (B : MAd) (S : Sy) (v : V) (m : Msg), vs = [.ref B.m, v] ∧ ModAt K H B S ∧ MV K H v m ∧ WF S ∧ okM S.many S.pages m ∧ isCall m ∧ S.way.length + 10 < 100000 ∧ ∀ H', Cm K H B S H' B (comeS S m) → Q .non H'
section
variable {P : Program} {w : World} {K : PySem.W.Frag} {mg : Str → Option Value} {base : Heap} {a : Ad} {f : Addr} {fd : FuncData}
theorem ok_law_follow (F : Fun K "_law_follow" "_law_follow" s_law_follow f fd) (T : Txt K mg a) : FnOk P w K mg base (L2.CX P w) 1 f fd ["m", "message"] (spFollowM K) := by
  refine okT F sc_law_follow (fun vs H Q E h => ?_) (fun cdv A' outer s H vs Q E hr tk hp h => ?_)
  · obtain ⟨B, S, v, m, rfl, _⟩ := h
    rfl
  · obtain ⟨B, S, v, m, rfl, q0, ⟨t, its, rfl, ht0, hits⟩, wf, ho, hm, hwl, k⟩ := h
    refine ⟨_, (pss_cons (ps_asg (pe_tup (pa_cons (pe_ix (k_ixT K (by rfl)) (pv 1) pe_int (fun _ _ => rfl)) (pa_cons (pe_ix (k_ixT K (by rfl)) (pv 1) pe_int (fun _ _ => rfl)) (pa_cons (pe_ix (k_ixT K (by rfl)) (pv 1) pe_int (fun _ _ => rfl)) (pa_cons (pe_ix (k_ixT K (by rfl)) (pv 1) pe_int (fun _ _ => rfl)) (pa_cons (pe_ix (k_ixT K (by rfl)) (pv 1) pe_int (fun _ _ => rfl)) pa_nil)))))) (pg_tup rfl (pgs_cons (pg_name (i := 2) sc_law_follow.nd rfl (by first | exact Or.inl rfl | exact Or.inr rfl)) (pgs_cons (pg_name (i := 3) sc_law_follow.nd rfl (by first | exact Or.inl rfl | exact Or.inr rfl)) (pgs_cons (pg_name (i := 4) sc_law_follow.nd rfl (by first | exact Or.inl rfl | exact Or.inr rfl)) (pgs_cons (pg_name (i := 5) sc_law_follow.nd rfl (by first | exact Or.inl rfl | exact Or.inr rfl)) (pgs_cons (pg_name (i := 6) sc_law_follow.nd rfl (by first | exact Or.inl rfl | exact Or.inr rfl)) pgs_nil))))))) (pss_cons (ps_set (i := 7) sc_law_follow.nd rfl (by first | exact Or.inl rfl | exact Or.inr rfl) (pe_ix (k_ixL K (by rfl)) (pe_ix (k_ixL K (by rfl)) (pe_dget (hu_of hr) (pv 0) pe_str (fun _ _ => rfl)) (pv 3) (fun _ _ => rfl)) (pv 5) (fun _ _ => rfl))) (C8.pss_cut (ps_if (pt_cmpR op_gt (pv 6) (pe_dget (hu_of hr) (pv 7) pe_str (fun _ _ => rfl)) (nomark _)) (pss_cons (ps_dput (hu_of hr) (pv 7) pe_str (pv 6) rfl) (pss_one (ps_if (pt_cmpR (k_in K (by rfl)) (pv 4) (pe_lst (pa_cons pe_str (pa_cons pe_str pa_nil))) (by rfl)) (pss_cons (ps_dput (hu_of hr) (pv 7) pe_str (pe_ifExp (pt_cmpR op_eq (pv 4) pe_str (nomark _)) pe_non pe_str) rfl) (pss_one (ps_dput (hu_of hr) (pv 7) pe_str (pe_tup (pa_cons (pv 3) (pa_cons (pv 2) (pa_cons pe_str (pa_cons (pv 5) (pa_cons (pv 6) (pa_cons (pe_dget (hu_of hr) (pv 7) pe_str (fun _ _ => rfl)) pa_nil))))))) rfl))) (pss_cons (ps_asg (pe_tup (pa_cons (pv 4) (pa_cons (pe_ix (k_ixT K (by rfl)) (pv 1) pe_int (fun _ _ => rfl)) (pa_cons (pe_tup (pa_cons (pv 3) (pa_cons (pv 2) (pa_cons pe_str (pa_cons (pv 5) (pa_cons (pv 6) pa_nil)))))) pa_nil)))) (pg_tup rfl (pgs_cons (pg_sub (pv 7) pe_str (set_dict (hu_of hr))) (pgs_cons (pg_sub (pv 7) pe_str (set_dict (hu_of hr))) (pgs_cons (pg_sub (pv 7) pe_str (set_dict (hu_of hr))) pgs_nil))))) (pss_one (ps_dput (hu_of hr) (pv 7) pe_str (pe_ifExp (PW.pt (pw_or (pt_cmpR op_eq (pe_dget (hu_of hr) (pv 7) pe_str (fun _ _ => rfl)) pe_str (nomark _)) (pw_or1 (pt_cmpR op_eq (pv 4) pe_str (nomark _))))) pe_non (pe_dget (hu_of hr) (pv 7) pe_str (fun _ _ => rfl))) rfl)))))) pss_nil) (pss_one (ps_if (pt_cmpR op_eq (pv 6) (pe_dget (hu_of hr) (pv 7) pe_str (fun _ _ => rfl)) (nomark _)) (pss_one (ps_expr (k_bm K (by rfl) (pe_bm PySem.F.plainAttrs_list PySem.F.slot_list_append PySem.F.type_list_append mt_append (pe_dget (hu_of hr) (pv 0) pe_str (fun _ _ => rfl))  (pa_cons (pe_dget (hu_of hr) (pv 7) pe_str (fun _ _ => rfl)) pa_nil))))) pss_nil))))), ?_⟩
    cases m with
    | ask => exact hm.elim
    | given => exact hm.elim
    | have_ => exact hm.elim
    | put y n p QQ wd =>
      obtain rfl : its = _ := hits
      have hn4 : n < S.many := ho.1
      have hp' : p < S.pages := ho.2.1
      have hq1 : 1 ≤ QQ := ho.2.2
      refine ⟨_, rfl, t, _, 0, _, rfl, rfl, ht0, rfl, _, rfl, t, _, 1, _, rfl, rfl, ht0, rfl, _, rfl, t, _, 2, _, rfl, rfl, ht0, rfl, _, rfl, t, _, 3, _, rfl, rfl, ht0, rfl, _, rfl, t, _, 4, _, rfl, rfl, ht0, rfl, (by show 5 ≤ sizeLine; decide), fun t1 ht1 => ?_⟩
      refine ⟨t1, _, rfl, SqT.of upd_same, rfl, _, _, rfl, _, _, rfl, _, _, rfl, _, _, rfl, _, _, rfl, rfl, ?_⟩
      have k1 := Kp.new (o := .tup [V.int (y : Int), .int (n : Int), .str wd.s, .int (p : Int), .int QQ]) ht1
      have c1 := Cm.of0 q0 k1
      have ht := k1.sqT ht0
      generalize upd H t1 (.tup [V.int (y : Int), .int (n : Int), .str wd.s, .int (p : Int), .int QQ]) = H1 at *
      have q := c1.at_
      obtain ⟨tw, va, h0, htw, hva⟩ := q.ho n p hn4 hp'
      obtain ⟨x, hxo⟩ : ∃ x, x = B.own n p := ⟨_, rfl⟩
      have mux : ∀ b ∈ [x], Mut (H1 b) := fun b hb => by rw [List.mem_singleton.mp hb, hxo, h0]; exact True.intro
      refine ⟨_, rfl, B.m, _, rfl, mG_held q.ob, _, rfl, B.ld, _, _, _, rfl, rfl, SqL.of q.ld, atI_nat (v := .ref (B.row n)) (by simp [hn4]), _, rfl, B.row n, _, _, _, rfl, rfl, SqL.of (q.rw n hn4), atI_nat (v := .ref (B.own n p)) (by simp [hp']), ?_⟩
      rw [← hxo] at h0 ⊢
      refine ⟨fun σ H' => σ = [some (.ref B.m), some (.ref t), some (.int (y : Int)), some (.int (n : Int)), some (.str wd.s), some (.int (p : Int)), some (.int QQ), some (.ref x)] ∧ Cm K H B S H' B (if QQ > (S.held n p).last then setHold S n p (putH (S.held n p) y n p QQ wd) else S), ?_, ?_⟩
      · refine ⟨_, rfl, _, rfl, x, _, rfl, oG_last h0, _, _, rfl, rfl, _, rfl, ?_⟩
        refine ite_of (fun e => ?_) (fun e => ?_)
        · have hg : QQ > (S.held n p).last := of_decide_eq_true e
          rw [if_pos hg]
          refine ⟨_, rfl, _, rfl, x, _, rfl, .inl ⟨_, Sum.inr "last", h0, rfl, oD_len, rfl⟩, ?_⟩
          rw [oD_p_last]
          have ka := Kp.set (p := x) (o := .dK (oD (kdV (S.held n p).mode) (.ref tw) (kdV (S.held n p).want) (.int (S.held n p).asked) (.int QQ) va)) (mux x (by simp))
          have ea : upd H1 x (.dK (oD (kdV (S.held n p).mode) (.ref tw) (kdV (S.held n p).want) (.int (S.held n p).asked) (.int QQ) va)) x = some (.dK (oD (kdV (S.held n p).mode) (.ref tw) (kdV (S.held n p).want) (.int (S.held n p).asked) (.int QQ) va)) := upd_same
          generalize upd H1 x (.dK (oD (kdV (S.held n p).mode) (.ref tw) (kdV (S.held n p).want) (.int (S.held n p).asked) (.int QQ) va)) = Ha at *
          refine ⟨_, rfl, (by show 2 ≤ sizeLine; decide), fun l hl => ⟨l, _, rfl, .inl (SqL.of upd_same), rfl, rfl, true, by cases wd <;> rfl, iteT ?_⟩⟩
          have kb := ka.trans0 (Kp.new (o := .lst [V.str "go", .str "share"]) hl)
          have eb := (Kp.new (o := .lst [V.str "go", .str "share"]) hl).same _ _ ea
          generalize upd Ha l (.lst [V.str "go", .str "share"]) = Hb at *
          have fin : ∀ mo : Option Kd, mo = (if wd = .go then none else some .r) → ∀ Hc, Hc = upd Hb x (.dK (oD (kdV mo) (.ref tw) (kdV (S.held n p).want) (.int (S.held n p).asked) (.int QQ) va)) → ∀ t3, Hc t3 = none → Cm K H B S (upd (upd Hc t3 (.tup [.int (n : Int), .int (y : Int), .str "given", .int (p : Int), .int QQ, .ref tw])) x (.dK (oD (kdV mo) (.ref tw) (kdV (S.held n p).want) (.int (S.held n p).asked) (.int QQ) (.ref t3)))) B (setHold S n p (putH (S.held n p) y n p QQ wd)) := by
            rintro mo hmo Hc rfl t3 ht3
            have kc := Kp.set (p := x) (o := .dK (oD (kdV mo) (.ref tw) (kdV (S.held n p).want) (.int (S.held n p).asked) (.int QQ) va)) (show Mut (Hb x) by rw [eb]; exact True.intro)
            have kt := Kp.new (o := .tup [.int (n : Int), .int (y : Int), .str "given", .int (p : Int), .int QQ, .ref tw]) ht3
            have ed := kt.same _ _ (upd_same (H := Hb) (a := x) (o := .dK (oD (kdV mo) (.ref tw) (kdV (S.held n p).want) (.int (S.held n p).asked) (.int QQ) va)))
            have kz := Kp.set (p := x) (o := .dK (oD (kdV mo) (.ref tw) (kdV (S.held n p).want) (.int (S.held n p).asked) (.int QQ) (.ref t3))) (show Mut (upd (upd Hb x (.dK (oD (kdV mo) (.ref tw) (kdV (S.held n p).want) (.int (S.held n p).asked) (.int QQ) va))) t3 (.tup [.int (n : Int), .int (y : Int), .str "given", .int (p : Int), .int QQ, .ref tw]) x) by rw [ed]; exact True.intro)
            have kall := ((kb.trans1 kc).trans0 kt).trans1 kz
            have sq := kz.sqT (kt.sqT (kc.sqT (kb.sqT htw)))
            refine c1.trans (Cm.own q hn4 hp' (by rw [← hxo]; exact kall) ?_)
            rw [← hxo]
            refine ⟨tw, .ref t3, ?_, sq, t3, _, rfl, kz.sqT (SqT.of upd_same), tw, rfl, sq⟩
            rw [upd_same, hmo]
            rfl
          cases wd with
          | go =>
            refine ⟨_, rfl, rfl, _, rfl, iteT ⟨_, rfl, x, _, rfl, .inl ⟨_, Sum.inr "mode", eb, rfl, oD_len, rfl⟩, ?_⟩⟩
            rw [oD_p_mode]
            refine ⟨_, rfl, _, rfl, _, rfl, _, rfl, _, rfl, x, _, rfl, oG_words upd_same, (by show 6 ≤ sizeLine; decide), fun t3 ht3 => ?_⟩
            have z := fin none rfl _ rfl t3 ht3
            refine ⟨_, rfl, x, _, rfl, .inl ⟨_, Sum.inr "answer", (Kp.new ht3).same _ _ upd_same, rfl, oD_len, rfl⟩, ?_⟩
            rw [oD_p_answer]
            exact ⟨rfl, z⟩
          | sh =>
            refine ⟨_, rfl, rfl, _, rfl, iteF ⟨_, rfl, x, _, rfl, .inl ⟨_, Sum.inr "mode", eb, rfl, oD_len, rfl⟩, ?_⟩⟩
            rw [oD_p_mode]
            refine ⟨_, rfl, _, rfl, _, rfl, _, rfl, _, rfl, x, _, rfl, oG_words upd_same, (by show 6 ≤ sizeLine; decide), fun t3 ht3 => ?_⟩
            have z := fin (some .r) rfl _ rfl t3 ht3
            refine ⟨_, rfl, x, _, rfl, .inl ⟨_, Sum.inr "answer", (Kp.new ht3).same _ _ upd_same, rfl, oD_len, rfl⟩, ?_⟩
            rw [oD_p_answer]
            exact ⟨rfl, z⟩
        · have hg : ¬ QQ > (S.held n p).last := of_decide_eq_false e
          rw [if_neg hg]
          exact ⟨rfl, c1⟩
      · rintro σ' H2 ⟨rfl, c2⟩
        obtain ⟨S1, hS⟩ : ∃ S1, S1 = (if QQ > (S.held n p).last then setHold S n p (putH (S.held n p) y n p QQ wd) else S) := ⟨_, rfl⟩
        rw [← hS] at c2
        have dm : S1.many = S.many ∧ S1.pages = S.pages ∧ S1.way = S.way := by
          rw [hS]
          split <;> exact ⟨rfl, rfl, rfl⟩
        have an : (S1.held n p).last = 0 ∨ ∃ m', (S1.held n p).answer = some m' := by
          rw [hS]
          split
          · right
            rw [setHold_same]
            exact ⟨_, rfl⟩
          · exact (wf.ha n p).imp id fun ⟨m', e, _⟩ => ⟨m', e⟩
        have q2 := c2.at_
        obtain ⟨tw2, va2, h2, htw2, hva2⟩ := q2.ho n p (by rw [dm.1]; exact hn4) (by rw [dm.2.1]; exact hp')
        rw [← hxo] at h2
        obtain ⟨xs2, hy2, px2⟩ := q2.wy
        have hxl2 := Paired.length px2
        have hcome : putS S y n p QQ wd = ansS S1 n p QQ := by
          unfold putS
          rw [hS]
        refine ⟨_, rfl, _, rfl, x, _, rfl, oG_last h2, rfl, _, rfl, ?_⟩
        refine ite_of (fun e => ?_) (fun e => ?_)
        · have hg : QQ = (S1.held n p).last := V.int.inj (of_decide_eq_true e)
          obtain ⟨m', hm'⟩ : ∃ m', (S1.held n p).answer = some m' := an.elim (fun z => by omega) id
          rw [hm'] at hva2
          have kz := Kp.set (p := B.way) (o := .lst (xs2 ++ [va2])) (show Mut (H2 B.way) by rw [hy2]; exact True.intro)
          refine ⟨_, rfl, B.m, _, rfl, mG_way q2.ob, .inl ⟨rfl, _, SqL.of hy2⟩, _, rfl, x, _, rfl, oG_answer h2, B.way, xs2, va2, rfl, rfl, hy2, Nat.lt_of_le_of_lt (show xs2.length ≤ 100000 by rw [hxl2, dm.2.2]; omega) (by decide), ?_⟩
          refine k _ ?_
          show Cm K H B S _ B (putS S y n p QQ wd)
          rw [hcome, ansS, if_pos hg, hm']
          exact c2.trans (Cm.way q2 kz upd_same (AB.Paired.snoc (AB.Paired.imp (fun _ _ r => MV.kp kz r) px2) (MV.kp kz hva2)))
        · have hg : ¬ QQ = (S1.held n p).last := fun z => by
            have e' : decide (V.int QQ = .int (S1.held n p).last) = false := e
            rw [z] at e'
            simp at e'
          refine k H2 ?_
          show Cm K H B S H2 B (putS S y n p QQ wd)
          rw [hcome, ansS, if_neg hg]
          exact c2
    | grant y n p QQ kd ws =>
      obtain ⟨t6, rfl, ht6⟩ := hits
      have hn4 : n < S.many := ho.1
      have hp' : p < S.pages := ho.2.1
      have hq1 : 1 ≤ QQ := ho.2.2.1
      refine ⟨_, rfl, t, _, 0, _, rfl, rfl, ht0, rfl, _, rfl, t, _, 1, _, rfl, rfl, ht0, rfl, _, rfl, t, _, 2, _, rfl, rfl, ht0, rfl, _, rfl, t, _, 3, _, rfl, rfl, ht0, rfl, _, rfl, t, _, 4, _, rfl, rfl, ht0, rfl, (by show 5 ≤ sizeLine; decide), fun t1 ht1 => ?_⟩
      refine ⟨t1, _, rfl, SqT.of upd_same, rfl, _, _, rfl, _, _, rfl, _, _, rfl, _, _, rfl, _, _, rfl, rfl, ?_⟩
      have k1 := Kp.new (o := .tup [V.int (y : Int), .int (n : Int), .str kd.s, .int (p : Int), .int QQ]) ht1
      have c1 := Cm.of0 q0 k1
      have ht := k1.sqT ht0
      have ht6' := k1.sqT ht6
      generalize upd H t1 (.tup [V.int (y : Int), .int (n : Int), .str kd.s, .int (p : Int), .int QQ]) = H1 at *
      have q := c1.at_
      obtain ⟨tw, va, h0, htw, hva⟩ := q.ho n p hn4 hp'
      obtain ⟨x, hxo⟩ : ∃ x, x = B.own n p := ⟨_, rfl⟩
      have mux : ∀ b ∈ [x], Mut (H1 b) := fun b hb => by rw [List.mem_singleton.mp hb, hxo, h0]; exact True.intro
      refine ⟨_, rfl, B.m, _, rfl, mG_held q.ob, _, rfl, B.ld, _, _, _, rfl, rfl, SqL.of q.ld, atI_nat (v := .ref (B.row n)) (by simp [hn4]), _, rfl, B.row n, _, _, _, rfl, rfl, SqL.of (q.rw n hn4), atI_nat (v := .ref (B.own n p)) (by simp [hp']), ?_⟩
      rw [← hxo] at h0 ⊢
      refine ⟨fun σ H' => σ = [some (.ref B.m), some (.ref t), some (.int (y : Int)), some (.int (n : Int)), some (.str kd.s), some (.int (p : Int)), some (.int QQ), some (.ref x)] ∧ Cm K H B S H' B (if QQ > (S.held n p).last then setHold S n p (getH (S.held n p) y n p QQ kd ws) else S), ?_, ?_⟩
      · refine ⟨_, rfl, _, rfl, x, _, rfl, oG_last h0, _, _, rfl, rfl, _, rfl, ?_⟩
        refine ite_of (fun e => ?_) (fun e => ?_)
        · have hg : QQ > (S.held n p).last := of_decide_eq_true e
          rw [if_pos hg]
          refine ⟨_, rfl, _, rfl, x, _, rfl, .inl ⟨_, Sum.inr "last", h0, rfl, oD_len, rfl⟩, ?_⟩
          rw [oD_p_last]
          have ka := Kp.set (p := x) (o := .dK (oD (kdV (S.held n p).mode) (.ref tw) (kdV (S.held n p).want) (.int (S.held n p).asked) (.int QQ) va)) (mux x (by simp))
          have ea : upd H1 x (.dK (oD (kdV (S.held n p).mode) (.ref tw) (kdV (S.held n p).want) (.int (S.held n p).asked) (.int QQ) va)) x = some (.dK (oD (kdV (S.held n p).mode) (.ref tw) (kdV (S.held n p).want) (.int (S.held n p).asked) (.int QQ) va)) := upd_same
          generalize upd H1 x (.dK (oD (kdV (S.held n p).mode) (.ref tw) (kdV (S.held n p).want) (.int (S.held n p).asked) (.int QQ) va)) = Ha at *
          refine ⟨_, rfl, (by show 2 ≤ sizeLine; decide), fun l hl => ⟨l, _, rfl, .inl (SqL.of upd_same), rfl, rfl, false, by cases kd <;> rfl, iteF ?_⟩⟩
          have kb := ka.trans0 (Kp.new (o := .lst [V.str "go", .str "share"]) hl)
          have eb := (Kp.new (o := .lst [V.str "go", .str "share"]) hl).same _ _ ea
          generalize upd Ha l (.lst [V.str "go", .str "share"]) = Hb at *
          refine ⟨_, rfl, _, rfl, t, _, 5, _, rfl, rfl, kb.sqT ht, rfl, _, rfl, _, rfl, _, rfl, _, rfl, (by show 5 ≤ sizeLine; decide), fun t3 ht3 => ⟨(by show 3 ≤ sizeLine; decide), fun t4 ht4 => ?_⟩⟩
          have kt3 := Kp.new (o := .tup [.int (n : Int), .int (y : Int), .str "have", .int (p : Int), .int QQ]) ht3
          have kt4 := Kp.new (o := .tup [V.str kd.s, .ref t6, .ref t3]) ht4
          have kc := (kb.trans0 kt3).trans0 kt4
          have ec := kt4.same _ _ (kt3.same _ _ eb)
          have s3 := kt4.sqT (SqT.of (K := K) (upd_same (H := Hb) (a := t3) (o := .tup [.int (n : Int), .int (y : Int), .str "have", .int (p : Int), .int QQ])))
          refine ⟨t4, _, rfl, SqT.of upd_same, rfl, _, _, rfl, _, rfl, x, _, rfl, .inl ⟨_, Sum.inr "mode", ec, rfl, oD_len, rfl⟩, ?_⟩
          rw [oD_p_mode]
          refine ⟨_, _, rfl, _, rfl, x, _, rfl, .inl ⟨_, Sum.inr "words", upd_same, rfl, oD_len, rfl⟩, ?_⟩
          rw [oD_p_words]
          refine ⟨_, _, rfl, _, rfl, x, _, rfl, .inl ⟨_, Sum.inr "answer", upd_same, rfl, oD_len, rfl⟩, rfl, ?_⟩
          rw [oD_p_answer, upd_upd, upd_upd]
          generalize upd (upd Hb t3 (.tup [.int (n : Int), .int (y : Int), .str "have", .int (p : Int), .int QQ])) t4 (.tup [V.str kd.s, .ref t6, .ref t3]) = Hc at *
          have kd1 := Kp.set (p := x) (o := .dK (oD (.str kd.s) (.ref t6) (kdV (S.held n p).want) (.int (S.held n p).asked) (.int QQ) (.ref t3))) (show Mut (Hc x) by rw [ec]; exact True.intro)
          have ed : upd Hc x (.dK (oD (.str kd.s) (.ref t6) (kdV (S.held n p).want) (.int (S.held n p).asked) (.int QQ) (.ref t3))) x = some (.dK (oD (.str kd.s) (.ref t6) (kdV (S.held n p).want) (.int (S.held n p).asked) (.int QQ) (.ref t3))) := upd_same
          have kall := kc.trans1 kd1
          have s3' := kd1.sqT s3
          generalize upd Hc x (.dK (oD (.str kd.s) (.ref t6) (kdV (S.held n p).want) (.int (S.held n p).asked) (.int QQ) (.ref t3))) = Hd at *
          have fin : ∀ wn : Option Kd, wn = (if (S.held n p).want = some .r ∨ kd = .w then none else (S.held n p).want) → Cm K H B S (upd Hd x (.dK (oD (.str kd.s) (.ref t6) (kdV wn) (.int (S.held n p).asked) (.int QQ) (.ref t3)))) B (setHold S n p (getH (S.held n p) y n p QQ kd ws)) := by
            intro wn hwn
            have kz := Kp.set (p := x) (o := .dK (oD (.str kd.s) (.ref t6) (kdV wn) (.int (S.held n p).asked) (.int QQ) (.ref t3))) (show Mut (Hd x) by rw [ed]; exact True.intro)
            refine c1.trans (Cm.own q hn4 hp' (by rw [← hxo]; exact kall.trans1 kz) ?_)
            rw [← hxo]
            refine ⟨t6, .ref t3, ?_, kz.sqT (kall.sqT ht6'), t3, _, rfl, kz.sqT s3', rfl⟩
            rw [upd_same, hwn]
            rfl
          have e1 : decide (kdV (S.held n p).want = .str "read") = decide ((S.held n p).want = some .r) := mode_eq _ .r
          have e2 : decide (V.str kd.s = .str "write") = decide (kd = .w) := decide_eq_decide.mpr (kd_inj (j := .w))
          refine ⟨_, rfl, x, _, rfl, oG_want ed, by cases (S.held n p).want <;> rfl, _, rfl, ?_⟩
          refine ite_of (fun e => ?_) (fun e => ?_)
          · have z := fin none (if_pos (.inl (of_decide_eq_true (e1.symm.trans e)))).symm
            refine iteT ⟨_, rfl, x, _, rfl, .inl ⟨_, Sum.inr "want", ed, rfl, oD_len, rfl⟩, ?_⟩
            rw [oD_p_want]
            exact ⟨rfl, z⟩
          · have w1 : ¬ (S.held n p).want = some .r := of_decide_eq_false (e1.symm.trans e)
            refine ⟨_, rfl, by cases kd <;> rfl, _, rfl, ?_⟩
            refine ite_of (fun e => ?_) (fun e => ?_)
            · have z := fin none (if_pos (.inr (of_decide_eq_true (e2.symm.trans e)))).symm
              refine ⟨_, rfl, x, _, rfl, .inl ⟨_, Sum.inr "want", ed, rfl, oD_len, rfl⟩, ?_⟩
              rw [oD_p_want]
              exact ⟨rfl, z⟩
            · have w2 : ¬ kd = .w := of_decide_eq_false (e2.symm.trans e)
              have z := fin (S.held n p).want (if_neg fun z => z.elim w1 w2).symm
              refine ⟨_, rfl, x, _, rfl, oG_want ed, _, rfl, x, _, rfl, .inl ⟨_, Sum.inr "want", ed, rfl, oD_len, rfl⟩, ?_⟩
              rw [oD_p_want]
              exact ⟨rfl, z⟩
        · have hg : ¬ QQ > (S.held n p).last := of_decide_eq_false e
          rw [if_neg hg]
          exact ⟨rfl, c1⟩
      · rintro σ' H2 ⟨rfl, c2⟩
        obtain ⟨S1, hS⟩ : ∃ S1, S1 = (if QQ > (S.held n p).last then setHold S n p (getH (S.held n p) y n p QQ kd ws) else S) := ⟨_, rfl⟩
        rw [← hS] at c2
        have dm : S1.many = S.many ∧ S1.pages = S.pages ∧ S1.way = S.way := by
          rw [hS]
          split <;> exact ⟨rfl, rfl, rfl⟩
        have an : (S1.held n p).last = 0 ∨ ∃ m', (S1.held n p).answer = some m' := by
          rw [hS]
          split
          · right
            rw [setHold_same]
            exact ⟨_, rfl⟩
          · exact (wf.ha n p).imp id fun ⟨m', e, _⟩ => ⟨m', e⟩
        have q2 := c2.at_
        obtain ⟨tw2, va2, h2, htw2, hva2⟩ := q2.ho n p (by rw [dm.1]; exact hn4) (by rw [dm.2.1]; exact hp')
        rw [← hxo] at h2
        obtain ⟨xs2, hy2, px2⟩ := q2.wy
        have hxl2 := Paired.length px2
        have hcome : getS S y n p QQ kd ws = ansS S1 n p QQ := by
          unfold getS
          rw [hS]
        refine ⟨_, rfl, _, rfl, x, _, rfl, oG_last h2, rfl, _, rfl, ?_⟩
        refine ite_of (fun e => ?_) (fun e => ?_)
        · have hg : QQ = (S1.held n p).last := V.int.inj (of_decide_eq_true e)
          obtain ⟨m', hm'⟩ : ∃ m', (S1.held n p).answer = some m' := an.elim (fun z => by omega) id
          rw [hm'] at hva2
          have kz := Kp.set (p := B.way) (o := .lst (xs2 ++ [va2])) (show Mut (H2 B.way) by rw [hy2]; exact True.intro)
          refine ⟨_, rfl, B.m, _, rfl, mG_way q2.ob, .inl ⟨rfl, _, SqL.of hy2⟩, _, rfl, x, _, rfl, oG_answer h2, B.way, xs2, va2, rfl, rfl, hy2, Nat.lt_of_le_of_lt (show xs2.length ≤ 100000 by rw [hxl2, dm.2.2]; omega) (by decide), ?_⟩
          refine k _ ?_
          show Cm K H B S _ B (getS S y n p QQ kd ws)
          rw [hcome, ansS, if_pos hg, hm']
          exact c2.trans (Cm.way q2 kz upd_same (AB.Paired.snoc (AB.Paired.imp (fun _ _ r => MV.kp kz r) px2) (MV.kp kz hva2)))
        · have hg : ¬ QQ = (S1.held n p).last := fun z => by
            have e' : decide (V.int QQ = .int (S1.held n p).last) = false := e
            rw [z] at e'
            simp at e'
          refine k H2 ?_
          show Cm K H B S H2 B (getS S y n p QQ kd ws)
          rw [hcome, ansS, if_neg hg]
          exact c2
end
end K57
set_option Elab.async false
set_option linter.all false
set_option maxRecDepth 100000
set_option maxHeartbeats 4000000
/-! K57Xh: something happens to a message of the law's. -/
namespace K57
open PySem L2 AB
inductive Hk where
  | del | dbl | los
def Hk.s : Hk → Str
  | .del => "deliver"
  | .dbl => "double"
  | .los => "lose"
def happS (S : Sy) (j : Int) : Hk → Sy
  | .del => deliverS S j
  | .dbl => doubleS S j
  | .los => loseS S j
def spHappen (K : PySem.W.Frag) : Sp := fun vs H Q _ => ∃ (B : MAd) (S : Sy) (j : Int) (hk : Hk), vs = [.ref B.m, .str hk.s, .int j] ∧ ModAt K H B S ∧ WF S ∧ 0 ≤ j ∧ S.way.length + 10 < 100000 ∧
  ∀ H' B', Cm K H B S H' B' (happS S j hk) → Q (.bl (decide (S.way ≠ []))) H'
theorem take_drop_erase {α : Type} : ∀ (l : List α) (i : Nat), l.take i ++ l.drop (i + 1) = l.eraseIdx i
  | [], _ => by simp
  | a :: l, 0 => by simp
  | a :: l, i + 1 => by
    have := take_drop_erase l i
    simp [this]
section
variable {P : Program} {w : World} {K : PySem.W.Frag} {mg : Str → Option Value} {base : Heap} {a : Ad} {f : Addr} {fd : FuncData}
theorem ok_law_happen (F : Fun K "_law_happen" "_law_happen" s_law_happen f fd) (T : Txt K mg a) (G_law_asked : GFn P w K mg base 2 "_law_asked" ["m", "message"] (spAskedM K)) (G_law_answered : GFn P w K mg base 2 "_law_answered" ["m", "message"] (spAnsweredM K)) (G_law_follow : GFn P w K mg base 1 "_law_follow" ["m", "message"] (spFollowM K)) : FnOk P w K mg base (L2.CX P w) 3 f fd ["m", "kind", "k"] (spHappen K) := by
  refine okT F sc_law_happen (fun vs H Q E h => ?_) (fun cdv A' outer s H vs Q E hr tk hp h => ?_)
  · obtain ⟨B, S, j, hk, rfl, _⟩ := h
    rfl
  · obtain ⟨B, S, j, hk, rfl, q, wf, h0, hwl, k⟩ := h
    refine ⟨_, (pss_cons (ps_if (pt_cmpR (k_eqN K (by rfl) (Nat.lt_of_succ_lt (hu_of hr))) (pe_dget (hu_of hr) (pv 0) pe_str (fun _ _ => rfl)) (pe_lst pa_nil) (nomark _)) (pss_one (ps_ret pe_bl)) pss_nil) (pss_cons (ps_set (i := 3) sc_law_happen.nd rfl (by first | exact Or.inl rfl | exact Or.inr rfl) (pe_op op_mod (pe_callTy call_int1 (by rfl) T.n_int (by decide +kernel) (pa_cons (pv 2) pa_nil)) (pe_callB (k_len K (by rfl)) (by rfl) T.n_len (by decide +kernel) (pa_cons (pe_dget (hu_of hr) (pv 0) pe_str (fun _ _ => rfl)) pa_nil)))) (pss_cons (ps_set (i := 4) sc_law_happen.nd rfl (by first | exact Or.inl rfl | exact Or.inr rfl) (pe_ix (k_ixL K (by rfl)) (pe_dget (hu_of hr) (pv 0) pe_str (fun _ _ => rfl)) (pv 3) (fun _ _ => rfl))) (pss_cons (ps_if (pt_cmpR op_eq (pv 1) pe_str (nomark _)) (pss_cons (ps_expr (k_bm K (by rfl) (pe_bm PySem.F.plainAttrs_list PySem.F.slot_list_append PySem.F.type_list_append mt_append (pe_dget (hu_of hr) (pv 0) pe_str (fun _ _ => rfl))  (pa_cons (pv 4) pa_nil)))) (pss_one (ps_ret pe_bl))) pss_nil) (pss_cons (ps_dput (hu_of hr) (pv 0) pe_str (pe_op op_cat (pe_slice (k_slL K (by rfl)) (pe_dget (hu_of hr) (pv 0) pe_str (fun _ _ => rfl)) po_none (po_some (pv 3))) (pe_slice (k_slL K (by rfl)) (pe_dget (hu_of hr) (pv 0) pe_str (fun _ _ => rfl)) (po_some (pe_op op_add (pv 3) pe_int)) po_none)) rfl) (C8.pss_cut (ps_if (pt_cmpR op_eq (pv 1) pe_str (nomark _)) (pss_one (ps_if (pt_cmpR op_eq (pe_ix (k_ixT K (by rfl)) (pv 4) pe_int (fun _ _ => rfl)) pe_str (nomark _)) (pss_one (ps_expr (pe_cl G_law_asked (hr.mono (by decide)) tk (pa_cons (pv 0) (pa_cons (pv 4) pa_nil))))) (pss_one (ps_if (pt_cmpR (k_in K (by rfl)) (pe_ix (k_ixT K (by rfl)) (pv 4) pe_int (fun _ _ => rfl)) (pe_lst (pa_cons pe_str (pa_cons pe_str pa_nil))) (by rfl)) (pss_one (ps_expr (pe_cl G_law_answered (hr.mono (by decide)) tk (pa_cons (pv 0) (pa_cons (pv 4) pa_nil))))) (pss_one (ps_expr (pe_cl G_law_follow (hr.mono (by decide)) tk (pa_cons (pv 0) (pa_cons (pv 4) pa_nil))))))))) pss_nil) (pss_one (ps_ret pe_bl)))))))), ?_⟩
    obtain ⟨xs, hy, px⟩ := q.wy
    have hxl := Paired.length px
    refine ⟨_, rfl, B.m, _, rfl, mG_way q.ob, Nat.zero_le _, fun e he => ⟨B.way, e, xs, rfl, rfl, SqL.of ((Kp.new (o := .lst []) he).same _ _ hy), SqL.of upd_same, _, rfl, ?_⟩⟩
    have k1 := Kp.new (o := .lst []) he
    have c1 := Cm.of0 q k1
    have px1 := AB.Paired.imp (fun _ _ r => MV.kp k1 r) px
    have hy1 := k1.same _ _ hy
    generalize upd H e (.lst []) = H1 at *
    have q1 := c1.at_
    refine ite_of (fun z => ?_) (fun z => ?_)
    · have hz : S.way = [] := by
        cases xs with
        | nil => exact List.eq_nil_of_length_eq_zero hxl.symm
        | cons x l => cases z
      have e1 : happS S j hk = S := by
        cases hk with
        | del => show deliverS S j = S; unfold deliverS; rw [hz]; rfl
        | dbl => show doubleS S j = S; unfold doubleS; rw [hz]; rfl
        | los => show loseS S j = S; unfold loseS; rw [hz, List.eraseIdx_nil, ← hz]
      have y := k H1 B (by rw [e1]; exact c1)
      rw [decide_eq_false (fun h => h hz)] at y
      exact y
    have hz : S.way ≠ [] := fun y => by
      rw [y] at hxl
      have : xs = [] := List.eq_nil_of_length_eq_zero hxl
      rw [this] at z
      cases z
    obtain ⟨p1, p2⟩ := plc_lt (k := j) hz
    rw [decide_eq_true hz] at k
    obtain ⟨v, hv⟩ : ∃ v, xs[plc S j]? = some v := ⟨_, List.getElem?_eq_getElem (show plc S j < xs.length by omega)⟩
    obtain ⟨m, hm, hmv⟩ := pair_at' px1 hv
    have epl : j % (xs.length : Int) = ((plc S j : Nat) : Int) := by rw [hxl, p2]
    refine ⟨_, rfl, .inl ⟨j, rfl, _, rfl, B.m, _, rfl, mG_way q1.ob, B.way, xs, rfl, .inl (SqL.of hy1), _, _, rfl, rfl, by omega, ?_⟩⟩
    rw [show (fun i j : Int => V.int (i % j)) j (xs.length : Int) = V.int ((plc S j : Nat) : Int) from congrArg V.int epl]
    refine ⟨_, rfl, B.m, _, rfl, mG_way q1.ob, _, rfl, B.way, xs, _, v, rfl, rfl, SqL.of hy1, atI_nat hv, ?_⟩
    refine ⟨_, rfl, by cases hk <;> rfl, _, rfl, ?_⟩
    -- doubled
    have dbl : Hk.dbl = hk → Q (.bl true) (upd H1 B.way (.lst (xs ++ [v]))) := fun e => by
      have kz := Kp.set (p := B.way) (o := .lst (xs ++ [v])) (show Mut (H1 B.way) by rw [hy1]; exact True.intro)
      refine k _ B ?_
      rw [← e]
      have e1 : happS S j .dbl = { S with way := S.way ++ [m] } := by
        show doubleS S j = _
        unfold doubleS
        rw [hm]
      rw [e1]
      exact c1.trans (Cm.way q1 kz upd_same (AB.Paired.snoc (AB.Paired.imp (fun _ _ r => MV.kp kz r) px1) (MV.kp kz hmv)))
    have on : hk ≠ .dbl → True := fun _ => trivial
    have eb : decide (V.str hk.s = .str "double") = true ↔ hk = .dbl := by
      cases hk
      · exact ⟨fun h => absurd h (by decide +kernel), fun h => nomatch h⟩
      · exact ⟨fun _ => rfl, fun _ => by decide +kernel⟩
      · exact ⟨fun h => absurd h (by decide +kernel), fun h => nomatch h⟩
    refine ite_of (fun z => ?_) (fun z => ?_)
    · refine ⟨_, rfl, B.m, _, rfl, mG_way q1.ob, .inl ⟨rfl, _, SqL.of hy1⟩, _, rfl, B.way, xs, v, rfl, rfl, hy1, Nat.lt_of_le_of_lt (show xs.length ≤ 100000 by omega) (by decide), ?_⟩
      exact dbl (eb.mp z).symm
    have hnd : hk ≠ .dbl := fun y => by
      have : decide (V.str hk.s = .str "double") = true := eb.mpr y
      have z' : decide (V.str hk.s = .str "double") = false := z
      rw [this] at z'
      cases z'
    -- taken away
    refine ⟨_, rfl, B.m, _, rfl, mG_way q1.ob, _, rfl, _, rfl, B.way, xs, rfl, SqL.of hy1, fun l1 hl1 => ?_⟩
    have k2 := Kp.new (o := .lst (cutV xs none (some ((plc S j : Nat) : Int)))) hl1
    have q2 := q1.kp0 k2
    have hy2 := k2.same _ _ hy1
    have h1 : upd H1 l1 (.lst (cutV xs none (some ((plc S j : Nat) : Int)))) l1 = some (.lst (cutV xs none (some ((plc S j : Nat) : Int)))) := upd_same
    generalize upd H1 l1 (.lst (cutV xs none (some ((plc S j : Nat) : Int)))) = H2 at *
    refine ⟨_, rfl, B.m, _, rfl, mG_way q2.ob, _, rfl, _, _, rfl, rfl, _, rfl, ?_⟩
    unfold tNoPart
    dsimp only
    show rSlL K (.ref B.way) (some (((plc S j : Nat) : Int) + 1)) none _ _
    refine ⟨B.way, xs, rfl, SqL.of hy2, fun l2 hl2 => ?_⟩
    have k3 := Kp.new (o := .lst (cutV xs (some (((plc S j : Nat) : Int) + 1)) none)) hl2
    have q3 := q2.kp0 k3
    have h2 := k3.same _ _ h1
    have ca : cutV xs none (some ((plc S j : Nat) : Int)) = xs.take (plc S j) := by
      unfold cutV
      rw [HT.sIx_none, HT.sIx_nat]
      simp [Nat.min_eq_left (show plc S j ≤ xs.length by omega)]
    have cb : cutV xs (some (((plc S j : Nat) : Int) + 1)) none = xs.drop (plc S j + 1) := by
      unfold cutV
      rw [HT.sIx_none, show ((plc S j : Nat) : Int) + 1 = ((plc S j + 1 : Nat) : Int) by omega, HT.sIx_nat, Nat.min_eq_left (by omega), List.take_of_length_le (by simp)]
    have ecat : xs.take (plc S j) ++ xs.drop (plc S j + 1) = xs.eraseIdx (plc S j) := take_drop_erase xs (plc S j)
    refine ⟨l1, l2, _, _, rfl, rfl, h2, upd_same, ?_, fun l3 hl3 => ?_⟩
    · rw [ca, cb, List.length_take, List.length_drop]
      exact Nat.le_trans (show _ ≤ 100000 by omega) (by decide)
    rw [ca, cb, ecat]
    have hl3' := hl3
    have kk3 := k2.trans0 k3
    rw [cb] at hl3 k3 kk3
    have k4 := Kp.new (o := .lst (xs.eraseIdx (plc S j))) hl3
    have q4 := (q2.kp0 k3).kp0 k4
    refine ⟨_, rfl, B.m, _, rfl, .inl ⟨_, Sum.inr "way", q4.ob, rfl, mD_len, rfl⟩, ?_⟩
    rw [mD_p_way]
    have kz := Kp.set (p := B.m) (o := .dK (mD (.ref B.ld) (.ref B.lh) (.ref l3))) (show Mut (upd (upd H2 l2 (.lst (xs.drop (plc S j + 1)))) l3 (.lst (xs.eraseIdx (plc S j))) B.m) by rw [q4.ob]; exact True.intro)
    have n3 : l3 ≠ B.m := (ne_of_none ((q2.kp0 k3).ob) hl3).symm
    have k24 := (k2.trans0 k3).trans0 k4
    have cz : Cm K H B S (upd (upd (upd H2 l2 (.lst (xs.drop (plc S j + 1)))) l3 (.lst (xs.eraseIdx (plc S j)))) B.m (.dK (mD (.ref B.ld) (.ref B.lh) (.ref l3)))) { B with way := l3 } (loseS S j) := by
      have kf : Kp [B.m] (upd H2 l2 (.lst (xs.drop (plc S j + 1)))) (upd (upd (upd H2 l2 (.lst (xs.drop (plc S j + 1)))) l3 (.lst (xs.eraseIdx (plc S j)))) B.m (.dK (mD (.ref B.ld) (.ref B.lh) (.ref l3)))) :=
        (k4.wide (fun b h => nomatch h) (fun b hb => by rw [List.mem_singleton.mp hb, (q2.kp0 k3).ob]; exact True.intro)).trans1 kz
      refine (c1.trans0' (k2.trans0 k3)).trans (Cm.newWay (q2.kp0 k3) kf upd_same (xs := xs.eraseIdx (plc S j)) ?_ ?_ hl3)
      · rw [upd_ne n3]; exact upd_same
      · exact pair_erase (AB.Paired.imp (fun _ _ r => MV.kp kf (MV.kp k3 (MV.kp k2 r))) px1)
    have mz := MV.kp kz (MV.kp k24 hmv)
    generalize upd (upd (upd H2 l2 (.lst (xs.drop (plc S j + 1)))) l3 (.lst (xs.eraseIdx (plc S j)))) B.m (.dK (mD (.ref B.ld) (.ref B.lh) (.ref l3))) = HZ at *
    have wf1 : WF (loseS S j) := ⟨wf.m1, wf.m4, wf.p1, wf.p8, wf.hw, wf.ha, wf.hm, fun m hm => wf.ms m (mem_erase hm)⟩
    have ho : okM S.many S.pages m := wf.ms m (List.mem_of_getElem? hm)
    have hl' : (loseS S j).way.length + 10 < 100000 := by
      have := List.length_eraseIdx_le S.way (plc S j)
      show (S.way.eraseIdx (plc S j)).length + 10 < 100000
      omega
    have edel : deliverS S j = comeS (loseS S j) m := by unfold deliverS; rw [hm]
    refine ⟨fun σ H' => σ = [some (.ref B.m), some (.str hk.s), some (.int j), some (.int ((plc S j : Nat) : Int)), some v] ∧ ∃ B', Cm K H B S H' B' (happS S j hk), ?_, ?_⟩
    · refine ⟨_, rfl, by cases hk <;> rfl, _, rfl, ?_⟩
      have ed : decide (V.str hk.s = .str "deliver") = true ↔ hk = .del := by
        cases hk
        · exact ⟨fun _ => rfl, fun _ => by decide +kernel⟩
        · exact ⟨fun h => absurd h (by decide +kernel), fun h => nomatch h⟩
        · exact ⟨fun h => absurd h (by decide +kernel), fun h => nomatch h⟩
      refine ite_of (fun z => ?_) (fun z => ?_)
      · obtain rfl : hk = .del := ed.mp z
        obtain ⟨t, its, rfl, ht, hits⟩ := mz
        have fin : ∀ H' B', Cm K HZ { B with way := l3 } (loseS S j) H' B' (comeS (loseS S j) m) → ∃ B', Cm K H B S H' B' (happS S j .del) := fun H' B' c => ⟨B', by
          show Cm K H B S H' B' (deliverS S j)
          rw [edel]
          exact cz.trans c⟩
        cases m with
        | ask n y p num kd =>
          obtain rfl : its = _ := hits
          refine ⟨_, rfl, t, _, 2, _, rfl, rfl, ht, rfl, rfl, _, rfl, iteT ?_⟩
          exact ⟨_, rfl, _, rfl, { B with way := l3 }, loseS S j, .ref t, n, y, p, num, kd, rfl, cz.at_, ⟨t, _, rfl, ht, rfl⟩, wf1, ho.1, ho.2, hl', fun H' B' c => ⟨rfl, fin H' B' c⟩⟩
        | put y n p num wd =>
          obtain rfl : its = _ := hits
          refine ⟨_, rfl, t, _, 2, _, rfl, rfl, ht, rfl, by cases wd <;> rfl, _, rfl, ?_⟩
          have e1 : decide (V.str wd.s = .str "ask") = false := by cases wd <;> decide +kernel
          rw [e1]
          refine iteF ⟨_, rfl, t, _, 2, _, rfl, rfl, ht, rfl, (by show 2 ≤ sizeLine; decide), fun l hl => ⟨l, _, rfl, .inl (SqL.of upd_same), by cases wd <;> rfl, rfl, false, by cases wd <;> rfl, iteF ?_⟩⟩
          have k5 := Kp.new (o := .lst [V.str "given", .str "have"]) hl
          exact ⟨_, rfl, _, rfl, { B with way := l3 }, loseS S j, .ref t, .put y n p num wd, rfl, cz.at_.kp0 k5, ⟨t, _, rfl, k5.sqT ht, rfl⟩, wf1, ho, True.intro, hl', fun H' c => ⟨rfl, fin H' _ ((Cm.of0 cz.at_ k5).trans c)⟩⟩
        | grant y n p num kd ws =>
          have hits0 := hits
          obtain ⟨t6, rfl, ht6⟩ := hits
          refine ⟨_, rfl, t, _, 2, _, rfl, rfl, ht, rfl, by cases kd <;> rfl, _, rfl, ?_⟩
          have e1 : decide (V.str kd.s = .str "ask") = false := by cases kd <;> decide +kernel
          rw [e1]
          refine iteF ⟨_, rfl, t, _, 2, _, rfl, rfl, ht, rfl, (by show 2 ≤ sizeLine; decide), fun l hl => ⟨l, _, rfl, .inl (SqL.of upd_same), by cases kd <;> rfl, rfl, false, by cases kd <;> rfl, iteF ?_⟩⟩
          have k5 := Kp.new (o := .lst [V.str "given", .str "have"]) hl
          exact ⟨_, rfl, _, rfl, { B with way := l3 }, loseS S j, .ref t, .grant y n p num kd ws, rfl, cz.at_.kp0 k5, ⟨t, _, rfl, k5.sqT ht, hits0.kp k5⟩, wf1, ho, True.intro, hl', fun H' c => ⟨rfl, fin H' _ ((Cm.of0 cz.at_ k5).trans c)⟩⟩
        | given n y p num ws =>
          have hits0 := hits
          obtain ⟨t6, rfl, ht6⟩ := hits
          refine ⟨_, rfl, t, _, 2, _, rfl, rfl, ht, rfl, rfl, _, rfl, iteF ⟨_, rfl, t, _, 2, _, rfl, rfl, ht, rfl, (by show 2 ≤ sizeLine; decide), fun l hl => ⟨l, _, rfl, .inl (SqL.of upd_same), rfl, rfl, true, rfl, iteT ?_⟩⟩⟩
          have k5 := Kp.new (o := .lst [V.str "given", .str "have"]) hl
          exact ⟨_, rfl, _, rfl, { B with way := l3 }, loseS S j, .ref t, .given n y p num ws, rfl, cz.at_.kp0 k5, ⟨t, _, rfl, k5.sqT ht, hits0.kp k5⟩, wf1, ho, True.intro, hl', fun H' B' c => ⟨rfl, fin H' B' ((Cm.of0 cz.at_ k5).trans c)⟩⟩
        | have_ n y p num =>
          obtain rfl : its = _ := hits
          refine ⟨_, rfl, t, _, 2, _, rfl, rfl, ht, rfl, rfl, _, rfl, iteF ⟨_, rfl, t, _, 2, _, rfl, rfl, ht, rfl, (by show 2 ≤ sizeLine; decide), fun l hl => ⟨l, _, rfl, .inl (SqL.of upd_same), rfl, rfl, true, rfl, iteT ?_⟩⟩⟩
          have k5 := Kp.new (o := .lst [V.str "given", .str "have"]) hl
          exact ⟨_, rfl, _, rfl, { B with way := l3 }, loseS S j, .ref t, .have_ n y p num, rfl, cz.at_.kp0 k5, ⟨t, _, rfl, k5.sqT ht, rfl⟩, wf1, ho, True.intro, hl', fun H' B' c => ⟨rfl, fin H' B' ((Cm.of0 cz.at_ k5).trans c)⟩⟩
      · have hlos : hk = .los := by
          cases hk with
          | del => exact absurd (ed.mpr rfl) (by rw [show decide (V.str Hk.del.s = .str "deliver") = false from z]; decide)
          | dbl => exact absurd rfl hnd
          | los => rfl
        refine ⟨rfl, { B with way := l3 }, ?_⟩
        rw [hlos]
        exact cz
    · rintro σ' H9 ⟨rfl, B9, c9⟩
      exact k H9 B9 c9
end
end K57
set_option Elab.async false
set_option linter.all false
set_option maxRecDepth 100000
set_option maxHeartbeats 4000000
/-! K57Xi: the law's nodes made. -/
namespace K57
open PySem L2 AB
theorem OwnAt.kpL {K : PySem.W.Frag} {H H' : Hp} {D x : Addr} {l : List V} {h : Hold} (q : OwnAt K H x h) (k : Kp [D] H H') (hD : H D = some (.lst l)) : OwnAt K H' x h := by
  obtain ⟨tw, va, hx, hh⟩ := id q
  exact q.kp k (by simp only [List.mem_singleton]; exact ne_of hx hD (by intro z; cases z))
theorem MomAt.kpL {K : PySem.W.Frag} {many : Nat} {H H' : Hp} {D x r wt sv : Addr} {l : List V} {h : Hm} (q : MomAt K many H x r wt sv h) (k : Kp [D] H H') (hD : H D = some (.lst l)) (hr : r ≠ D) : MomAt K many H' x r wt sv h := by
  obtain ⟨tw, hx, _⟩ := q.ob
  obtain ⟨k2, h2, _⟩ := q.wa.few
  obtain ⟨k3, h3, _⟩ := q.se.few
  exact q.kp k (by simp only [List.mem_singleton]; exact ne_of hx hD (by intro z; cases z)) (by simp [hr]) (by simp only [List.mem_singleton]; exact ne_of h2 hD (by intro z; cases z)) (by simp only [List.mem_singleton]; exact ne_of h3 hD (by intro z; cases z))
structure MomsMade (K : PySem.W.Frag) (many : Nat) (Hb H : Hp) (n : Nat) (hm rd wt sv : Nat → Addr) : Prop where
  at_ : ∀ p, p < n → MomAt K many H (hm p) (rd p) (wt p) (sv p) (home0 (p % many))
  fr : ∀ p, p < n → Hb (hm p) = none ∧ Hb (rd p) = none ∧ Hb (wt p) = none ∧ Hb (sv p) = none
  im : ∀ p p', p < n → p' < n → hm p = hm p' → p = p'
  dj : ∀ p p' d, p < n → p' < n → d ∈ [wt p, sv p] → d ∈ [wt p', sv p'] → p = p'
theorem MomAt.some {K : PySem.W.Frag} {many : Nat} {H : Hp} {x r wt sv : Addr} {h : Hm} (q : MomAt K many H x r wt sv h) : H x ≠ none ∧ ∀ d, d ∈ [wt, sv] → H d ≠ none := by
  obtain ⟨tw, hx, _⟩ := q.ob
  obtain ⟨k2, h2, _⟩ := q.wa.few
  obtain ⟨k3, h3, _⟩ := q.se.few
  refine ⟨by rw [hx]; exact (fun z => nomatch z), fun d hd => ?_⟩
  simp only [List.mem_cons, List.not_mem_nil, or_false] at hd
  rcases hd with rfl | rfl
  · rw [h2]; exact fun z => nomatch z
  · rw [h3]; exact fun z => nomatch z
theorem MomsMade.snoc {K : PySem.W.Frag} {many : Nat} {Hb H H4 H5 : Hp} {n : Nat} {hm rd wt sv : Nat → Addr} {x r w s D : Addr} {l : List V} (q : MomsMade K many Hb H n hm rd wt sv) (kb : Kp [] Hb H) (k : Kp [] H H4) (hx : H x = none) (hr : H r = none) (hw : H w = none) (hs : H s = none)
    (z : MomAt K many H4 x r w s (home0 (n % many))) (kd : Kp [D] H4 H5) (hD : H4 D = some (.lst l)) (hrD : ∀ p, p < n → rd p ≠ D) (rD : r ≠ D) : MomsMade K many Hb H5 (n + 1) (atP n x hm) (atP n r rd) (atP n w wt) (atP n s sv) := by
  have old : ∀ p, p < n → MomAt K many H (hm p) (rd p) (wt p) (sv p) (home0 (p % many)) := q.at_
  refine ⟨fun p hp => ?_, fun p hp => ?_, fun p p' hp hp' e => ?_, fun p p' d hp hp' e e' => ?_⟩
  · by_cases c : p = n
    · subst c; rw [atP_same, atP_same, atP_same, atP_same]; exact z.kpL kd hD rD
    · rw [atP_ne c, atP_ne c, atP_ne c, atP_ne c]
      exact ((old p (by omega)).kp k (by simp) (by simp) (by simp) (by simp)).kpL kd hD (hrD p (by omega))
  · by_cases c : p = n
    · subst c; rw [atP_same, atP_same, atP_same, atP_same]; exact ⟨kb.fr _ hx, kb.fr _ hr, kb.fr _ hw, kb.fr _ hs⟩
    · rw [atP_ne c, atP_ne c, atP_ne c, atP_ne c]; exact q.fr p (by omega)
  · by_cases c : p = n
    · by_cases c' : p' = n
      · rw [c, c']
      · subst c
        rw [atP_same, atP_ne c'] at e
        exact absurd (by rw [← e]; exact hx) (old p' (by omega)).some.1
    · by_cases c' : p' = n
      · subst c'
        rw [atP_same, atP_ne c] at e
        exact absurd (by rw [e]; exact hx) (old p (by omega)).some.1
      · rw [atP_ne c, atP_ne c'] at e
        exact q.im p p' (by omega) (by omega) e
  · have fresh : ∀ d, d ∈ [w, s] → H d = none := fun d hd => by
      simp only [List.mem_cons, List.not_mem_nil, or_false] at hd
      rcases hd with rfl | rfl
      · exact hw
      · exact hs
    by_cases c : p = n
    · by_cases c' : p' = n
      · rw [c, c']
      · subst c
        rw [atP_same, atP_same] at e
        rw [atP_ne c', atP_ne c'] at e'
        exact absurd (fresh d e) ((old p' (by omega)).some.2 d e')
    · by_cases c' : p' = n
      · subst c'
        rw [atP_ne c, atP_ne c] at e
        rw [atP_same, atP_same] at e'
        exact absurd (fresh d e') ((old p (by omega)).some.2 d e)
      · rw [atP_ne c, atP_ne c] at e
        rw [atP_ne c', atP_ne c'] at e'
        exact q.dj p p' d (by omega) (by omega) e e'
structure OwnsMade (K : PySem.W.Frag) (Hb H : Hp) (n : Nat) (md : Nat → Option Kd) (ho : Nat → Addr) : Prop where
  at_ : ∀ p, p < n → OwnAt K H (ho p) (hold0 (md p))
  fr : ∀ p, p < n → Hb (ho p) = none
  im : ∀ p p', p < n → p' < n → ho p = ho p' → p = p'
theorem OwnAt.some {K : PySem.W.Frag} {H : Hp} {x : Addr} {h : Hold} (q : OwnAt K H x h) : H x ≠ none := by
  obtain ⟨tw, va, hx, _⟩ := q
  rw [hx]
  exact fun z => nomatch z
theorem OwnsMade.snoc {K : PySem.W.Frag} {Hb H H4 H5 : Hp} {n : Nat} {md : Nat → Option Kd} {ho : Nat → Addr} {x D : Addr} {l : List V} (q : OwnsMade K Hb H n md ho) (kb : Kp [] Hb H) (k : Kp [] H H4) (hx : H x = none)
    (z : OwnAt K H4 x (hold0 (md n))) (kd : Kp [D] H4 H5) (hD : H4 D = some (.lst l)) : OwnsMade K Hb H5 (n + 1) md (atP n x ho) := by
  refine ⟨fun p hp => ?_, fun p hp => ?_, fun p p' hp hp' e => ?_⟩
  · by_cases c : p = n
    · subst c; rw [atP_same]; exact z.kpL kd hD
    · rw [atP_ne c]
      exact ((q.at_ p (by omega)).kp k (by simp)).kpL kd hD
  · by_cases c : p = n
    · subst c; rw [atP_same]; exact kb.fr _ hx
    · rw [atP_ne c]; exact q.fr p (by omega)
  · by_cases c : p = n
    · by_cases c' : p' = n
      · rw [c, c']
      · subst c
        rw [atP_same, atP_ne c'] at e
        exact absurd (by rw [← e]; exact hx) (q.at_ p' (by omega)).some
    · by_cases c' : p' = n
      · subst c'
        rw [atP_same, atP_ne c] at e
        exact absurd (by rw [e]; exact hx) (q.at_ p (by omega)).some
      · rw [atP_ne c, atP_ne c'] at e
        exact q.im p p' (by omega) (by omega) e
structure RowsMadeM (K : PySem.W.Frag) (Hb H : Hp) (n pages : Nat) (md : Nat → Nat → Option Kd) (row : Nat → Addr) (ho : Nat → Nat → Addr) : Prop where
  rw : ∀ i, i < n → H (row i) = some (.lst ((List.range pages).map fun p => V.ref (ho i p)))
  at_ : ∀ i p, i < n → p < pages → OwnAt K H (ho i p) (hold0 (md i p))
  fr : ∀ i, i < n → Hb (row i) = none ∧ ∀ p, p < pages → Hb (ho i p) = none
  ih : ∀ i p i' p', i < n → p < pages → i' < n → p' < pages → ho i p = ho i' p' → i = i' ∧ p = p'
theorem RowsMadeM.snoc {K : PySem.W.Frag} {Hb H H4 H5 : Hp} {n pages : Nat} {md : Nat → Nat → Option Kd} {row : Nat → Addr} {ho : Nat → Nat → Addr} {h1 : Nat → Addr} {x D : Addr} {l : List V} (q : RowsMadeM K Hb H n pages md row ho) (kb : Kp [] Hb H) (k : Kp [] H H4) (hx : H x = none)
    (z : OwnsMade K H H4 pages (md n) h1) (hl : H4 x = some (.lst ((List.range pages).map fun p => V.ref (h1 p)))) (kd : Kp [D] H4 H5) (hD : H4 D = some (.lst l)) (xD : x ≠ D) (hDH : ∀ i, i < n → row i ≠ D) :
    RowsMadeM K Hb H5 (n + 1) pages md (atP n x row) (fun i => if i = n then h1 else ho i) := by
  refine ⟨fun i hi => ?_, fun i p hi hp => ?_, fun i hi => ⟨?_, fun p hp => ?_⟩, fun i p i' p' hi hp hi' hp' e => ?_⟩
  · by_cases c : i = n
    · subst c; rw [atP_same, if_pos rfl]; exact kd.st _ _ (by simp [xD]) hl
    · rw [atP_ne c, if_neg c]; exact kd.st _ _ (by simp [hDH i (by omega)]) (k.same _ _ (q.rw i (by omega)))
  · by_cases c : i = n
    · subst c; rw [if_pos rfl]; exact (z.at_ p hp).kpL kd hD
    · rw [if_neg c]; exact ((q.at_ i p (by omega) hp).kp k (by simp)).kpL kd hD
  · by_cases c : i = n
    · subst c; rw [atP_same]; exact kb.fr _ hx
    · rw [atP_ne c]; exact (q.fr i (by omega)).1
  · by_cases c : i = n
    · rw [if_pos c]; exact kb.fr _ (z.fr p hp)
    · rw [if_neg c]; exact (q.fr i (by omega)).2 p hp
  · by_cases c : i = n
    · by_cases c' : i' = n
      · rw [if_pos c, if_pos c'] at e
        exact ⟨by rw [c, c'], z.im p p' hp hp' e⟩
      · rw [if_pos c, if_neg c'] at e
        exact absurd (by rw [← e]; exact z.fr p hp) (q.at_ i' p' (by omega) hp').some
    · by_cases c' : i' = n
      · rw [if_neg c, if_pos c'] at e
        exact absurd (by rw [e]; exact z.fr p' hp') (q.at_ i p (by omega) hp).some
      · rw [if_neg c, if_neg c'] at e
        exact q.ih i p i' p' (by omega) hp (by omega) hp' e
def spNodesM (K : PySem.W.Frag) : Sp := fun vs H Q _ => ∃ (many pages : Nat), vs = [.int (many : Int), .int (pages : Int)] ∧ 1 ≤ many ∧ many ≤ 4 ∧ 1 ≤ pages ∧ pages ≤ 8 ∧
  ∀ H' B, Kp [] H H' → (∀ b, b ∈ B.foot many pages → H b = none) → ModAt K H' B (initS many pages) → Q (.ref B.m) H'
end K57
set_option Elab.async false
set_option linter.all false
set_option maxRecDepth 100000
set_option maxHeartbeats 4000000
/-! K57Xj: the law's nodes made: the walk. -/
namespace K57
open PySem L2 AB
theorem zeros_rep : (List.replicate (16 : Int).toNat [V.int 0]).flatten = zeros.map V.int := by kernel_rfl
theorem home_merge {v0 v1 v2 v3 v4 v5 v6 v7 v8 : V} : mergeK [] ([((Sum.inr "writer" : Key), v0), (Sum.inr "words", v1), (Sum.inr "number", v2), (Sum.inr "asker", v3), (Sum.inr "kind", v4)] ++ [((Sum.inr "node" : Key), v5), (Sum.inr "readers", v6), (Sum.inr "waits", v7), (Sum.inr "served", v8)]) = hD v0 v1 v2 v3 v4 v5 v6 v7 v8 := by kernel_rfl
theorem own_merge {v0 v1 v2 v3 v4 v5 : V} : mergeK [] (oD v0 v1 v2 v3 v4 v5) = oD v0 v1 v2 v3 v4 v5 := by kernel_rfl
theorem mod_merge {v0 v1 v2 : V} : mergeK [] (mD v0 v1 v2) = mD v0 v1 v2 := by kernel_rfl
theorem ho_merge {v0 v1 v2 v3 v4 : V} : mergeK [] [((Sum.inr "writer" : Key), v0), (Sum.inr "words", v1), (Sum.inr "number", v2), (Sum.inr "asker", v3), (Sum.inr "kind", v4)] = [((Sum.inr "writer" : Key), v0), (Sum.inr "words", v1), (Sum.inr "number", v2), (Sum.inr "asker", v3), (Sum.inr "kind", v4)] := by kernel_rfl
theorem rdL_home0 {many n : Nat} (h : n < many) : rdL many (home0 n) = [n] := by
  unfold rdL
  show (List.range many).filter (fun j => decide (j = n)) = [n]
  have hp : ([n] : List Nat).Perm ((List.range many).filter fun j => decide (j = n)) := (List.perm_ext_iff_of_nodup (by simp) (List.Pairwise.filter _ List.nodup_range)).mpr fun j => by
    rw [List.mem_singleton, List.mem_filter, List.mem_range, decide_eq_true_eq]
    exact ⟨fun z => ⟨by omega, z⟩, fun z => z.2⟩
  exact (List.singleton_perm.mp hp).symm
section
variable {P : Program} {w : World} {K : PySem.W.Frag} {mg : Str → Option Value} {base : Heap} {a : Ad} {f : Addr} {fd : FuncData}
theorem ok_law_nodes (F : Fun K "_law_nodes" "_law_nodes" s_law_nodes f fd) (T : Txt K mg a) : FnOk P w K mg base (L2.CX P w) 1 f fd ["many", "pages"] (spNodesM K) := by
  refine okT F sc_law_nodes (fun vs H Q E h => ?_) (fun cdv A' outer s H vs Q E hr tk hp h => ?_)
  · obtain ⟨many, pages, rfl, _⟩ := h
    rfl
  · obtain ⟨many, pages, rfl, hm1, hm4, hp1, hp8, k⟩ := h
    refine ⟨_, (pss_cons (ps_setLc (i := 2) (own := [("node", 5)]) (g := gName 5) (tt := tYes) (by rfl) sc_law_nodes.nd rfl rfl (sw_true rfl rfl rfl (by decide +kernel)) (pi_range1 (by rfl) T.n_range (pa_cons (pv 0) pa_nil)) (blkOk_by (own := [("node", 5)]) (N := N_law_nodes) (sc := defScope s_law_nodes) (by decide +kernel)) (fun _ _ _ _ _ => pg_name (i := 5) sc_law_nodes.nd rfl (by first | exact Or.inl rfl | exact Or.inr rfl)) (fun _ _ _ _ _ => pts_nil) (fun _ _ _ _ _ => by exact (pe_lc (own := [("page", 6)]) (g := gName 6) (tt := tYes) (by rfl) sc_law_nodes.nd (pi_range1 (by rfl) T.n_range (pa_cons (pv 1) pa_nil)) (blkOk_by (own := [("page", 6)]) (N := N_law_nodes) (by kernel_rfl)) (fun _ _ _ _ _ => pg_name (i := 6) sc_law_nodes.nd rfl (by first | exact Or.inl rfl | exact Or.inr rfl)) (fun _ _ _ _ _ => pts_nil) (fun _ _ _ _ _ => by exact (pe_disp (pps_cons pe_str (pe_ifExp (pt_cmpR op_eq (pe_op op_mod (pe_callTy call_int1 (by rfl) T.n_int (by decide +kernel) (pa_cons (pv 6) pa_nil)) (pv 0)) (pv 5) (nomark _)) pe_str pe_non) (pps_cons pe_str (pe_op (k_repT K (by rfl)) (pe_tup (pa_cons pe_int pa_nil)) pe_int) (pps_cons pe_str pe_non (pps_cons pe_str pe_int (pps_cons pe_str pe_int (pps_cons pe_str pe_non pps_nil)))))) (by rfl) (by rfl) (fun z => by cases z) (by decide)))))) (pss_cons (ps_set (i := 3) sc_law_nodes.nd rfl (by first | exact Or.inl rfl | exact Or.inr rfl) (pe_disp (pps_cons pe_str pe_non (pps_cons pe_str (pe_op (k_repT K (by rfl)) (pe_tup (pa_cons pe_int pa_nil)) pe_int) (pps_cons pe_str pe_int (pps_cons pe_str pe_non (pps_cons pe_str pe_non pps_nil))))) (by rfl) (by rfl) (fun z => by cases z) (by decide))) (pss_cons (ps_setLc (i := 4) (own := [("page", 6)]) (g := gName 6) (tt := tYes) (by rfl) sc_law_nodes.nd rfl rfl (sw_true rfl rfl rfl (by decide +kernel)) (pi_range1 (by rfl) T.n_range (pa_cons (pv 1) pa_nil)) (blkOk_by (own := [("page", 6)]) (N := N_law_nodes) (sc := defScope s_law_nodes) (by decide +kernel)) (fun _ _ _ _ _ => pg_name (i := 6) sc_law_nodes.nd rfl (by first | exact Or.inl rfl | exact Or.inr rfl)) (fun _ _ _ _ _ => pts_nil) (fun _ _ _ _ _ => by exact (pe_callTy (k_dictP K (by rfl) rfl) (by rfl) T.n_dict (by decide +kernel) (pa_cons (pe_op op_cat (LiI.pe_listItems rfl (pv 3) (by rfl) T.n_list (by decide +kernel)) (pe_lst (pa_cons (pe_tup (pa_cons pe_str (pa_cons (pe_op op_mod (pe_callTy call_int1 (by rfl) T.n_int (by decide +kernel) (pa_cons (pv 6) pa_nil)) (pv 0)) pa_nil))) (pa_cons (pe_tup (pa_cons pe_str (pa_cons (pe_lst (pa_cons (pe_op op_mod (pe_callTy call_int1 (by rfl) T.n_int (by decide +kernel) (pa_cons (pv 6) pa_nil)) (pv 0)) pa_nil)) pa_nil))) (pa_cons (pe_tup (pa_cons pe_str (pa_cons pe_dnewK pa_nil))) (pa_cons (pe_tup (pa_cons pe_str (pa_cons pe_dnewK pa_nil))) pa_nil)))))) pa_nil)))) (pss_one (ps_ret (pe_disp (pps_cons pe_str (pv 2) (pps_cons pe_str (pv 4) (pps_cons pe_str (pe_lst pa_nil) pps_nil))) (by rfl) (by rfl) (fun z => by cases z) (by decide))))))), ?_⟩
    have npg : ((pages : Int)).toNat = pages := Int.toNat_natCast pages
    have nmn : ((many : Int)).toNat = many := Int.toNat_natCast many
    have emod : ∀ j : Nat, ((j : Int) % (many : Int)) = ((j % many : Nat) : Int) := fun j => by omega
    -- held
    refine ⟨_, rfl, (many : Int), rfl, by omega, by omega, fun E1 hE1 => ?_⟩
    refine lc_it walk_range (fun i H1 => Kp [] H H1 ∧ ∃ (row : Nat → Addr) (ho : Nat → Nat → Addr), H1 E1 = some (.lst ((List.range i).map fun p => V.ref (row p))) ∧ RowsMadeM K H H1 i pages (fun i p => if p % many = i then some .r else none) row ho ∧ ∀ i', i' < i → row i' ≠ E1)
      ⟨Kp.new hE1, fun _ => 0, fun _ _ => 0, upd_same, ⟨fun p h => absurd h (by omega), fun p _ h => absurd h (by omega), fun p h => absurd h (by omega), fun p p' _ _ h => absurd h (by omega)⟩, fun i' h => absurd h (by omega)⟩ (fun _ _ _ _ => trivial) ?_ ?_
    · rintro i v H4 H5 hi ⟨k4, row, ho, hE4, q4, rE⟩ ⟨rfl, hv⟩
      obtain rfl : v = .int (i : Int) := by rw [hv]; exact congrArg V.int (Int.zero_add _)
      refine ⟨rfl, _, rfl, (pages : Int), rfl, by omega, by omega, fun E2 hE2 => ?_⟩
      refine lc_it walk_range (fun j H1 => Kp [] H5 H1 ∧ ∃ (h1 : Nat → Addr), H1 E2 = some (.lst ((List.range j).map fun p => V.ref (h1 p))) ∧ OwnsMade K H5 H1 j (fun p => if p % many = i then some .r else none) h1)
        ⟨Kp.new hE2, fun _ => 0, upd_same, ⟨fun p h => absurd h (by omega), fun p h => absurd h (by omega), fun p p' h => absurd h (by omega)⟩⟩ (fun _ _ _ _ => trivial) ?_ ?_
      · rintro j v H6 H7 hj ⟨k6, h1, hE6, q6⟩ ⟨rfl, hv⟩
        obtain rfl : v = .int (j : Int) := by rw [hv]; exact congrArg V.int (Int.zero_add _)
        refine ⟨rfl, fun y hy => ?_⟩
        have ky := Kp.new (o := .dK []) hy
        have mk : ∀ mo : Option Kd, mo = (if j % many = i then some .r else none) → ∀ t, (upd H7 y (.dK [])) t = none → ∀ t2, (upd (upd H7 y (.dK [])) t (.tup [V.int 0])) t2 = none → ∀ H8, H8 = upd (upd (upd (upd H7 y (.dK [])) t (.tup [V.int 0])) t2 (.tup (zeros.map V.int))) y (.dK (oD (kdV mo) (.ref t2) .non (.int 0) (.int 0) .non)) →
            ∃ acc, H8 E2 = some (.lst acc) ∧ acc.length < sizeLine ∧ (Kp [] H5 (upd H8 E2 (.lst (acc ++ [V.ref y]))) ∧ ∃ (h1 : Nat → Addr), (upd H8 E2 (.lst (acc ++ [V.ref y]))) E2 = some (.lst ((List.range (j + 1)).map fun p => V.ref (h1 p))) ∧ OwnsMade K H5 (upd H8 E2 (.lst (acc ++ [V.ref y]))) (j + 1) (fun p => if p % many = i then some .r else none) h1) := by
          rintro mo rfl t ht t2 ht2 H8 rfl
          have kt := (ky.trans0 (Kp.new (o := .tup [V.int 0]) ht)).trans0 (Kp.new (o := .tup (zeros.map V.int)) ht2)
          have ey : upd (upd (upd H7 y (.dK [])) t (.tup [V.int 0])) t2 (.tup (zeros.map V.int)) y = some (.dK []) := (Kp.new ht2).same _ _ ((Kp.new ht).same _ _ upd_same)
          have kz := Kp.set (p := y) (o := .dK (oD (kdV (if j % many = i then some Kd.r else none)) (.ref t2) .non (.int 0) (.int 0) .non)) (show Mut (upd (upd (upd H7 y (.dK [])) t (.tup [V.int 0])) t2 (.tup (zeros.map V.int)) y) by rw [ey]; exact True.intro)
          have k78 := kt.trans kz fun b hb => .inr (by rw [List.mem_singleton.mp hb]; exact hy)
          have z : OwnAt K (upd (upd (upd (upd H7 y (.dK [])) t (.tup [V.int 0])) t2 (.tup (zeros.map V.int))) y (.dK (oD (kdV (if j % many = i then some Kd.r else none)) (.ref t2) .non (.int 0) (.int 0) .non))) y (hold0 (if j % many = i then some Kd.r else none)) := ⟨t2, .non, upd_same, kz.sqT (SqT.of upd_same), rfl⟩
          have hE8 := k78.same _ _ hE6
          have kd := Kp.set (p := E2) (o := .lst ((List.range j).map (fun p => V.ref (h1 p)) ++ [V.ref y])) (show Mut (upd (upd (upd (upd H7 y (.dK [])) t (.tup [V.int 0])) t2 (.tup (zeros.map V.int))) y (.dK (oD (kdV (if j % many = i then some Kd.r else none)) (.ref t2) .non (.int 0) (.int 0) .non)) E2) by rw [hE8]; exact True.intro)
          refine ⟨_, hE8, (by rw [List.length_map, List.length_range]; exact small1000 (by omega)), (k6.trans0 k78).trans kd fun b hb => .inr (by rw [List.mem_singleton.mp hb]; exact hE2), atP j y h1, ?_, q6.snoc k6 k78 hy z kd hE8⟩
          rw [upd_same, range_snoc (α := Unit)]
        refine ⟨_, rfl, .inl ⟨_, rfl, _, rfl, _, _, rfl, rfl, (by omega), _, rfl, rfl, _, rfl, ?_⟩⟩
        have ee : decide (V.int ((j : Int) % (many : Int)) = .int (i : Int)) = decide (j % many = i) := decide_eq_decide.mpr ⟨fun z => by have := V.int.inj z; omega, fun z => by rw [← z]; exact congrArg V.int (by omega)⟩
        refine ite_of (fun e => ?_) (fun e => ?_)
        · have c : j % many = i := of_decide_eq_true (ee.symm.trans e)
          refine ⟨(by show 1 ≤ sizeLine; decide), fun t ht => ⟨t, 16, [V.int 0], rfl, rfl, SqT.of upd_same, by simp, by decide, by decide, by decide, fun t2 ht2 => ?_⟩⟩
          rw [zeros_rep]
          refine ⟨(Kp.new ht2).same _ _ ((Kp.new ht).same _ _ upd_same), oD (.str "read") (.ref t2) .non (.int 0) (.int 0) .non, rfl, by show 6 ≤ 15; decide, ?_⟩
          rw [own_merge]
          exact mk (some .r) (if_pos c).symm t ht t2 ht2 _ rfl
        · have c : ¬ j % many = i := of_decide_eq_false (ee.symm.trans e)
          refine ⟨(by show 1 ≤ sizeLine; decide), fun t ht => ⟨t, 16, [V.int 0], rfl, rfl, SqT.of upd_same, by simp, by decide, by decide, by decide, fun t2 ht2 => ?_⟩⟩
          rw [zeros_rep]
          refine ⟨(Kp.new ht2).same _ _ ((Kp.new ht).same _ _ upd_same), oD .non (.ref t2) .non (.int 0) (.int 0) .non, rfl, by show 6 ≤ 15; decide, ?_⟩
          rw [own_merge]
          exact mk none (if_neg c).symm t ht t2 ht2 _ rfl
      · rintro H6 ⟨k6, h1, hE6, q6⟩
        rw [npg] at hE6 q6
        have hE6' := k6.same _ _ hE4
        have E12 : E1 ≠ E2 := ne_of_none hE4 hE2
        have kd := Kp.set (p := E1) (o := .lst ((List.range i).map (fun p => V.ref (row p)) ++ [V.ref E2])) (show Mut (H6 E1) by rw [hE6']; exact True.intro)
        refine ⟨_, hE6', (by rw [List.length_map, List.length_range]; exact small1000 (by omega)), (k4.trans0 k6).trans kd fun b hb => .inr (by rw [List.mem_singleton.mp hb]; exact hE1), atP i E2 row, fun i' => if i' = i then h1 else ho i', ?_, q4.snoc k4 k6 hE2 q6 hE6 kd hE6' E12.symm rE, fun i' hi' => ?_⟩
        · rw [upd_same, range_snoc (α := Unit)]
        · by_cases c : i' = i
          · rw [c, atP_same]; exact E12.symm
          · rw [atP_ne c]; exact rE i' (by omega)
    rintro HA ⟨kA, row, ho, hEA, qA, rE⟩
    rw [nmn] at hEA qA
    -- home
    refine fun y hy => ⟨(by show 1 ≤ sizeLine; decide), fun t ht => ⟨t, 16, [V.int 0], rfl, rfl, SqT.of upd_same, by simp, by decide, by decide, by decide, fun t2 ht2 => ?_⟩⟩
    rw [zeros_rep]
    refine ⟨(Kp.new ht2).same _ _ ((Kp.new ht).same _ _ upd_same), [((Sum.inr "writer" : Key), .non), (Sum.inr "words", .ref t2), (Sum.inr "number", .int 0), (Sum.inr "asker", .non), (Sum.inr "kind", .non)], rfl, by show 5 ≤ 15; decide, ?_⟩
    rw [ho_merge]
    have ky := Kp.new (o := .dK []) hy
    have kt := (ky.trans0 (Kp.new (o := .tup [V.int 0]) ht)).trans0 (Kp.new (o := .tup (zeros.map V.int)) ht2)
    have ey : upd (upd (upd HA y (.dK [])) t (.tup [V.int 0])) t2 (.tup (zeros.map V.int)) y = some (.dK []) := (Kp.new ht2).same _ _ ((Kp.new ht).same _ _ upd_same)
    have kz := Kp.set (p := y) (o := .dK [((Sum.inr "writer" : Key), .non), (Sum.inr "words", .ref t2), (Sum.inr "number", .int 0), (Sum.inr "asker", .non), (Sum.inr "kind", .non)]) (show Mut (upd (upd (upd HA y (.dK [])) t (.tup [V.int 0])) t2 (.tup (zeros.map V.int)) y) by rw [ey]; exact True.intro)
    have kB := kt.trans kz fun b hb => .inr (by rw [List.mem_singleton.mp hb]; exact hy)
    have hyB : upd (upd (upd (upd HA y (.dK [])) t (.tup [V.int 0])) t2 (.tup (zeros.map V.int))) y (.dK [((Sum.inr "writer" : Key), .non), (Sum.inr "words", .ref t2), (Sum.inr "number", .int 0), (Sum.inr "asker", .non), (Sum.inr "kind", .non)]) y = some (.dK [((Sum.inr "writer" : Key), .non), (Sum.inr "words", .ref t2), (Sum.inr "number", .int 0), (Sum.inr "asker", .non), (Sum.inr "kind", .non)]) := upd_same
    have sqB := kz.sqT (K := K) (SqT.of (upd_same (H := upd (upd HA y (.dK [])) t (.tup [V.int 0])) (a := t2) (o := .tup (zeros.map V.int))))
    generalize upd (upd (upd (upd HA y (.dK [])) t (.tup [V.int 0])) t2 (.tup (zeros.map V.int))) y (.dK [((Sum.inr "writer" : Key), .non), (Sum.inr "words", .ref t2), (Sum.inr "number", .int 0), (Sum.inr "asker", .non), (Sum.inr "kind", .non)]) = HB at *
    -- homes
    refine ⟨_, rfl, (pages : Int), rfl, by omega, by omega, fun D hD => ?_⟩
    refine lc_it walk_range (fun i H1 => Kp [] HB H1 ∧ ∃ hm rd wt sv : Nat → Addr, H1 D = some (.lst ((List.range i).map fun p => V.ref (hm p))) ∧ MomsMade K many HB H1 i hm rd wt sv ∧ ∀ p, p < i → rd p ≠ D)
      ⟨Kp.new hD, fun _ => 0, fun _ => 0, fun _ => 0, fun _ => 0, upd_same, ⟨fun p h => absurd h (by omega), fun p h => absurd h (by omega), fun p p' h => absurd h (by omega), fun p p' d h => absurd h (by omega)⟩, fun p h => absurd h (by omega)⟩ (fun _ _ _ _ => trivial) ?_ ?_
    · rintro j v H3 H4 hj ⟨k3, hm, rd, wt, sv, hD3, q3, rD⟩ ⟨rfl, hv⟩
      obtain rfl : v = .int (j : Int) := by rw [hv]; exact congrArg V.int (Int.zero_add _)
      refine ⟨rfl, _, rfl, y, _, rfl, k3.same _ _ hyB, fun H5 lp ts same hlp hts hnin hlp5 hpr => ?_⟩
      have k45 : Kp [] H4 H5 := Kp.ofSame same
      have sq5 := k45.sqT (k3.sqT sqB)
      obtain ⟨b1, b2, b3, b4, b5, rfl, p1, p2, p3, p4, p5⟩ : ∃ b1 b2 b3 b4 b5, ts = [b1, b2, b3, b4, b5] ∧ H5 b1 = some (.tup [.str "writer", .non]) ∧ H5 b2 = some (.tup [.str "words", .ref t2]) ∧ H5 b3 = some (.tup [.str "number", .int 0]) ∧ H5 b4 = some (.tup [.str "asker", .non]) ∧ H5 b5 = some (.tup [.str "kind", .non]) := by
        cases hpr with
        | cons r1 hpr => cases hpr with
          | cons r2 hpr => cases hpr with
            | cons r3 hpr => cases hpr with
              | cons r4 hpr => cases hpr with
                | cons r5 hpr => cases hpr with
                  | nil => exact ⟨_, _, _, _, _, rfl, r1, r2, r3, r4, r5⟩
      have em := emod j
      refine ⟨_, rfl, .inl ⟨_, rfl, _, rfl, _, _, rfl, rfl, (by omega), (by show 2 ≤ sizeLine; decide), fun q1 hq1 => ?_⟩⟩
      have m1 := Kp.new (o := .tup [.str "node", .int ((j : Int) % (many : Int))]) hq1
      have s1 : upd H5 q1 (.tup [.str "node", .int ((j : Int) % (many : Int))]) q1 = some (.tup [.str "node", .int ((j : Int) % (many : Int))]) := upd_same
      generalize upd H5 q1 (.tup [.str "node", .int ((j : Int) % (many : Int))]) = H6 at *
      refine ⟨_, rfl, .inl ⟨_, rfl, _, rfl, _, _, rfl, rfl, (by omega), (by show 1 ≤ sizeLine; decide), fun l hl => ⟨(by show 2 ≤ sizeLine; decide), fun q2 hq2 => ?_⟩⟩⟩
      have ml := Kp.new (o := .lst [.int ((j : Int) % (many : Int))]) hl
      have sl : upd H6 l (.lst [.int ((j : Int) % (many : Int))]) l = some (.lst [.int ((j : Int) % (many : Int))]) := upd_same
      generalize upd H6 l (.lst [.int ((j : Int) % (many : Int))]) = H7 at *
      have m2 := Kp.new (o := .tup [.str "readers", .ref l]) hq2
      have s2 : upd H7 q2 (.tup [.str "readers", .ref l]) q2 = some (.tup [.str "readers", .ref l]) := upd_same
      generalize upd H7 q2 (.tup [.str "readers", .ref l]) = H8 at *
      refine fun d1 hd1 => ⟨(by show 2 ≤ sizeLine; decide), fun qw hqw => ?_⟩
      have md1 := Kp.new (o := .dK []) hd1
      have sd1 : upd H8 d1 (.dK []) d1 = some (.dK []) := upd_same
      generalize upd H8 d1 (.dK []) = H9 at *
      have m3 := Kp.new (o := .tup [.str "waits", .ref d1]) hqw
      have s3 : upd H9 qw (.tup [.str "waits", .ref d1]) qw = some (.tup [.str "waits", .ref d1]) := upd_same
      generalize upd H9 qw (.tup [.str "waits", .ref d1]) = HA1 at *
      refine fun d2 hd2 => ⟨(by show 2 ≤ sizeLine; decide), fun qs hqs => ?_⟩
      have md2 := Kp.new (o := .dK []) hd2
      have sd2 : upd HA1 d2 (.dK []) d2 = some (.dK []) := upd_same
      generalize upd HA1 d2 (.dK []) = HA2 at *
      have m4 := Kp.new (o := .tup [.str "served", .ref d2]) hqs
      have s4 : upd HA2 qs (.tup [.str "served", .ref d2]) qs = some (.tup [.str "served", .ref d2]) := upd_same
      generalize upd HA2 qs (.tup [.str "served", .ref d2]) = HA3 at *
      refine ⟨(by show 4 ≤ sizeLine; decide), fun L hL => ?_⟩
      have mL := Kp.new (o := .lst [.ref q1, .ref q2, .ref qw, .ref qs]) hL
      have sL : upd HA3 L (.lst [.ref q1, .ref q2, .ref qw, .ref qs]) L = some (.lst [.ref q1, .ref q2, .ref qw, .ref qs]) := upd_same
      generalize upd HA3 L (.lst [.ref q1, .ref q2, .ref qw, .ref qs]) = HA4 at *
      -- on from each
      have g4 := mL
      have g3' := m4.trans0 g4
      have g3 := md2.trans0 g3'
      have g2' := m3.trans0 g3
      have g2 := md1.trans0 g2'
      have g1' := m2.trans0 g2
      have g1 := ml.trans0 g1'
      have g0 := m1.trans0 g1
      refine ⟨lp, L, _, _, rfl, rfl, g0.same _ _ hlp5, sL, by show 5 + 4 ≤ sizeLine; decide, fun L2 hL2 => ?_⟩
      have mZ := Kp.new (o := .lst ([b1, b2, b3, b4, b5].map V.ref ++ [.ref q1, .ref q2, .ref qw, .ref qs])) hL2
      have sZ : upd HA4 L2 (.lst ([b1, b2, b3, b4, b5].map V.ref ++ [.ref q1, .ref q2, .ref qw, .ref qs])) L2 = some (.lst ([b1, b2, b3, b4, b5].map V.ref ++ [.ref q1, .ref q2, .ref qw, .ref qs])) := upd_same
      generalize upd HA4 L2 (.lst ([b1, b2, b3, b4, b5].map V.ref ++ [.ref q1, .ref q2, .ref qw, .ref qs])) = HA5 at *
      have f0 := g0.trans0 mZ
      have T5 : ∀ {b : Addr} {o : HO}, H5 b = some o → HA5 b = some o := fun h => f0.same _ _ h
      refine ⟨L2, [b1, b2, b3, b4, b5, q1, q2, qw, qs], [((Sum.inr "writer" : Key), .non), (Sum.inr "words", .ref t2), (Sum.inr "number", .int 0), (Sum.inr "asker", .non), (Sum.inr "kind", .non)] ++ [((Sum.inr "node" : Key), .int ((j : Int) % (many : Int))), (Sum.inr "readers", .ref l), (Sum.inr "waits", .ref d1), (Sum.inr "served", .ref d2)], rfl, SqL.of sZ, ?_, fun Dd hDd => ?_⟩
      · exact .cons (SqT.of (T5 p1)) (.cons (SqT.of (T5 p2)) (.cons (SqT.of (T5 p3)) (.cons (SqT.of (T5 p4)) (.cons (SqT.of (T5 p5)) (.cons (SqT.of (mZ.same _ _ (g1.same _ _ s1))) (.cons (SqT.of (mZ.same _ _ (g2.same _ _ s2))) (.cons (SqT.of (mZ.same _ _ (g3.same _ _ s3))) (.cons (SqT.of (mZ.same _ _ (g4.same _ _ s4))) .nil))))))))
      rw [home_merge]
      have mD' := Kp.new (o := .dK (K57.hD .non (.ref t2) (.int 0) .non .non (.int ((j : Int) % (many : Int))) (.ref l) (.ref d1) (.ref d2))) hDd
      have sD : upd HA5 Dd (.dK (K57.hD .non (.ref t2) (.int 0) .non .non (.int ((j : Int) % (many : Int))) (.ref l) (.ref d1) (.ref d2))) Dd = some (.dK (K57.hD .non (.ref t2) (.int 0) .non .non (.int ((j : Int) % (many : Int))) (.ref l) (.ref d1) (.ref d2))) := upd_same
      generalize upd HA5 Dd (.dK (K57.hD .non (.ref t2) (.int 0) .non .non (.int ((j : Int) % (many : Int))) (.ref l) (.ref d1) (.ref d2))) = HA6 at *
      have kall := (k45.trans0 f0).trans0 mD'
      have lt := Nat.mod_lt j (show 0 < many by omega)
      have hlF := mD'.same _ _ (mZ.same _ _ (g1'.same _ _ sl))
      have hd1F := mD'.same _ _ (mZ.same _ _ (g2'.same _ _ sd1))
      have hd2F := mD'.same _ _ (mZ.same _ _ (g3'.same _ _ sd2))
      have fr4 : ∀ {b : Addr}, H5 b = none → H4 b = none := fun h => k45.fr _ h
      have fl : H4 l = none := fr4 (m1.fr _ hl)
      have fd1 : H4 d1 = none := fr4 (m1.fr _ (ml.fr _ (m2.fr _ hd1)))
      have fd2 : H4 d2 = none := fr4 (m1.fr _ (ml.fr _ (m2.fr _ (md1.fr _ (m3.fr _ hd2)))))
      have fDd : H4 Dd = none := k45.fr _ (f0.fr _ hDd)
      have d12 : d1 ≠ d2 := ne_of_none (m3.same _ _ sd1) hd2
      rw [em] at sD hlF
      have z : MomAt K many HA6 Dd l d1 d2 (home0 (j % many)) := ⟨⟨t2, sD, mD'.sqT (f0.sqT sq5)⟩, by rw [rdL_home0 lt]; exact hlF, DN.empty hd1F, DN.empty hd2F, d12⟩
      have hD8 := kall.same _ _ hD3
      have kd := Kp.set (p := D) (o := .lst ((List.range j).map (fun p => V.ref (hm p)) ++ [V.ref Dd])) (show Mut (HA6 D) by rw [hD8]; exact True.intro)
      have lD : l ≠ D := (ne_of_none hD3 fl).symm
      refine ⟨_, hD8, (by rw [List.length_map, List.length_range]; exact small1000 (by omega)), (k3.trans0 kall).trans kd fun b hb => .inr (by rw [List.mem_singleton.mp hb]; exact hD), atP j Dd hm, atP j l rd, atP j d1 wt, atP j d2 sv, ?_, q3.snoc k3 kall fDd fl fd1 fd2 z kd hD8 rD lD, fun p hp => ?_⟩
      · rw [upd_same, range_snoc (α := Unit)]
      · by_cases c : p = j
        · rw [c, atP_same]; exact lD
        · rw [atP_ne c]; exact rD p (by omega)
    · rintro H3 ⟨k3, hm, rd, wt, sv, hD3, q3, rD⟩
      rw [npg] at hD3 q3
      refine fun m hm' => ⟨_, rfl, _, rfl, Nat.zero_le _, fun wy hwy => ⟨(Kp.new hwy).same _ _ upd_same, mD (.ref E1) (.ref D) (.ref wy), rfl, by show 3 ≤ 15; decide, ?_⟩⟩
      rw [mod_merge]
      have km := Kp.new (o := .dK []) hm'
      have kw := Kp.new (o := .lst []) hwy
      have em : upd (upd H3 m (.dK [])) wy (.lst []) m = some (.dK []) := kw.same _ _ upd_same
      have kz := Kp.set (p := m) (o := .dK (mD (.ref E1) (.ref D) (.ref wy))) (show Mut (upd (upd H3 m (.dK [])) wy (.lst []) m) by rw [em]; exact True.intro)
      have k3z : Kp [] H3 _ := (km.trans0 kw).trans kz fun b hb => .inr (by rw [List.mem_singleton.mp hb]; exact hm')
      have wm : wy ≠ m := (ne_of_none upd_same hwy).symm
      have hwz : upd (upd (upd H3 m (.dK [])) wy (.lst [])) m (.dK (mD (.ref E1) (.ref D) (.ref wy))) wy = some (.lst []) := by rw [upd_ne wm]; exact upd_same
      have hmz : upd (upd (upd H3 m (.dK [])) wy (.lst [])) m (.dK (mD (.ref E1) (.ref D) (.ref wy))) m = some (.dK (mD (.ref E1) (.ref D) (.ref wy))) := upd_same
      generalize upd (upd (upd H3 m (.dK [])) wy (.lst [])) m (.dK (mD (.ref E1) (.ref D) (.ref wy))) = HZ at *
      have kBZ : Kp [] HB HZ := k3.trans0 k3z
      have kAZ : Kp [] HA HZ := kB.trans0 kBZ
      have fB : ∀ b, HB b = none → H b = none := fun b h => kA.fr _ (kB.fr _ h)
      have hw3 : H3 wy = none := km.fr _ hwy
      have hE3 := k3.same _ _ (kB.same _ _ hEA)
      refine k HZ ⟨m, E1, D, wy, row, ho, hm, rd, wt, sv⟩ (kA.trans0 kAZ) (fun b hb => ?_) ⟨hmz, ⟨[], hwz, .nil⟩, kAZ.same _ _ hEA, k3z.same _ _ hD3, fun i hi => kAZ.same _ _ (qA.rw i hi), fun i p hi hp => (qA.at_ i p hi hp).kp kAZ (by simp), fun p hp => (q3.at_ p hp).kp k3z (by simp) (by simp) (by simp) (by simp), fun i p i' p' hi hp hi' hp' e => qA.ih i p i' p' hi hp hi' hp' e, fun p p' hp hp' e => q3.im p p' hp hp' e, fun p p' d hp hp' e e' => q3.dj p p' d hp hp' e e', (ne_of_none hE3 hw3).symm, (ne_of_none hD3 hw3).symm, fun i hi => (ne_of_none (k3.same _ _ (kB.same _ _ (qA.rw i hi))) hw3).symm, fun p hp => (ne_of_none (q3.at_ p hp).rd hw3).symm⟩
      rcases MAd.mem_foot.mp hb with (rfl | rfl | rfl | rfl) | ⟨i, hi, rfl⟩ | ⟨i, hi, j, hj, rfl⟩ | ⟨j, hj, rfl | rfl | rfl | rfl⟩
      · exact fB _ (k3.fr _ hm')
      · exact hE1
      · exact fB _ hD
      · exact fB _ (k3.fr _ hw3)
      · exact (qA.fr i hi).1
      · exact (qA.fr i hi).2 j hj
      · exact fB _ (q3.fr j hj).1
      · exact fB _ (q3.fr j hj).2.1
      · exact fB _ (q3.fr j hj).2.2.1
      · exact fB _ (q3.fr j hj).2.2.2
end
end K57
set_option Elab.async false
set_option linter.all false
set_option maxRecDepth 100000
set_option maxHeartbeats 4000000
/-! K57Xk: both side by side. -/
namespace K57
open PySem L2 AB
structure LS (K : PySem.W.Frag) (a : Ad) (H : Hp) (A : NAd) (B : MAd) (S T : Sy) (X : List Addr) : Prop where
  na : NodesAt K a H A S
  ma : ModAt K H B T
  dm : T.many = S.many ∧ T.pages = S.pages
  sep : ∀ b, b ∈ A.foot S.many S.pages → b ∉ B.foot S.many S.pages
  ot : ∀ b, b ∈ X → H b ≠ none ∧ b ∉ A.foot S.many S.pages ∧ b ∉ B.foot S.many S.pages
theorem mut_some {H : Hp} {b : Addr} (h : Mut (H b)) : H b ≠ none := fun z => by rw [z] at h; exact h
theorem kp_some {m : List Addr} {H H' : Hp} {b : Addr} (k : Kp m H H') (h : H b ≠ none) : H' b ≠ none := fun z => h (k.fr b z)
section
variable {K : PySem.W.Frag} {a : Ad} {H H' : Hp} {A A' : NAd} {B B' : MAd} {S S' T T' : Sy} {X : List Addr}
theorem LS.ch (l : LS K a H A B S T X) (c : Ch K a H A S H' A' S') : LS K a H' A' B S' T X := by
  have e := c.mp
  have mm := l.ma.mut
  rw [l.dm.1, l.dm.2] at mm
  have ms : ∀ b, b ∈ A'.foot S.many S.pages → b ∉ B.foot S.many S.pages := fun b hb hB => by
    rcases c.f b hb with h | h
    · exact l.sep b h hB
    · exact mut_some (mm b hB) h
  refine ⟨c.at_, l.ma.far c.k fun b hb => ?_, ⟨l.dm.1.trans e.1.symm, l.dm.2.trans e.2.symm⟩, by rw [e.1, e.2]; exact ms, fun b hb => ?_⟩
  · rw [l.dm.1, l.dm.2] at hb
    exact fun z => l.sep b z hb
  · obtain ⟨h1, h2, h3⟩ := l.ot b hb
    rw [e.1, e.2]
    exact ⟨kp_some c.k h1, fun z => (c.f b z).elim h2 h1, h3⟩
theorem LS.cm (l : LS K a H A B S T X) (c : Cm K H B T H' B' T') : LS K a H' A B' S T' X := by
  have e := c.mp
  have ck := c.k
  have cf := c.f
  rw [l.dm.1, l.dm.2] at ck cf
  refine ⟨l.na.far ck l.sep, c.at_, ⟨e.1.trans l.dm.1, e.2.trans l.dm.2⟩, fun b hb hB => ?_, fun b hb => ?_⟩
  · rcases cf b hB with h | h
    · exact l.sep b hb h
    · exact mut_some (l.na.mut b hb) h
  · obtain ⟨h1, h2, h3⟩ := l.ot b hb
    exact ⟨kp_some ck h1, h2, fun z => (cf b z).elim h3 h1⟩
theorem LS.kpX {ms : List Addr} (l : LS K a H A B S T X) (k : Kp ms H H') (h : ∀ b, b ∈ ms → b ∈ X) : LS K a H' A B S T X := by
  refine ⟨l.na.far k fun b hb z => (l.ot b (h b z)).2.1 hb, l.ma.far k fun b hb z => (l.ot b (h b z)).2.2 (by rw [l.dm.1, l.dm.2] at hb; exact hb), l.dm, l.sep, fun b hb => ⟨kp_some k (l.ot b hb).1, (l.ot b hb).2⟩⟩
theorem LS.kp0 (l : LS K a H A B S T X) (k : Kp [] H H') : LS K a H' A B S T X := l.kpX k fun b h => nomatch h
/-- something else stays -/
theorem LS.stCh (l : LS K a H A B S T X) (c : Ch K a H A S H' A' S') {b : Addr} {o : HO} (hb : b ∈ X) (e : H b = some o) : H' b = some o := c.k.st b o (l.ot b hb).2.1 e
theorem LS.stCm (l : LS K a H A B S T X) (c : Cm K H B T H' B' T') {b : Addr} {o : HO} (hb : b ∈ X) (e : H b = some o) : H' b = some o := by
  have ck := c.k
  rw [l.dm.1, l.dm.2] at ck
  exact ck.st b o (l.ot b hb).2.2 e
/-- messages told by both -/
theorem MV.lk {v u : V} {m : Msg} (h : MV K H v m) (h' : MV K H u m) (hw : okM 4 8 m) : Lk K 2 H v u := by
  obtain ⟨t, xs, rfl, ht, hx⟩ := h
  obtain ⟨t', ys, rfl, ht', hy⟩ := h'
  have tup : ∀ {ws : List Int} {c c' : Addr}, ws.length = 16 → SqT K H c (ws.map V.int) → SqT K H c' (ws.map V.int) → Lk K 1 H (.ref c) (.ref c') := fun {ws c c'} hl h h' => by
    refine .inr ⟨c, c', _, _, rfl, rfl, h, h', ?_, by rw [List.length_map]; omega⟩
    clear h h' hl
    induction ws with
    | nil => exact .nil
    | cons x l ih => exact .cons ⟨rfl, rfl⟩ ih
  cases m with
  | ask n y p q k =>
    obtain rfl : xs = _ := hx
    obtain rfl : ys = _ := hy
    exact .inr ⟨t, t', _, _, rfl, rfl, ht, ht', .cons (Lk.flat rfl) (.cons (Lk.flat rfl) (.cons (Lk.flat rfl) (.cons (Lk.flat rfl) (.cons (Lk.flat rfl) (.cons (Lk.flat rfl) .nil))))), by show 6 ≤ 100000; decide⟩
  | put y n p q w =>
    obtain rfl : xs = _ := hx
    obtain rfl : ys = _ := hy
    exact .inr ⟨t, t', _, _, rfl, rfl, ht, ht', .cons (Lk.flat rfl) (.cons (Lk.flat rfl) (.cons (Lk.flat rfl) (.cons (Lk.flat rfl) (.cons (Lk.flat rfl) .nil)))), by show 5 ≤ 100000; decide⟩
  | grant y n p q k ws =>
    obtain ⟨c, rfl, hc⟩ := hx
    obtain ⟨c', rfl, hc'⟩ := hy
    exact .inr ⟨t, t', _, _, rfl, rfl, ht, ht', .cons (Lk.flat rfl) (.cons (Lk.flat rfl) (.cons (Lk.flat rfl) (.cons (Lk.flat rfl) (.cons (Lk.flat rfl) (.cons (tup hw.2.2.2 hc hc') .nil))))), by show 6 ≤ 100000; decide⟩
  | given n y p q ws =>
    obtain ⟨c, rfl, hc⟩ := hx
    obtain ⟨c', rfl, hc'⟩ := hy
    exact .inr ⟨t, t', _, _, rfl, rfl, ht, ht', .cons (Lk.flat rfl) (.cons (Lk.flat rfl) (.cons (Lk.flat rfl) (.cons (Lk.flat rfl) (.cons (Lk.flat rfl) (.cons (tup hw.2.2 hc hc') .nil))))), by show 6 ≤ 100000; decide⟩
  | have_ n y p q =>
    obtain rfl : xs = _ := hx
    obtain rfl : ys = _ := hy
    exact .inr ⟨t, t', _, _, rfl, rfl, ht, ht', .cons (Lk.flat rfl) (.cons (Lk.flat rfl) (.cons (Lk.flat rfl) (.cons (Lk.flat rfl) (.cons (Lk.flat rfl) .nil)))), by show 5 ≤ 100000; decide⟩
theorem okM_up {many pages : Nat} (h4 : many ≤ 4) (h8 : pages ≤ 8) {m : Msg} (h : okM many pages m) : okM 4 8 m := by
  cases m with
  | ask => exact ⟨Nat.lt_of_lt_of_le h.1 h4, Nat.lt_of_lt_of_le h.2 h8⟩
  | put => exact ⟨Nat.lt_of_lt_of_le h.1 h4, Nat.lt_of_lt_of_le h.2.1 h8, h.2.2⟩
  | grant => exact ⟨Nat.lt_of_lt_of_le h.1 h4, Nat.lt_of_lt_of_le h.2.1 h8, h.2.2⟩
  | given => exact ⟨Nat.lt_of_lt_of_le h.1 h4, Nat.lt_of_lt_of_le h.2.1 h8, h.2.2⟩
  | have_ => exact ⟨Nat.lt_of_lt_of_le h.1 h4, Nat.lt_of_lt_of_le h.2 h8⟩
theorem ways_lk {xs ys : List V} {ms : List Msg} (hx : Paired (fun v m => MV K H v m) xs ms) (hy : Paired (fun v m => MV K H v m) ys ms) (ok : ∀ m ∈ ms, okM 4 8 m) : Paired (fun u v => Lk K 2 H u v) xs ys := by
  induction hx generalizing ys with
  | nil => cases hy; exact .nil
  | cons r t ih =>
    cases hy with
    | cons r' t' => exact .cons (MV.lk r r' (ok _ List.mem_cons_self)) (ih t' fun m hm => ok m (List.mem_cons_of_mem _ hm))
end
end K57
set_option Elab.async false
set_option linter.all false
set_option maxRecDepth 100000
set_option maxHeartbeats 4000000
/-! K57Xl: whether both show the same. -/
namespace K57
open PySem L2 AB
def spAlike (K : PySem.W.Frag) (a : Ad) : Sp := fun vs H Q _ => ∃ (A : NAd) (B : MAd) (S : Sy) (X : List Addr), vs = [.ref A.n, .ref B.m] ∧ LS K a H A B S S X ∧ WF S ∧ S.way.length ≤ 90000 ∧ ∀ H', Kp [] H H' → Q (.bl true) H'
theorem eqV_kd (m : Option Kd) (k : Kd) : eqV (kdV m) (.str k.s) = decide (m = some k) := by
  cases m with
  | none => rfl
  | some j => cases j <;> cases k <;> decide +kernel
theorem flat_kd (m : Option Kd) : flatV (kdV m) = true := by cases m <;> rfl
theorem flat_nV (o : Option Nat) : isFlat (nV o) = true := by cases o <;> rfl
theorem flat_kdV (m : Option Kd) : isFlat (kdV m) = true := by cases m <;> rfl
theorem filt_head {f : Nat → Bool} {n x : Nat} {l : List Nat} (h : (List.range n).filter f = x :: l) : x < n ∧ f x = true ∧ ∀ m, m < x → f m = false := by
  have hx : x ∈ (List.range n).filter f := by rw [h]; exact List.mem_cons_self
  have h1 := List.mem_filter.mp hx
  refine ⟨List.mem_range.mp h1.1, h1.2, fun m hm => ?_⟩
  cases hf : f m with
  | false => rfl
  | true =>
    have hm2 : m ∈ (List.range n).filter f := List.mem_filter.mpr ⟨List.mem_range.mpr (by have := List.mem_range.mp h1.1; omega), hf⟩
    have pw : ((List.range n).filter f).Pairwise (· < ·) := List.Pairwise.filter _ List.pairwise_lt_range
    rw [h] at hm2 pw
    rcases List.mem_cons.mp hm2 with e | e
    · omega
    · have := (List.pairwise_cons.mp pw).1 m e
      omega
theorem ints_lk {K : PySem.W.Frag} {H : Hp} {t t' : Addr} {d : Nat} (js : List Nat) (hl : js.length ≤ 100000) (h : SqT K H t (js.map fun i : Nat => V.int (i : Int))) (h' : SqT K H t' (js.map fun i : Nat => V.int (i : Int))) : Lk K (d + 1) H (.ref t) (.ref t') := by
  refine .inr ⟨t, t', _, _, rfl, rfl, h, h', ?_, by rw [List.length_map]; exact hl⟩
  clear h h' hl
  induction js with
  | nil => exact .nil
  | cons x l ih => exact .cons (Lk.flat rfl) ih
theorem wants_lk {K : PySem.W.Frag} {H : Hp} {S : Sy} {i : Nat} {js : List Nat} {ts us : List Addr} (h : Paired (fun p l => SqT K H l [.int (p : Nat), kdV (S.held i p).want]) js ts) (h' : Paired (fun p l => SqT K H l [.int (p : Nat), kdV (S.held i p).want]) js us) : Paired (fun u v => Lk K 2 H u v) (ts.map V.ref) (us.map V.ref) := by
  induction h generalizing us with
  | nil => cases h'; exact .nil
  | cons r t ih =>
    cases h' with
    | cons r' t' => exact .cons (.inr ⟨_, _, _, _, rfl, rfl, r, r', .cons (Lk.flat rfl) (.cons (Lk.flat (flat_kdV _)) .nil), by show 2 ≤ 100000; decide⟩) (ih t')
section
variable {P : Program} {w : World} {K : PySem.W.Frag} {mg : Str → Option Value} {base : Heap} {a : Ad} {f : Addr} {fd : FuncData}
theorem ok_law_is_alike (F : Fun K "_law_is_alike" "_law_is_alike" s_law_is_alike f fd) (T : Txt K mg a) (G_law_same : GFn P w K mg base 5 "_law_same" ["actual", "due"] (spSame K 3)) (G_Nodes_net : GMt P w K mg base 1 a.cn "net" ["self"] (spNet K a)) (G_Nodes_who : GMt P w K mg base 3 a.cn "who" ["self", "page"] (spWho K a)) (G_Nodes_wants : GMt P w K mg base 3 a.cn "wants" ["self", "node"] (spWants K a)) :
    FnOk P w K mg base (L2.CX P w) 6 f fd ["nodes", "m"] (spAlike K a) := by
  refine okT F sc_law_is_alike (fun vs H Q E h => ?_) (fun cdv A' outer s H vs Q E hr tk hp h => ?_)
  · obtain ⟨A, B, S, X, rfl, _⟩ := h
    rfl
  · obtain ⟨A, B, S, X, rfl, ls, wf, hwl, k⟩ := h
    refine ⟨_, (pss_cons (ps_if (pt_not (k_tru K (by rfl) (pt_truth (pe_cl G_law_same (hr.mono (by decide)) tk (pa_cons (pe_mt0 (pv 0) G_Nodes_net (hr.mono (by decide)) tk) (pa_cons (pe_callTy (k_tupOf K (by rfl)) (by rfl) T.n_tuple (by decide +kernel) (pa_cons (pe_dget (hu_of hr) (pv 1) pe_str (fun _ _ => rfl)) pa_nil)) pa_nil))) (by intro _; rfl)))) (pss_one (ps_ret pe_bl)) pss_nil) (pss_cons (ps_for hp rfl (pi_range1 (by rfl) T.n_range (pa_cons (pe_callB (k_len K (by rfl)) (by rfl) T.n_len (by decide +kernel) (pa_cons (pe_dget (hu_of hr) (pv 1) pe_str (fun _ _ => rfl)) pa_nil)) pa_nil)) (pg_name (i := 2) sc_law_is_alike.nd rfl (by first | exact Or.inl rfl | exact Or.inr rfl)) (pss_cons (ps_set (i := 3) sc_law_is_alike.nd rfl (by first | exact Or.inl rfl | exact Or.inr rfl) (pe_lc (own := [("row", 6)]) (g := gName 6) (tt := tYes) (by rfl) sc_law_is_alike.nd (k_piL K (by rfl) (pi_list (pe_dget (hu_of hr) (pv 1) pe_str (fun _ _ => rfl)))) (blkOk_by (own := [("row", 6)]) (N := N_law_is_alike) (sc := defScope s_law_is_alike) (by decide +kernel)) (fun _ _ _ _ _ => pg_name (i := 6) sc_law_is_alike.nd rfl (by first | exact Or.inl rfl | exact Or.inr rfl)) (fun _ _ _ _ _ => pts_nil) (fun _ _ _ _ _ => by exact (pe_dget (hu_of hr) (pe_ix (k_ixL K (by rfl)) (pv 6) (pv 2) (fun _ _ => rfl)) pe_str (fun _ _ => rfl))))) (C8.pss_cut (ps_set (i := 4) sc_law_is_alike.nd rfl (by first | exact Or.inl rfl | exact Or.inr rfl) (pe_ifExp (pt_cmpR (k_in K (by rfl)) pe_str (pv 3) (by rfl)) (k_bm K (by rfl) (pe_bm PySem.F.plainAttrs_list PySem.F.slot_list_index PySem.F.type_list_index mt_index (pv 3)  (pa_cons pe_str pa_nil))) pe_non)) (pss_one (ps_if (pt_not (k_tru K (by rfl) (pt_truth (pe_cl G_law_same (hr.mono (by decide)) tk (pa_cons (pe_mt (pv 0) G_Nodes_who (hr.mono (by decide)) tk (pa_cons (pv 2) pa_nil)) (pa_cons (pe_tup (pa_cons (pv 4) (pa_cons (pe_callTy (k_tupOf K (by rfl)) (by rfl) T.n_tuple (by decide +kernel) (pa_cons (pe_lc (own := [("k", 7)]) (g := gName 7) (by rfl) sc_law_is_alike.nd (pi_range1 (by rfl) T.n_range (pa_cons (pe_callB (k_len K (by rfl)) (by rfl) T.n_len (by decide +kernel) (pa_cons (pv 3) pa_nil)) pa_nil)) (blkOk_by (own := [("k", 7)]) (N := N_law_is_alike) (sc := defScope s_law_is_alike) (by decide +kernel)) (fun _ _ _ _ _ => pg_name (i := 7) sc_law_is_alike.nd rfl (by first | exact Or.inl rfl | exact Or.inr rfl)) (fun _ _ _ _ _ => by exact pts_one (pt_cmpR op_eq (pe_ix (k_ixL K (by rfl)) (pv 3) (pv 7) (fun _ _ => rfl)) pe_str (nomark _))) (fun _ _ _ _ _ => by exact (pv 7))) pa_nil)) pa_nil))) pa_nil))) (by intro _; rfl)))) (pss_one (ps_ret pe_bl)) pss_nil))))) (pss_cons (ps_for hp rfl (pi_range1 (by rfl) T.n_range (pa_cons (pe_callB (k_len K (by rfl)) (by rfl) T.n_len (by decide +kernel) (pa_cons (pe_dget (hu_of hr) (pv 1) pe_str (fun _ _ => rfl)) pa_nil)) pa_nil)) (pg_name (i := 5) sc_law_is_alike.nd rfl (by first | exact Or.inl rfl | exact Or.inr rfl)) (pss_cons (ps_set (i := 6) sc_law_is_alike.nd rfl (by first | exact Or.inl rfl | exact Or.inr rfl) (pe_ix (k_ixL K (by rfl)) (pe_dget (hu_of hr) (pv 1) pe_str (fun _ _ => rfl)) (pv 5) (fun _ _ => rfl))) (pss_one (ps_if (pt_not (k_tru K (by rfl) (pt_truth (pe_cl G_law_same (hr.mono (by decide)) tk (pa_cons (pe_mt (pv 0) G_Nodes_wants (hr.mono (by decide)) tk (pa_cons (pv 5) pa_nil)) (pa_cons (pe_callTy (k_tupOf K (by rfl)) (by rfl) T.n_tuple (by decide +kernel) (pa_cons (pe_lc (own := [("page", 2)]) (g := gName 2) (by rfl) sc_law_is_alike.nd (pi_range1 (by rfl) T.n_range (pa_cons (pe_callB (k_len K (by rfl)) (by rfl) T.n_len (by decide +kernel) (pa_cons (pv 6) pa_nil)) pa_nil)) (blkOk_by (own := [("page", 2)]) (N := N_law_is_alike) (sc := defScope s_law_is_alike) (by decide +kernel)) (fun _ _ _ _ _ => pg_name (i := 2) sc_law_is_alike.nd rfl (by first | exact Or.inl rfl | exact Or.inr rfl)) (fun _ _ _ _ _ => by exact pts_one (pt_cmpR op_notN (pe_dget (hu_of hr) (pe_ix (k_ixL K (by rfl)) (pv 6) (pv 2) (fun _ _ => rfl)) pe_str (fun _ _ => rfl)) pe_non (nomark _))) (fun _ _ _ _ _ => by exact (pe_tup (pa_cons (pv 2) (pa_cons (pe_dget (hu_of hr) (pe_ix (k_ixL K (by rfl)) (pv 6) (pv 2) (fun _ _ => rfl)) pe_str (fun _ _ => rfl)) pa_nil))))) pa_nil)) pa_nil))) (by intro _; rfl)))) (pss_one (ps_ret pe_bl)) pss_nil)))) (pss_one (ps_ret pe_bl))))), ?_⟩
    obtain ⟨dx, hob⟩ := ls.na.ob
    obtain ⟨ys, hy, py⟩ := ls.ma.wy
    have hyl := Paired.length py
    refine ⟨_, rfl, A.n, dx, _, rfl, hob, nF_no (by decide +kernel), A, S, rfl, ls.na, fun t xs ht px => ?_⟩
    have k1 := Kp.new (o := .tup xs) ht
    have l1 := ls.kp0 k1
    refine ⟨_, rfl, B.m, _, rfl, mG_way l1.ma.ob, B.way, ys, rfl, .inl ⟨SqL.of (k1.same _ _ hy), fun t2 ht2 => ?_⟩⟩
    have k2 := Kp.new (o := .tup ys) ht2
    have l2 := l1.kp0 k2
    have hok : ∀ m ∈ S.way, okM 4 8 m := fun m hm => okM_up wf.m4 wf.p8 (wf.ms m hm)
    refine ⟨.ref t, .ref t2, rfl, .inr ⟨t, t2, xs, ys, rfl, rfl, k2.sqT (SqT.of upd_same), SqT.of upd_same, ways_lk (AB.Paired.imp (fun _ _ r => MV.kp k2 r) px) (AB.Paired.imp (fun _ _ r => MV.kp k2 (MV.kp k1 r)) py) hok, ?_⟩, fun H3 k3 => ⟨true, rfl, iteF ?_⟩⟩
    · have := Paired.length px
      omega
    have kk3 := (k1.trans0 k2).trans0 k3
    have l3 := ls.kp0 kk3
    have m0 : 0 < S.many := wf.m1
    have m4 := wf.m4
    have p0 : 0 < S.pages := wf.p1
    have p8 := wf.p8
    have npg : (((List.range S.pages).map fun p => V.ref (B.home p)).length : Int) = (S.pages : Int) := by simp
    have npt : ((((List.range S.pages).map fun p => V.ref (B.home p)).length : Int)).toNat = S.pages := by rw [npg]; exact Int.toNat_natCast _
    refine ⟨_, rfl, B.m, _, rfl, mG_homes l3.ma.ob, B.lh, _, rfl, .inl (SqL.of l3.ma.lh), _, rfl, by rw [npg]; omega, by rw [npg]; omega, ?_⟩
    refine for_it walk_range (fun j σ H' => (∃ y2 y3 y4, σ = [some (.ref A.n), some (.ref B.m), y2, y3, y4, none, none, none]) ∧ Kp [] H H') ⟨⟨none, none, none, rfl⟩, kk3⟩ (fun _ _ _ _ _ => trivial) ?_ ?_
    · rintro j x σ H5 H4 hj ⟨⟨y2, y3, y4, rfl⟩, k4⟩ ⟨rfl, hv⟩
      rw [npt] at hj
      obtain rfl : x = .int (j : Int) := by rw [hv]; exact congrArg V.int (Int.zero_add _)
      have l4 := ls.kp0 k4
      have nld : ((List.range S.many).map fun i => V.ref (B.row i)).length = S.many := by simp
      refine ⟨_, rfl, B.m, _, rfl, mG_held l4.ma.ob, B.ld, rfl, ⟨_, SqL.of l4.ma.ld⟩, fun D hD => ?_⟩
      refine lc_pure walk_list (by rw [nld]; exact small1000 (by omega)) hD (fun _ => true) (fun i v _ => v = kdV (S.held i j).mode) (fun j v H H' _ r => r) (fun H k => k.sqL0 (SqL.of l4.ma.ld)) ?_ ?_
      · rintro i v H5 H6 hi k5 ⟨rfl, hv⟩ N F' hN hF
        rw [nld] at hi
        obtain rfl : V.ref (B.row i) = v := by
          rw [List.getElem?_map, List.getElem?_range hi] at hv
          exact Option.some.inj hv
        have l5 := l4.kp0 k5
        obtain ⟨tw, va, h0, _⟩ := l5.ma.ho i j hi hj
        exact ⟨rfl, _, rfl, _, rfl, B.row i, _, _, _, rfl, rfl, SqL.of (l5.ma.rw i hi), atI_nat (v := .ref (B.own i j)) (by simp [hj]), B.own i j, _, rfl, oG_mode h0, hN _ _ rfl (Kp.refl _) rfl⟩
      · intro H5 acc k5 hacc pr
        rw [filter_all, nld] at pr
        have eacc : acc = (List.range S.many).map fun i => kdV (S.held i j).mode := Paired.eqs pr
        subst eacc
        have kk5 := k4.trans0 k5
        have l5 := ls.kp0 kk5
        have allf : ((List.range S.many).map fun i => kdV (S.held i j).mode).all flatV = true := by
          rw [List.all_map]
          exact List.all_eq_true.mpr fun i _ => flat_kd _
        have inw : inV (.str "write") ((List.range S.many).map fun i => kdV (S.held i j).mode) = decide (modeL S j .w ≠ []) := by
          rw [Bool.eq_iff_iff, decide_eq_true_eq]
          unfold inV
          rw [List.any_eq_true]
          constructor
          · rintro ⟨y, hy, e⟩ z
            obtain ⟨i, hi, rfl⟩ := List.mem_map.mp hy
            have : i ∈ modeL S j .w := List.mem_filter.mpr ⟨hi, by rw [← eqV_kd]; exact e⟩
            rw [z] at this
            cases this
          · intro z
            obtain ⟨i, hi⟩ := List.exists_mem_of_ne_nil _ z
            have h := List.mem_filter.mp hi
            exact ⟨_, List.mem_map.mpr ⟨i, h.1, rfl⟩, (eqV_kd _ .w).trans h.2⟩
        refine ⟨fun σ H' => σ = [some (.ref A.n), some (.ref B.m), some (.int (j : Int)), some (.ref D), some (nV (modeL S j .w).head?), none, none, none] ∧ H' = H5, ?_, ?_⟩
        · refine ⟨_, rfl, D, _, rfl, .inl (SqL.of hacc), rfl, allf, _, rfl, ?_⟩
          refine ite_of (fun e => ?_) (fun e => ?_)
          · have hne : modeL S j .w ≠ [] := of_decide_eq_true (inw.symm.trans e)
            obtain ⟨x, l, hxl⟩ := List.exists_cons_of_ne_nil hne
            obtain ⟨f1, f2, f3⟩ := filt_head hxl
            refine ⟨_, rfl, .inl ⟨rfl, _, SqL.of hacc⟩, D, _, .str "write", x, kdV (S.held x j).mode, rfl, rfl, SqL.of hacc, rfl, allf, by rw [List.getElem?_map, List.getElem?_range f1]; rfl, (eqV_kd _ .w).trans f2, fun m z' hm hz => ?_, ?_⟩
            · rw [List.getElem?_map, List.getElem?_range (by omega)] at hz
              rw [← Option.some.inj hz]
              exact (eqV_kd _ .w).trans (f3 m hm)
            · rw [hxl]
              exact ⟨rfl, rfl⟩
          · have hz : modeL S j .w = [] := Classical.not_not.mp (of_decide_eq_false (inw.symm.trans e))
            rw [hz]
            exact ⟨rfl, rfl⟩
        · rintro σ' H5' ⟨rfl, rfl⟩
          obtain ⟨dn, hob5⟩ := l5.na.ob
          refine ⟨_, rfl, A.n, dn, _, rfl, hob5, nF_no (by decide +kernel), _, rfl, A, S, j, rfl, l5.na, hj, m0, m4, fun H6 t3 t4 k6 ht3 ht4 => ?_⟩
          have hacc6 := k6.same _ _ hacc
          have nmd : ((List.range S.many).map fun i => kdV (S.held i j).mode).length = S.many := by simp
          have nmt : ((((List.range S.many).map fun i => kdV (S.held i j).mode).length : Int)).toNat = S.many := by rw [nmd]; exact Int.toNat_natCast _
          refine ⟨_, rfl, _, rfl, D, _, rfl, .inl (SqL.of hacc6), _, rfl, by rw [nmd]; omega, by rw [nmd]; omega, fun D2 hD2 => ?_⟩
          refine lc_pure walk_range (by rw [nmt]; exact small1000 (by omega)) hD2 (fun i => decide ((S.held i j).mode = some .r)) (fun i v _ => v = .int (i : Int)) (fun j v H H' _ r => r) (fun _ _ => trivial) ?_ ?_
          · rintro i v H7 H8 hi k7 ⟨rfl, hv⟩ N F' hN hF
            rw [nmt] at hi
            obtain rfl : v = .int (i : Int) := by rw [hv]; exact congrArg V.int (Int.zero_add _)
            refine ⟨rfl, _, rfl, _, rfl, D, _, _, kdV (S.held i j).mode, rfl, rfl, SqL.of (k7.same _ _ hacc6), atI_nat (by rw [List.getElem?_map, List.getElem?_range hi]; rfl), by cases (S.held i j).mode <;> rfl, _, rfl, ?_⟩
            refine ite_of (fun e => ?_) (fun e => ?_)
            · exact ⟨_, rfl, hN _ _ ((mode_eq _ .r).symm.trans e) (Kp.refl _) rfl⟩
            · exact hF _ ((mode_eq _ .r).symm.trans e) (Kp.refl _)
          · intro H7 acc2 k7 hacc2 pr2
            rw [nmt] at pr2
            have eacc2 : acc2 = (modeL S j .r).map fun i : Nat => V.int (i : Int) := Paired.eqs pr2
            subst eacc2
            refine ⟨D2, _, rfl, .inl ⟨SqL.of hacc2, fun t5 ht5 => ⟨(by show 2 ≤ sizeLine; decide), fun t6 ht6 => ?_⟩⟩⟩
            have k8 := Kp.new (o := .tup ((modeL S j .r).map fun i : Nat => V.int (i : Int))) ht5
            have k9 := Kp.new (o := .tup [nV (modeL S j .w).head?, .ref t5]) ht6
            have k79 := (k7.trans0 k8).trans0 k9
            have hlen : (modeL S j .r).length ≤ 100000 := by
              refine Nat.le_trans (List.length_filter_le _ _) ?_
              rw [List.length_range]
              omega
            refine ⟨.ref t3, .ref t6, rfl, .inr ⟨t3, t6, _, _, rfl, rfl, k79.sqT ht3, SqT.of upd_same, .cons (Lk.flat (flat_nV _)) (.cons (ints_lk _ hlen (k79.sqT ht4) (k9.sqT (SqT.of upd_same))) .nil), by show 2 ≤ 100000; decide⟩, fun H10 k10 => ⟨true, rfl, iteF ⟨⟨_, _, _, rfl⟩, ((kk5.trans0 k6).trans0 k79).trans0 k10⟩⟩⟩
    · rintro σ H4 ⟨⟨y2, y3, y4, rfl⟩, k4⟩
      have l4 := ls.kp0 k4
      have nld : (((List.range S.many).map fun i => V.ref (B.row i)).length : Int) = (S.many : Int) := by simp
      have nlt : ((((List.range S.many).map fun i => V.ref (B.row i)).length : Int)).toNat = S.many := by rw [nld]; exact Int.toNat_natCast _
      refine ⟨_, rfl, B.m, _, rfl, mG_held l4.ma.ob, B.ld, _, rfl, .inl (SqL.of l4.ma.ld), _, rfl, by rw [nld]; omega, by rw [nld]; omega, ?_⟩
      refine for_it walk_range (fun j σ H' => (∃ y2 y3 y4 y5 y6, σ = [some (.ref A.n), some (.ref B.m), y2, y3, y4, y5, y6, none]) ∧ Kp [] H H') ⟨⟨_, _, _, _, _, rfl⟩, k4⟩ (fun _ _ _ _ _ => trivial) ?_ ?_
      · rintro i x σ H6 H5 hi ⟨⟨y2, y3, y4, y5, y6, rfl⟩, k5⟩ ⟨rfl, hv⟩
        rw [nlt] at hi
        obtain rfl : x = .int (i : Int) := by rw [hv]; exact congrArg V.int (Int.zero_add _)
        have l5 := ls.kp0 k5
        obtain ⟨dn, hob5⟩ := l5.na.ob
        refine ⟨_, rfl, B.m, _, rfl, mG_held l5.ma.ob, _, rfl, B.ld, _, _, _, rfl, rfl, SqL.of l5.ma.ld, atI_nat (v := .ref (B.row i)) (by simp [hi]), ?_⟩
        refine ⟨_, rfl, A.n, dn, _, rfl, hob5, nF_no (by decide +kernel), _, rfl, A, S, i, rfl, l5.na, hi, p0, p8, fun H6 t3 ts k6 ht3 pts => ?_⟩
        have l6 := l5.kp0 k6
        have nrw : (((List.range S.pages).map fun p => V.ref (B.own i p)).length : Int) = (S.pages : Int) := by simp
        have nrt : ((((List.range S.pages).map fun p => V.ref (B.own i p)).length : Int)).toNat = S.pages := by rw [nrw]; exact Int.toNat_natCast _
        refine ⟨_, rfl, B.row i, _, rfl, .inl (SqL.of (l6.ma.rw i hi)), _, rfl, by rw [nrw]; omega, by rw [nrw]; omega, fun D hD => ?_⟩
        refine lc_pure walk_range (by rw [nrt]; exact small1000 (by omega)) hD (fun p => decide ((S.held i p).want ≠ none)) (fun p v H => ∃ l, v = .ref l ∧ SqT K H l [.int (p : Nat), kdV (S.held i p).want]) (fun j v H H' k ⟨l, e, h⟩ => ⟨l, e, k.sqT h⟩) (fun _ _ => trivial) ?_ ?_
        · rintro p v H7 H8 hp k7 ⟨rfl, hv⟩ N F' hN hF
          rw [nrt] at hp
          obtain rfl : v = .int (p : Int) := by rw [hv]; exact congrArg V.int (Int.zero_add _)
          have l7 := l6.kp0 k7
          obtain ⟨tw, va, h0, _⟩ := l7.ma.ho i p hi hp
          refine ⟨rfl, _, rfl, _, rfl, B.row i, _, _, _, rfl, rfl, SqL.of (l7.ma.rw i hi), atI_nat (v := .ref (B.own i p)) (by simp [hp]), B.own i p, _, rfl, oG_want h0, rfl, _, rfl, ?_⟩
          have ew : (!decide (kdV (S.held i p).want = V.non)) = decide ((S.held i p).want ≠ none) := by
            cases (S.held i p).want <;> rfl
          refine ite_of (fun e => ?_) (fun e => ?_)
          · refine ⟨_, rfl, _, rfl, _, rfl, B.row i, _, _, _, rfl, rfl, SqL.of (l7.ma.rw i hi), atI_nat (v := .ref (B.own i p)) (by simp [hp]), B.own i p, _, rfl, oG_want h0, (by show 2 ≤ sizeLine; decide), fun t ht => ?_⟩
            exact hN _ _ (ew.symm.trans e) (Kp.new ht) ⟨t, rfl, SqT.of upd_same⟩
          · exact hF _ (ew.symm.trans e) (Kp.refl _)
        · intro H7 acc k7 hacc pr
          rw [nrt] at pr
          obtain ⟨us, rfl, pus⟩ := refs_of pr
          refine ⟨D, _, rfl, .inl ⟨SqL.of hacc, fun t5 ht5 => ?_⟩⟩
          have k8 := Kp.new (o := .tup (us.map V.ref)) ht5
          have k78 := k7.trans0 k8
          refine ⟨.ref t3, .ref t5, rfl, .inr ⟨t3, t5, _, _, rfl, rfl, k78.sqT ht3, SqT.of upd_same, wants_lk (AB.Paired.imp (fun _ _ r => k78.sqT r) pts) (AB.Paired.imp (fun _ _ r => k8.sqT r) pus), ?_⟩, fun H10 k10 => ⟨true, rfl, iteF ⟨⟨_, _, _, _, _, rfl⟩, ((k5.trans0 k6).trans0 k78).trans0 k10⟩⟩⟩
          have e := Paired.length pts
          have := List.length_filter_le (fun p => decide ((S.held i p).want ≠ none)) (List.range S.pages)
          rw [List.length_map, ← e]
          rw [List.length_range] at this
          show (List.filter (fun p => decide ((S.held i p).want ≠ none)) (List.range S.pages)).length ≤ 100000
          omega
      · rintro σ H5 ⟨_, k5⟩
        exact k H5 k5
end
end K57
set_option Elab.async false
set_option linter.all false
set_option maxRecDepth 100000
set_option maxHeartbeats 4000000
/-! K57Xm: a drawn step. -/
namespace K57
open PySem L2 AB
inductive Stp (S : Sy) : Sy → Prop where
  | stay : Stp S S
  | want {i p : Nat} {k : Kd} : i < S.many → p < S.pages → (S.held i p).mode ≠ some .w ∧ (k = .r → (S.held i p).mode = none) → Stp S (setHold S i p (wantH (S.held i p) k))
  | word {i p x : Nat} {wd : Int} : i < S.many → p < S.pages → x < 16 → Stp S (setHold S i p (putWord (S.held i p) x wd))
  | tick {i : Nat} : i < S.many → Stp S (tickS S i)
  | hap {j : Int} {hk : Hk} : Stp S (happS S j hk)
def spStep (K : PySem.W.Frag) (a : Ad) : Sp := fun vs H Q _ => ∃ (dl kl : Addr) (A : NAd) (B : MAd) (S : Sy) (ks : List Hk), vs = [.ref dl, .ref A.n, .ref B.m, .ref kl] ∧ LS K a H A B S S [dl, kl] ∧ WF S ∧ S.way.length ≤ 90000 ∧ Dr H dl ∧ H kl = some (.lst (ks.map fun k => V.str k.s)) ∧ ks ≠ [] ∧ ks.length ≤ 100 ∧
  ∀ H' A' B' S', Stp S S' → A'.n = A.n → B'.m = B.m → LS K a H' A' B' S' S' [dl, kl] → Dr H' dl → H' kl = some (.lst (ks.map fun k => V.str k.s)) → Q (.bl true) H'
theorem catA_of {K : PySem.W.Frag} {H : Hp} {a b : Addr} {xs ys : List V} {Q : VK} (ha : SqT K H a xs) (hb : SqT K H b ys) (hl : xs.length + ys.length ≤ 1000) (k : ∀ H' t, Kp [] H H' → SqT K H' t (xs ++ ys) → Q (.ref t) H') : rCatA K (.ref a) (.ref b) H Q := by
  refine ⟨a, b, xs, ys, rfl, rfl, ha, hb, Nat.le_trans hl (by decide), fun e => k _ _ (Kp.refl _) (by rw [e]; exact hb), fun _ e => k _ _ (Kp.refl _) (by rw [e, List.append_nil]; exact ha), fun _ _ p hp => k _ _ (Kp.new hp) (SqT.of upd_same)⟩
theorem nat_of {r b : Int} (h0 : 0 ≤ r) (hb : r < b) : ∃ i : Nat, r = (i : Int) ∧ (i : Int) < b := ⟨r.toNat, by omega, by omega⟩
theorem Ch.n {K : PySem.W.Frag} {a : Ad} {H H' : Hp} {A A' : NAd} {S S' : Sy} (c : Ch K a H A S H' A' S') : A'.n = A.n := by
  obtain ⟨r, w, s, e⟩ := c.e
  rw [e]
theorem Cm.m {K : PySem.W.Frag} {H H' : Hp} {B B' : MAd} {S S' : Sy} (c : Cm K H B S H' B' S') : B'.m = B.m := by
  obtain ⟨r, w, s, e⟩ := c.e
  rw [e]
section
variable {P : Program} {w : World} {K : PySem.W.Frag} {mg : Str → Option Value} {base : Heap} {a : Ad} {f : Addr} {fd : FuncData}
theorem ok_law_is_step_due (F : Fun K "_law_is_step_due" "_law_is_step_due" s_law_is_step_due f fd) (T : Txt K mg a) (G_law_take : GFn P w K mg base 1 "_law_take" ["draws", "bound"] spTake) (G_law_pick : GFn P w K mg base 2 "_law_pick" ["draws", "some"] (spPick K)) (G_law_same : GFn P w K mg base 5 "_law_same" ["actual", "due"] (spSame K 3))
    (G_law_want : GFn P w K mg base 1 "_law_want" ["own", "kind"] (spWantM K)) (G_law_tick : GFn P w K mg base 2 "_law_tick" ["m", "node"] (spTickM K)) (G_law_happen : GFn P w K mg base 3 "_law_happen" ["m", "kind", "k"] (spHappen K))
    (G_Nodes_read : GMt P w K mg base 3 a.cn "read" ["self", "node", "page", "index"] (spReadN K a)) (G_Nodes_write : GMt P w K mg base 4 a.cn "write" ["self", "node", "page", "index", "word"] (spWriteN K a)) (G_Nodes_tick : GMt P w K mg base 3 a.cn "tick" ["self", "node"] (spTick K a))
    (G_Nodes_deliver : GMt P w K mg base 5 a.cn "deliver" ["self", "k"] (spDeliver K a)) (G_Nodes_double : GMt P w K mg base 4 a.cn "double" ["self", "k"] (spDouble K a)) (G_Nodes_lose : GMt P w K mg base 4 a.cn "lose" ["self", "k"] (spLose K a)) :
    FnOk P w K mg base (L2.CX P w) 6 f fd ["draws", "nodes", "m", "kinds"] (spStep K a) := by
  refine okT F sc_law_is_step_due (fun vs H Q E h => ?_) (fun cdv A' outer s H vs Q E hr tk hp h => ?_)
  · obtain ⟨dl, kl, A, B, S, ks, rfl, _⟩ := h
    rfl
  · obtain ⟨dl, kl, A, B, S, ks, rfl, ls, wf, hwl, hd, hk, hkn, hkl, k⟩ := h
    refine ⟨_, (pss_cons (ps_par (i := 4) (j := 5) (by rfl) sc_law_is_step_due.nd rfl rfl (by decide) rfl rfl (pa_cons (pe_callB (k_len K (by rfl)) (by rfl) T.n_len (by decide +kernel) (pa_cons (pe_dget (hu_of hr) (pv 2) pe_str (fun _ _ => rfl)) pa_nil)) (pa_cons (pe_callB (k_len K (by rfl)) (by rfl) T.n_len (by decide +kernel) (pa_cons (pe_dget (hu_of hr) (pv 2) pe_str (fun _ _ => rfl)) pa_nil)) pa_nil)) (by rfl)) (pss_cons (ps_asg (pe_tup (pa_cons (pe_cl G_law_take (hr.mono (by decide)) tk (pa_cons (pv 0) (pa_cons (pv 4) pa_nil))) (pa_cons (pe_cl G_law_take (hr.mono (by decide)) tk (pa_cons (pv 0) (pa_cons (pv 5) pa_nil))) (pa_cons (pe_cl G_law_take (hr.mono (by decide)) tk (pa_cons (pv 0) (pa_cons pe_int pa_nil))) (pa_cons (pe_cl G_law_take (hr.mono (by decide)) tk (pa_cons (pv 0) (pa_cons pe_int pa_nil))) pa_nil))))) (pg_tup rfl (pgs_cons (pg_name (i := 6) sc_law_is_step_due.nd rfl (by first | exact Or.inl rfl | exact Or.inr rfl)) (pgs_cons (pg_name (i := 7) sc_law_is_step_due.nd rfl (by first | exact Or.inl rfl | exact Or.inr rfl)) (pgs_cons (pg_name (i := 8) sc_law_is_step_due.nd rfl (by first | exact Or.inl rfl | exact Or.inr rfl)) (pgs_cons (pg_name (i := 9) sc_law_is_step_due.nd rfl (by first | exact Or.inl rfl | exact Or.inr rfl)) pgs_nil)))))) (pss_cons (ps_set (i := 10) sc_law_is_step_due.nd rfl (by first | exact Or.inl rfl | exact Or.inr rfl) (pe_ix (k_ixL K (by rfl)) (pe_ix (k_ixL K (by rfl)) (pe_dget (hu_of hr) (pv 2) pe_str (fun _ _ => rfl)) (pv 6) (fun _ _ => rfl)) (pv 7) (fun _ _ => rfl))) (pss_cons (ps_if (pt_cmpR op_lt (pv 9) pe_int (nomark _)) (pss_cons (ps_set (i := 11) sc_law_is_step_due.nd rfl (by first | exact Or.inl rfl | exact Or.inr rfl) (pe_ifExp (pt_cmpR op_isN (pe_dget (hu_of hr) (pv 10) pe_str (fun _ _ => rfl)) pe_non (nomark _)) pe_non (pe_ix (k_ixT K (by rfl)) (pe_dget (hu_of hr) (pv 10) pe_str (fun _ _ => rfl)) (pv 8) (fun _ _ => rfl)))) (C8.pss_cut (ps_if (pt_cmpR op_isN (pe_dget (hu_of hr) (pv 10) pe_str (fun _ _ => rfl)) pe_non (nomark _)) (pss_one (ps_expr (pe_cl G_law_want (hr.mono (by decide)) tk (pa_cons (pv 10) (pa_cons pe_str pa_nil))))) pss_nil) (pss_one (ps_ret (pe_cl G_law_same (hr.mono (by decide)) tk (pa_cons (pe_mt (pv 1) G_Nodes_read (hr.mono (by decide)) tk (pa_cons (pv 6) (pa_cons (pv 7) (pa_cons (pv 8) pa_nil)))) (pa_cons (pv 11) pa_nil))))))) pss_nil) (pss_cons (ps_if (pt_cmpR op_lt (pv 9) pe_int (nomark _)) (pss_cons (ps_set (i := 12) sc_law_is_step_due.nd rfl (by first | exact Or.inl rfl | exact Or.inr rfl) (pe_cl G_law_pick (hr.mono (by decide)) tk (pa_cons (pv 0) (pa_cons (pe_lst (pa_cons pe_int (pa_cons pe_int (pa_cons pe_int (pa_cons (pe_cl G_law_take (hr.mono (by decide)) tk (pa_cons (pv 0) (pa_cons pe_int pa_nil))) pa_nil))))) pa_nil)))) (pss_cons (ps_set (i := 11) sc_law_is_step_due.nd rfl (by first | exact Or.inl rfl | exact Or.inr rfl) (pe_cmpR op_eq (pe_dget (hu_of hr) (pv 10) pe_str (fun _ _ => rfl)) pe_str (nomark _))) (C8.pss_cut (ps_if (k_tru K (by rfl) (pt_truth (pv 11) (by intro _; rfl))) (pss_one (ps_dput (hu_of hr) (pv 10) pe_str (pe_op (k_catA K (by rfl)) (pe_op (k_catA K (by rfl)) (pe_slice (k_slT K (by rfl)) (pe_dget (hu_of hr) (pv 10) pe_str (fun _ _ => rfl)) po_none (po_some (pv 8))) (pe_tup (pa_cons (pv 12) pa_nil))) (pe_slice (k_slT K (by rfl)) (pe_dget (hu_of hr) (pv 10) pe_str (fun _ _ => rfl)) (po_some (pe_op op_add (pv 8) pe_int)) po_none)) rfl)) (pss_one (ps_expr (pe_cl G_law_want (hr.mono (by decide)) tk (pa_cons (pv 10) (pa_cons pe_str pa_nil)))))) (pss_one (ps_ret (pe_cl G_law_same (hr.mono (by decide)) tk (pa_cons (pe_mt (pv 1) G_Nodes_write (hr.mono (by decide)) tk (pa_cons (pv 6) (pa_cons (pv 7) (pa_cons (pv 8) (pa_cons (pv 12) pa_nil))))) (pa_cons (pv 11) pa_nil)))))))) pss_nil) (pss_cons (ps_if (pt_cmpR op_lt (pv 9) pe_int (nomark _)) (pss_one (ps_ret (pe_cl G_law_same (hr.mono (by decide)) tk (pa_cons (pe_mt (pv 1) G_Nodes_tick (hr.mono (by decide)) tk (pa_cons (pv 6) pa_nil)) (pa_cons (pe_cl G_law_tick (hr.mono (by decide)) tk (pa_cons (pv 2) (pa_cons (pv 6) pa_nil))) pa_nil))))) pss_nil) (pss_cons (ps_par (i := 12) (j := 13) (by rfl) sc_law_is_step_due.nd rfl rfl (by decide) rfl rfl (pa_cons (pe_cl G_law_pick (hr.mono (by decide)) tk (pa_cons (pv 0) (pa_cons (pv 3) pa_nil))) (pa_cons (pe_cl G_law_take (hr.mono (by decide)) tk (pa_cons (pv 0) (pa_cons pe_int pa_nil))) pa_nil)) (by rfl)) (pss_cons (ps_set (i := 14) sc_law_is_step_due.nd rfl (by first | exact Or.inl rfl | exact Or.inr rfl) (pe_ifExp (pt_cmpR op_eq (pv 12) pe_str (nomark _)) (pe_mt (pv 1) G_Nodes_deliver (hr.mono (by decide)) tk (pa_cons (pv 13) pa_nil)) (pe_ifExp (pt_cmpR op_eq (pv 12) pe_str (nomark _)) (pe_mt (pv 1) G_Nodes_double (hr.mono (by decide)) tk (pa_cons (pv 13) pa_nil)) (pe_mt (pv 1) G_Nodes_lose (hr.mono (by decide)) tk (pa_cons (pv 13) pa_nil))))) (pss_one (ps_ret (pe_cl G_law_same (hr.mono (by decide)) tk (pa_cons (pv 14) (pa_cons (pe_cl G_law_happen (hr.mono (by decide)) tk (pa_cons (pv 2) (pa_cons (pv 12) (pa_cons (pv 13) pa_nil)))) pa_nil))))))))))))), ?_⟩
    have m0 := wf.m1
    have m4 := wf.m4
    have p0 := wf.p1
    have p8 := wf.p8
    have nld : (((List.range S.many).map fun i => V.ref (B.row i)).length : Int) = (S.many : Int) := by simp
    have nlh : (((List.range S.pages).map fun p => V.ref (B.home p)).length : Int) = (S.pages : Int) := by simp
    refine ⟨_, rfl, B.m, _, rfl, mG_held ls.ma.ob, B.ld, _, rfl, .inl (SqL.of ls.ma.ld), _, rfl, B.m, _, rfl, mG_homes ls.ma.ob, B.lh, _, rfl, .inl (SqL.of ls.ma.lh), _, _, rfl, ?_⟩
    rw [nld, nlh]
    have inX : ∀ b, b ∈ [dl] → b ∈ [dl, kl] := fun b hb => by rw [List.mem_singleton.mp hb]; simp
    have dk : dl ≠ kl := by
      intro z
      obtain ⟨ds, e⟩ := hd
      rw [z, hk] at e
      have e' := HO.lst.inj (Option.some.inj e)
      cases ks with
      | nil => exact hkn rfl
      | cons x l =>
        cases ds with
        | nil => cases e'
        | cons y ys =>
          have := (List.cons.inj e').1
          cases this
    have nkl : kl ∉ [dl] := by simp [dk.symm]
    refine ⟨_, rfl, _, rfl, dl, (S.many : Int), rfl, hd, by omega, fun r1 H1 k1 d1 a1 b1 => ?_⟩
    obtain ⟨i, rfl, hi'⟩ := nat_of a1 b1
    have hi : i < S.many := by omega
    refine ⟨_, rfl, _, rfl, dl, (S.pages : Int), rfl, d1, by omega, fun r2 H2 k2 d2 a2 b2 => ?_⟩
    obtain ⟨p, rfl, hp'⟩ := nat_of a2 b2
    have hp : p < S.pages := by omega
    refine ⟨_, rfl, dl, 16, rfl, d2, by decide, fun r3 H3 k3 d3 a3 b3 => ?_⟩
    obtain ⟨x, rfl, hx'⟩ := nat_of a3 b3
    have hx : x < 16 := by omega
    refine ⟨_, rfl, dl, 10, rfl, d3, by decide, fun kn H4 k4 d4 a4 b4 => ⟨(by show 4 ≤ sizeLine; decide), fun t ht => ?_⟩⟩
    have kt := Kp.new (o := .tup [V.int (i : Int), .int (p : Int), .int (x : Int), .int kn]) ht
    have k04 : Kp [dl] H H4 := ((k1.trans1 k2).trans1 k3).trans1 k4
    have ls5 := (ls.kpX k04 inX).kp0 kt
    have d5 := d4.kp kt (by simp)
    have hk5 := kt.same _ _ (k04.st _ _ nkl hk)
    refine ⟨t, _, rfl, SqT.of upd_same, rfl, _, _, rfl, _, _, rfl, _, _, rfl, _, _, rfl, rfl, ?_⟩
    generalize upd H4 t (.tup [V.int (i : Int), .int (p : Int), .int (x : Int), .int kn]) = H5 at *
    have qm := ls5.ma
    obtain ⟨tw, va, h0, htw, hva⟩ := qm.ho i p hi hp
    obtain ⟨dn, hob5⟩ := ls5.na.ob
    obtain ⟨y, hy⟩ : ∃ y, y = B.own i p := ⟨_, rfl⟩
    refine ⟨_, rfl, B.m, _, rfl, mG_held qm.ob, _, rfl, B.ld, _, _, _, rfl, rfl, SqL.of qm.ld, atI_nat (v := .ref (B.row i)) (by simp [hi]), _, rfl, B.row i, _, _, _, rfl, rfl, SqL.of (qm.rw i hi), atI_nat (v := .ref (B.own i p)) (by simp [hp]), ?_⟩
    rw [← hy] at h0 ⊢
    have hw16 := wf.hw i p
    have mox : kl ≠ y := by
      intro z
      rw [z, hy] at hk5
      rw [hy, hk5] at h0
      cases h0
    have mukd : ∀ q, q < S.pages → ∀ m, (S.homes q).asker = some m → ∃ k, (S.homes q).kind = some k := fun q _ m hm => ((wf.hm q).as_ m hm).2.1
    refine ⟨_, rfl, _, _, rfl, rfl, _, rfl, ?_⟩
    refine ite_of (fun e => ?_) (fun e => ?_)
    · -- a word is read
      by_cases hm : (S.held i p).mode = none
      · have em : decide (kdV (S.held i p).mode = V.non) = true := by rw [hm]; rfl
        refine ⟨_, rfl, y, _, rfl, oG_mode h0, rfl, _, rfl, ?_⟩
        rw [em]
        refine iteT ?_
        refine ⟨fun σ H' => σ = [some (.ref dl), some (.ref A.n), some (.ref B.m), some (.ref kl), some (.int (S.many : Int)), some (.int (S.pages : Int)), some (.int (i : Int)), some (.int (p : Int)), some (.int (x : Int)), some (.int kn), some (.ref y), some .non, none, none, none] ∧ LS K a H' A B S (setHold S i p (wantH (S.held i p) .r)) [dl, kl] ∧ Dr H' dl ∧ H' kl = some (.lst (ks.map fun k => V.str k.s)), ?_, ?_⟩
        · refine ⟨_, rfl, y, _, rfl, oG_mode h0, rfl, _, rfl, ?_⟩
          rw [em]
          refine iteT ⟨_, rfl, y, S.held i p, .r, rfl, ⟨tw, va, h0, htw, hva⟩, fun H6 k6 z => ?_⟩
          have c6 : Cm K H5 B S H6 B (setHold S i p (wantH (S.held i p) .r)) := Cm.own qm hi hp (by rw [← hy]; exact k6) (by rw [← hy]; exact z)
          obtain ⟨ds, e1⟩ := d5
          exact ⟨rfl, ls5.cm c6, ⟨ds, ls5.stCm c6 (by simp) e1⟩, ls5.stCm c6 (by simp) hk5⟩
        · rintro σ' H6 ⟨rfl, l6, d6, hk6⟩
          obtain ⟨dn6, hob6⟩ := l6.na.ob
          refine ⟨_, rfl, A.n, dn6, _, rfl, hob6, nF_no (by decide +kernel), _, rfl, _, rfl, _, rfl, A, S, i, p, x, rfl, l6.na, hi, hp, hx, hw16, fun _ H7 c7 => ?_, fun h => absurd hm h⟩
          have l7 := l6.ch c7
          refine ⟨_, rfl, .non, .non, rfl, Lk.flat rfl, fun H8 k8 => k H8 A B _ (.want hi hp ⟨by rw [hm]; exact (fun z => nomatch z), fun _ => hm⟩) rfl rfl (l7.kp0 k8) ?_ (k8.same _ _ (l6.stCh c7 (by simp) hk6))⟩
          obtain ⟨ds, e1⟩ := d6
          exact ⟨ds, k8.same _ _ (l6.stCh c7 (by simp) e1)⟩
      · have em : decide (kdV (S.held i p).mode = V.non) = false := by
          cases hq : (S.held i p).mode with
          | none => exact absurd hq hm
          | some j => rfl
        refine ⟨_, rfl, y, _, rfl, oG_mode h0, rfl, _, rfl, ?_⟩
        rw [em]
        refine iteF ⟨_, rfl, y, _, rfl, oG_words h0, _, rfl, tw, _, _, .int ((S.held i p).words.getD x 0), rfl, rfl, htw, atI_nat ?_, ?_⟩
        · rw [List.getElem?_map, List.getElem?_eq_getElem (by omega), List.getD_eq_getElem?_getD, List.getElem?_eq_getElem (by omega)]
          rfl
        refine ⟨fun σ H' => σ = [some (.ref dl), some (.ref A.n), some (.ref B.m), some (.ref kl), some (.int (S.many : Int)), some (.int (S.pages : Int)), some (.int (i : Int)), some (.int (p : Int)), some (.int (x : Int)), some (.int kn), some (.ref y), some (.int ((S.held i p).words.getD x 0)), none, none, none] ∧ H' = H5, ?_, ?_⟩
        · refine ⟨_, rfl, y, _, rfl, oG_mode h0, rfl, _, rfl, ?_⟩
          rw [em]
          exact iteF ⟨rfl, rfl⟩
        · rintro σ' H6 ⟨rfl, rfl⟩
          exact ⟨_, rfl, A.n, dn, _, rfl, hob5, nF_no (by decide +kernel), _, rfl, _, rfl, _, rfl, A, S, i, p, x, rfl, ls5.na, hi, hp, hx, hw16, fun h => absurd h hm, fun _ => ⟨_, rfl, _, _, rfl, Lk.flat rfl, fun H8 k8 => k H8 A B _ .stay rfl rfl (ls5.kp0 k8) (d5.kp k8 (by simp)) (k8.same _ _ hk5)⟩⟩
    · refine ⟨_, rfl, _, _, rfl, rfl, _, rfl, ?_⟩
      refine ite_of (fun e => ?_) (fun e => ?_)
      · -- a word is written
        refine ⟨_, rfl, _, rfl, dl, 65536, rfl, d5, by decide, fun r H6 k6 d6 a6 b6 => ⟨(by show 4 ≤ sizeLine; decide), fun l hl => ⟨dl, l, [.int 0, .int 1, .int 65535, .int r], rfl, d6.kp (Kp.new hl) (by simp), SqL.of upd_same, ?_, by simp, by show 4 ≤ 100; decide, fun v H7 hv k7 d7 => ?_⟩⟩⟩
        · obtain ⟨ds, e1⟩ := d6
          exact (ne_of_none e1 hl).symm
        obtain ⟨wd, rfl, hwd⟩ : ∃ wd, v = .int wd ∧ isW wd = true := by
          simp only [List.mem_cons, List.not_mem_nil, or_false] at hv
          rcases hv with rfl | rfl | rfl | rfl
          · exact ⟨_, rfl, by decide⟩
          · exact ⟨_, rfl, by decide⟩
          · exact ⟨_, rfl, by decide⟩
          · exact ⟨_, rfl, by unfold isW; exact decide_eq_true ⟨a6, by omega⟩⟩
        have kl7 := Kp.new (o := .lst [V.int 0, .int 1, .int 65535, .int r]) hl
        have l7 := ((ls5.kpX k6 inX).kp0 kl7).kpX k7 inX
        have hk7 := k7.st _ _ nkl (kl7.same _ _ (k6.st _ _ nkl hk5))
        obtain ⟨tw7, va7, h7, htw7, hva7⟩ := l7.ma.ho i p hi hp
        rw [← hy] at h7
        obtain ⟨dn7, hob7⟩ := l7.na.ob
        refine ⟨_, rfl, y, _, rfl, oG_mode h7, by cases (S.held i p).mode <;> rfl, ?_⟩
        by_cases hm : (S.held i p).mode = some .w
        · rw [show decide (kdV (S.held i p).mode = V.str "write") = true from (mode_eq _ .w).trans (decide_eq_true hm)]
          refine ⟨fun σ H' => σ = [some (.ref dl), some (.ref A.n), some (.ref B.m), some (.ref kl), some (.int (S.many : Int)), some (.int (S.pages : Int)), some (.int (i : Int)), some (.int (p : Int)), some (.int (x : Int)), some (.int kn), some (.ref y), some (.bl true), some (.int wd), none, none] ∧ LS K a H' A B S (setHold S i p (putWord (S.held i p) x wd)) [dl, kl] ∧ Dr H' dl ∧ H' kl = some (.lst (ks.map fun k => V.str k.s)), ?_, ?_⟩
          · refine ⟨_, rfl, true, rfl, iteT ?_⟩
            refine ⟨_, rfl, y, _, rfl, oG_words h7, _, rfl, _, rfl, slA_of htw7 fun H8 t1 k8 ht1 => ?_⟩
            have c1 : cutV ((S.held i p).words.map V.int) none (some (x : Int)) = ((S.held i p).words.take x).map V.int := by
              unfold cutV
              rw [HT.sIx_none, HT.sIx_nat, List.length_map]
              simp [Nat.min_eq_left (show x ≤ (S.held i p).words.length by omega)]
            rw [c1] at ht1
            refine ⟨_, rfl, (by show 1 ≤ sizeLine; decide), fun t2 ht2 => ?_⟩
            have k9 := Kp.new (o := .tup [V.int wd]) ht2
            refine catA_of (k9.sqT ht1) (SqT.of upd_same) (by simp; omega) fun H9 t3 k10 ht3 => ?_
            have k79 := (k8.trans0 k9).trans0 k10
            have h9 := k79.same _ _ h7
            refine ⟨_, rfl, y, _, rfl, oG_words h9, _, rfl, _, _, rfl, rfl, _, rfl, ?_⟩
            unfold tNoPart
            dsimp only
            show rSlA K (.ref tw7) (some ((x : Int) + 1)) none _ _
            refine slA_of (k79.sqT htw7) fun HA t4 kA ht4 => ?_
            have c2 : cutV ((S.held i p).words.map V.int) (some ((x : Int) + 1)) none = ((S.held i p).words.drop (x + 1)).map V.int := by
              unfold cutV
              rw [HT.sIx_none, show (x : Int) + 1 = ((x + 1 : Nat) : Int) by omega, HT.sIx_nat, List.length_map, Nat.min_eq_left (by omega), ← List.map_drop, List.take_of_length_le (by simp)]
            rw [c2] at ht4
            refine catA_of (kA.sqT ht3) ht4 (by simp; omega) fun HB t5 kB ht5 => ?_
            have el : ((S.held i p).words.take x).map V.int ++ [V.int wd] ++ ((S.held i p).words.drop (x + 1)).map V.int = (putWord (S.held i p) x wd).words.map V.int := by
              simp [putWord]
            rw [el] at ht5
            have k7B := (k79.trans0 kA).trans0 kB
            have lB := l7.kp0 k7B
            have hB := k7B.same _ _ h7
            refine ⟨_, rfl, y, _, rfl, .inl ⟨_, Sum.inr "words", hB, rfl, oD_len, rfl⟩, ?_⟩
            rw [oD_p_words]
            have kz := Kp.set (p := y) (o := .dK (oD (kdV (S.held i p).mode) (.ref t5) (kdV (S.held i p).want) (.int (S.held i p).asked) (.int (S.held i p).last) va7)) (show Mut (HB y) by rw [hB]; exact True.intro)
            have cz : Cm K HB B S _ B (setHold S i p (putWord (S.held i p) x wd)) := Cm.own lB.ma hi hp (by rw [← hy]; exact kz) (by rw [← hy]; exact ⟨t5, va7, upd_same, kz.sqT ht5, (hva7.kp k7B).kp kz⟩)
            obtain ⟨ds, e1⟩ := d7
            exact ⟨rfl, lB.cm cz, ⟨ds, lB.stCm cz (by simp) (k7B.same _ _ e1)⟩, lB.stCm cz (by simp) (k7B.same _ _ hk7)⟩
          · rintro σ' H8 ⟨rfl, l8, d8, hk8⟩
            obtain ⟨dn8, hob8⟩ := l8.na.ob
            refine ⟨_, rfl, A.n, dn8, _, rfl, hob8, nF_no (by decide +kernel), _, rfl, _, rfl, _, rfl, _, rfl, A, S, i, p, x, wd, rfl, l8.na, hi, hp, hx, hwd, hw16, fun h => absurd hm h, fun _ H9 c9 => ?_⟩
            have l9 := l8.ch c9
            refine ⟨_, rfl, .bl true, .bl true, rfl, Lk.flat rfl, fun HC kC => k HC A B _ (.word hi hp hx) rfl rfl (l9.kp0 kC) ?_ (kC.same _ _ (l8.stCh c9 (by simp) hk8))⟩
            obtain ⟨ds, e1⟩ := d8
            exact ⟨ds, kC.same _ _ (l8.stCh c9 (by simp) e1)⟩
        · rw [show decide (kdV (S.held i p).mode = V.str "write") = false from (mode_eq _ .w).trans (decide_eq_false hm)]
          refine ⟨fun σ H' => σ = [some (.ref dl), some (.ref A.n), some (.ref B.m), some (.ref kl), some (.int (S.many : Int)), some (.int (S.pages : Int)), some (.int (i : Int)), some (.int (p : Int)), some (.int (x : Int)), some (.int kn), some (.ref y), some (.bl false), some (.int wd), none, none] ∧ LS K a H' A B S (setHold S i p (wantH (S.held i p) .w)) [dl, kl] ∧ Dr H' dl ∧ H' kl = some (.lst (ks.map fun k => V.str k.s)), ?_, ?_⟩
          · refine ⟨_, rfl, false, rfl, iteF ⟨_, rfl, y, S.held i p, .w, rfl, ⟨tw7, va7, h7, htw7, hva7⟩, fun H8 k8 z => ?_⟩⟩
            have c8 : Cm K H7 B S H8 B (setHold S i p (wantH (S.held i p) .w)) := Cm.own l7.ma hi hp (by rw [← hy]; exact k8) (by rw [← hy]; exact z)
            obtain ⟨ds, e1⟩ := d7
            exact ⟨rfl, l7.cm c8, ⟨ds, l7.stCm c8 (by simp) e1⟩, l7.stCm c8 (by simp) hk7⟩
          · rintro σ' H8 ⟨rfl, l8, d8, hk8⟩
            obtain ⟨dn8, hob8⟩ := l8.na.ob
            refine ⟨_, rfl, A.n, dn8, _, rfl, hob8, nF_no (by decide +kernel), _, rfl, _, rfl, _, rfl, _, rfl, A, S, i, p, x, wd, rfl, l8.na, hi, hp, hx, hwd, hw16, fun _ H9 c9 => ?_, fun h => absurd h hm⟩
            have l9 := l8.ch c9
            refine ⟨_, rfl, .bl false, .bl false, rfl, Lk.flat rfl, fun HC kC => k HC A B _ (.want (k := .w) hi hp ⟨hm, (fun h => nomatch h)⟩) rfl rfl (l9.kp0 kC) ?_ (kC.same _ _ (l8.stCh c9 (by simp) hk8))⟩
            obtain ⟨ds, e1⟩ := d8
            exact ⟨ds, kC.same _ _ (l8.stCh c9 (by simp) e1)⟩
      · refine ⟨_, rfl, _, _, rfl, rfl, _, rfl, ?_⟩
        refine ite_of (fun e => ?_) (fun e => ?_)
        · -- a tick
          refine ⟨_, rfl, A.n, dn, _, rfl, hob5, nF_no (by decide +kernel), _, rfl, A, S, i, rfl, ls5.na, hi, p0, p8, m4, by omega, mukd, fun H6 c6 => ?_⟩
          have l6 := ls5.ch c6
          refine ⟨_, rfl, _, rfl, B, S, i, rfl, l6.ma, hi, p0, p8, m4, by omega, mukd, fun H7 c7 => ?_⟩
          have l7 := l6.cm c7
          refine ⟨_, _, rfl, Lk.flat rfl, fun H8 k8 => k H8 A B _ (.tick hi) rfl rfl (l7.kp0 k8) ?_ (k8.same _ _ (l6.stCm c7 (by simp) (ls5.stCh c6 (by simp) hk5)))⟩
          obtain ⟨ds, e1⟩ := d5
          exact ⟨ds, k8.same _ _ (l6.stCm c7 (by simp) (ls5.stCh c6 (by simp) e1))⟩
        · -- something happens to a message
          refine ⟨_, rfl, _, rfl, dl, kl, _, rfl, d5, SqL.of hk5, dk.symm, by simpa using hkn, by rw [List.length_map]; exact hkl, fun v H6 hv k6 d6 => ?_⟩
          obtain ⟨hkd, _, rfl⟩ := List.mem_map.mp hv
          refine ⟨_, rfl, dl, 99, rfl, d6, by decide, fun j H7 k7 d7 a7 b7 => ⟨_, _, rfl, ?_⟩⟩
          have l7 := (ls5.kpX k6 inX).kpX k7 inX
          have hk7 := k7.st _ _ nkl (k6.st _ _ nkl hk5)
          obtain ⟨dn7, hob7⟩ := l7.na.ob
          -- behind both
          have fin : ∀ H8 A8, Ch K a H7 A S H8 A8 (happS S j hkd) → ∀ H9 B9, Cm K H8 B S H9 B9 (happS S j hkd) → ∀ HC, Kp [] H9 HC → Q (.bl true) HC := fun H8 A8 c8 H9 B9 c9 HC kC => by
            have l8 := l7.ch c8
            have l9 := l8.cm c9
            refine k HC A8 B9 _ (.hap (j := j) (hk := hkd)) c8.n c9.m (l9.kp0 kC) ?_ (kC.same _ _ (l8.stCm c9 (by simp) (l7.stCh c8 (by simp) hk7)))
            obtain ⟨ds, e1⟩ := d7
            exact ⟨ds, kC.same _ _ (l8.stCm c9 (by simp) (l7.stCh c8 (by simp) e1))⟩
          cases hkd with
          | del =>
            refine ⟨_, rfl, rfl, _, rfl, iteT ⟨_, rfl, A.n, dn7, _, rfl, hob7, nF_no (by decide +kernel), _, rfl, A, S, j, rfl, l7.na, wf, a7, by omega, fun H8 A8 c8 => ?_⟩⟩
            exact ⟨_, rfl, _, rfl, _, rfl, _, rfl, B, S, j, .del, rfl, (l7.ch c8).ma, wf, a7, by omega, fun H9 B9 c9 => ⟨_, _, rfl, Lk.flat rfl, fun HC kC => fin H8 A8 c8 H9 B9 c9 HC kC⟩⟩
          | dbl =>
            refine ⟨_, rfl, rfl, _, rfl, iteF ⟨_, rfl, rfl, _, rfl, iteT ⟨_, rfl, A.n, dn7, _, rfl, hob7, nF_no (by decide +kernel), _, rfl, A, S, j, rfl, l7.na, a7, by omega, fun H8 c8 => ?_⟩⟩⟩
            exact ⟨_, rfl, _, rfl, _, rfl, _, rfl, B, S, j, .dbl, rfl, (l7.ch c8).ma, wf, a7, by omega, fun H9 B9 c9 => ⟨_, _, rfl, Lk.flat rfl, fun HC kC => fin H8 A c8 H9 B9 c9 HC kC⟩⟩
          | los =>
            refine ⟨_, rfl, rfl, _, rfl, iteF ⟨_, rfl, rfl, _, rfl, iteF ⟨_, rfl, A.n, dn7, _, rfl, hob7, nF_no (by decide +kernel), _, rfl, A, S, j, rfl, l7.na, a7, by omega, fun H8 c8 => ?_⟩⟩⟩
            exact ⟨_, rfl, _, rfl, _, rfl, _, rfl, B, S, j, .los, rfl, (l7.ch c8).ma, wf, a7, by omega, fun H9 B9 c9 => ⟨_, _, rfl, Lk.flat rfl, fun HC kC => fin H8 A c8 H9 B9 c9 HC kC⟩⟩
end
end K57
set_option Elab.async false
set_option linter.all false
set_option maxRecDepth 100000
set_option maxHeartbeats 4000000
/-! K57Xn: the law's courses, plainly. -/
namespace K57
open PySem L2 AB
structure GI (t : Nat) (S : Sy) : Prop where
  inv : Inv S
  nd : nodeOk S
  p3 : S.pages ≤ 3
  pt : pot S ≤ 9 * t
theorem deliver_dims (S : Sy) (j : Int) : (deliverS S j).many = S.many ∧ (deliverS S j).pages = S.pages := by
  unfold deliverS
  split
  · exact come_dims
  · exact ⟨rfl, rfl⟩
theorem deliver_node {S : Sy} (j : Int) (h : nodeOk S) : nodeOk (deliverS S j) := by
  unfold deliverS
  split
  · exact come_node (S := loseS S j) h
  · exact h
theorem double_same (S : Sy) (j : Int) : (doubleS S j).many = S.many ∧ (doubleS S j).pages = S.pages ∧ (doubleS S j).homes = S.homes := by
  unfold doubleS
  split <;> exact ⟨rfl, rfl, rfl⟩
theorem Inv.pot_deliver' {S : Sy} (I : Inv S) (j : Int) : pot (deliverS S j) ≤ pot S := by
  by_cases h : S.way = []
  · have e : deliverS S j = S := by unfold deliverS; rw [h]; rfl
    rw [e]
    exact Nat.le_refl _
  · have := I.pot_deliver (j := j) h
    omega
theorem GI.step {t : Nat} {S S' : Sy} (g : GI t S) (h : Stp S S') : GI (t + 1) S' := by
  have pt := g.pt
  cases h with
  | stay => exact ⟨g.inv, g.nd, g.p3, by omega⟩
  | @want i p k hi hp hm => exact ⟨g.inv.want hm, g.nd, g.p3, by have := pot_want (S := S) (k := k) hp hi; omega⟩
  | word hi hp hx => exact ⟨g.inv.word hx, g.nd, g.p3, by rw [pot_word hp hi]; omega⟩
  | tick hi => exact ⟨g.inv.tick hi, g.nd, g.p3, by have := g.inv.pot_tick hi g.p3 g.nd; omega⟩
  | @hap j hk =>
    cases hk with
    | del => exact ⟨g.inv.deliver j, deliver_node j g.nd, by show (deliverS S j).pages ≤ 3; rw [(deliver_dims S j).2]; exact g.p3, by have := g.inv.pot_deliver' j; show pot (deliverS S j) ≤ _; omega⟩
    | dbl => exact ⟨g.inv.double j, by
        intro p
        show ((doubleS S j).homes p).node = p % (doubleS S j).many
        rw [(double_same S j).2.2, (double_same S j).1]
        exact g.nd p, by show (doubleS S j).pages ≤ 3; rw [(double_same S j).2.1]; exact g.p3, by have := pot_double (S := S) (j := j); show pot (doubleS S j) ≤ _; omega⟩
    | los => exact ⟨g.inv.lose j, g.nd, g.p3, by have := pot_loses (S := S) (j := j); show pot (loseS S j) ≤ _; omega⟩
theorem way_le (S : Sy) : S.way.length ≤ pot S := by
  have := wayP_len S.way
  unfold pot
  omega
theorem sum0 {f : Nat → Nat} (h : ∀ i, f i = 0) : ∀ n, sumR n f = 0
  | 0 => rfl
  | n + 1 => by rw [sumR_succ, sum0 h n, h n]
theorem init_page {many : Nat} (h : 1 ≤ many) (p : Nat) : InvP p (home0 (p % many)) (fun i => hold0 (if p % many = i then some .r else none)) := by
  have nw : noW (home0 (p % many)) := fun _ => rfl
  refine ⟨⟨fun n => ⟨Int.le_refl _, Int.le_refl _⟩, fun n => Int.le_refl _, fun _ => nw, fun n z => absurd rfl z, fun n z => (nomatch z), fun n z => (nomatch z), fun n w z => (nomatch z), fun n _ _ => ?_, fun n m z => (nomatch z), fun n m z => (nomatch z), fun n k z => (nomatch z), fun n k z => (nomatch z), fun n m z => (nomatch z)⟩, fun n z => (nomatch z)⟩
  show (if p % many = n then some Kd.r else none) = if none = some n then some Kd.w else if decide (n = p % many) = true then some Kd.r else none
  by_cases c : p % many = n
  · rw [if_pos c, if_neg (fun z => nomatch z), if_pos (decide_eq_true c.symm)]
  · rw [if_neg c, if_neg (fun z => nomatch z), if_neg (fun z => c (of_decide_eq_true z).symm)]
theorem init_GI {many pages : Nat} (h1 : 1 ≤ many) (h4 : many ≤ 4) (p1 : 1 ≤ pages) (p3 : pages ≤ 3) : GI 0 (initS many pages) := by
  refine ⟨⟨⟨h1, h4, p1, by show pages ≤ 8; omega, fun i p => rfl, fun i p => .inl rfl, fun p => ⟨fun n z => (nomatch z), fun n z => ?_, fun n z => (nomatch z), fun n z => absurd rfl z, rfl, Int.le_refl _⟩, fun m hm => nomatch hm⟩, fun p => init_page h1 p, fun m hm => nomatch hm⟩, fun p => rfl, p3, ?_⟩
  · have z' : decide (n = p % many) = true := z
    rw [of_decide_eq_true z']
    exact Nat.mod_lt _ h1
  · have : restP (initS many pages) = 0 := sum0 (fun p => by
      show flag many (home0 (p % many)) + 8 * sumR many (gapP (home0 (p % many)) _) = 0
      rw [show sumR many (gapP (home0 (p % many)) fun i => (initS many pages).held i p) = 0 from sum0 (fun i => rfl) many]
      unfold flag noWaits
      rw [show ((List.range many).all fun n => ((home0 (p % many)).waits n).isNone) = true from List.all_eq_true.mpr fun _ _ => rfl]
      rfl) pages
    have h2 : wayP (initS many pages).way = 0 := rfl
    unfold pot
    omega
theorem GI.round {S : Sy} (g : GI 160 S) : RInv 0 S := ⟨g.inv, g.nd, g.p3, by have := g.pt; omega, fun h => absurd h (by decide)⟩
end K57
set_option Elab.async false
set_option linter.all false
set_option maxRecDepth 100000
set_option maxHeartbeats 4000000
/-! K57Xo: the law. -/
namespace K57
open PySem L2 AB
def spLaw (K : PySem.W.Frag) : Sp := fun vs H Q _ => ∃ (sa : Addr) (ns : List Int), vs = [.ref sa] ∧ SqL K H sa (ns.map V.int) ∧ ns.length ≤ 63 ∧ ∀ H', Q (.bl true) H'
theorem Stp.dims {S S' : Sy} (h : Stp S S') : S'.many = S.many ∧ S'.pages = S.pages := by
  cases h with
  | stay => exact ⟨rfl, rfl⟩
  | want => exact ⟨rfl, rfl⟩
  | word => exact ⟨rfl, rfl⟩
  | tick => exact ⟨rfl, rfl⟩
  | @hap j hk =>
    cases hk with
    | del => exact deliver_dims S j
    | dbl => exact ⟨(double_same S j).1, (double_same S j).2.1⟩
    | los => exact ⟨rfl, rfl⟩
theorem ticks_dims (S : Sy) (j : Nat) : (ticksS S j).many = S.many ∧ (ticksS S j).pages = S.pages := by rw [ticks_eq]; exact ⟨rfl, rfl⟩
section
variable {P : Program} {w : World} {K : PySem.W.Frag} {mg : Str → Option Value} {base : Heap} {a : Ad} {f : Addr} {fd : FuncData}
theorem ok_law (F : Fun K "law" "law" s_law f fd) (T : Txt K mg a) (G_law_draws : GFn P w K mg base 1 "_law_draws" ["script"] (spDraws K)) (G_law_take : GFn P w K mg base 1 "_law_take" ["draws", "bound"] spTake) (G_law_pick : GFn P w K mg base 2 "_law_pick" ["draws", "some"] (spPick K)) (G_law_same : GFn P w K mg base 5 "_law_same" ["actual", "due"] (spSame K 3))
    (G_law_nodes : GFn P w K mg base 1 "_law_nodes" ["many", "pages"] (spNodesM K)) (G_law_tick : GFn P w K mg base 2 "_law_tick" ["m", "node"] (spTickM K)) (G_law_happen : GFn P w K mg base 3 "_law_happen" ["m", "kind", "k"] (spHappen K)) (G_law_is_step_due : GFn P w K mg base 6 "_law_is_step_due" ["draws", "nodes", "m", "kinds"] (spStep K a)) (G_law_is_alike : GFn P w K mg base 6 "_law_is_alike" ["nodes", "m"] (spAlike K a))
    (G_Nodes_init : GMk P w K mg base 3 a.cn "Nodes" ["self", "many", "pages"] (spNodesInit K a)) (G_Nodes_tick : GMt P w K mg base 3 a.cn "tick" ["self", "node"] (spTick K a)) (G_Nodes_deliver : GMt P w K mg base 5 a.cn "deliver" ["self", "k"] (spDeliver K a)) :
    FnOk P w K mg base (L2.CX P w) 7 f fd ["script"] (spLaw K) := by
  refine okT F sc_law (fun vs H Q E h => ?_) (fun cdv A' outer s H vs Q E hr tk hp h => ?_)
  · obtain ⟨sa, ns, rfl, _⟩ := h
    rfl
  · obtain ⟨sa, ns, rfl, hsa, hns, k⟩ := h
    refine ⟨_, (pss_cons (ps_set (i := 1) sc_law.nd rfl (by first | exact Or.inl rfl | exact Or.inr rfl) (pe_cl G_law_draws (hr.mono (by decide)) tk (pa_cons (pv 0) pa_nil))) (pss_cons (ps_par (i := 2) (j := 3) (by rfl) sc_law.nd rfl rfl (by decide) rfl rfl (pa_cons (pe_op op_add pe_int (pe_cl G_law_take (hr.mono (by decide)) tk (pa_cons (pv 1) (pa_cons pe_int pa_nil)))) (pa_cons (pe_op op_add pe_int (pe_cl G_law_take (hr.mono (by decide)) tk (pa_cons (pv 1) (pa_cons pe_int pa_nil)))) pa_nil)) (by rfl)) (C8.pss_cut (ps_par3 (i := 4) (j := 5) (l := 6) (by rfl) sc_law.nd rfl rfl rfl (by decide) (by decide) (by decide) rfl rfl rfl (pa_cons (pe_mk G_Nodes_init (hr.mono (by decide)) tk (pa_cons (pv 2) (pa_cons (pv 3) pa_nil))) (pa_cons (pe_cl G_law_nodes (hr.mono (by decide)) tk (pa_cons (pv 2) (pa_cons (pv 3) pa_nil))) (pa_cons (pe_op op_cat (pe_op op_rep (pe_lst (pa_cons pe_str pa_nil)) pe_int) (pe_cl G_law_pick (hr.mono (by decide)) tk (pa_cons (pv 1) (pa_cons (pe_lst (pa_cons (pe_lst pa_nil) (pa_cons (pe_lst (pa_cons pe_str pa_nil)) (pa_cons (pe_lst (pa_cons pe_str (pa_cons pe_str pa_nil))) pa_nil)))) pa_nil)))) pa_nil))) (by rfl)) (pss_cons (ps_for hp rfl (pi_range1 (by rfl) T.n_range (pa_cons pe_int pa_nil)) (pg_name (i := 7) sc_law.nd rfl (by first | exact Or.inl rfl | exact Or.inr rfl)) (pss_one (ps_if (PW.pt (pw_or (pt_not (k_tru K (by rfl) (pt_truth (pe_cl G_law_is_step_due (hr.mono (by decide)) tk (pa_cons (pv 1) (pa_cons (pv 4) (pa_cons (pv 5) (pa_cons (pv 6) pa_nil))))) (by intro _; rfl)))) (pw_or1 (pt_not (k_tru K (by rfl) (pt_truth (pe_cl G_law_is_alike (hr.mono (by decide)) tk (pa_cons (pv 4) (pa_cons (pv 5) pa_nil))) (by intro _; rfl))))))) (pss_one (ps_ret pe_bl)) pss_nil))) (pss_cons (ps_for hp rfl (pi_range1 (by rfl) T.n_range (pa_cons pe_int pa_nil)) (pg_name (i := 7) sc_law.nd rfl (by first | exact Or.inl rfl | exact Or.inr rfl)) (pss_cons (ps_for hp rfl (pi_range1 (by rfl) T.n_range (pa_cons (pv 2) pa_nil)) (pg_name (i := 8) sc_law.nd rfl (by first | exact Or.inl rfl | exact Or.inr rfl)) (pss_one (ps_if (pt_not (k_tru K (by rfl) (pt_truth (pe_cl G_law_same (hr.mono (by decide)) tk (pa_cons (pe_mt (pv 4) G_Nodes_tick (hr.mono (by decide)) tk (pa_cons (pv 8) pa_nil)) (pa_cons (pe_cl G_law_tick (hr.mono (by decide)) tk (pa_cons (pv 5) (pa_cons (pv 8) pa_nil))) pa_nil))) (by intro _; rfl)))) (pss_one (ps_ret pe_bl)) pss_nil))) (C8.pss_cut (ps_for hp rfl (pi_range1 (by rfl) T.n_range (pa_cons pe_int pa_nil)) (pg_name (i := 9) sc_law.nd rfl (by first | exact Or.inl rfl | exact Or.inr rfl)) (pss_cons (ps_if (pt_not (k_tru K (by rfl) (pt_truth (pe_cl G_law_same (hr.mono (by decide)) tk (pa_cons (pe_mt (pv 4) G_Nodes_deliver (hr.mono (by decide)) tk (pa_cons pe_int pa_nil)) (pa_cons (pe_cl G_law_happen (hr.mono (by decide)) tk (pa_cons (pv 5) (pa_cons pe_str (pa_cons pe_int pa_nil)))) pa_nil))) (by intro _; rfl)))) (pss_one (ps_ret pe_bl)) pss_nil) (pss_one (ps_if (pt_cmpR (k_eqN K (by rfl) (Nat.lt_of_succ_lt (hu_of hr))) (pe_dget (hu_of hr) (pv 5) pe_str (fun _ _ => rfl)) (pe_lst pa_nil) (nomark _)) (pss_one ps_break) pss_nil)))) (pss_one (ps_if (pt_not (k_tru K (by rfl) (pt_truth (pe_cl G_law_is_alike (hr.mono (by decide)) tk (pa_cons (pv 4) (pa_cons (pv 5) pa_nil))) (by intro _; rfl)))) (pss_one (ps_ret pe_bl)) pss_nil))))) (pss_one (ps_ret (pe_cmpR (k_eqD K (by rfl) hr.units) (pe_lc (own := [("row", 10)]) (g := gName 10) (by rfl) sc_law.nd (k_piL K (by rfl) (pi_list (pe_dget (hu_of hr) (pv 5) pe_str (fun _ _ => rfl)))) (blkOk_by (own := [("row", 10)]) (N := N_law) (sc := defScope s_law) (by decide +kernel)) (fun _ _ _ _ _ => pg_name (i := 10) sc_law.nd rfl (by first | exact Or.inl rfl | exact Or.inr rfl)) (fun _ _ _ _ _ => by exact pts_one (pt_cmpR (k_neD K (by rfl) hr.units) (pe_lc (own := [("own", 11)]) (g := gName 11) (by rfl) sc_law.nd (k_piL K (by rfl) (pi_list (pv 10))) (blkOk_by (own := [("own", 11)]) (N := N_law) (by kernel_rfl)) (fun _ _ _ _ _ => pg_name (i := 11) sc_law.nd rfl (by first | exact Or.inl rfl | exact Or.inr rfl)) (fun _ _ _ _ _ => by exact pts_one (pt_cmpR op_notN (pe_dget (hu_of hr) (pv 11) pe_str (fun _ _ => rfl)) pe_non (nomark _))) (fun _ _ _ _ _ => by exact (pv 11))) (pe_lst pa_nil) (nomark _))) (fun _ _ _ _ _ => by exact (pv 10))) (pe_lst pa_nil) (nomark _))))))))), ?_⟩
    refine ⟨_, rfl, sa, ns, rfl, hsa, hns, fun H1 dl k1 hdl d1 => ?_⟩
    refine ⟨_, rfl, dl, 4, rfl, d1, by decide, fun r1 H2 k2 d2 a2 b2 => ?_⟩
    obtain ⟨mn, rfl, hmn⟩ := nat_of a2 b2
    refine ⟨_, _, rfl, rfl, _, rfl, dl, 3, rfl, d2, by decide, fun r2 H3 k3 d3 a3 b3 => ?_⟩
    obtain ⟨pn, rfl, hpn⟩ := nat_of a3 b3
    refine ⟨_, _, rfl, rfl, ?_⟩
    obtain ⟨many, hmany⟩ : ∃ many, many = 1 + mn := ⟨_, rfl⟩
    obtain ⟨pages, hpages⟩ : ∃ pages, pages = 1 + pn := ⟨_, rfl⟩
    have hm1 : 1 ≤ many := by omega
    have hm4 : many ≤ 4 := by omega
    have hp1 : 1 ≤ pages := by omega
    have hp3 : pages ≤ 3 := by omega
    refine ⟨.int (many : Int), .int (pages : Int), ?_, ?_⟩
    · show [V.int (1 + (mn : Int)), V.int (1 + (pn : Int))] = _
      rw [hmany, hpages, show ((1 + mn : Nat) : Int) = 1 + (mn : Int) by omega, show ((1 + pn : Nat) : Int) = 1 + (pn : Int) by omega]
    -- all is made
    refine ⟨fun σ H' => ∃ x mm kl, σ = [some (.ref sa), some (.ref dl), some (.int (many : Int)), some (.int (pages : Int)), some (.ref x), some (.ref mm), some (.ref kl), none, none, none, none, none] ∧ ∃ A B ks, A.n = x ∧ B.m = mm ∧ LS K a H' A B (initS many pages) (initS many pages) [dl, kl] ∧ Dr H' dl ∧ H' kl = some (.lst ((ks : List Hk).map fun k => V.str k.s)) ∧ ks ≠ [] ∧ ks.length ≤ 100, ?_, ?_⟩
    · refine ⟨_, rfl, _, rfl, fun x dx hx hdx hne => ⟨x, dx, many, pages, rfl, upd_same, hm1, hm4, hp1, by omega, fun H4 A hA kA hfA na => ⟨rfl, ?_⟩⟩⟩
      have ka := Kp.new (o := .own x) hdx
      have kn : Kp [] H3 (upd (upd H3 dx (.own x)) x (.ins a.cn dx [])) := ka.trans0 (Kp.new (by rw [upd_ne hne.symm]; exact hx))
      have k34 : Kp [] H3 H4 := kn.trans kA fun b hb => .inr (by rw [List.mem_singleton.mp hb]; exact hx)
      have hfA' : ∀ b, b ∈ A.foot many pages → H3 b = none := fun b hb => (hfA b hb).elim (fun e => by rw [e]; exact hx) fun e => kn.fr _ e
      have d4 := d3.kp k34 (by simp)
      refine ⟨_, rfl, _, rfl, many, pages, rfl, hm1, hm4, hp1, by omega, fun H5 B kB hfB ma => ?_⟩
      have d5 := d4.kp kB (by simp)
      have na5 := na.kp0 kB
      have ls5 : LS K a H5 A B (initS many pages) (initS many pages) [dl] := by
        refine ⟨na5, ma, ⟨rfl, rfl⟩, fun b hb hB => ?_, fun b hb => ?_⟩
        · exact mut_some (na.mut b hb) (hfB b hB)
        · rw [List.mem_singleton.mp hb]
          obtain ⟨ds, e3⟩ := d3
          obtain ⟨ds4, e4⟩ := d4
          obtain ⟨ds5, e5⟩ := d5
          refine ⟨by rw [e5]; exact (fun z => nomatch z), fun z => ?_, fun z => ?_⟩
          · have := hfA' dl z
            rw [e3] at this
            cases this
          · have := hfB dl z
            rw [e4] at this
            cases this
      refine ⟨(by show 1 ≤ sizeLine; decide), fun l hl => ⟨l, 5, [.str "deliver"], rfl, rfl, upd_same, by decide, by decide, by show 1 * 5 ≤ sizeLine; decide, fun l2 hl2 => ?_⟩⟩
      have q1 := (Kp.new (o := .lst [V.str "deliver"]) hl).trans0 (Kp.new (o := .lst (List.replicate (5 : Int).toNat [V.str "deliver"]).flatten) hl2)
      have el2 : upd (upd H5 l (.lst [V.str "deliver"])) l2 (.lst (List.replicate (5 : Int).toNat [V.str "deliver"]).flatten) l2 = some (.lst ([Hk.del, .del, .del, .del, .del].map fun k => V.str k.s)) := upd_same
      generalize upd (upd H5 l (.lst [V.str "deliver"])) l2 (.lst (List.replicate (5 : Int).toNat [V.str "deliver"]).flatten) = H6 at *
      refine ⟨_, rfl, Nat.zero_le _, fun e1 he1 => ⟨(by show 1 ≤ sizeLine; decide), fun e2 he2 => ⟨(by show 2 ≤ sizeLine; decide), fun e3 he3 => ⟨(by show 3 ≤ sizeLine; decide), fun L hL => ?_⟩⟩⟩⟩
      have q2 := Kp.new (o := .lst []) he1
      have q3 := Kp.new (o := .lst [V.str "double"]) he2
      have q4 := Kp.new (o := .lst [V.str "double", .str "lose"]) he3
      have q5 := Kp.new (o := .lst [V.ref e1, .ref e2, .ref e3]) hL
      have g1 : upd (upd (upd (upd H6 e1 (.lst [])) e2 (.lst [V.str "double"])) e3 (.lst [V.str "double", .str "lose"])) L (.lst [V.ref e1, .ref e2, .ref e3]) e1 = some (.lst (([] : List Hk).map fun k => V.str k.s)) := q5.same _ _ (q4.same _ _ (q3.same _ _ upd_same))
      have g2 : upd (upd (upd (upd H6 e1 (.lst [])) e2 (.lst [V.str "double"])) e3 (.lst [V.str "double", .str "lose"])) L (.lst [V.ref e1, .ref e2, .ref e3]) e2 = some (.lst ([Hk.dbl].map fun k => V.str k.s)) := q5.same _ _ (q4.same _ _ upd_same)
      have g3 : upd (upd (upd (upd H6 e1 (.lst [])) e2 (.lst [V.str "double"])) e3 (.lst [V.str "double", .str "lose"])) L (.lst [V.ref e1, .ref e2, .ref e3]) e3 = some (.lst ([Hk.dbl, .los].map fun k => V.str k.s)) := q5.same _ _ upd_same
      have gL : upd (upd (upd (upd H6 e1 (.lst [])) e2 (.lst [V.str "double"])) e3 (.lst [V.str "double", .str "lose"])) L (.lst [V.ref e1, .ref e2, .ref e3]) L = some (.lst [V.ref e1, .ref e2, .ref e3]) := upd_same
      have q25 := ((q2.trans0 q3).trans0 q4).trans0 q5
      have gl2 := q25.same _ _ el2
      have kk6 := q1.trans0 q25
      generalize upd (upd (upd (upd H6 e1 (.lst [])) e2 (.lst [V.str "double"])) e3 (.lst [V.str "double", .str "lose"])) L (.lst [V.ref e1, .ref e2, .ref e3]) = H7 at *
      have d7 := d5.kp kk6 (by simp)
      obtain ⟨dsx, edx⟩ := id d5
      have fresh : ∀ b, H5 b = none → b ≠ dl := fun b h => (ne_of_none edx h).symm
      have nL : L ≠ dl := fresh L (q1.fr _ (q2.fr _ (q3.fr _ (q4.fr _ hL))))
      have n1 : e1 ≠ dl := fresh e1 (q1.fr _ he1)
      have n2 : e2 ≠ dl := fresh e2 (q1.fr _ (q2.fr _ he2))
      have n3 : e3 ≠ dl := fresh e3 (q1.fr _ (q2.fr _ (q3.fr _ he3)))
      have nl2 : l2 ≠ dl := fresh l2 ((Kp.new hl).fr _ hl2)
      refine ⟨dl, L, [.ref e1, .ref e2, .ref e3], rfl, d7, SqL.of gL, nL, by simp, by show 3 ≤ 100; decide, fun v H8 hv k8 d8 => ?_⟩
      have ls8 := (ls5.kp0 kk6).kpX k8 (fun b hb => hb)
      have fin : ∀ (ks : List Hk), ks ≠ [] → ks.length ≤ 100 → ∀ kl, H8 kl = none → ∃ x' mm kl', [some (V.ref sa), some (.ref dl), some (.int (many : Int)), some (.int (pages : Int)), some (.ref x), some (.ref B.m), some (.ref kl), none, none, none, none, none] = [some (V.ref sa), some (.ref dl), some (.int (many : Int)), some (.int (pages : Int)), some (.ref x'), some (.ref mm), some (.ref kl'), none, none, none, none, none] ∧ ∃ A B ks', A.n = x' ∧ B.m = mm ∧ LS K a (upd H8 kl (.lst (ks.map fun k => V.str k.s))) A B (initS many pages) (initS many pages) [dl, kl'] ∧ Dr (upd H8 kl (.lst (ks.map fun k => V.str k.s))) dl ∧ (upd H8 kl (.lst (ks.map fun k => V.str k.s))) kl' = some (.lst ((ks' : List Hk).map fun k => V.str k.s)) ∧ ks' ≠ [] ∧ ks'.length ≤ 100 := fun ks h1 h2 kl hkl => by
        have kz := Kp.new (o := .lst (ks.map fun k => V.str k.s)) hkl
        have l9 := ls8.kp0 kz
        refine ⟨x, B.m, kl, rfl, A, B, ks, hA, rfl, ⟨l9.na, l9.ma, l9.dm, l9.sep, fun b hb => ?_⟩, d8.kp kz (by simp), upd_same, h1, h2⟩
        rcases List.mem_cons.mp hb with e | e
        · rw [e]; exact l9.ot dl (by simp)
        · rw [List.mem_singleton.mp e]
          exact ⟨by rw [upd_same]; exact (fun z => nomatch z), fun z => mut_some (ls8.na.mut _ z) hkl, fun z => mut_some (ls8.ma.mut _ z) hkl⟩
      have gl8 := k8.st _ _ (by simp [nl2]) gl2
      have g18 := k8.st _ _ (by simp [n1]) g1
      have g28 := k8.st _ _ (by simp [n2]) g2
      have g38 := k8.st _ _ (by simp [n3]) g3
      simp only [List.mem_cons, List.not_mem_nil, or_false] at hv
      rcases hv with rfl | rfl | rfl
      · exact ⟨l2, e1, _, _, rfl, rfl, gl8, g18, by show 5 + 0 ≤ sizeLine; decide, fun kl hkl => ⟨_, _, _, rfl, fin [.del, .del, .del, .del, .del] (by simp) (by show 5 ≤ 100; decide) kl hkl⟩⟩
      · exact ⟨l2, e2, _, _, rfl, rfl, gl8, g28, by show 5 + 1 ≤ sizeLine; decide, fun kl hkl => ⟨_, _, _, rfl, fin [.del, .del, .del, .del, .del, .dbl] (by simp) (by show 6 ≤ 100; decide) kl hkl⟩⟩
      · exact ⟨l2, e3, _, _, rfl, rfl, gl8, g38, by show 5 + 2 ≤ sizeLine; decide, fun kl hkl => ⟨_, _, _, rfl, fin [.del, .del, .del, .del, .del, .dbl, .los] (by simp) (by show 7 ≤ 100; decide) kl hkl⟩⟩
    · rintro σ H4 ⟨x, mm, kl, rfl, A0, B0, ks, hA0, hB0, ls0, d4, hk4, hkn, hkl⟩
      have bound : ∀ {S : Sy} {n : Nat}, pot S ≤ n → n ≤ 90000 → S.way.length ≤ 90000 := fun {S n} h1 h2 => by
        have := way_le S
        omega
      -- drawn steps
      refine ⟨_, rfl, by decide, by decide, ?_⟩
      refine for_it walk_range (fun t σ H' => (∃ y7, σ = [some (.ref sa), some (.ref dl), some (.int (many : Int)), some (.int (pages : Int)), some (.ref x), some (.ref mm), some (.ref kl), y7, none, none, none, none]) ∧ ∃ A B S, A.n = x ∧ B.m = mm ∧ LS K a H' A B S S [dl, kl] ∧ GI t S ∧ S.many = many ∧ S.pages = pages ∧ Dr H' dl ∧ H' kl = some (.lst (ks.map fun k => V.str k.s)))
        ⟨⟨none, rfl⟩, A0, B0, _, hA0, hB0, ls0, init_GI hm1 hm4 hp1 hp3, rfl, rfl, d4, hk4⟩ (fun _ _ _ _ _ => trivial) ?_ ?_
      · rintro t v σ H6 H5 ht ⟨⟨y7, rfl⟩, A, B, S, hA, hB, ls, g, gm, gp, d5, hk5⟩ ⟨rfl, hv⟩
        have ht : t < 160 := ht
        refine ⟨_, rfl, _, rfl, _, rfl, _, rfl, dl, kl, A, B, S, ks, by rw [hA, hB], ls, g.inv.wf, bound g.pt (by omega), d5, hk5, hkn, hkl, fun H7 A' B' S' st hA' hB' l7 d7 hk7 => ⟨true, rfl, iteF ?_⟩⟩
        have g' := g.step st
        refine ⟨_, rfl, _, rfl, A', B', S', [dl, kl], by rw [hA', hB', hA, hB], l7, g'.inv.wf, bound g'.pt (by omega), fun H8 k8 => ⟨true, rfl, iteF ⟨⟨_, rfl⟩, A', B', S', hA'.trans hA, hB'.trans hB, l7.kp0 k8, g', st.dims.1.trans gm, st.dims.2.trans gp, d7.kp k8 (by simp), k8.same _ _ hk7⟩⟩⟩
      · rintro σ H5 ⟨⟨y7, rfl⟩, A5, B5, S5, hA5, hB5, ls5, g5, gm5, gp5, _, _⟩
        -- rounds
        refine ⟨_, rfl, by decide, by decide, ?_⟩
        refine for_it walk_range (fun r σ H' => (∃ y7 y8 y9, σ = [some (.ref sa), some (.ref dl), some (.int (many : Int)), some (.int (pages : Int)), some (.ref x), some (.ref mm), some (.ref kl), y7, y8, y9, none, none]) ∧ ∃ A B S, A.n = x ∧ B.m = mm ∧ LS K a H' A B S S [dl, kl] ∧ RInv r S ∧ S.many = many ∧ S.pages = pages)
          ⟨⟨_, _, _, rfl⟩, A5, B5, S5, hA5, hB5, ls5, g5.round, gm5, gp5⟩ (fun _ _ _ _ _ => trivial) ?_ ?_
        · rintro r v σ H7 H6 hr ⟨⟨y7, y8, y9, rfl⟩, A6, B6, S, hA6, hB6, ls6, R, gm, gp⟩ ⟨rfl, hv⟩
          have hr : r < 12 := hr
          have pS := R.pt
          have wf := R.inv.wf
          have m4 := wf.m4
          -- ticks
          refine ⟨_, rfl, (many : Int), rfl, by omega, by omega, ?_⟩
          have nmn : ((many : Int)).toNat = S.many := by rw [gm]; exact Int.toNat_natCast many
          refine for_it walk_range (fun j σ H' => (∃ y7 y8 y9, σ = [some (.ref sa), some (.ref dl), some (.int (many : Int)), some (.int (pages : Int)), some (.ref x), some (.ref mm), some (.ref kl), y7, y8, y9, none, none]) ∧ ∃ A B, A.n = x ∧ B.m = mm ∧ LS K a H' A B (ticksS S j) (ticksS S j) [dl, kl])
            ⟨⟨_, _, _, rfl⟩, A6, B6, hA6, hB6, ls6⟩ (fun _ _ _ _ _ => trivial) ?_ ?_
          · rintro j v σ H8 H7 hj ⟨⟨y7, y8, y9, rfl⟩, A, B, hA, hB, ls⟩ ⟨rfl, hv⟩
            rw [nmn] at hj
            obtain rfl : v = .int (j : Int) := by rw [hv]; exact congrArg V.int (Int.zero_add _)
            obtain ⟨i1, i2⟩ := ticks_inv R.inv R.nd R.p3 j (by omega)
            obtain ⟨t1, t2⟩ := ticks_dims S j
            have wf1 := i1.wf
            have mukd : ∀ q, q < (ticksS S j).pages → ∀ m, ((ticksS S j).homes q).asker = some m → ∃ k, ((ticksS S j).homes q).kind = some k := fun q _ m hm => ((wf1.hm q).as_ m hm).2.1
            have bw : (ticksS S j).way.length ≤ 90000 := bound i2 (by omega)
            obtain ⟨dn, hob⟩ := ls.na.ob
            rw [hA] at hob
            refine ⟨_, rfl, x, dn, _, rfl, hob, nF_no (by decide +kernel), _, rfl, A, ticksS S j, j, by rw [hA], ls.na, by rw [t1]; exact hj, wf1.p1, wf1.p8, wf1.m4, by omega, mukd, fun H8 c8 => ?_⟩
            have l8 := ls.ch c8
            refine ⟨_, rfl, _, rfl, B, ticksS S j, j, by rw [hB], l8.ma, by rw [t1]; exact hj, wf1.p1, wf1.p8, wf1.m4, by omega, mukd, fun H9 c9 => ?_⟩
            have l9 := l8.cm c9
            exact ⟨_, _, rfl, Lk.flat rfl, fun HC kC => ⟨true, rfl, iteF ⟨⟨_, _, _, rfl⟩, A, B, hA, hB, l9.kp0 kC⟩⟩⟩
          · rintro σ H7 ⟨⟨y7, y8, y9, rfl⟩, A7, B7, hA7, hB7, ls7⟩
            rw [nmn] at ls7
            have dv := ticks_d R.inv R.nd R.p3
            have pv := (ticks_inv R.inv R.nd R.p3 S.many (Nat.le_refl _)).2
            -- all comes
            refine ⟨fun σ H' => (∃ y7 y8 y9, σ = [some (.ref sa), some (.ref dl), some (.int (many : Int)), some (.int (pages : Int)), some (.ref x), some (.ref mm), some (.ref kl), y7, y8, y9, none, none]) ∧ ∃ A B S', A.n = x ∧ B.m = mm ∧ LS K a H' A B S' S' [dl, kl] ∧ RInv (r + 1) S' ∧ S'.many = many ∧ S'.pages = pages, ?_, ?_⟩
            · refine ⟨_, rfl, by decide, by decide, ?_⟩
              refine for_it walk_range (fun t σ H' => (∃ y7 y8 y9, σ = [some (.ref sa), some (.ref dl), some (.int (many : Int)), some (.int (pages : Int)), some (.ref x), some (.ref mm), some (.ref kl), y7, y8, y9, none, none]) ∧ ∃ A B S', A.n = x ∧ B.m = mm ∧ LS K a H' A B S' S' [dl, kl] ∧ DInv (fun i p => (S.held i p).want) (S.way = [] ∧ idle S) S.many S.pages S' ∧ pot S' + t ≤ pot S + 36 ∧ (S'.way ≠ [] ∨ t = 0))
                ⟨⟨_, _, _, rfl⟩, A7, B7, _, hA7, hB7, ls7, dv, by omega, .inr rfl⟩ (fun _ _ _ _ _ => trivial) ?_ ?_
              · rintro t v σ H9 H8 ht ⟨⟨y7, y8, y9, rfl⟩, A, B, S', hA, hB, ls, dI, hpt, hw⟩ ⟨rfl, hv⟩
                have wf1 := dI.inv.wf
                have bw : S'.way.length ≤ 90000 := bound (n := pot S + 36) (by omega) (by omega)
                obtain ⟨dn, hob⟩ := ls.na.ob
                rw [hA] at hob
                refine ⟨_, rfl, x, dn, _, rfl, hob, nF_no (by decide +kernel), A, S', 0, by rw [hA], ls.na, wf1, by decide, by omega, fun H9 A9 c9 => ?_⟩
                have l9 := ls.ch c9
                refine ⟨_, rfl, B, S', 0, .del, by rw [hB]; rfl, l9.ma, wf1, by decide, by omega, fun H10 B10 c10 => ?_⟩
                have l10 := l9.cm c10
                refine ⟨_, _, rfl, Lk.flat rfl, fun HC kC => ⟨true, rfl, iteF ?_⟩⟩
                have lC := l10.kp0 kC
                have hA9 : A9.n = x := c9.n.trans hA
                have hB10 : B10.m = mm := c10.m.trans hB
                have eh : happS S' 0 .del = deliverS S' 0 := rfl
                rw [eh] at lC
                have dI' := dI.deliver
                have hpot : pot (deliverS S' 0) ≤ pot S + 36 ∧ (S'.way ≠ [] → pot (deliverS S' 0) + (t + 1) ≤ pot S + 36) := by
                  have h1 := dI.inv.pot_deliver' 0
                  refine ⟨by omega, fun h => ?_⟩
                  have := dI.inv.pot_deliver (j := 0) h
                  omega
                have hmob := lC.ma.ob
                rw [hB10] at hmob
                obtain ⟨ys, hy, py⟩ := lC.ma.wy
                have hyl := Paired.length py
                refine ⟨_, rfl, mm, _, rfl, mG_way hmob, Nat.zero_le _, fun e he => ⟨B10.way, e, ys, rfl, rfl, SqL.of ((Kp.new (o := .lst []) he).same _ _ hy), SqL.of upd_same, _, rfl, ?_⟩⟩
                have ke := Kp.new (o := .lst []) he
                have dm := dI'.dm
                refine ite_of (fun z => ?_) (fun z => ?_)
                · have hz : (deliverS S' 0).way = [] := by
                    cases ys with
                    | nil => exact List.eq_nil_of_length_eq_zero hyl.symm
                    | cons x l => cases z
                  exact ⟨⟨_, _, _, rfl⟩, A9, B10, _, hA9, hB10, lC.kp0 ke, R.next dI' hpot.1 hz, dm.1.trans gm, dm.2.trans gp⟩
                · have hz : (deliverS S' 0).way ≠ [] := fun y => by
                    rw [y] at hyl
                    have : ys = [] := List.eq_nil_of_length_eq_zero hyl
                    rw [this] at z
                    cases z
                  have hS' : S'.way ≠ [] := fun y => by
                    have : deliverS S' 0 = S' := by unfold deliverS; rw [y]; rfl
                    rw [this] at hz
                    exact hz y
                  exact ⟨⟨_, _, _, rfl⟩, A9, B10, _, hA9, hB10, lC.kp0 ke, dI', hpot.2 hS', .inl hz⟩
              · rintro σ H8 ⟨_, A, B, S', hA, hB, ls, dI, hpt, hw⟩
                exfalso
                have hpt : pot S' + 3000 ≤ pot S + 36 := hpt
                omega
            · rintro σ' H8 ⟨⟨y7, y8, y9, rfl⟩, A, B, S', hA, hB, ls, R', gm', gp'⟩
              refine ⟨_, rfl, _, rfl, A, B, S', [dl, kl], by rw [hA, hB], ls, R'.inv.wf, bound R'.pt (by omega), fun H9 k9 => ⟨true, rfl, iteF ⟨⟨_, _, _, rfl⟩, A, B, S', hA, hB, ls.kp0 k9, R', gm', gp'⟩⟩⟩
        · rintro σ H6 ⟨⟨y7, y8, y9, rfl⟩, A, B, S, hA, hB, ls, R, gm, gp⟩
          have R : RInv 12 S := R
          have we := R.end_
          have m4 := R.inv.wf.m4
          have p8 := R.inv.wf.p8
          have hmob := ls.ma.ob
          rw [hB] at hmob
          refine ⟨_, rfl, mm, _, rfl, mG_held hmob, B.ld, rfl, ⟨_, SqL.of ls.ma.ld⟩, fun D hD => ?_⟩
          have nld : ((List.range S.many).map fun i => V.ref (B.row i)).length = S.many := by simp
          refine lc_pure walk_list (by rw [nld]; exact small1000 (by omega)) hD (fun _ => false) (fun _ _ _ => True) (fun j v H H' _ r => r) (fun H k => k.sqL0 (SqL.of ls.ma.ld)) ?_ ?_
          · rintro i v H7 H8 hi k7 ⟨rfl, hv⟩ N F' hN hF
            rw [nld] at hi
            obtain rfl : V.ref (B.row i) = v := by
              rw [List.getElem?_map, List.getElem?_range hi] at hv
              exact Option.some.inj hv
            have l7 := ls.kp0 k7
            refine ⟨rfl, _, rfl, B.row i, rfl, ⟨_, SqL.of (l7.ma.rw i hi)⟩, fun D2 hD2 => ?_⟩
            have nrw : ((List.range S.pages).map fun p => V.ref (B.own i p)).length = S.pages := by simp
            refine lc_pure walk_list (by rw [nrw]; exact small1000 (by omega)) hD2 (fun _ => false) (fun _ _ _ => True) (fun j v H H' _ r => r) (fun H k => k.sqL0 (SqL.of (l7.ma.rw i hi))) ?_ ?_
            · rintro p v H9 H10 hp k9 ⟨rfl, hv⟩ N2 F2 hN2 hF2
              rw [nrw] at hp
              obtain rfl : V.ref (B.own i p) = v := by
                rw [List.getElem?_map, List.getElem?_range hp] at hv
                exact Option.some.inj hv
              have l9 := l7.kp0 k9
              obtain ⟨tw, va, h0, _⟩ := l9.ma.ho i p hi hp
              refine ⟨rfl, _, rfl, B.own i p, _, rfl, oG_want h0, rfl, _, rfl, ?_⟩
              rw [show (!decide (kdV (S.held i p).want = V.non)) = false by rw [we i hi p hp]; rfl]
              exact iteF (hF2 _ rfl (Kp.refl _))
            · intro H9 acc k9 hacc pr
              have e0 : ∀ n, (List.range n).filter (fun _ => false) = [] := fun n => by simp
              rw [e0] at pr
              cases pr
              refine ⟨Nat.zero_le _, fun e he => ⟨.list [], .list [], .lst (SqL.of ((Kp.new (o := .lst []) he).same _ _ hacc)) .nil, .lst (SqL.of upd_same) .nil, rfl, rfl, false, rfl, iteF (hF _ rfl (k9.trans0 (Kp.new he)))⟩⟩
          · intro H9 acc k9 hacc pr
            have e0 : ∀ n, (List.range n).filter (fun _ => false) = [] := fun n => by simp
            rw [e0] at pr
            cases pr
            refine ⟨Nat.zero_le _, fun e he => ⟨.list [], .list [], .lst (SqL.of ((Kp.new (o := .lst []) he).same _ _ hacc)) .nil, .lst (SqL.of upd_same) .nil, rfl, rfl, ?_⟩⟩
            exact k _
end
end K57
set_option Elab.async false
set_option linter.all false
set_option maxRecDepth 100000
set_option maxHeartbeats 4000000
namespace K57
open PySem PySem.Spec PyProof.Rows L2 AB
theorem all_mk {l : PySem.W.OpenLaw} {w : World} {K : PySem.W.Frag} {h : Heap} {mg : Str → Option Value} {fa C_Holding C_Home C_Nodes C_NotRight C_NotThere Z_EMPTY f0 f1 f2 f3 f4 f5 f6 f7 f8 f9 f10 f11 f12 f13 f14 f15 f16 f17 f18 f19 f20 f21 f22 f23 f24 f25 f26 f27 f28 f29 f30 f31 f32 f33 f34 f35 f36 f37 f38 f39 f40 f41 f42 f43 f44 f45 f46 f47 f48 : Addr} (X : K.In h) (G : h.Ns mainGlobals mg) (hfa : mg "law" = some (.ref fa))
    {od0 an0 od1 an1 od2 an2 od3 an3 od4 an4 od5 an5 od6 an6 od7 an7 od8 an8 od9 an9 od10 an10 od11 an11 od12 an12 od13 an13 od14 an14 od15 an15 od16 an16 od17 an17 od18 an18 od19 an19 od20 an20 od21 an21 od22 an22 od23 an23 od24 an24 od25 an25 od26 an26 od27 an27 od28 an28 od29 an29 od30 an30 od31 an31 od32 an32 od33 an33 od34 an34 od35 an35 od36 an36 od37 an37 od38 an38 od39 an39 od40 an40 od41 an41 od42 an42 od43 an43 od44 an44 od45 an45 od46 an46 od47 an47 od48 an48 : Option Addr} {sl0 sl1 sl2 sl3 sl4 sl5 sl6 sl7 sl8 sl9 sl10 sl11 sl12 sl13 sl14 sl15 sl16 sl17 sl18 sl19 sl20 sl21 sl22 sl23 sl24 sl25 sl26 sl27 sl28 sl29 sl30 sl31 sl32 sl33 sl34 sl35 sl36 sl37 sl38 sl39 sl40 sl41 sl42 sl43 sl44 sl45 sl46 sl47 sl48 : Array (Option Value)} {oc0 kV0 dc0 pm0 cd0 ct0 oc1 kV1 dc1 pm1 cd1 ct1 oc2 kV2 dc2 pm2 cd2 ct2 oc3 kV3 dc3 pm3 cd3 ct3 oc4 kV4 dc4 pm4 cd4 ct4 oc5 kV5 dc5 pm5 cd5 ct5 oc6 kV6 dc6 pm6 cd6 ct6 oc7 kV7 dc7 pm7 cd7 ct7 oc8 kV8 dc8 pm8 cd8 ct8 oc9 kV9 dc9 pm9 cd9 ct9 oc10 kV10 dc10 pm10 cd10 ct10 oc11 kV11 dc11 pm11 cd11 ct11 oc12 kV12 dc12 pm12 cd12 ct12 oc13 kV13 dc13 pm13 cd13 ct13 oc14 kV14 dc14 pm14 cd14 ct14 oc15 kV15 dc15 pm15 cd15 ct15 oc16 kV16 dc16 pm16 cd16 ct16 oc17 kV17 dc17 pm17 cd17 ct17 oc18 kV18 dc18 pm18 cd18 ct18 oc19 kV19 dc19 pm19 cd19 ct19 oc20 kV20 dc20 pm20 cd20 ct20 oc21 kV21 dc21 pm21 cd21 ct21 oc22 kV22 dc22 pm22 cd22 ct22 oc23 kV23 dc23 pm23 cd23 ct23 oc24 kV24 dc24 pm24 cd24 ct24 oc25 kV25 dc25 pm25 cd25 ct25 oc26 kV26 dc26 pm26 cd26 ct26 oc27 kV27 dc27 pm27 cd27 ct27 oc28 kV28 dc28 pm28 cd28 ct28 oc29 kV29 dc29 pm29 cd29 ct29 oc30 kV30 dc30 pm30 cd30 ct30 oc31 kV31 dc31 pm31 cd31 ct31 oc32 kV32 dc32 pm32 cd32 ct32 oc33 kV33 dc33 pm33 cd33 ct33 oc34 kV34 dc34 pm34 cd34 ct34 oc35 kV35 dc35 pm35 cd35 ct35 oc36 kV36 dc36 pm36 cd36 ct36 oc37 kV37 dc37 pm37 cd37 ct37 oc38 kV38 dc38 pm38 cd38 ct38 oc39 kV39 dc39 pm39 cd39 ct39 oc40 kV40 dc40 pm40 cd40 ct40 oc41 kV41 dc41 pm41 cd41 ct41 oc42 kV42 dc42 pm42 cd42 ct42 oc43 kV43 dc43 pm43 cd43 ct43 oc44 kV44 dc44 pm44 cd44 ct44 oc45 kV45 dc45 pm45 cd45 ct45 oc46 kV46 dc46 pm46 cd46 ct46 oc47 kV47 dc47 pm47 cd47 ct47 oc48 kV48 dc48 pm48 cd48 ct48 : Value}
    {tc_EMPTY : Value} {td_EMPTY : Option Addr} {ti_EMPTY : Array Value} {tn_EMPTY : Nat} {ts_EMPTY : Array (Option Value)}
    {t_MOST_WORD t_MOST_NODES t_MOST_PAGES t_PAGE t_READ t_WRITE : Tok}
    (a_Holding : PySem.W.nsIn K mainGlobals "Holding" = some (some (.ref C_Holding)))
    (a_Home : PySem.W.nsIn K mainGlobals "Home" = some (some (.ref C_Home)))
    (a_Nodes : PySem.W.nsIn K mainGlobals "Nodes" = some (some (.ref C_Nodes)))
    (a_NotRight : PySem.W.nsIn K mainGlobals "NotRight" = some (some (.ref C_NotRight)))
    (a_NotThere : PySem.W.nsIn K mainGlobals "NotThere" = some (some (.ref C_NotThere)))
    (v_MOST_WORD : PySem.W.nsIn K mainGlobals "MOST_WORD" = some (some (.int 65535 t_MOST_WORD)))
    (v_MOST_NODES : PySem.W.nsIn K mainGlobals "MOST_NODES" = some (some (.int 4 t_MOST_NODES)))
    (v_MOST_PAGES : PySem.W.nsIn K mainGlobals "MOST_PAGES" = some (some (.int 8 t_MOST_PAGES)))
    (v_PAGE : PySem.W.nsIn K mainGlobals "PAGE" = some (some (.int 16 t_PAGE)))
    (v_READ : PySem.W.nsIn K mainGlobals "READ" = some (some (.str "read" t_READ)))
    (v_WRITE : PySem.W.nsIn K mainGlobals "WRITE" = some (some (.str "write" t_WRITE)))
    (v_EMPTY : PySem.W.nsIn K mainGlobals "EMPTY" = some (some (.ref Z_EMPTY)))
    (w_EMPTY : K.lookup Z_EMPTY = some ⟨tc_EMPTY, td_EMPTY, .seq ti_EMPTY tn_EMPTY, ts_EMPTY⟩)
    (x_EMPTY : tc_EMPTY = .type "tuple")
    (y_EMPTY : Vals (zeros.map V.int) ti_EMPTY.toList)
    (z_EMPTY : ti_EMPTY.size ≤ sizeLine)
    (a0 : PySem.W.nsIn K mainGlobals "is_integer" = some (some (.ref f0)))
    (l0 : K.lookup f0 = some ⟨oc0, od0, .func (PySem.W.fnOf "is_integer" "is_integer" (defArgs s_is_integer) (defBody s_is_integer) (defScope s_is_integer) .none kV0 dc0 pm0 an0 cd0 ct0), sl0⟩)
    (c0 : PySem.W.codeIn K cd0 "is_integer" = true)
    (k0 : PySem.W.keepIn K (.ref f0) = true)
    (a1 : PySem.W.nsIn K mainGlobals "is_within" = some (some (.ref f1)))
    (l1 : K.lookup f1 = some ⟨oc1, od1, .func (PySem.W.fnOf "is_within" "is_within" (defArgs s_is_within) (defBody s_is_within) (defScope s_is_within) .none kV1 dc1 pm1 an1 cd1 ct1), sl1⟩)
    (c1 : PySem.W.codeIn K cd1 "is_within" = true)
    (k1 : PySem.W.keepIn K (.ref f1) = true)
    (a2 : PySem.W.nsIn K mainGlobals "is_word" = some (some (.ref f2)))
    (l2 : K.lookup f2 = some ⟨oc2, od2, .func (PySem.W.fnOf "is_word" "is_word" (defArgs s_is_word) (defBody s_is_word) (defScope s_is_word) .none kV2 dc2 pm2 an2 cd2 ct2), sl2⟩)
    (c2 : PySem.W.codeIn K cd2 "is_word" = true)
    (k2 : PySem.W.keepIn K (.ref f2) = true)
    (a3 : PySem.W.nsIn K mainGlobals "check" = some (some (.ref f3)))
    (l3 : K.lookup f3 = some ⟨oc3, od3, .func (PySem.W.fnOf "check" "check" (defArgs s_check) (defBody s_check) (defScope s_check) .none kV3 dc3 pm3 an3 cd3 ct3), sl3⟩)
    (c3 : PySem.W.codeIn K cd3 "check" = true)
    (k3 : PySem.W.keepIn K (.ref f3) = true)
    (a4 : PySem.W.nsIn K mainGlobals "check_there" = some (some (.ref f4)))
    (l4 : K.lookup f4 = some ⟨oc4, od4, .func (PySem.W.fnOf "check_there" "check_there" (defArgs s_check_there) (defBody s_check_there) (defScope s_check_there) .none kV4 dc4 pm4 an4 cd4 ct4), sl4⟩)
    (c4 : PySem.W.codeIn K cd4 "check_there" = true)
    (k4 : PySem.W.keepIn K (.ref f4) = true)
    (a5 : PySem.W.nsIn K mainGlobals "is_count" = some (some (.ref f5)))
    (l5 : K.lookup f5 = some ⟨oc5, od5, .func (PySem.W.fnOf "is_count" "is_count" (defArgs s_is_count) (defBody s_is_count) (defScope s_is_count) .none kV5 dc5 pm5 an5 cd5 ct5), sl5⟩)
    (c5 : PySem.W.codeIn K cd5 "is_count" = true)
    (k5 : PySem.W.keepIn K (.ref f5) = true)
    (a6 : PySem.W.nsIn K mainGlobals "_law_draws" = some (some (.ref f6)))
    (l6 : K.lookup f6 = some ⟨oc6, od6, .func (PySem.W.fnOf "_law_draws" "_law_draws" (defArgs s_law_draws) (defBody s_law_draws) (defScope s_law_draws) .none kV6 dc6 pm6 an6 cd6 ct6), sl6⟩)
    (c6 : PySem.W.codeIn K cd6 "_law_draws" = true)
    (k6 : PySem.W.keepIn K (.ref f6) = true)
    (a7 : PySem.W.nsIn K mainGlobals "_law_take" = some (some (.ref f7)))
    (l7 : K.lookup f7 = some ⟨oc7, od7, .func (PySem.W.fnOf "_law_take" "_law_take" (defArgs s_law_take) (defBody s_law_take) (defScope s_law_take) .none kV7 dc7 pm7 an7 cd7 ct7), sl7⟩)
    (c7 : PySem.W.codeIn K cd7 "_law_take" = true)
    (k7 : PySem.W.keepIn K (.ref f7) = true)
    (a8 : PySem.W.nsIn K mainGlobals "_law_pick" = some (some (.ref f8)))
    (l8 : K.lookup f8 = some ⟨oc8, od8, .func (PySem.W.fnOf "_law_pick" "_law_pick" (defArgs s_law_pick) (defBody s_law_pick) (defScope s_law_pick) .none kV8 dc8 pm8 an8 cd8 ct8), sl8⟩)
    (c8 : PySem.W.codeIn K cd8 "_law_pick" = true)
    (k8 : PySem.W.keepIn K (.ref f8) = true)
    (a9 : PySem.W.findIn K (.ref C_Holding) "__init__" = some (some (.ref f9)))
    (i9 : PySem.W.isFn K (.ref f9) = true)
    (l9 : K.lookup f9 = some ⟨oc9, od9, .func (PySem.W.fnOf "__init__" "Holding.__init__" (defArgs s_Holding_init) (defBody s_Holding_init) (defScope s_Holding_init) .none kV9 dc9 pm9 an9 cd9 ct9), sl9⟩)
    (c9 : PySem.W.codeIn K cd9 "Holding.__init__" = true)
    (k9 : PySem.W.keepIn K (.ref f9) = true)
    (a10 : PySem.W.findIn K (.ref C_Home) "__init__" = some (some (.ref f10)))
    (i10 : PySem.W.isFn K (.ref f10) = true)
    (l10 : K.lookup f10 = some ⟨oc10, od10, .func (PySem.W.fnOf "__init__" "Home.__init__" (defArgs s_Home_init) (defBody s_Home_init) (defScope s_Home_init) .none kV10 dc10 pm10 an10 cd10 ct10), sl10⟩)
    (c10 : PySem.W.codeIn K cd10 "Home.__init__" = true)
    (k10 : PySem.W.keepIn K (.ref f10) = true)
    (a11 : PySem.W.findIn K (.ref C_Home) "has_it" = some (some (.ref f11)))
    (i11 : PySem.W.isFn K (.ref f11) = true)
    (l11 : K.lookup f11 = some ⟨oc11, od11, .func (PySem.W.fnOf "has_it" "Home.has_it" (defArgs s_Home_has_it) (defBody s_Home_has_it) (defScope s_Home_has_it) .none kV11 dc11 pm11 an11 cd11 ct11), sl11⟩)
    (c11 : PySem.W.codeIn K cd11 "Home.has_it" = true)
    (k11 : PySem.W.keepIn K (.ref f11) = true)
    (a12 : PySem.W.findIn K (.ref C_Home) "is_granting" = some (some (.ref f12)))
    (i12 : PySem.W.isFn K (.ref f12) = true)
    (l12 : K.lookup f12 = some ⟨oc12, od12, .func (PySem.W.fnOf "is_granting" "Home.is_granting" (defArgs s_Home_is_granting) (defBody s_Home_is_granting) (defScope s_Home_is_granting) .none kV12 dc12 pm12 an12 cd12 ct12), sl12⟩)
    (c12 : PySem.W.codeIn K cd12 "Home.is_granting" = true)
    (k12 : PySem.W.keepIn K (.ref f12) = true)
    (a13 : PySem.W.findIn K (.ref C_Home) "grant" = some (some (.ref f13)))
    (i13 : PySem.W.isFn K (.ref f13) = true)
    (l13 : K.lookup f13 = some ⟨oc13, od13, .func (PySem.W.fnOf "grant" "Home.grant" (defArgs s_Home_grant) (defBody s_Home_grant) (defScope s_Home_grant) .none kV13 dc13 pm13 an13 cd13 ct13), sl13⟩)
    (c13 : PySem.W.codeIn K cd13 "Home.grant" = true)
    (k13 : PySem.W.keepIn K (.ref f13) = true)
    (a14 : PySem.W.findIn K (.ref C_Home) "begin" = some (some (.ref f14)))
    (i14 : PySem.W.isFn K (.ref f14) = true)
    (l14 : K.lookup f14 = some ⟨oc14, od14, .func (PySem.W.fnOf "begin" "Home.begin" (defArgs s_Home_begin) (defBody s_Home_begin) (defScope s_Home_begin) .none kV14 dc14 pm14 an14 cd14 ct14), sl14⟩)
    (c14 : PySem.W.codeIn K cd14 "Home.begin" = true)
    (k14 : PySem.W.keepIn K (.ref f14) = true)
    (a15 : PySem.W.findIn K (.ref C_Home) "given" = some (some (.ref f15)))
    (i15 : PySem.W.isFn K (.ref f15) = true)
    (l15 : K.lookup f15 = some ⟨oc15, od15, .func (PySem.W.fnOf "given" "Home.given" (defArgs s_Home_given) (defBody s_Home_given) (defScope s_Home_given) .none kV15 dc15 pm15 an15 cd15 ct15), sl15⟩)
    (c15 : PySem.W.codeIn K cd15 "Home.given" = true)
    (k15 : PySem.W.keepIn K (.ref f15) = true)
    (a16 : PySem.W.findIn K (.ref C_Nodes) "want" = some (some (.ref f16)))
    (i16 : PySem.W.isFn K (.ref f16) = true)
    (l16 : K.lookup f16 = some ⟨oc16, od16, .func (PySem.W.fnOf "want" "Nodes.want" (defArgs s_Nodes_want) (defBody s_Nodes_want) (defScope s_Nodes_want) .none kV16 dc16 pm16 an16 cd16 ct16), sl16⟩)
    (c16 : PySem.W.codeIn K cd16 "Nodes.want" = true)
    (k16 : PySem.W.keepIn K (.ref f16) = true)
    (a17 : PySem.W.findIn K (.ref C_Nodes) "send" = some (some (.ref f17)))
    (i17 : PySem.W.isFn K (.ref f17) = true)
    (l17 : K.lookup f17 = some ⟨oc17, od17, .func (PySem.W.fnOf "send" "Nodes.send" (defArgs s_Nodes_send) (defBody s_Nodes_send) (defScope s_Nodes_send) .none kV17 dc17 pm17 an17 cd17 ct17), sl17⟩)
    (c17 : PySem.W.codeIn K cd17 "Nodes.send" = true)
    (k17 : PySem.W.keepIn K (.ref f17) = true)
    (a18 : PySem.W.findIn K (.ref C_Nodes) "need" = some (some (.ref f18)))
    (i18 : PySem.W.isFn K (.ref f18) = true)
    (l18 : K.lookup f18 = some ⟨oc18, od18, .func (PySem.W.fnOf "need" "Nodes.need" (defArgs s_Nodes_need) (defBody s_Nodes_need) (defScope s_Nodes_need) .none kV18 dc18 pm18 an18 cd18 ct18), sl18⟩)
    (c18 : PySem.W.codeIn K cd18 "Nodes.need" = true)
    (k18 : PySem.W.keepIn K (.ref f18) = true)
    (a19 : PySem.W.findIn K (.ref C_Nodes) "push" = some (some (.ref f19)))
    (i19 : PySem.W.isFn K (.ref f19) = true)
    (l19 : K.lookup f19 = some ⟨oc19, od19, .func (PySem.W.fnOf "push" "Nodes.push" (defArgs s_Nodes_push) (defBody s_Nodes_push) (defScope s_Nodes_push) .none kV19 dc19 pm19 an19 cd19 ct19), sl19⟩)
    (c19 : PySem.W.codeIn K cd19 "Nodes.push" = true)
    (k19 : PySem.W.keepIn K (.ref f19) = true)
    (a20 : PySem.W.findIn K (.ref C_Nodes) "net" = some (some (.ref f20)))
    (i20 : PySem.W.isFn K (.ref f20) = true)
    (l20 : K.lookup f20 = some ⟨oc20, od20, .func (PySem.W.fnOf "net" "Nodes.net" (defArgs s_Nodes_net) (defBody s_Nodes_net) (defScope s_Nodes_net) .none kV20 dc20 pm20 an20 cd20 ct20), sl20⟩)
    (c20 : PySem.W.codeIn K cd20 "Nodes.net" = true)
    (k20 : PySem.W.keepIn K (.ref f20) = true)
    (a21 : PySem.W.findIn K (.ref C_Nodes) "place" = some (some (.ref f21)))
    (i21 : PySem.W.isFn K (.ref f21) = true)
    (l21 : K.lookup f21 = some ⟨oc21, od21, .func (PySem.W.fnOf "place" "Nodes.place" (defArgs s_Nodes_place) (defBody s_Nodes_place) (defScope s_Nodes_place) .none kV21 dc21 pm21 an21 cd21 ct21), sl21⟩)
    (c21 : PySem.W.codeIn K cd21 "Nodes.place" = true)
    (k21 : PySem.W.keepIn K (.ref f21) = true)
    (a22 : PySem.W.findIn K (.ref C_Nodes) "double" = some (some (.ref f22)))
    (i22 : PySem.W.isFn K (.ref f22) = true)
    (l22 : K.lookup f22 = some ⟨oc22, od22, .func (PySem.W.fnOf "double" "Nodes.double" (defArgs s_Nodes_double) (defBody s_Nodes_double) (defScope s_Nodes_double) .none kV22 dc22 pm22 an22 cd22 ct22), sl22⟩)
    (c22 : PySem.W.codeIn K cd22 "Nodes.double" = true)
    (k22 : PySem.W.keepIn K (.ref f22) = true)
    (a23 : PySem.W.findIn K (.ref C_Nodes) "lose" = some (some (.ref f23)))
    (i23 : PySem.W.isFn K (.ref f23) = true)
    (l23 : K.lookup f23 = some ⟨oc23, od23, .func (PySem.W.fnOf "lose" "Nodes.lose" (defArgs s_Nodes_lose) (defBody s_Nodes_lose) (defScope s_Nodes_lose) .none kV23 dc23 pm23 an23 cd23 ct23), sl23⟩)
    (c23 : PySem.W.codeIn K cd23 "Nodes.lose" = true)
    (k23 : PySem.W.keepIn K (.ref f23) = true)
    (a24 : PySem.W.findIn K (.ref C_Nodes) "read" = some (some (.ref f24)))
    (i24 : PySem.W.isFn K (.ref f24) = true)
    (l24 : K.lookup f24 = some ⟨oc24, od24, .func (PySem.W.fnOf "read" "Nodes.read" (defArgs s_Nodes_read) (defBody s_Nodes_read) (defScope s_Nodes_read) .none kV24 dc24 pm24 an24 cd24 ct24), sl24⟩)
    (c24 : PySem.W.codeIn K cd24 "Nodes.read" = true)
    (k24 : PySem.W.keepIn K (.ref f24) = true)
    (a25 : PySem.W.findIn K (.ref C_Nodes) "write" = some (some (.ref f25)))
    (i25 : PySem.W.isFn K (.ref f25) = true)
    (l25 : K.lookup f25 = some ⟨oc25, od25, .func (PySem.W.fnOf "write" "Nodes.write" (defArgs s_Nodes_write) (defBody s_Nodes_write) (defScope s_Nodes_write) .none kV25 dc25 pm25 an25 cd25 ct25), sl25⟩)
    (c25 : PySem.W.codeIn K cd25 "Nodes.write" = true)
    (k25 : PySem.W.keepIn K (.ref f25) = true)
    (a26 : PySem.W.findIn K (.ref C_Nodes) "tick" = some (some (.ref f26)))
    (i26 : PySem.W.isFn K (.ref f26) = true)
    (l26 : K.lookup f26 = some ⟨oc26, od26, .func (PySem.W.fnOf "tick" "Nodes.tick" (defArgs s_Nodes_tick) (defBody s_Nodes_tick) (defScope s_Nodes_tick) .none kV26 dc26 pm26 an26 cd26 ct26), sl26⟩)
    (c26 : PySem.W.codeIn K cd26 "Nodes.tick" = true)
    (k26 : PySem.W.keepIn K (.ref f26) = true)
    (a27 : PySem.W.findIn K (.ref C_Nodes) "asked" = some (some (.ref f27)))
    (i27 : PySem.W.isFn K (.ref f27) = true)
    (l27 : K.lookup f27 = some ⟨oc27, od27, .func (PySem.W.fnOf "asked" "Nodes.asked" (defArgs s_Nodes_asked) (defBody s_Nodes_asked) (defScope s_Nodes_asked) .none kV27 dc27 pm27 an27 cd27 ct27), sl27⟩)
    (c27 : PySem.W.codeIn K cd27 "Nodes.asked" = true)
    (k27 : PySem.W.keepIn K (.ref f27) = true)
    (a28 : PySem.W.findIn K (.ref C_Nodes) "answered" = some (some (.ref f28)))
    (i28 : PySem.W.isFn K (.ref f28) = true)
    (l28 : K.lookup f28 = some ⟨oc28, od28, .func (PySem.W.fnOf "answered" "Nodes.answered" (defArgs s_Nodes_answered) (defBody s_Nodes_answered) (defScope s_Nodes_answered) .none kV28 dc28 pm28 an28 cd28 ct28), sl28⟩)
    (c28 : PySem.W.codeIn K cd28 "Nodes.answered" = true)
    (k28 : PySem.W.keepIn K (.ref f28) = true)
    (a29 : PySem.W.findIn K (.ref C_Nodes) "done" = some (some (.ref f29)))
    (i29 : PySem.W.isFn K (.ref f29) = true)
    (l29 : K.lookup f29 = some ⟨oc29, od29, .func (PySem.W.fnOf "done" "Nodes.done" (defArgs s_Nodes_done) (defBody s_Nodes_done) (defScope s_Nodes_done) .none kV29 dc29 pm29 an29 cd29 ct29), sl29⟩)
    (c29 : PySem.W.codeIn K cd29 "Nodes.done" = true)
    (k29 : PySem.W.keepIn K (.ref f29) = true)
    (a30 : PySem.W.findIn K (.ref C_Nodes) "follow" = some (some (.ref f30)))
    (i30 : PySem.W.isFn K (.ref f30) = true)
    (l30 : K.lookup f30 = some ⟨oc30, od30, .func (PySem.W.fnOf "follow" "Nodes.follow" (defArgs s_Nodes_follow) (defBody s_Nodes_follow) (defScope s_Nodes_follow) .none kV30 dc30 pm30 an30 cd30 ct30), sl30⟩)
    (c30 : PySem.W.codeIn K cd30 "Nodes.follow" = true)
    (k30 : PySem.W.keepIn K (.ref f30) = true)
    (a31 : PySem.W.findIn K (.ref C_Nodes) "come" = some (some (.ref f31)))
    (i31 : PySem.W.isFn K (.ref f31) = true)
    (l31 : K.lookup f31 = some ⟨oc31, od31, .func (PySem.W.fnOf "come" "Nodes.come" (defArgs s_Nodes_come) (defBody s_Nodes_come) (defScope s_Nodes_come) .none kV31 dc31 pm31 an31 cd31 ct31), sl31⟩)
    (c31 : PySem.W.codeIn K cd31 "Nodes.come" = true)
    (k31 : PySem.W.keepIn K (.ref f31) = true)
    (a32 : PySem.W.findIn K (.ref C_Nodes) "deliver" = some (some (.ref f32)))
    (i32 : PySem.W.isFn K (.ref f32) = true)
    (l32 : K.lookup f32 = some ⟨oc32, od32, .func (PySem.W.fnOf "deliver" "Nodes.deliver" (defArgs s_Nodes_deliver) (defBody s_Nodes_deliver) (defScope s_Nodes_deliver) .none kV32 dc32 pm32 an32 cd32 ct32), sl32⟩)
    (c32 : PySem.W.codeIn K cd32 "Nodes.deliver" = true)
    (k32 : PySem.W.keepIn K (.ref f32) = true)
    (a33 : PySem.W.findIn K (.ref C_Nodes) "who" = some (some (.ref f33)))
    (i33 : PySem.W.isFn K (.ref f33) = true)
    (l33 : K.lookup f33 = some ⟨oc33, od33, .func (PySem.W.fnOf "who" "Nodes.who" (defArgs s_Nodes_who) (defBody s_Nodes_who) (defScope s_Nodes_who) .none kV33 dc33 pm33 an33 cd33 ct33), sl33⟩)
    (c33 : PySem.W.codeIn K cd33 "Nodes.who" = true)
    (k33 : PySem.W.keepIn K (.ref f33) = true)
    (a34 : PySem.W.findIn K (.ref C_Nodes) "wants" = some (some (.ref f34)))
    (i34 : PySem.W.isFn K (.ref f34) = true)
    (l34 : K.lookup f34 = some ⟨oc34, od34, .func (PySem.W.fnOf "wants" "Nodes.wants" (defArgs s_Nodes_wants) (defBody s_Nodes_wants) (defScope s_Nodes_wants) .none kV34 dc34 pm34 an34 cd34 ct34), sl34⟩)
    (c34 : PySem.W.codeIn K cd34 "Nodes.wants" = true)
    (k34 : PySem.W.keepIn K (.ref f34) = true)
    (a35 : PySem.W.findIn K (.ref C_Nodes) "__init__" = some (some (.ref f35)))
    (i35 : PySem.W.isFn K (.ref f35) = true)
    (l35 : K.lookup f35 = some ⟨oc35, od35, .func (PySem.W.fnOf "__init__" "Nodes.__init__" (defArgs s_Nodes_init) (defBody s_Nodes_init) (defScope s_Nodes_init) .none kV35 dc35 pm35 an35 cd35 ct35), sl35⟩)
    (c35 : PySem.W.codeIn K cd35 "Nodes.__init__" = true)
    (k35 : PySem.W.keepIn K (.ref f35) = true)
    (a36 : PySem.W.nsIn K mainGlobals "_law_same" = some (some (.ref f36)))
    (l36 : K.lookup f36 = some ⟨oc36, od36, .func (PySem.W.fnOf "_law_same" "_law_same" (defArgs s_law_same) (defBody s_law_same) (defScope s_law_same) .none kV36 dc36 pm36 an36 cd36 ct36), sl36⟩)
    (c36 : PySem.W.codeIn K cd36 "_law_same" = true)
    (k36 : PySem.W.keepIn K (.ref f36) = true)
    (a37 : PySem.W.nsIn K mainGlobals "_law_want" = some (some (.ref f37)))
    (l37 : K.lookup f37 = some ⟨oc37, od37, .func (PySem.W.fnOf "_law_want" "_law_want" (defArgs s_law_want) (defBody s_law_want) (defScope s_law_want) .none kV37 dc37 pm37 an37 cd37 ct37), sl37⟩)
    (c37 : PySem.W.codeIn K cd37 "_law_want" = true)
    (k37 : PySem.W.keepIn K (.ref f37) = true)
    (a38 : PySem.W.nsIn K mainGlobals "_law_pushed" = some (some (.ref f38)))
    (l38 : K.lookup f38 = some ⟨oc38, od38, .func (PySem.W.fnOf "_law_pushed" "_law_pushed" (defArgs s_law_pushed) (defBody s_law_pushed) (defScope s_law_pushed) .none kV38 dc38 pm38 an38 cd38 ct38), sl38⟩)
    (c38 : PySem.W.codeIn K cd38 "_law_pushed" = true)
    (k38 : PySem.W.keepIn K (.ref f38) = true)
    (a39 : PySem.W.nsIn K mainGlobals "_law_tick" = some (some (.ref f39)))
    (l39 : K.lookup f39 = some ⟨oc39, od39, .func (PySem.W.fnOf "_law_tick" "_law_tick" (defArgs s_law_tick) (defBody s_law_tick) (defScope s_law_tick) .none kV39 dc39 pm39 an39 cd39 ct39), sl39⟩)
    (c39 : PySem.W.codeIn K cd39 "_law_tick" = true)
    (k39 : PySem.W.keepIn K (.ref f39) = true)
    (a40 : PySem.W.nsIn K mainGlobals "_law_grant" = some (some (.ref f40)))
    (l40 : K.lookup f40 = some ⟨oc40, od40, .func (PySem.W.fnOf "_law_grant" "_law_grant" (defArgs s_law_grant) (defBody s_law_grant) (defScope s_law_grant) .none kV40 dc40 pm40 an40 cd40 ct40), sl40⟩)
    (c40 : PySem.W.codeIn K cd40 "_law_grant" = true)
    (k40 : PySem.W.keepIn K (.ref f40) = true)
    (a41 : PySem.W.nsIn K mainGlobals "_law_asked" = some (some (.ref f41)))
    (l41 : K.lookup f41 = some ⟨oc41, od41, .func (PySem.W.fnOf "_law_asked" "_law_asked" (defArgs s_law_asked) (defBody s_law_asked) (defScope s_law_asked) .none kV41 dc41 pm41 an41 cd41 ct41), sl41⟩)
    (c41 : PySem.W.codeIn K cd41 "_law_asked" = true)
    (k41 : PySem.W.keepIn K (.ref f41) = true)
    (a42 : PySem.W.nsIn K mainGlobals "_law_answered" = some (some (.ref f42)))
    (l42 : K.lookup f42 = some ⟨oc42, od42, .func (PySem.W.fnOf "_law_answered" "_law_answered" (defArgs s_law_answered) (defBody s_law_answered) (defScope s_law_answered) .none kV42 dc42 pm42 an42 cd42 ct42), sl42⟩)
    (c42 : PySem.W.codeIn K cd42 "_law_answered" = true)
    (k42 : PySem.W.keepIn K (.ref f42) = true)
    (a43 : PySem.W.nsIn K mainGlobals "_law_follow" = some (some (.ref f43)))
    (l43 : K.lookup f43 = some ⟨oc43, od43, .func (PySem.W.fnOf "_law_follow" "_law_follow" (defArgs s_law_follow) (defBody s_law_follow) (defScope s_law_follow) .none kV43 dc43 pm43 an43 cd43 ct43), sl43⟩)
    (c43 : PySem.W.codeIn K cd43 "_law_follow" = true)
    (k43 : PySem.W.keepIn K (.ref f43) = true)
    (a44 : PySem.W.nsIn K mainGlobals "_law_happen" = some (some (.ref f44)))
    (l44 : K.lookup f44 = some ⟨oc44, od44, .func (PySem.W.fnOf "_law_happen" "_law_happen" (defArgs s_law_happen) (defBody s_law_happen) (defScope s_law_happen) .none kV44 dc44 pm44 an44 cd44 ct44), sl44⟩)
    (c44 : PySem.W.codeIn K cd44 "_law_happen" = true)
    (k44 : PySem.W.keepIn K (.ref f44) = true)
    (a45 : PySem.W.nsIn K mainGlobals "_law_nodes" = some (some (.ref f45)))
    (l45 : K.lookup f45 = some ⟨oc45, od45, .func (PySem.W.fnOf "_law_nodes" "_law_nodes" (defArgs s_law_nodes) (defBody s_law_nodes) (defScope s_law_nodes) .none kV45 dc45 pm45 an45 cd45 ct45), sl45⟩)
    (c45 : PySem.W.codeIn K cd45 "_law_nodes" = true)
    (k45 : PySem.W.keepIn K (.ref f45) = true)
    (a46 : PySem.W.nsIn K mainGlobals "_law_is_alike" = some (some (.ref f46)))
    (l46 : K.lookup f46 = some ⟨oc46, od46, .func (PySem.W.fnOf "_law_is_alike" "_law_is_alike" (defArgs s_law_is_alike) (defBody s_law_is_alike) (defScope s_law_is_alike) .none kV46 dc46 pm46 an46 cd46 ct46), sl46⟩)
    (c46 : PySem.W.codeIn K cd46 "_law_is_alike" = true)
    (k46 : PySem.W.keepIn K (.ref f46) = true)
    (a47 : PySem.W.nsIn K mainGlobals "_law_is_step_due" = some (some (.ref f47)))
    (l47 : K.lookup f47 = some ⟨oc47, od47, .func (PySem.W.fnOf "_law_is_step_due" "_law_is_step_due" (defArgs s_law_is_step_due) (defBody s_law_is_step_due) (defScope s_law_is_step_due) .none kV47 dc47 pm47 an47 cd47 ct47), sl47⟩)
    (c47 : PySem.W.codeIn K cd47 "_law_is_step_due" = true)
    (k47 : PySem.W.keepIn K (.ref f47) = true)
    (a48 : PySem.W.nsIn K mainGlobals "law" = some (some (.ref f48)))
    (l48 : K.lookup f48 = some ⟨oc48, od48, .func (PySem.W.fnOf "law" "law" (defArgs s_law) (defBody s_law) (defScope s_law) .none kV48 dc48 pm48 an48 cd48 ct48), sl48⟩)
    (c48 : PySem.W.codeIn K cd48 "law" = true)
    (k48 : PySem.W.keepIn K (.ref f48) = true)
    (pg_Holding : PySem.W.plainGet K C_Holding Str.empty = true)
    (hd_Holding : PySem.W.hasDictIn K C_Holding = true)
    (po_Holding : PySem.W.plainOver K C_Holding = true)
    (sa_Holding : PySem.W.findIn K (.ref C_Holding) "__setattr__" = some (some (.builtin "object.__setattr__")))
    (mk_Holding : PySem.W.makesIn K C_Holding = true)
    (kc_Holding : PySem.W.keepIn K (.ref C_Holding) = true)
    (n_Holding_mode : PySem.W.findIn K (.ref C_Holding) "mode" = some none)
    (n_Holding_words : PySem.W.findIn K (.ref C_Holding) "words" = some none)
    (n_Holding_want : PySem.W.findIn K (.ref C_Holding) "want" = some none)
    (n_Holding_asked : PySem.W.findIn K (.ref C_Holding) "asked" = some none)
    (n_Holding_last : PySem.W.findIn K (.ref C_Holding) "last" = some none)
    (n_Holding_answer : PySem.W.findIn K (.ref C_Holding) "answer" = some none)
    (pg_Home : PySem.W.plainGet K C_Home Str.empty = true)
    (hd_Home : PySem.W.hasDictIn K C_Home = true)
    (po_Home : PySem.W.plainOver K C_Home = true)
    (sa_Home : PySem.W.findIn K (.ref C_Home) "__setattr__" = some (some (.builtin "object.__setattr__")))
    (mk_Home : PySem.W.makesIn K C_Home = true)
    (kc_Home : PySem.W.keepIn K (.ref C_Home) = true)
    (n_Home_node : PySem.W.findIn K (.ref C_Home) "node" = some none)
    (n_Home_writer : PySem.W.findIn K (.ref C_Home) "writer" = some none)
    (n_Home_readers : PySem.W.findIn K (.ref C_Home) "readers" = some none)
    (n_Home_words : PySem.W.findIn K (.ref C_Home) "words" = some none)
    (n_Home_number : PySem.W.findIn K (.ref C_Home) "number" = some none)
    (n_Home_asker : PySem.W.findIn K (.ref C_Home) "asker" = some none)
    (n_Home_kind : PySem.W.findIn K (.ref C_Home) "kind" = some none)
    (n_Home_waits : PySem.W.findIn K (.ref C_Home) "waits" = some none)
    (n_Home_served : PySem.W.findIn K (.ref C_Home) "served" = some none)
    (pg_Nodes : PySem.W.plainGet K C_Nodes Str.empty = true)
    (hd_Nodes : PySem.W.hasDictIn K C_Nodes = true)
    (po_Nodes : PySem.W.plainOver K C_Nodes = true)
    (sa_Nodes : PySem.W.findIn K (.ref C_Nodes) "__setattr__" = some (some (.builtin "object.__setattr__")))
    (mk_Nodes : PySem.W.makesIn K C_Nodes = true)
    (kc_Nodes : PySem.W.keepIn K (.ref C_Nodes) = true)
    (n_Nodes_many : PySem.W.findIn K (.ref C_Nodes) "many" = some none)
    (n_Nodes_pages : PySem.W.findIn K (.ref C_Nodes) "pages" = some none)
    (n_Nodes_way : PySem.W.findIn K (.ref C_Nodes) "way" = some none)
    (n_Nodes_homes : PySem.W.findIn K (.ref C_Nodes) "homes" = some none)
    (n_Nodes_held : PySem.W.findIn K (.ref C_Nodes) "held" = some none)
    (ex_NotRight : PySem.W.excIn K C_NotRight [.type "ValueError", .type "Exception", .type "BaseException", .type "object"] "ValueError.__new__" = true)
    (ek_NotRight : PySem.W.keepIn K (.ref C_NotRight) = true)
    (eb_NotRight : PySem.W.subIn K (.ref C_NotRight) (.type "BaseException") = some true)
    (et_NotRight : PySem.W.typeIn K (.ref C_NotRight) = some (.type "type"))
    (eh_NotRight : PySem.W.hasDictIn K C_NotRight = true)
    (ex_NotThere : PySem.W.excIn K C_NotThere [.type "ValueError", .type "Exception", .type "BaseException", .type "object"] "ValueError.__new__" = true)
    (ek_NotThere : PySem.W.keepIn K (.ref C_NotThere) = true)
    (eb_NotThere : PySem.W.subIn K (.ref C_NotThere) (.type "BaseException") = some true)
    (et_NotThere : PySem.W.typeIn K (.ref C_NotThere) = some (.type "type"))
    (eh_NotThere : PySem.W.hasDictIn K C_NotThere = true)
    (free_isinstance : PySem.W.nsIn K mainGlobals "isinstance" = some none)
    (free_int : PySem.W.nsIn K mainGlobals "int" = some none)
    (free_bool : PySem.W.nsIn K mainGlobals "bool" = some none)
    (free_tuple : PySem.W.nsIn K mainGlobals "tuple" = some none)
    (free_list : PySem.W.nsIn K mainGlobals "list" = some none)
    (free_dict : PySem.W.nsIn K mainGlobals "dict" = some none)
    (free_str : PySem.W.nsIn K mainGlobals "str" = some none)
    (free_len : PySem.W.nsIn K mainGlobals "len" = some none)
    (free_abs : PySem.W.nsIn K mainGlobals "abs" = some none)
    (free_range : PySem.W.nsIn K mainGlobals "range" = some none)
    (free_sorted : PySem.W.nsIn K mainGlobals "sorted" = some none)
    (free_enumerate : PySem.W.nsIn K mainGlobals "enumerate" = some none)
    (free_reversed : PySem.W.nsIn K mainGlobals "reversed" = some none) :
    ∃ fd : FuncData, (∀ (s : Shared) (v : Value), BindsTo s fd ⟨[v], []⟩ [("script", v)]) ∧ ∀ base : Heap, K.In base → base.Ns mainGlobals mg → FnOk l.prog w K mg base (L2.CX l.prog w) 7 fa fd ["script"] (spLaw K) := by
  have e := hfa.symm.trans (PySem.W.mg_of X G a48)
  cases e
  have T : Txt K mg ⟨C_NotRight, C_NotThere, C_Holding, C_Home, C_Nodes, Z_EMPTY⟩ := {
    eNR := ⟨ex_NotRight, PySem.W.mg_of X G a_NotRight, ek_NotRight, eb_NotRight, et_NotRight⟩
    eNT := ⟨ex_NotThere, PySem.W.mg_of X G a_NotThere, ek_NotThere, eb_NotThere, et_NotThere⟩
    cH := ⟨pg_Holding, hd_Holding, po_Holding, sa_Holding⟩
    cM := ⟨pg_Home, hd_Home, po_Home, sa_Home⟩
    cN := ⟨pg_Nodes, hd_Nodes, po_Nodes, sa_Nodes⟩
    aH := fun f hf => by
      simp only [List.mem_cons, List.not_mem_nil, or_false] at hf
      rcases hf with rfl | rfl | rfl | rfl | rfl | rfl
      · exact n_Holding_mode
      · exact n_Holding_words
      · exact n_Holding_want
      · exact n_Holding_asked
      · exact n_Holding_last
      · exact n_Holding_answer
    aM := fun f hf => by
      simp only [List.mem_cons, List.not_mem_nil, or_false] at hf
      rcases hf with rfl | rfl | rfl | rfl | rfl | rfl | rfl | rfl | rfl
      · exact n_Home_node
      · exact n_Home_writer
      · exact n_Home_readers
      · exact n_Home_words
      · exact n_Home_number
      · exact n_Home_asker
      · exact n_Home_kind
      · exact n_Home_waits
      · exact n_Home_served
    aN := fun f hf => by
      simp only [List.mem_cons, List.not_mem_nil, or_false] at hf
      rcases hf with rfl | rfl | rfl | rfl | rfl
      · exact n_Nodes_many
      · exact n_Nodes_pages
      · exact n_Nodes_way
      · exact n_Nodes_homes
      · exact n_Nodes_held
    c_MOST_WORD := ⟨_, PySem.W.mg_of X G v_MOST_WORD, ⟨_, rfl⟩⟩
    c_MOST_NODES := ⟨_, PySem.W.mg_of X G v_MOST_NODES, ⟨_, rfl⟩⟩
    c_MOST_PAGES := ⟨_, PySem.W.mg_of X G v_MOST_PAGES, ⟨_, rfl⟩⟩
    c_PAGE := ⟨_, PySem.W.mg_of X G v_PAGE, ⟨_, rfl⟩⟩
    c_READ := ⟨_, PySem.W.mg_of X G v_READ, ⟨_, rfl⟩⟩
    c_WRITE := ⟨_, PySem.W.mg_of X G v_WRITE, ⟨_, rfl⟩⟩
    c_EMPTY := ⟨_, PySem.W.mg_of X G v_EMPTY, rfl⟩
    z_empty := fun _ => .inr ⟨_, _, _, w_EMPTY, x_EMPTY, rfl, z_EMPTY, y_EMPTY⟩
    g_Holding := PySem.W.mg_of X G a_Holding
    g_Home := PySem.W.mg_of X G a_Home
    g_Nodes := PySem.W.mg_of X G a_Nodes
    n_isinstance := PySem.W.mg_none_of X G free_isinstance
    n_int := PySem.W.mg_none_of X G free_int
    n_bool := PySem.W.mg_none_of X G free_bool
    n_tuple := PySem.W.mg_none_of X G free_tuple
    n_list := PySem.W.mg_none_of X G free_list
    n_dict := PySem.W.mg_none_of X G free_dict
    n_str := PySem.W.mg_none_of X G free_str
    n_len := PySem.W.mg_none_of X G free_len
    n_abs := PySem.W.mg_none_of X G free_abs
    n_range := PySem.W.mg_none_of X G free_range
    n_sorted := PySem.W.mg_none_of X G free_sorted
    n_enumerate := PySem.W.mg_none_of X G free_enumerate
    n_reversed := PySem.W.mg_none_of X G free_reversed }
  have F0 := fun_mk (st := s_is_integer) l0 c0 k0
  have b0 := F0.binds (ps := ["value"]) fun _ _ _ _ _ _ us hl => match us, hl with | [_], _ => rfl
  have F1 := fun_mk (st := s_is_within) l1 c1 k1
  have b1 := F1.binds (ps := ["value", "low", "high"]) fun _ _ _ _ _ _ us hl => match us, hl with | [_, _, _], _ => rfl
  have F2 := fun_mk (st := s_is_word) l2 c2 k2
  have b2 := F2.binds (ps := ["value"]) fun _ _ _ _ _ _ us hl => match us, hl with | [_], _ => rfl
  have F3 := fun_mk (st := s_check) l3 c3 k3
  have b3 := F3.binds (ps := ["is_right"]) fun _ _ _ _ _ _ us hl => match us, hl with | [_], _ => rfl
  have F4 := fun_mk (st := s_check_there) l4 c4 k4
  have b4 := F4.binds (ps := ["is_there"]) fun _ _ _ _ _ _ us hl => match us, hl with | [_], _ => rfl
  have F5 := fun_mk (st := s_is_count) l5 c5 k5
  have b5 := F5.binds (ps := ["value"]) fun _ _ _ _ _ _ us hl => match us, hl with | [_], _ => rfl
  have F6 := fun_mk (st := s_law_draws) l6 c6 k6
  have b6 := F6.binds (ps := ["script"]) fun _ _ _ _ _ _ us hl => match us, hl with | [_], _ => rfl
  have F7 := fun_mk (st := s_law_take) l7 c7 k7
  have b7 := F7.binds (ps := ["draws", "bound"]) fun _ _ _ _ _ _ us hl => match us, hl with | [_, _], _ => rfl
  have F8 := fun_mk (st := s_law_pick) l8 c8 k8
  have b8 := F8.binds (ps := ["draws", "some"]) fun _ _ _ _ _ _ us hl => match us, hl with | [_, _], _ => rfl
  have F9 := fun_mk (st := s_Holding_init) l9 c9 k9
  have b9 := F9.binds (ps := ["self", "mode"]) fun _ _ _ _ _ _ us hl => match us, hl with | [_, _], _ => rfl
  have F10 := fun_mk (st := s_Home_init) l10 c10 k10
  have b10 := F10.binds (ps := ["self", "node"]) fun _ _ _ _ _ _ us hl => match us, hl with | [_, _], _ => rfl
  have F11 := fun_mk (st := s_Home_has_it) l11 c11 k11
  have b11 := F11.binds (ps := ["self", "node", "kind"]) fun _ _ _ _ _ _ us hl => match us, hl with | [_, _, _], _ => rfl
  have F12 := fun_mk (st := s_Home_is_granting) l12 c12 k12
  have b12 := F12.binds (ps := ["self"]) fun _ _ _ _ _ _ us hl => match us, hl with | [_], _ => rfl
  have F13 := fun_mk (st := s_Home_grant) l13 c13 k13
  have b13 := F13.binds (ps := ["self"]) fun _ _ _ _ _ _ us hl => match us, hl with | [_], _ => rfl
  have F14 := fun_mk (st := s_Home_begin) l14 c14 k14
  have b14 := F14.binds (ps := ["self", "asker", "kind"]) fun _ _ _ _ _ _ us hl => match us, hl with | [_, _, _], _ => rfl
  have F15 := fun_mk (st := s_Home_given) l15 c15 k15
  have b15 := F15.binds (ps := ["self", "node", "words"]) fun _ _ _ _ _ _ us hl => match us, hl with | [_, _, _], _ => rfl
  have F16 := fun_mk (st := s_Nodes_want) l16 c16 k16
  have b16 := F16.binds (ps := ["self", "own", "kind"]) fun _ _ _ _ _ _ us hl => match us, hl with | [_, _, _], _ => rfl
  have F17 := fun_mk (st := s_Nodes_send) l17 c17 k17
  have b17 := F17.binds (ps := ["self", "message"]) fun _ _ _ _ _ _ us hl => match us, hl with | [_, _], _ => rfl
  have F18 := fun_mk (st := s_Nodes_need) l18 c18 k18
  have b18 := F18.binds (ps := ["self", "node", "page"]) fun _ _ _ _ _ _ us hl => match us, hl with | [_, _, _], _ => rfl
  have F19 := fun_mk (st := s_Nodes_push) l19 c19 k19
  have b19 := F19.binds (ps := ["self", "page", "home"]) fun _ _ _ _ _ _ us hl => match us, hl with | [_, _, _], _ => rfl
  have F20 := fun_mk (st := s_Nodes_net) l20 c20 k20
  have b20 := F20.binds (ps := ["self"]) fun _ _ _ _ _ _ us hl => match us, hl with | [_], _ => rfl
  have F21 := fun_mk (st := s_Nodes_place) l21 c21 k21
  have b21 := F21.binds (ps := ["self", "k"]) fun _ _ _ _ _ _ us hl => match us, hl with | [_, _], _ => rfl
  have F22 := fun_mk (st := s_Nodes_double) l22 c22 k22
  have b22 := F22.binds (ps := ["self", "k"]) fun _ _ _ _ _ _ us hl => match us, hl with | [_, _], _ => rfl
  have F23 := fun_mk (st := s_Nodes_lose) l23 c23 k23
  have b23 := F23.binds (ps := ["self", "k"]) fun _ _ _ _ _ _ us hl => match us, hl with | [_, _], _ => rfl
  have F24 := fun_mk (st := s_Nodes_read) l24 c24 k24
  have b24 := F24.binds (ps := ["self", "node", "page", "index"]) fun _ _ _ _ _ _ us hl => match us, hl with | [_, _, _, _], _ => rfl
  have F25 := fun_mk (st := s_Nodes_write) l25 c25 k25
  have b25 := F25.binds (ps := ["self", "node", "page", "index", "word"]) fun _ _ _ _ _ _ us hl => match us, hl with | [_, _, _, _, _], _ => rfl
  have F26 := fun_mk (st := s_Nodes_tick) l26 c26 k26
  have b26 := F26.binds (ps := ["self", "node"]) fun _ _ _ _ _ _ us hl => match us, hl with | [_, _], _ => rfl
  have F27 := fun_mk (st := s_Nodes_asked) l27 c27 k27
  have b27 := F27.binds (ps := ["self", "message"]) fun _ _ _ _ _ _ us hl => match us, hl with | [_, _], _ => rfl
  have F28 := fun_mk (st := s_Nodes_answered) l28 c28 k28
  have b28 := F28.binds (ps := ["self", "message"]) fun _ _ _ _ _ _ us hl => match us, hl with | [_, _], _ => rfl
  have F29 := fun_mk (st := s_Nodes_done) l29 c29 k29
  have b29 := F29.binds (ps := ["self", "node", "own", "message"]) fun _ _ _ _ _ _ us hl => match us, hl with | [_, _, _, _], _ => rfl
  have F30 := fun_mk (st := s_Nodes_follow) l30 c30 k30
  have b30 := F30.binds (ps := ["self", "node", "page", "message"]) fun _ _ _ _ _ _ us hl => match us, hl with | [_, _, _, _], _ => rfl
  have F31 := fun_mk (st := s_Nodes_come) l31 c31 k31
  have b31 := F31.binds (ps := ["self", "message"]) fun _ _ _ _ _ _ us hl => match us, hl with | [_, _], _ => rfl
  have F32 := fun_mk (st := s_Nodes_deliver) l32 c32 k32
  have b32 := F32.binds (ps := ["self", "k"]) fun _ _ _ _ _ _ us hl => match us, hl with | [_, _], _ => rfl
  have F33 := fun_mk (st := s_Nodes_who) l33 c33 k33
  have b33 := F33.binds (ps := ["self", "page"]) fun _ _ _ _ _ _ us hl => match us, hl with | [_, _], _ => rfl
  have F34 := fun_mk (st := s_Nodes_wants) l34 c34 k34
  have b34 := F34.binds (ps := ["self", "node"]) fun _ _ _ _ _ _ us hl => match us, hl with | [_, _], _ => rfl
  have F35 := fun_mk (st := s_Nodes_init) l35 c35 k35
  have b35 := F35.binds (ps := ["self", "many", "pages"]) fun _ _ _ _ _ _ us hl => match us, hl with | [_, _, _], _ => rfl
  have F36 := fun_mk (st := s_law_same) l36 c36 k36
  have b36 := F36.binds (ps := ["actual", "due"]) fun _ _ _ _ _ _ us hl => match us, hl with | [_, _], _ => rfl
  have F37 := fun_mk (st := s_law_want) l37 c37 k37
  have b37 := F37.binds (ps := ["own", "kind"]) fun _ _ _ _ _ _ us hl => match us, hl with | [_, _], _ => rfl
  have F38 := fun_mk (st := s_law_pushed) l38 c38 k38
  have b38 := F38.binds (ps := ["m", "page"]) fun _ _ _ _ _ _ us hl => match us, hl with | [_, _], _ => rfl
  have F39 := fun_mk (st := s_law_tick) l39 c39 k39
  have b39 := F39.binds (ps := ["m", "node"]) fun _ _ _ _ _ _ us hl => match us, hl with | [_, _], _ => rfl
  have F40 := fun_mk (st := s_law_grant) l40 c40 k40
  have b40 := F40.binds (ps := ["home"]) fun _ _ _ _ _ _ us hl => match us, hl with | [_], _ => rfl
  have F41 := fun_mk (st := s_law_asked) l41 c41 k41
  have b41 := F41.binds (ps := ["m", "message"]) fun _ _ _ _ _ _ us hl => match us, hl with | [_, _], _ => rfl
  have F42 := fun_mk (st := s_law_answered) l42 c42 k42
  have b42 := F42.binds (ps := ["m", "message"]) fun _ _ _ _ _ _ us hl => match us, hl with | [_, _], _ => rfl
  have F43 := fun_mk (st := s_law_follow) l43 c43 k43
  have b43 := F43.binds (ps := ["m", "message"]) fun _ _ _ _ _ _ us hl => match us, hl with | [_, _], _ => rfl
  have F44 := fun_mk (st := s_law_happen) l44 c44 k44
  have b44 := F44.binds (ps := ["m", "kind", "k"]) fun _ _ _ _ _ _ us hl => match us, hl with | [_, _, _], _ => rfl
  have F45 := fun_mk (st := s_law_nodes) l45 c45 k45
  have b45 := F45.binds (ps := ["many", "pages"]) fun _ _ _ _ _ _ us hl => match us, hl with | [_, _], _ => rfl
  have F46 := fun_mk (st := s_law_is_alike) l46 c46 k46
  have b46 := F46.binds (ps := ["nodes", "m"]) fun _ _ _ _ _ _ us hl => match us, hl with | [_, _], _ => rfl
  have F47 := fun_mk (st := s_law_is_step_due) l47 c47 k47
  have b47 := F47.binds (ps := ["draws", "nodes", "m", "kinds"]) fun _ _ _ _ _ _ us hl => match us, hl with | [_, _, _, _], _ => rfl
  have F48 := fun_mk (st := s_law) l48 c48 k48
  refine ⟨PySem.W.fnOf "law" "law" (defArgs s_law) (defBody s_law) (defScope s_law) .none kV48 dc48 pm48 an48 cd48 ct48, fun s v => .of_eq rfl, fun base _ _ => ?_⟩
  have G_is_integer := GFn.mk ⟨_, _, ok_is_integer (P := l.prog) (w := w) (base := base) F0 T, PySem.W.mg_of X G a0, k0, b0⟩
  have G_is_within := GFn.mk ⟨_, _, ok_is_within (P := l.prog) (w := w) (base := base) F1 T G_is_integer, PySem.W.mg_of X G a1, k1, b1⟩
  have G_is_word := GFn.mk ⟨_, _, ok_is_word (P := l.prog) (w := w) (base := base) F2 T G_is_within, PySem.W.mg_of X G a2, k2, b2⟩
  have G_check := GFn.mk ⟨_, _, ok_check (P := l.prog) (w := w) (base := base) F3 T, PySem.W.mg_of X G a3, k3, b3⟩
  have G_check_there := GFn.mk ⟨_, _, ok_check_there (P := l.prog) (w := w) (base := base) F4 T, PySem.W.mg_of X G a4, k4, b4⟩
  have G_is_count := GFn.mk ⟨_, _, ok_is_count (P := l.prog) (w := w) (base := base) F5 T G_is_integer, PySem.W.mg_of X G a5, k5, b5⟩
  have G_law_draws := GFn.mk ⟨_, _, ok_draws (P := l.prog) (w := w) (base := base) F6 T, PySem.W.mg_of X G a6, k6, b6⟩
  have G_law_take := GFn.mk ⟨_, _, ok_take (P := l.prog) (w := w) (base := base) F7 T, PySem.W.mg_of X G a7, k7, b7⟩
  have G_law_pick := GFn.mk ⟨_, _, ok_pick (P := l.prog) (w := w) (base := base) F8 T G_law_take, PySem.W.mg_of X G a8, k8, b8⟩
  have G_Holding_init := GMk.mk ⟨_, _, ok_hold_init (P := l.prog) (w := w) (base := base) F9 T, PySem.W.mg_of X G a_Holding, ⟨mk_Holding, a9, i9, kc_Holding⟩, b9⟩
  have G_Home_init := GMk.mk ⟨_, _, ok_home_init (P := l.prog) (w := w) (base := base) F10 T, PySem.W.mg_of X G a_Home, ⟨mk_Home, a10, i10, kc_Home⟩, b10⟩
  have G_Home_has_it := GMt.mk ⟨_, _, ok_has_it (P := l.prog) (w := w) (base := base) F11 T, T.cM, ⟨a11, i11, k11⟩, b11⟩
  have G_Home_is_granting := GMt.mk ⟨_, _, ok_granting (P := l.prog) (w := w) (base := base) F12 T, T.cM, ⟨a12, i12, k12⟩, b12⟩
  have G_Home_grant := GMt.mk ⟨_, _, ok_grant (P := l.prog) (w := w) (base := base) F13 T, T.cM, ⟨a13, i13, k13⟩, b13⟩
  have G_Home_begin := GMt.mk ⟨_, _, ok_begin (P := l.prog) (w := w) (base := base) F14 T, T.cM, ⟨a14, i14, k14⟩, b14⟩
  have G_Home_given := GMt.mk ⟨_, _, ok_given (P := l.prog) (w := w) (base := base) F15 T G_Home_grant, T.cM, ⟨a15, i15, k15⟩, b15⟩
  have G_Nodes_want := GMt.mk ⟨_, _, ok_want (P := l.prog) (w := w) (base := base) F16 T, T.cN, ⟨a16, i16, k16⟩, b16⟩
  have G_Nodes_send := GMt.mk ⟨_, _, ok_send (P := l.prog) (w := w) (base := base) F17 T, T.cN, ⟨a17, i17, k17⟩, b17⟩
  have G_Nodes_need := GMt.mk ⟨_, _, ok_need (P := l.prog) (w := w) (base := base) F18 T G_check_there G_is_integer, T.cN, ⟨a18, i18, k18⟩, b18⟩
  have G_Nodes_push := GMt.mk ⟨_, _, ok_push (P := l.prog) (w := w) (base := base) F19 T G_Nodes_send G_Home_is_granting, T.cN, ⟨a19, i19, k19⟩, b19⟩
  have G_Nodes_net := GMt.mk ⟨_, _, ok_net (P := l.prog) (w := w) (base := base) F20 T, T.cN, ⟨a20, i20, k20⟩, b20⟩
  have G_Nodes_place := GMt.mk ⟨_, _, ok_place (P := l.prog) (w := w) (base := base) F21 T G_check G_is_count, T.cN, ⟨a21, i21, k21⟩, b21⟩
  have G_Nodes_double := GMt.mk ⟨_, _, ok_double (P := l.prog) (w := w) (base := base) F22 T G_Nodes_place G_Nodes_send, T.cN, ⟨a22, i22, k22⟩, b22⟩
  have G_Nodes_lose := GMt.mk ⟨_, _, ok_lose (P := l.prog) (w := w) (base := base) F23 T G_Nodes_place, T.cN, ⟨a23, i23, k23⟩, b23⟩
  have G_Nodes_read := GMt.mk ⟨_, _, ok_readN (P := l.prog) (w := w) (base := base) F24 T G_Nodes_need G_check G_is_within G_Nodes_want, T.cN, ⟨a24, i24, k24⟩, b24⟩
  have G_Nodes_write := GMt.mk ⟨_, _, ok_writeN (P := l.prog) (w := w) (base := base) F25 T G_Nodes_need G_check G_is_within G_is_word G_Nodes_want, T.cN, ⟨a25, i25, k25⟩, b25⟩
  have G_Nodes_tick := GMt.mk ⟨_, _, ok_tick (P := l.prog) (w := w) (base := base) F26 T G_Nodes_need G_Nodes_send G_Nodes_push, T.cN, ⟨a26, i26, k26⟩, b26⟩
  have G_Nodes_asked := GMt.mk ⟨_, _, ok_asked (P := l.prog) (w := w) (base := base) F27 T G_Home_has_it G_Home_begin G_Home_grant G_Nodes_push, T.cN, ⟨a27, i27, k27⟩, b27⟩
  have G_Nodes_answered := GMt.mk ⟨_, _, ok_answered (P := l.prog) (w := w) (base := base) F28 T G_Home_is_granting G_Home_given G_Nodes_push, T.cN, ⟨a28, i28, k28⟩, b28⟩
  have G_Nodes_done := GMt.mk ⟨_, _, ok_done (P := l.prog) (w := w) (base := base) F29 T, T.cN, ⟨a29, i29, k29⟩, b29⟩
  have G_Nodes_follow := GMt.mk ⟨_, _, ok_follow (P := l.prog) (w := w) (base := base) F30 T G_Nodes_done G_Nodes_send, T.cN, ⟨a30, i30, k30⟩, b30⟩
  have G_Nodes_come := GMt.mk ⟨_, _, ok_come (P := l.prog) (w := w) (base := base) F31 T G_Nodes_asked G_Nodes_answered G_Nodes_follow, T.cN, ⟨a31, i31, k31⟩, b31⟩
  have G_Nodes_deliver := GMt.mk ⟨_, _, ok_deliver (P := l.prog) (w := w) (base := base) F32 T G_Nodes_place G_Nodes_come, T.cN, ⟨a32, i32, k32⟩, b32⟩
  have G_Nodes_who := GMt.mk ⟨_, _, ok_who (P := l.prog) (w := w) (base := base) F33 T G_Nodes_need, T.cN, ⟨a33, i33, k33⟩, b33⟩
  have G_Nodes_wants := GMt.mk ⟨_, _, ok_wants (P := l.prog) (w := w) (base := base) F34 T G_Nodes_need, T.cN, ⟨a34, i34, k34⟩, b34⟩
  have G_Nodes_init := GMk.mk ⟨_, _, ok_nodes_init (P := l.prog) (w := w) (base := base) F35 T G_check G_is_within G_Holding_init G_Home_init, PySem.W.mg_of X G a_Nodes, ⟨mk_Nodes, a35, i35, kc_Nodes⟩, b35⟩
  have G_law_same := GFn.mk ⟨_, _, ok_law_same (P := l.prog) (w := w) (base := base) F36 T (PySem.W.mg_of X G a36) k36 b36, PySem.W.mg_of X G a36, k36, b36⟩
  have G_law_want := GFn.mk ⟨_, _, ok_law_want (P := l.prog) (w := w) (base := base) F37 T, PySem.W.mg_of X G a37, k37, b37⟩
  have G_law_pushed := GFn.mk ⟨_, _, ok_law_pushed (P := l.prog) (w := w) (base := base) F38 T, PySem.W.mg_of X G a38, k38, b38⟩
  have G_law_tick := GFn.mk ⟨_, _, ok_law_tick (P := l.prog) (w := w) (base := base) F39 T G_law_pushed, PySem.W.mg_of X G a39, k39, b39⟩
  have G_law_grant := GFn.mk ⟨_, _, ok_law_grant (P := l.prog) (w := w) (base := base) F40 T, PySem.W.mg_of X G a40, k40, b40⟩
  have G_law_asked := GFn.mk ⟨_, _, ok_law_asked (P := l.prog) (w := w) (base := base) F41 T G_law_grant G_law_pushed, PySem.W.mg_of X G a41, k41, b41⟩
  have G_law_answered := GFn.mk ⟨_, _, ok_law_answered (P := l.prog) (w := w) (base := base) F42 T G_law_grant G_law_pushed, PySem.W.mg_of X G a42, k42, b42⟩
  have G_law_follow := GFn.mk ⟨_, _, ok_law_follow (P := l.prog) (w := w) (base := base) F43 T, PySem.W.mg_of X G a43, k43, b43⟩
  have G_law_happen := GFn.mk ⟨_, _, ok_law_happen (P := l.prog) (w := w) (base := base) F44 T G_law_asked G_law_answered G_law_follow, PySem.W.mg_of X G a44, k44, b44⟩
  have G_law_nodes := GFn.mk ⟨_, _, ok_law_nodes (P := l.prog) (w := w) (base := base) F45 T, PySem.W.mg_of X G a45, k45, b45⟩
  have G_law_is_alike := GFn.mk ⟨_, _, ok_law_is_alike (P := l.prog) (w := w) (base := base) F46 T G_law_same G_Nodes_net G_Nodes_who G_Nodes_wants, PySem.W.mg_of X G a46, k46, b46⟩
  have G_law_is_step_due := GFn.mk ⟨_, _, ok_law_is_step_due (P := l.prog) (w := w) (base := base) F47 T G_law_take G_law_pick G_law_same G_law_want G_law_tick G_law_happen G_Nodes_read G_Nodes_write G_Nodes_tick G_Nodes_deliver G_Nodes_double G_Nodes_lose, PySem.W.mg_of X G a47, k47, b47⟩
  exact ok_law (P := l.prog) (w := w) (base := base) F48 T G_law_draws G_law_take G_law_pick G_law_same G_law_nodes G_law_tick G_law_happen G_law_is_step_due G_law_is_alike G_Nodes_init G_Nodes_tick G_Nodes_deliver
end K57
set_option Elab.async false
set_option linter.all false
open PySem PySem.W PyProof.Rows
set_option maxRecDepth 100000 in
set_option maxHeartbeats 40000000 in
theorem PySem.Challenge.cw_airheld_k57_whole_nodes_message_by_messa_holds : PySem.Challenge.rw_airheld_k57_whole_nodes_message_by_messa.Holds := by
  w_on; o_law; k_head; (case hw => w_witness2)
  k_fill
  refine L2.walk_of (l := PySem.Challenge.rw_airheld_k57_whole_nodes_message_by_messa) (n := 63) (k := 7) (x := "script") (CX := fun w => L2.CX PySem.Challenge.rw_airheld_k57_whole_nodes_message_by_messa.prog w) (sp := fun w => K57.spLaw _) rfl (by decide) rfl ⟨rfl, by decide, by decide⟩ (fun w h Y => PySem.W.kIn_of Y) ?F (fun _ _ a ns hl _ hS => ⟨a, ns, rfl, hS, hl, fun _ => rfl⟩) fun _ _ _ _ _ z => (by obtain ⟨_, _, _, _, _, _, _, _, _, _, _, _, z⟩ := z; exact z)
  case F =>
    intro w mg fa h KX G hmg
    refine' K57.all_mk KX G hmg ?a_Holding ?a_Home ?a_Nodes ?a_NotRight ?a_NotThere ?v_MOST_WORD ?v_MOST_NODES ?v_MOST_PAGES ?v_PAGE ?v_READ ?v_WRITE ?v_EMPTY ?w_EMPTY ?x_EMPTY ?y_EMPTY ?z_EMPTY ?a0 ?l0 ?c0 ?k0 ?a1 ?l1 ?c1 ?k1 ?a2 ?l2 ?c2 ?k2 ?a3 ?l3 ?c3 ?k3 ?a4 ?l4 ?c4 ?k4 ?a5 ?l5 ?c5 ?k5 ?a6 ?l6 ?c6 ?k6 ?a7 ?l7 ?c7 ?k7 ?a8 ?l8 ?c8 ?k8 ?a9 ?i9 ?l9 ?c9 ?k9 ?a10 ?i10 ?l10 ?c10 ?k10 ?a11 ?i11 ?l11 ?c11 ?k11 ?a12 ?i12 ?l12 ?c12 ?k12 ?a13 ?i13 ?l13 ?c13 ?k13 ?a14 ?i14 ?l14 ?c14 ?k14 ?a15 ?i15 ?l15 ?c15 ?k15 ?a16 ?i16 ?l16 ?c16 ?k16 ?a17 ?i17 ?l17 ?c17 ?k17 ?a18 ?i18 ?l18 ?c18 ?k18 ?a19 ?i19 ?l19 ?c19 ?k19 ?a20 ?i20 ?l20 ?c20 ?k20 ?a21 ?i21 ?l21 ?c21 ?k21 ?a22 ?i22 ?l22 ?c22 ?k22 ?a23 ?i23 ?l23 ?c23 ?k23 ?a24 ?i24 ?l24 ?c24 ?k24 ?a25 ?i25 ?l25 ?c25 ?k25 ?a26 ?i26 ?l26 ?c26 ?k26 ?a27 ?i27 ?l27 ?c27 ?k27 ?a28 ?i28 ?l28 ?c28 ?k28 ?a29 ?i29 ?l29 ?c29 ?k29 ?a30 ?i30 ?l30 ?c30 ?k30 ?a31 ?i31 ?l31 ?c31 ?k31 ?a32 ?i32 ?l32 ?c32 ?k32 ?a33 ?i33 ?l33 ?c33 ?k33 ?a34 ?i34 ?l34 ?c34 ?k34 ?a35 ?i35 ?l35 ?c35 ?k35 ?a36 ?l36 ?c36 ?k36 ?a37 ?l37 ?c37 ?k37 ?a38 ?l38 ?c38 ?k38 ?a39 ?l39 ?c39 ?k39 ?a40 ?l40 ?c40 ?k40 ?a41 ?l41 ?c41 ?k41 ?a42 ?l42 ?c42 ?k42 ?a43 ?l43 ?c43 ?k43 ?a44 ?l44 ?c44 ?k44 ?a45 ?l45 ?c45 ?k45 ?a46 ?l46 ?c46 ?k46 ?a47 ?l47 ?c47 ?k47 ?a48 ?l48 ?c48 ?k48 ?pg_Holding ?hd_Holding ?po_Holding ?sa_Holding ?mk_Holding ?kc_Holding ?n_Holding_mode ?n_Holding_words ?n_Holding_want ?n_Holding_asked ?n_Holding_last ?n_Holding_answer ?pg_Home ?hd_Home ?po_Home ?sa_Home ?mk_Home ?kc_Home ?n_Home_node ?n_Home_writer ?n_Home_readers ?n_Home_words ?n_Home_number ?n_Home_asker ?n_Home_kind ?n_Home_waits ?n_Home_served ?pg_Nodes ?hd_Nodes ?po_Nodes ?sa_Nodes ?mk_Nodes ?kc_Nodes ?n_Nodes_many ?n_Nodes_pages ?n_Nodes_way ?n_Nodes_homes ?n_Nodes_held ?ex_NotRight ?ek_NotRight ?eb_NotRight ?et_NotRight ?eh_NotRight ?ex_NotThere ?ek_NotThere ?eb_NotThere ?et_NotThere ?eh_NotThere ?free_isinstance ?free_int ?free_bool ?free_tuple ?free_list ?free_dict ?free_str ?free_len ?free_abs ?free_range ?free_sorted ?free_enumerate ?free_reversed
    (case a_Holding => k_is)
    (case a_Home => k_is)
    (case a_Nodes => k_is)
    (case a_NotRight => k_is)
    (case a_NotThere => k_is)
    (case v_MOST_WORD => k_is)
    (case v_MOST_NODES => k_is)
    (case v_MOST_PAGES => k_is)
    (case v_PAGE => k_is)
    (case v_READ => k_is)
    (case v_WRITE => k_is)
    (case v_EMPTY => k_is)
    (case w_EMPTY => k_is)
    (case x_EMPTY => rfl)
    (case y_EMPTY => exact (.cons ⟨_, rfl⟩ (.cons ⟨_, rfl⟩ (.cons ⟨_, rfl⟩ (.cons ⟨_, rfl⟩ (.cons ⟨_, rfl⟩ (.cons ⟨_, rfl⟩ (.cons ⟨_, rfl⟩ (.cons ⟨_, rfl⟩ (.cons ⟨_, rfl⟩ (.cons ⟨_, rfl⟩ (.cons ⟨_, rfl⟩ (.cons ⟨_, rfl⟩ (.cons ⟨_, rfl⟩ (.cons ⟨_, rfl⟩ (.cons ⟨_, rfl⟩ (.cons ⟨_, rfl⟩ .nil)))))))))))))))))
    (case z_EMPTY => show 16 ≤ sizeLine; decide)
    (case a0 => k_is)
    (case l0 => k_is)
    (case c0 => k_is)
    (case k0 => k_is)
    (case a1 => k_is)
    (case l1 => k_is)
    (case c1 => k_is)
    (case k1 => k_is)
    (case a2 => k_is)
    (case l2 => k_is)
    (case c2 => k_is)
    (case k2 => k_is)
    (case a3 => k_is)
    (case l3 => k_is)
    (case c3 => k_is)
    (case k3 => k_is)
    (case a4 => k_is)
    (case l4 => k_is)
    (case c4 => k_is)
    (case k4 => k_is)
    (case a5 => k_is)
    (case l5 => k_is)
    (case c5 => k_is)
    (case k5 => k_is)
    (case a6 => k_is)
    (case l6 => k_is)
    (case c6 => k_is)
    (case k6 => k_is)
    (case a7 => k_is)
    (case l7 => k_is)
    (case c7 => k_is)
    (case k7 => k_is)
    (case a8 => k_is)
    (case l8 => k_is)
    (case c8 => k_is)
    (case k8 => k_is)
    (case a9 => k_is)
    (case i9 => k_is)
    (case l9 => k_is)
    (case c9 => k_is)
    (case k9 => k_is)
    (case a10 => k_is)
    (case i10 => k_is)
    (case l10 => k_is)
    (case c10 => k_is)
    (case k10 => k_is)
    (case a11 => k_is)
    (case i11 => k_is)
    (case l11 => k_is)
    (case c11 => k_is)
    (case k11 => k_is)
    (case a12 => k_is)
    (case i12 => k_is)
    (case l12 => k_is)
    (case c12 => k_is)
    (case k12 => k_is)
    (case a13 => k_is)
    (case i13 => k_is)
    (case l13 => k_is)
    (case c13 => k_is)
    (case k13 => k_is)
    (case a14 => k_is)
    (case i14 => k_is)
    (case l14 => k_is)
    (case c14 => k_is)
    (case k14 => k_is)
    (case a15 => k_is)
    (case i15 => k_is)
    (case l15 => k_is)
    (case c15 => k_is)
    (case k15 => k_is)
    (case a16 => k_is)
    (case i16 => k_is)
    (case l16 => k_is)
    (case c16 => k_is)
    (case k16 => k_is)
    (case a17 => k_is)
    (case i17 => k_is)
    (case l17 => k_is)
    (case c17 => k_is)
    (case k17 => k_is)
    (case a18 => k_is)
    (case i18 => k_is)
    (case l18 => k_is)
    (case c18 => k_is)
    (case k18 => k_is)
    (case a19 => k_is)
    (case i19 => k_is)
    (case l19 => k_is)
    (case c19 => k_is)
    (case k19 => k_is)
    (case a20 => k_is)
    (case i20 => k_is)
    (case l20 => k_is)
    (case c20 => k_is)
    (case k20 => k_is)
    (case a21 => k_is)
    (case i21 => k_is)
    (case l21 => k_is)
    (case c21 => k_is)
    (case k21 => k_is)
    (case a22 => k_is)
    (case i22 => k_is)
    (case l22 => k_is)
    (case c22 => k_is)
    (case k22 => k_is)
    (case a23 => k_is)
    (case i23 => k_is)
    (case l23 => k_is)
    (case c23 => k_is)
    (case k23 => k_is)
    (case a24 => k_is)
    (case i24 => k_is)
    (case l24 => k_is)
    (case c24 => k_is)
    (case k24 => k_is)
    (case a25 => k_is)
    (case i25 => k_is)
    (case l25 => k_is)
    (case c25 => k_is)
    (case k25 => k_is)
    (case a26 => k_is)
    (case i26 => k_is)
    (case l26 => k_is)
    (case c26 => k_is)
    (case k26 => k_is)
    (case a27 => k_is)
    (case i27 => k_is)
    (case l27 => k_is)
    (case c27 => k_is)
    (case k27 => k_is)
    (case a28 => k_is)
    (case i28 => k_is)
    (case l28 => k_is)
    (case c28 => k_is)
    (case k28 => k_is)
    (case a29 => k_is)
    (case i29 => k_is)
    (case l29 => k_is)
    (case c29 => k_is)
    (case k29 => k_is)
    (case a30 => k_is)
    (case i30 => k_is)
    (case l30 => k_is)
    (case c30 => k_is)
    (case k30 => k_is)
    (case a31 => k_is)
    (case i31 => k_is)
    (case l31 => k_is)
    (case c31 => k_is)
    (case k31 => k_is)
    (case a32 => k_is)
    (case i32 => k_is)
    (case l32 => k_is)
    (case c32 => k_is)
    (case k32 => k_is)
    (case a33 => k_is)
    (case i33 => k_is)
    (case l33 => k_is)
    (case c33 => k_is)
    (case k33 => k_is)
    (case a34 => k_is)
    (case i34 => k_is)
    (case l34 => k_is)
    (case c34 => k_is)
    (case k34 => k_is)
    (case a35 => k_is)
    (case i35 => k_is)
    (case l35 => k_is)
    (case c35 => k_is)
    (case k35 => k_is)
    (case a36 => k_is)
    (case l36 => k_is)
    (case c36 => k_is)
    (case k36 => k_is)
    (case a37 => k_is)
    (case l37 => k_is)
    (case c37 => k_is)
    (case k37 => k_is)
    (case a38 => k_is)
    (case l38 => k_is)
    (case c38 => k_is)
    (case k38 => k_is)
    (case a39 => k_is)
    (case l39 => k_is)
    (case c39 => k_is)
    (case k39 => k_is)
    (case a40 => k_is)
    (case l40 => k_is)
    (case c40 => k_is)
    (case k40 => k_is)
    (case a41 => k_is)
    (case l41 => k_is)
    (case c41 => k_is)
    (case k41 => k_is)
    (case a42 => k_is)
    (case l42 => k_is)
    (case c42 => k_is)
    (case k42 => k_is)
    (case a43 => k_is)
    (case l43 => k_is)
    (case c43 => k_is)
    (case k43 => k_is)
    (case a44 => k_is)
    (case l44 => k_is)
    (case c44 => k_is)
    (case k44 => k_is)
    (case a45 => k_is)
    (case l45 => k_is)
    (case c45 => k_is)
    (case k45 => k_is)
    (case a46 => k_is)
    (case l46 => k_is)
    (case c46 => k_is)
    (case k46 => k_is)
    (case a47 => k_is)
    (case l47 => k_is)
    (case c47 => k_is)
    (case k47 => k_is)
    (case a48 => k_is)
    (case l48 => k_is)
    (case c48 => k_is)
    (case k48 => k_is)
    (case pg_Holding => k_is)
    (case hd_Holding => k_is)
    (case po_Holding => k_is)
    (case sa_Holding => k_is)
    (case mk_Holding => k_is)
    (case kc_Holding => k_is)
    (case n_Holding_mode => k_is)
    (case n_Holding_words => k_is)
    (case n_Holding_want => k_is)
    (case n_Holding_asked => k_is)
    (case n_Holding_last => k_is)
    (case n_Holding_answer => k_is)
    (case pg_Home => k_is)
    (case hd_Home => k_is)
    (case po_Home => k_is)
    (case sa_Home => k_is)
    (case mk_Home => k_is)
    (case kc_Home => k_is)
    (case n_Home_node => k_is)
    (case n_Home_writer => k_is)
    (case n_Home_readers => k_is)
    (case n_Home_words => k_is)
    (case n_Home_number => k_is)
    (case n_Home_asker => k_is)
    (case n_Home_kind => k_is)
    (case n_Home_waits => k_is)
    (case n_Home_served => k_is)
    (case pg_Nodes => k_is)
    (case hd_Nodes => k_is)
    (case po_Nodes => k_is)
    (case sa_Nodes => k_is)
    (case mk_Nodes => k_is)
    (case kc_Nodes => k_is)
    (case n_Nodes_many => k_is)
    (case n_Nodes_pages => k_is)
    (case n_Nodes_way => k_is)
    (case n_Nodes_homes => k_is)
    (case n_Nodes_held => k_is)
    (case ex_NotRight => k_exc)
    (case ek_NotRight => k_is)
    (case eb_NotRight => k_is)
    (case et_NotRight => k_is)
    (case eh_NotRight => k_is)
    (case ex_NotThere => k_exc)
    (case ek_NotThere => k_is)
    (case eb_NotThere => k_is)
    (case et_NotThere => k_is)
    (case eh_NotThere => k_is)
    (case free_isinstance => k_is)
    (case free_int => k_is)
    (case free_bool => k_is)
    (case free_tuple => k_is)
    (case free_list => k_is)
    (case free_dict => k_is)
    (case free_str => k_is)
    (case free_len => k_is)
    (case free_abs => k_is)
    (case free_range => k_is)
    (case free_sorted => k_is)
    (case free_enumerate => k_is)
    (case free_reversed => k_is)
