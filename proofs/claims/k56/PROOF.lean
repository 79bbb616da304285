import PyProof.Rows.All
import Wide.All
import OpenK.AllK
import Wide.FinOn
import HandS.ForMost
import HandS.SortInts
import HandS.Deep
import HandS.DictComp
import HandS.DeepEq
import HandS.IsInst
import HandS.ExcIs
import HandS.ExcInit
import HandS.FStr
import HandS.Wide
import HandS.NestedK
import HandS.ExcSuper
import HandS.ExcField
import HandS.ForExc
import KE.KIsAll
import KE.KExcIs
import KE.KExcSuper
import PySem.Challenge.RW_planassize_k56_values_and_ways_of_pictur
/-! KitA -/
set_option Elab.async false
set_option linter.all false
set_option maxRecDepth 100000
namespace My
open PySem PySem.Spec PyProof.Rows L2

/-! ### a def of the text that may be called -/
structure Cal (P : Program) (w : World) (K : PySem.W.Frag) (mg : Str → Option Value) (base : Heap) (CX : CXT) (lvl : Nat) (x : Str) (ps : List Str) (sp : Sp) : Prop where
  ex : ∃ f fd, FnOk P w K mg base CX lvl f fd ps sp ∧ mg x = some (.ref f) ∧ PySem.W.keepIn K (.ref f) = true ∧ Binds K fd ps []
theorem pe_cal {X : Cx} {lvl : Nat} {x : Str} {ps : List Str} {sp : Sp} {p pos : Pos} {e : Expr} {es : List Expr} {t : TA} (C : Cal X.prog X.w X.K X.mg X.base CX0 lvl x ps sp) (hr : Room lvl X.A) (hg : Gl X x) (ha : PA X (e :: es) t)
    (hdb : (x == ("__debug__" : Str)) = false := by decide) (he : starEach (e :: es) X.env = (false, eval e X.env) :: starEach es X.env := by rfl) (hpl : (backTo pos (starEach es X.env)).any (·.1) = false := by rfl) :
    PE X (.Call (.Name x p) (e :: es) [] pos) (tCall sp [] E0 t) := by
  obtain ⟨f, fd, F, hm, hk, hb⟩ := C.ex
  exact pe_call F hr hg hm hk hb .nil pass0 ha hdb he hpl
theorem pe_cal0 {X : Cx} {lvl : Nat} {x : Str} {ps : List Str} {sp : Sp} {p pos : Pos} (C : Cal X.prog X.w X.K X.mg X.base CX0 lvl x ps sp) (hr : Room lvl X.A) (hg : Gl X x)
    (hdb : (x == ("__debug__" : Str)) = false := by decide) : PE X (.Call (.Name x p) [] [] pos) (tCall sp [] E0 tNil) := by
  obtain ⟨f, fd, F, hm, hk, hb⟩ := C.ex
  exact pe_call0 F hr hg hm hk hb .nil pass0 hdb
/-- where a def of the text stands -/
structure DefAt (K : PySem.W.Frag) (mg : Str → Option Value) (x : Str) (st : Stmt) (ps : List Str) : Prop where
  ex : ∃ f fd, Fun K x x st f fd ∧ mg x = some (.ref f) ∧ Binds K fd ps []
/-- THE RULE for a def of the text -/
theorem DefAt.ok {P : Program} {w : World} {K : PySem.W.Frag} {mg : Str → Option Value} {base : Heap} {x : Str} {st : Stmt} {N ps : List Str} {k : Nat} {sp : Sp} (D : DefAt K mg x st ps) (S : FnScope N ps (defScope st)) (len : ∀ vs H Q E, sp vs H Q E → vs.length = ps.length)
    (hbody : ∀ (f : Addr) (cdv : Value) (A : Around) (outer : List Env) (s : Shared) (H : Hp) (vs : List V) (Q : VK) (E : XK), Room k (A.deeper (envOfC x (defScope st) s.heap.objs.size f cdv)) → sp vs H Q E →
      ∃ t, PSs (cxOf CX0 P w K mg base N x (defScope st) f cdv A outer s H E).nox (defBody st) t ∧ t { nx := fun _ H' => Q .non H', rt := Q } (start N vs) H) : Cal P w K mg base CX0 (k + 1) x ps sp := by
  obtain ⟨f, fd, F, hm, hb⟩ := D.ex
  exact ⟨f, fd, F.ok S len (hbody f), hm, F.kp, hb⟩
/-- a method of a class of the text that may be called -/
structure CalM (P : Program) (w : World) (K : PySem.W.Frag) (mg : Str → Option Value) (base : Heap) (CX : CXT) (lvl : Nat) (C : Addr) (m : Str) (ps : List Str) (sp : Sp) : Prop where
  ex : ∃ f fd, FnOk P w K mg base CX lvl f fd ps sp ∧ Meth K C m f ∧ Binds K fd ps []
theorem pe_met {X : Cx} {lvl : Nat} {m : Str} {C : Addr} {ps : List Str} {sp : Sp} {apos pos : Pos} {o e : Expr} {es : List Expr} {ta : TE} {t : TA} {pl : Sem Bool} (c : Cls X.K C) (M : CalM X.prog X.w X.K X.mg X.base CX0 lvl C m ps sp) (hr : Room lvl X.A) (he : PE X o ta) (ha : PA X (e :: es) t)
    (hst : starEach (e :: es) X.env = (false, eval e X.env) :: starEach es X.env := by rfl) (hpl : (backTo pos (starEach es X.env)).any (·.1) = false := by rfl)
    (ht : eval (.Call (.Attribute o m apos) (e :: es) [] pos) X.env = (do
      let ov ← eval o X.env
      standAt apos.atName
      let (f, first) ← holding [ov] (getMethod ov m pl)
      callWith pos f first (backTo pos (starEach (e :: es) X.env)) (backToKw pos (keywordEach [] X.env))) := by rfl) : PE X (.Call (.Attribute o m apos) (e :: es) [] pos) (tMeth C m sp [] E0 ta t) := by
  obtain ⟨f, fd, F, hm, hb⟩ := M.ex
  exact pe_meth he c hm F hr hb .nil pass0 ha hst hpl ht
theorem pe_met0 {X : Cx} {lvl : Nat} {m : Str} {C : Addr} {ps : List Str} {sp : Sp} {apos pos : Pos} {o : Expr} {ta : TE} {pl : Sem Bool} (c : Cls X.K C) (M : CalM X.prog X.w X.K X.mg X.base CX0 lvl C m ps sp) (hr : Room lvl X.A) (he : PE X o ta)
    (ht : eval (.Call (.Attribute o m apos) [] [] pos) X.env = (do
      let ov ← eval o X.env
      standAt apos.atName
      let (f, first) ← holding [ov] (getMethod ov m pl)
      callWith pos f first (backTo pos (starEach [] X.env)) (backToKw pos (keywordEach [] X.env))) := by rfl) : PE X (.Call (.Attribute o m apos) [] [] pos) (tMeth C m sp [] E0 ta tNil) := by
  obtain ⟨f, fd, F, hm, hb⟩ := M.ex
  exact pe_meth0 he c hm F hr hb .nil pass0 ht
/-- where a method stands -/
structure MethAt (K : PySem.W.Frag) (C : Addr) (m qual : Str) (st : Stmt) (ps : List Str) : Prop where
  ex : ∃ f fd, Fun K m qual st f fd ∧ Meth K C m f ∧ Binds K fd ps []
theorem MethAt.ok {P : Program} {w : World} {K : PySem.W.Frag} {mg : Str → Option Value} {base : Heap} {C : Addr} {x qual : Str} {st : Stmt} {N ps : List Str} {k : Nat} {sp : Sp} (D : MethAt K C x qual st ps) (S : FnScope N ps (defScope st)) (len : ∀ vs H Q E, sp vs H Q E → vs.length = ps.length)
    (hbody : ∀ (f : Addr) (cdv : Value) (A : Around) (outer : List Env) (s : Shared) (H : Hp) (vs : List V) (Q : VK) (E : XK), Room k (A.deeper (envOfC qual (defScope st) s.heap.objs.size f cdv)) → sp vs H Q E →
      ∃ t, PSs (cxOf CX0 P w K mg base N qual (defScope st) f cdv A outer s H E).nox (defBody st) t ∧ t { nx := fun _ H' => Q .non H', rt := Q } (start N vs) H) : CalM P w K mg base CX0 (k + 1) C x ps sp := by
  obtain ⟨f, fd, F, hm, hb⟩ := D.ex
  exact ⟨f, fd, F.ok S len (hbody f), hm, hb⟩
/-- a class that may be called, its __init__ -/
structure Mak (P : Program) (w : World) (K : PySem.W.Frag) (mg : Str → Option Value) (base : Heap) (CX : CXT) (lvl : Nat) (x : Str) (C : Addr) (ps : List Str) (sp : Sp) : Prop where
  ex : ∃ f fd, FnOk P w K mg base CX lvl f fd ps sp ∧ Mk K C f ∧ mg x = some (.ref C) ∧ Binds K fd ps []
theorem pe_mak {X : Cx} {lvl : Nat} {x : Str} {C : Addr} {ps : List Str} {sp : Sp} {p pos : Pos} {e : Expr} {es : List Expr} {t : TA} (M : Mak X.prog X.w X.K X.mg X.base CX0 lvl x C ps sp) (hr : Room (lvl + 1) X.A) (hg : Gl X x) (ha : PA X (e :: es) t)
    (hdb : (x == ("__debug__" : Str)) = false := by decide) (he : starEach (e :: es) X.env = (false, eval e X.env) :: starEach es X.env := by rfl) (hpl : (backTo pos (starEach es X.env)).any (·.1) = false := by rfl) :
    PE X (.Call (.Name x p) (e :: es) [] pos) (tMake C sp [] E0 t) := by
  obtain ⟨f, fd, F, mk, hm, hb⟩ := M.ex
  exact pe_make mk F hr hg hm hb .nil pass0 ha hdb he hpl
structure InitAt (K : PySem.W.Frag) (mg : Str → Option Value) (x : Str) (C : Addr) (qual : Str) (st : Stmt) (ps : List Str) : Prop where
  ex : ∃ f fd, Fun K "__init__" qual st f fd ∧ Mk K C f ∧ mg x = some (.ref C) ∧ Binds K fd ps []
theorem InitAt.ok {P : Program} {w : World} {K : PySem.W.Frag} {mg : Str → Option Value} {base : Heap} {C : Addr} {x qual : Str} {st : Stmt} {N ps : List Str} {k : Nat} {sp : Sp} (D : InitAt K mg x C qual st ps) (S : FnScope N ps (defScope st)) (len : ∀ vs H Q E, sp vs H Q E → vs.length = ps.length)
    (hbody : ∀ (f : Addr) (cdv : Value) (A : Around) (outer : List Env) (s : Shared) (H : Hp) (vs : List V) (Q : VK) (E : XK), Room k (A.deeper (envOfC qual (defScope st) s.heap.objs.size f cdv)) → sp vs H Q E →
      ∃ t, PSs (cxOf CX0 P w K mg base N qual (defScope st) f cdv A outer s H E).nox (defBody st) t ∧ t { nx := fun _ H' => Q .non H', rt := Q } (start N vs) H) : Mak P w K mg base CX0 (k + 1) x C ps sp := by
  obtain ⟨f, fd, F, mk, hm, hb⟩ := D.ex
  exact ⟨f, fd, F.ok S len (hbody f), mk, hm, hb⟩
/-! ### heaps -/
/-- all but the object at a is as it was -/
def Sam (a : Addr) (H H' : Hp) : Prop := ∀ b o, b ≠ a → H b = some o → H' b = some o
theorem Sam.refl (a : Addr) (H : Hp) : Sam a H H := fun _ _ _ h => h
theorem Sam.trans {a : Addr} {H H1 H2 : Hp} (h : Sam a H H1) (h' : Sam a H1 H2) : Sam a H H2 := fun b o n e => h' b o n (h b o n e)
theorem _root_.L2.Same.sam {a : Addr} {H H' : Hp} (h : Same H H') : Sam a H H' := fun b o _ e => h b o e
theorem Sam.up {a : Addr} {H : Hp} {o : HO} : Sam a H (upd H a o) := fun b u n e => by rw [upd_ne n]; exact e
theorem _root_.L2.Same.at {H H' : Hp} {a : Addr} {o : HO} (h : Same H H') (e : H a = some o) : H' a = some o := h a o e
theorem upd_at {H : Hp} {a b : Addr} {o u : HO} (e : H b = some u) (n : b ≠ a) : upd H a o b = some u := by rw [upd_ne n]; exact e
theorem _root_.L2.Same.new {a : Addr} {H : Hp} {o : HO} (h : H a = none) : Same H (upd H a o) := fun b u e => by rw [upd_ne (ne_of_none e h)]; exact e
/-- a later object may change -/
theorem _root_.L2.Same.mut {H H' : Hp} {p : Addr} {o : HO} (e : Same H H') (h : H p = none) : Same H (upd H' p o) := fun a u z => by rw [upd_ne (ne_of_none z h)]; exact e a u z
theorem Sam.seq {K : PySem.W.Frag} {a r : Addr} {H H' : Hp} {k : List (Key × V)} {xs : List V} (h : Sam a H H') (ha : H a = some (.dK k)) (e : SqL K H r xs) : SqL K H' r xs := by
  rcases e with (e | ⟨o, e⟩) | e
  · exact .inl (.inl (h r _ (fun q => by subst q; rw [ha] at e; cases e) e))
  · exact .inl (.inr ⟨o, h r _ (fun q => by subst q; rw [ha] at e; cases e) e⟩)
  · exact .inr e
theorem Sam.set {K : PySem.W.Frag} {a r : Addr} {H H' : Hp} {k : List (Key × V)} {xs : List V} (h : Sam a H H') (ha : H a = some (.dK k)) (e : SqT K H r xs) : SqT K H' r xs := by
  rcases e with (e | ⟨o, e⟩) | e
  · exact .inl (.inl (h r _ (fun q => by subst q; rw [ha] at e; cases e) e))
  · exact .inl (.inr ⟨o, h r _ (fun q => by subst q; rw [ha] at e; cases e) e⟩)
  · exact .inr e
theorem _root_.L2.Same.set {K : PySem.W.Frag} {r : Addr} {H H' : Hp} {xs : List V} (h : Same H H') (e : SqT K H r xs) : SqT K H' r xs := by
  rcases e with (e | ⟨o, e⟩) | e
  · exact .inl (.inl (h r _ e))
  · exact .inl (.inr ⟨o, h r _ e⟩)
  · exact .inr e
theorem smallL {n : Nat} (h : n ≤ 1000) : n ≤ sizeLine := Nat.le_of_lt (small1000 h)
theorem smallK {n : Nat} (h : n ≤ 100000) : n ≤ sizeLine := Nat.le_trans h (by decide)
theorem smallM {n : Nat} (h : n < 100000) : n < sizeLine := Nat.lt_of_lt_of_le h (by decide)
theorem cutV_to (xs : List V) (n : Nat) : cutV xs none (some (n : Int)) = xs.take n := by
  unfold cutV
  rw [HT.sIx_nat, HT.sIx_none, List.drop_zero, Nat.sub_zero]
  by_cases h : n ≤ xs.length
  · rw [Nat.min_eq_left h]
  · rw [Nat.min_eq_right (by omega), List.take_of_length_le (Nat.le_refl _), List.take_of_length_le (by omega)]
theorem _root_.L2.Room.units65 {k : Nat} {A : Around} (r : Room k A) : A.units + 65 < cLine := by have := r.un; omega
/-! ### dict(d) -/
theorem call_dictOf {X : Cx} : CallR X (.type "dict") (fun xs H Q => ∃ a kvs, xs = [V.ref a] ∧ Rd H a (.dK kvs) ∧ ∀ p, H p = none → Q (.ref p) (upd H p (.dK kvs))) := by
  intro pins s σ H xs us Q I r h
  obtain ⟨a, kvs, rfl, e, q⟩ := h
  obtain ⟨u, rfl, ru⟩ := vals1 r
  cases ru
  exact d_copyOf I e fun p s' hp I' => ⟨.ref p, _, I', rfl, q p hp⟩
/-! ### loops and comprehensions that are not opened by themselves -/
/-- what "rd" does not open -/
@[irreducible] def Box (p : Prop) : Prop := p
theorem Box.mk {p : Prop} (h : p) : Box p := by unfold Box; exact h
theorem Box.out {p : Prop} (h : Box p) : p := by unfold Box at h; exact h
@[irreducible] def LoopAt (J : It) (g : TG) (tb : TS) (D : Ends) (σ : L2.St) (H : Hp) : Prop := ∃ W : Nat → Nat → L2.St → Hp → Prop, (∃ m, W 0 m σ H) ∧ ∀ i m σ H, W i m σ H →
  (J.stop i H ∧ D.nx σ H) ∨ (J.go i H ∧ ∃ N : L2.St → Hp → Prop, (∀ σ' H', N σ' H' → ∃ m', m' < m ∧ W (i + 1) m' σ' H') ∧ ∀ x H', J.yld i H x H' → g x σ H' fun σ2 H2 => tb { D with nx := N, ct := N, bk := D.nx } σ2 H2)
def tForM (wi : TI) (g : TG) (tb : TS) : TS := fun D σ H => wi σ H fun J H1 => LoopAt J g tb D σ H1
theorem tForM_eq (wi : TI) (g : TG) (tb : TS) : tForM wi g tb = tFor wi g tb := by
  unfold tForM tFor LoopAt
  rfl
/-- a statement, then the rest, by a word of what stands between -/
@[irreducible] def MidAt (t u : TS) (D : Ends) (σ : L2.St) (H : Hp) : Prop := ∃ Mid : L2.St → Hp → Prop, t { D with nx := fun σ H => Box (Mid σ H) } σ H ∧ ∀ σ H, Mid σ H → u D σ H
def tSeqM (t u : TS) : TS := fun D σ H => MidAt t u D σ H
theorem pss_mid {X : Cx} {st : Stmt} {rest : List Stmt} {t u : TS} (h1 : PS X st t) (h2 : PSs X rest u) : PSs X (st :: rest) (tSeqM t u) := by
  refine ⟨fun pins s σ H D I h => ?_⟩
  have h : ∃ Mid : L2.St → Hp → Prop, t { D with nx := fun σ H => Box (Mid σ H) } σ H ∧ ∀ σ H, Mid σ H → u D σ H := by
    unfold tSeqM MidAt at h
    exact h
  obtain ⟨Mid, h, hm⟩ := h
  refine wpAny_execs_cons (thn (h1.run pins s σ H _ I h) fun f s1 q => ?_)
  cases f with
  | next =>
    obtain ⟨σ', H', I', q⟩ := q
    exact h2.run pins s1 σ' H' D I' (hm _ _ (Box.out q))
  | ret v => exact q
  | brk => exact q
  | cont => exact q
theorem mid_at {t u : TS} {D : Ends} {σ : L2.St} {H : Hp} (Mid : L2.St → Hp → Prop) (h : t { D with nx := fun σ H => Box (Mid σ H) } σ H) (hm : ∀ σ H, Mid σ H → u D σ H) : MidAt t u D σ H := by
  unfold MidAt
  exact ⟨Mid, h, hm⟩
section
variable {X : Cx} {pos : Pos}
theorem ps_forM {tg iter : Expr} {body : List Stmt} {wi : TI} {g : TG} {tb : TS} (hp : PassesOwn (model X.prog X.w) X.A X.env X.xe) (hc : X.calm = true) (hi : PI X tg iter wi) (hg : PG X tg g) (hb : PSs X body tb)
    (hs : ∀ x, foldedSetIterable iter X.env x = pure x := by intro _; rfl) : PS X (.For tg iter body [] pos) (tForM wi g tb) := by
  rw [tForM_eq]
  exact ps_for hp hc hi hg hb hs
end
section
variable {K : PySem.W.Frag} {a : Addr} {xs : List V} {ns : List Int} {g : TG} {tb : TS} {D : Ends} {σ : L2.St} {H : Hp}
theorem loop_list (Pv : Nat → L2.St → Hp → Prop) (h0 : Pv 0 σ H) (hl : ∀ i σ H, i ≤ xs.length → Pv i σ H → SqL K H a xs)
    (hs : ∀ i x σ H, xs[i]? = some x → Pv i σ H → g x σ H fun σ2 H2 => tb { D with nx := fun σ H => Box (Pv (i + 1) σ H), ct := fun σ H => Box (Pv (i + 1) σ H), bk := D.nx } σ2 H2) (hd : ∀ σ H, Pv xs.length σ H → D.nx σ H) : LoopAt (Itl K a) g tb D σ H := by
  unfold LoopAt
  exact for_list (fun i σ H => Box (Pv i σ H)) (Box.mk h0) (fun i σ H hi h => hl i σ H hi h.out) (fun i x σ H hi h => hs i x σ H hi h.out) (fun σ H h => hd σ H h.out)
theorem loop_tup (Pv : Nat → L2.St → Hp → Prop) (h0 : Pv 0 σ H) (hl : ∀ i σ H, i ≤ xs.length → Pv i σ H → SqT K H a xs)
    (hs : ∀ i x σ H, xs[i]? = some x → Pv i σ H → g x σ H fun σ2 H2 => tb { D with nx := fun σ H => Box (Pv (i + 1) σ H), ct := fun σ H => Box (Pv (i + 1) σ H), bk := D.nx } σ2 H2) (hd : ∀ σ H, Pv xs.length σ H → D.nx σ H) : LoopAt (Itt K a) g tb D σ H := by
  unfold LoopAt
  exact for_tup (fun i σ H => Box (Pv i σ H)) (Box.mk h0) (fun i σ H hi h => hl i σ H hi h.out) (fun i x σ H hi h => hs i x σ H hi h.out) (fun σ H h => hd σ H h.out)
theorem loop_ints (Pv : Nat → L2.St → Hp → Prop) (h0 : Pv 0 σ H) (hl : ∀ i σ H, i ≤ ns.length → Pv i σ H → SqL K H a (ns.map V.int))
    (hs : ∀ i n σ H, ns[i]? = some n → Pv i σ H → g (.int n) σ H fun σ2 H2 => tb { D with nx := fun σ H => Box (Pv (i + 1) σ H), ct := fun σ H => Box (Pv (i + 1) σ H), bk := D.nx } σ2 H2) (hd : ∀ σ H, Pv ns.length σ H → D.nx σ H) : LoopAt (Itl K a) g tb D σ H := by
  refine loop_list (xs := ns.map V.int) Pv h0 (fun i σ H hi => hl i σ H (by rw [List.length_map] at hi; exact hi)) (fun i x σ H e p => ?_) (fun σ H p => hd σ H (by rw [List.length_map] at p; exact p))
  rw [List.getElem?_map] at e
  cases q : ns[i]? with
  | none => rw [q] at e; cases e
  | some n =>
    rw [q] at e
    cases e
    exact hs i n σ H q p
theorem loop_tints (Pv : Nat → L2.St → Hp → Prop) (h0 : Pv 0 σ H) (hl : ∀ i σ H, i ≤ ns.length → Pv i σ H → SqT K H a (ns.map V.int))
    (hs : ∀ i n σ H, ns[i]? = some n → Pv i σ H → g (.int n) σ H fun σ2 H2 => tb { D with nx := fun σ H => Box (Pv (i + 1) σ H), ct := fun σ H => Box (Pv (i + 1) σ H), bk := D.nx } σ2 H2) (hd : ∀ σ H, Pv ns.length σ H → D.nx σ H) : LoopAt (Itt K a) g tb D σ H := by
  refine loop_tup (xs := ns.map V.int) Pv h0 (fun i σ H hi => hl i σ H (by rw [List.length_map] at hi; exact hi)) (fun i x σ H e p => ?_) (fun σ H p => hd σ H (by rw [List.length_map] at p; exact p))
  rw [List.getElem?_map] at e
  cases q : ns[i]? with
  | none => rw [q] at e; cases e
  | some n =>
    rw [q] at e
    cases e
    exact hs i n σ H q p
theorem loop_range {lo : Int} {n : Nat} (Pv : Nat → L2.St → Hp → Prop) (h0 : Pv 0 σ H)
    (hs : ∀ (i : Nat) σ H, i < n → Pv i σ H → g (.int (lo + i)) σ H fun σ2 H2 => tb { D with nx := fun σ H => Box (Pv (i + 1) σ H), ct := fun σ H => Box (Pv (i + 1) σ H), bk := D.nx } σ2 H2) (hd : ∀ σ H, Pv n σ H → D.nx σ H) : LoopAt (Itr lo n) g tb D σ H := by
  unfold LoopAt
  exact for_range (fun i σ H => Box (Pv i σ H)) (Box.mk h0) (fun i σ H hi h => hs i σ H hi h.out) (fun σ H h => hd σ H h.out)
end
@[irreducible] def WhileAt (c : TT) (tb : TS) (D : Ends) (σ : L2.St) (H : Hp) : Prop := tWhile c tb D σ H
def tWhileM (c : TT) (tb : TS) : TS := fun D σ H => WhileAt c tb D σ H
theorem ps_whileM {X : Cx} {pos : Pos} {c : Expr} {body : List Stmt} {tc : TT} {tb : TS} (hp : PassesOwn (model X.prog X.w) X.A X.env X.xe) (hc : PT X c tc) (hb : PSs X body tb) : PS X (.While c body [] pos) (tWhileM tc tb) := by
  have e : tWhileM tc tb = tWhile tc tb := by unfold tWhileM WhileAt; rfl
  rw [e]
  exact ps_while hp hc hb
theorem loop_while {c : TT} {tb : TS} {D : Ends} {σ : L2.St} {H : Hp} (W : Nat → L2.St → Hp → Prop) (m0 : Nat) (h0 : W m0 σ H)
    (hs : ∀ m σ H, W m σ H → c σ H fun b H1 => if b = true then tb { D with nx := fun σ' H' => Box (∃ m', m' < m ∧ W m' σ' H'), ct := fun σ' H' => Box (∃ m', m' < m ∧ W m' σ' H'), bk := D.nx } σ H1 else D.nx σ H1)
    (mono : ∀ σ H Q Q', (∀ b H1, Q b H1 → Q' b H1) → c σ H Q → c σ H Q') : WhileAt c tb D σ H := by
  unfold WhileAt
  refine ⟨W, ⟨m0, h0⟩, fun m σ H w => mono σ H _ _ (fun b H1 q => ?_) (hs m σ H w)⟩
  by_cases e : b = true
  · rw [if_pos e] at q
    rw [if_pos e]
    exact ⟨_, fun σ' H' n => n.out, q⟩
  · rw [if_neg e] at q
    rw [if_neg e]
    exact q
@[irreducible] def CompAt (J : It) (g : TG) (tt : TT) (te : TE) (vs : List Nat) (σ : L2.St) (H1 : Hp) (Q : VK) : Prop := ∀ D, H1 D = none → ∃ W : Nat → Nat → Hp → Prop, (∃ m, W 0 m (upd H1 D (.lst []))) ∧ ∀ i m H, W i m H →
  (J.stop i H ∧ Q (.ref D) H) ∨ (J.go i H ∧ ∃ Nx : Hp → Prop, (∀ H', Nx H' → ∃ m', m' < m ∧ W (i + 1) m' H') ∧ ∀ x H', J.yld i H x H' → g x (wipe σ vs) H' fun σ2 H2 => wipe σ2 vs = wipe σ vs ∧ tt σ2 H2 fun b H3 =>
    if b = true then te σ2 H3 fun y H4 => ∃ acc, H4 D = some (.lst acc) ∧ acc.length < sizeLine ∧ Nx (upd H4 D (.lst (acc ++ [y]))) else Nx H3)
def tLcM (wi : TI) (g : TG) (tt : TT) (te : TE) (vs : List Nat) : TE := fun σ H Q => wi σ H fun J H1 => CompAt J g tt te vs σ H1 Q
theorem tLcM_eq (wi : TI) (g : TG) (tt : TT) (te : TE) (vs : List Nat) : tLcM wi g tt te vs = tLc wi g tt te vs := by
  unfold tLcM tLc CompAt
  rfl
section
variable {X : Cx}
theorem pe_lcM {elt tg iter : Expr} {ifs : List Expr} {scope : Scope} {own : List (Str × Nat)} {pos : Pos} {wi : TI} {g : TG} {tt : TT} {te : TE} (hc : X.calm = true) (hN : X.N.Nodup) (hi : PI X tg iter wi) (ok : BlkOk X.N X.env.scope scope own)
    (hg : ∀ (s : Shared) (H : Hp) (C : Addr) (cl : List (Str × Addr)) (fp : List Addr), PG (X.blk s H scope (compEnvC scope cl C X.env) fp) tg g) (ht : ∀ (s : Shared) (H : Hp) (C : Addr) (cl : List (Str × Addr)) (fp : List Addr), PTs (X.blk s H scope (compEnvC scope cl C X.env) fp) ifs tt)
    (he : ∀ (s : Shared) (H : Hp) (C : Addr) (cl : List (Str × Addr)) (fp : List Addr), PE (X.blk s H scope (compEnvC scope cl C X.env) fp) elt te) (hs : ∀ x, foldedSetIterable iter X.env x = pure x := by intro _; rfl) :
    PE X (.ListComp elt [⟨tg, iter, ifs, 0⟩] scope pos) (tLcM wi g tt te (own.map (·.2))) := by
  rw [tLcM_eq]
  exact pe_lc hc hN hi ok hg ht he hs
theorem ps_setLcM {i : Nat} {y : Str} {py : Pos} {elt tg iter : Expr} {ifs : List Expr} {scope : Scope} {own : List (Str × Nat)} {pos spos : Pos} {wi : TI} {g : TG} {tt : TT} {te : TE} (hc : X.calm = true) (hN : X.N.Nodup) (hy : X.N[i]? = some y) (hyl : X.env.scope.names.lookup y = some .local)
    (hsw : swapsWith (.ListComp elt [⟨tg, iter, ifs, 0⟩] scope pos) (some (.Name y py)) spos.line X.env = pure true) (hi : PI X tg iter wi) (ok : BlkOk X.N X.env.scope scope own)
    (hg : ∀ (s : Shared) (H : Hp) (C : Addr) (cl : List (Str × Addr)) (fp : List Addr), PG (X.blk s H scope (compEnvC scope cl C X.env) fp) tg g) (ht : ∀ (s : Shared) (H : Hp) (C : Addr) (cl : List (Str × Addr)) (fp : List Addr), PTs (X.blk s H scope (compEnvC scope cl C X.env) fp) ifs tt)
    (he : ∀ (s : Shared) (H : Hp) (C : Addr) (cl : List (Str × Addr)) (fp : List Addr), PE (X.blk s H scope (compEnvC scope cl C X.env) fp) elt te) (hs : ∀ x, foldedSetIterable iter X.env x = pure x := by intro _; rfl) :
    PS X (.Assign [.Name y py] (.ListComp elt [⟨tg, iter, ifs, 0⟩] scope pos) spos) (tAsg (tLcM wi g tt te (own.map (·.2))) (gName i)) := by
  rw [tLcM_eq]
  exact ps_setLc hc hN hy hyl hsw hi ok hg ht he hs
end
section
variable {K : PySem.W.Frag} {a : Addr} {xs : List V} {ns : List Int} {g : TG} {tt : TT} {te : TE} {vs : List Nat} {σ : L2.St} {H1 : Hp} {Q : VK} {j : Nat}
theorem comp_list (Pv : Addr → Nat → Hp → Prop) (h0 : ∀ D, H1 D = none → Pv D 0 (upd H1 D (.lst []))) (hl : ∀ D i H, H1 D = none → i ≤ xs.length → Pv D i H → SqL K H a xs)
    (hs : ∀ D i x H, H1 D = none → xs[i]? = some x → Pv D i H → g x (wipe σ vs) H fun σ2 H2 => wipe σ2 vs = wipe σ vs ∧ tt σ2 H2 fun b H3 =>
      if b = true then te σ2 H3 fun y H4 => ∃ acc, H4 D = some (.lst acc) ∧ acc.length < sizeLine ∧ Box (Pv D (i + 1) (upd H4 D (.lst (acc ++ [y])))) else Box (Pv D (i + 1) H3)) (hd : ∀ D H, H1 D = none → Pv D xs.length H → Q (.ref D) H) :
    CompAt (Itl K a) g tt te vs σ H1 Q := by
  unfold CompAt
  intro D hD
  exact lc_list (fun i H => Box (Pv D i H)) (Box.mk (h0 D hD)) (fun i H hi h => hl D i H hD hi h.out) (fun i x H hi h => hs D i x H hD hi h.out) (fun H h => hd D H hD h.out)
theorem comp_tup (Pv : Addr → Nat → Hp → Prop) (h0 : ∀ D, H1 D = none → Pv D 0 (upd H1 D (.lst []))) (hl : ∀ D i H, H1 D = none → i ≤ xs.length → Pv D i H → SqT K H a xs)
    (hs : ∀ D i x H, H1 D = none → xs[i]? = some x → Pv D i H → g x (wipe σ vs) H fun σ2 H2 => wipe σ2 vs = wipe σ vs ∧ tt σ2 H2 fun b H3 =>
      if b = true then te σ2 H3 fun y H4 => ∃ acc, H4 D = some (.lst acc) ∧ acc.length < sizeLine ∧ Box (Pv D (i + 1) (upd H4 D (.lst (acc ++ [y])))) else Box (Pv D (i + 1) H3)) (hd : ∀ D H, H1 D = none → Pv D xs.length H → Q (.ref D) H) :
    CompAt (Itt K a) g tt te vs σ H1 Q := by
  unfold CompAt
  intro D hD
  exact lc_tup (fun i H => Box (Pv D i H)) (Box.mk (h0 D hD)) (fun i H hi h => hl D i H hD hi h.out) (fun i x H hi h => hs D i x H hD hi h.out) (fun H h => hd D H hD h.out)
theorem comp_range {lo : Int} {n : Nat} (Pv : Addr → Nat → Hp → Prop) (h0 : ∀ D, H1 D = none → Pv D 0 (upd H1 D (.lst [])))
    (hs : ∀ D (i : Nat) H, H1 D = none → i < n → Pv D i H → g (.int (lo + i)) (wipe σ vs) H fun σ2 H2 => wipe σ2 vs = wipe σ vs ∧ tt σ2 H2 fun b H3 =>
      if b = true then te σ2 H3 fun y H4 => ∃ acc, H4 D = some (.lst acc) ∧ acc.length < sizeLine ∧ Box (Pv D (i + 1) (upd H4 D (.lst (acc ++ [y])))) else Box (Pv D (i + 1) H3)) (hd : ∀ D H, H1 D = none → Pv D n H → Q (.ref D) H) :
    CompAt (Itr lo n) g tt te vs σ H1 Q := by
  unfold CompAt
  intro D hD
  exact lc_range (fun i H => Box (Pv D i H)) (Box.mk (h0 D hD)) (fun i H hi h => hs D i H hD hi h.out) (fun H h => hd D H hD h.out)
/-- over the keys of a locked dict -/
theorem comp_keys {d : Addr} {o : Obj} {kvs : List (Key × V)} (Pv : Addr → Nat → Hp → Prop) (h0 : ∀ D, H1 D = none → Pv D 0 (upd H1 D (.lst []))) (hl : ∀ D i H, H1 D = none → i ≤ kvs.length → Pv D i H → H d = some (.frz o (.dK kvs)))
    (hs : ∀ D i k v H, H1 D = none → kvs[i]? = some (k, v) → Pv D i H → g (kV k) (wipe σ vs) H fun σ2 H2 => wipe σ2 vs = wipe σ vs ∧ tt σ2 H2 fun b H3 =>
      if b = true then te σ2 H3 fun y H4 => ∃ acc, H4 D = some (.lst acc) ∧ acc.length < sizeLine ∧ Box (Pv D (i + 1) (upd H4 D (.lst (acc ++ [y])))) else Box (Pv D (i + 1) H3)) (hd : ∀ D H, H1 D = none → Pv D kvs.length H → Q (.ref D) H) :
    CompAt (Itk d o kvs) g tt te vs σ H1 Q := by
  unfold CompAt
  intro D hD
  refine ⟨fun i m H => m = kvs.length - i ∧ i ≤ kvs.length ∧ Box (Pv D i H), ⟨kvs.length, by simp, Nat.zero_le _, Box.mk (h0 D hD)⟩, ?_⟩
  rintro i m H ⟨rfl, hi, p⟩
  have hf := hl D i H hD hi p.out
  by_cases hlt : i < kvs.length
  · refine .inr ⟨⟨hf, hlt⟩, fun H' => Box (Pv D (i + 1) H'), fun H' p' => ⟨kvs.length - (i + 1), by omega, rfl, hlt, p'⟩, fun x H' y => ?_⟩
    obtain ⟨rfl, k, v, hk, rfl⟩ := y
    exact hs D i k v _ hD hk p.out
  · have e : i = kvs.length := by omega
    subst e
    exact .inl ⟨⟨hf, Nat.le_refl _⟩, hd D H hD p.out⟩
/-- the comprehension over ints that reads only, without new objects: [f n for n in ns if p n] -/
theorem comp_ints (p : Int → Bool) (f : Int → V) (hS : SqL K H1 a (ns.map V.int)) (hz : ns.length ≤ 1000) (hw : ∀ n, wipe ((wipe σ vs).set j (some (.int n))) vs = wipe σ vs)
    (ht : ∀ n ∈ ns, ∀ H, Same H1 H → ∀ R : Bool → Hp → Prop, R (p n) H → tt ((wipe σ vs).set j (some (.int n))) H R) (he : ∀ n ∈ ns, p n = true → ∀ H, Same H1 H → ∀ R : VK, R (f n) H → te ((wipe σ vs).set j (some (.int n))) H R)
    (hd : ∀ D H, H1 D = none → Same H1 H → H D = some (.lst ((ns.filter p).map f)) → Q (.ref D) H) : CompAt (Itl K a) (gName j) tt te vs σ H1 Q := by
  refine comp_list (xs := ns.map V.int) (fun D i H => Same H1 H ∧ H D = some (.lst (((ns.take i).filter p).map f))) (fun D hD => ⟨Same.new hD, upd_same⟩) (fun D i H hD _ h => h.1.seq hS) ?_ ?_
  · rintro D i x H hD hi ⟨s, e⟩
    rw [List.getElem?_map] at hi
    cases q : ns[i]? with
    | none => rw [q] at hi; cases hi
    | some n =>
      rw [q] at hi
      cases hi
      have hm : n ∈ ns := List.mem_of_getElem? q
      have et : ns.take (i + 1) = ns.take i ++ [n] := by rw [List.take_add_one, q]; rfl
      refine ⟨hw n, ht n hm H s _ ?_⟩
      by_cases c : p n = true
      · rw [if_pos c]
        refine he n hm c H s _ ⟨_, e, ?_, Box.mk ?_⟩
        · rw [List.length_map]
          refine small1000 (Nat.le_trans (List.length_filter_le _ _) ?_)
          rw [List.length_take]
          omega
        · refine ⟨fun b o z => ?_, ?_⟩
          · rw [upd_ne (ne_of_none z hD)]
            exact s b o z
          · rw [upd_same, et, List.filter_append, List.map_append, List.filter_cons, if_pos c]
            rfl
      · rw [if_neg c]
        refine Box.mk ⟨s, ?_⟩
        rw [et, List.filter_append, List.filter_cons, if_neg c, List.filter_nil, List.append_nil]
        exact e
  · rintro D H hD ⟨s, e⟩
    rw [List.length_map, List.take_of_length_le (Nat.le_refl _)] at e
    exact hd D H hD s e
/-- the same over a range -/
theorem comp_ran {lo : Int} {m : Nat} (p : Int → Bool) (f : Int → V) (hz : m ≤ 1000) (hw : ∀ n, wipe ((wipe σ vs).set j (some (.int n))) vs = wipe σ vs)
    (ht : ∀ i : Nat, i < m → ∀ H, Same H1 H → ∀ R : Bool → Hp → Prop, R (p (lo + i)) H → tt ((wipe σ vs).set j (some (.int (lo + i)))) H R) (he : ∀ i : Nat, i < m → p (lo + i) = true → ∀ H, Same H1 H → ∀ R : VK, R (f (lo + i)) H → te ((wipe σ vs).set j (some (.int (lo + i)))) H R)
    (hd : ∀ D H, H1 D = none → Same H1 H → H D = some (.lst ((((List.range m).map fun i : Nat => lo + (i : Int)).filter p).map f)) → Q (.ref D) H) : CompAt (Itr lo m) (gName j) tt te vs σ H1 Q := by
  refine comp_range (fun D i H => Same H1 H ∧ H D = some (.lst ((((List.range i).map fun i : Nat => lo + (i : Int)).filter p).map f))) (fun D hD => ⟨Same.new hD, upd_same⟩) ?_ ?_
  · rintro D i H hD hi ⟨s, e⟩
    have et : (List.range (i + 1)).map (fun i : Nat => lo + (i : Int)) = (List.range i).map (fun i : Nat => lo + (i : Int)) ++ [lo + (i : Int)] := by rw [List.range_succ, List.map_append]; rfl
    refine ⟨hw _, ht i hi H s _ ?_⟩
    by_cases c : p (lo + i) = true
    · rw [if_pos c]
      refine he i hi c H s _ ⟨_, e, ?_, Box.mk ?_⟩
      · rw [List.length_map]
        refine small1000 (Nat.le_trans (List.length_filter_le _ _) ?_)
        rw [List.length_map, List.length_range]
        omega
      · refine ⟨fun b o z => ?_, ?_⟩
        · rw [upd_ne (ne_of_none z hD)]
          exact s b o z
        · rw [upd_same, et, List.filter_append, List.map_append, List.filter_cons, if_pos c]
          rfl
    · rw [if_neg c]
      refine Box.mk ⟨s, ?_⟩
      rw [et, List.filter_append, List.filter_cons, if_neg c, List.filter_nil, List.append_nil]
      exact e
  · rintro D H hD ⟨s, e⟩
    exact hd D H hD s e
end
theorem yesT {σ : L2.St} {H : Hp} {A B : Hp → Prop} (h : A H) : tYes σ H (fun b H3 => if b = true then A H3 else B H3) := by
  show (if true = true then A H else B H)
  rw [if_pos rfl]
  exact h
/-! ### calls of built-ins, in one form -/
section
variable {X : Cx}
theorem call_intI : CallR X (.type "int") (fun xs H Q => ∃ i, xs = [.int i] ∧ Q (.int i) H) := by
  intro pins s σ H xs us Q I r h
  exact call_int1 pins s σ H xs us Q I r (.inl h)
end
/-! ### the rules, the written part named -/
section
variable {X : Cx} (K : PySem.W.Frag)
theorem ix_listK (h : X.K = K := by rfl) : IxR X (rIxL K) := by subst h; exact ix_list
theorem ix_tupK (h : X.K = K := by rfl) : IxR X (rIxT K) := by subst h; exact ix_tup
theorem ix_seqK (h : X.K = K := by rfl) : IxR X (rIx K) := by subst h; exact ix_seq
theorem sl_listK (h : X.K = K := by rfl) : SlR X (rSlL K) := by subst h; exact sl_list
theorem sl_tupK (h : X.K = K := by rfl) : SlR X (rSlT K) := by subst h; exact sl_tup
theorem op_in_seqK (h : X.K = K := by rfl) : OpR X (compareOp .In) (rIn K false) := by subst h; exact op_in_seq
theorem op_notIn_seqK (h : X.K = K := by rfl) : OpR X (compareOp .NotIn) (rIn K true) := by subst h; exact op_notIn_seq
theorem op_inDK (hu : X.A.units + 65 < cLine) (h : X.K = K := by rfl) : OpR X (compareOp .In) (rInD K) := by subst h; exact op_inD hu
theorem op_notInDK (hu : X.A.units + 65 < cLine) (h : X.K = K := by rfl) : OpR X (compareOp .NotIn) (rNotInD K) := by subst h; exact op_notInD hu
theorem op_eqDK (hu : X.A.units + 64 < cLine) (h : X.K = K := by rfl) : OpR X (compareOp .Eq) (rEqD K) := by subst h; exact op_eqD hu
theorem op_neDK (hu : X.A.units + 64 < cLine) (h : X.K = K := by rfl) : OpR X (compareOp .NotEq) (rNeD K) := by subst h; exact op_neD hu
theorem op_eqVK (hu : X.A.units + 64 < cLine) (h : X.K = K := by rfl) : OpR X (compareOp .Eq) (rEqV K) := by subst h; exact op_eqV hu
theorem op_catTK (h : X.K = K := by rfl) : OpR X (binaryOp .Add) (rCatT K) := by subst h; exact op_catT
def rLenQ (K : PySem.W.Frag) : List V → Hp → VK → Prop := fun xs H Q => ∃ p ys, xs = [.ref p] ∧ (SqL K H p ys ∨ SqT K H p ys) ∧ Q (.int ys.length) H
def rListQ (K : PySem.W.Frag) : List V → Hp → VK → Prop := fun xs H Q => ∃ p ys, xs = [.ref p] ∧ (SqL K H p ys ∨ SqT K H p ys) ∧ ∀ l, H l = none → Q (.ref l) (upd H l (.lst ys))
def rTupleQ (K : PySem.W.Frag) : List V → Hp → VK → Prop := fun xs H Q => ∃ p ys, xs = [.ref p] ∧ SqL K H p ys ∧ ∀ l, H l = none → Q (.ref l) (upd H l (.tup ys))
theorem call_lenK (h : X.K = K := by rfl) : CallR X (.builtin "len") (rLenQ K) := by subst h; exact call_len_seq
theorem call_listK (h : X.K = K := by rfl) : CallR X (.type "list") (rListQ K) := by subst h; exact call_list_of
theorem call_tupleK (h : X.K = K := by rfl) : CallR X (.type "tuple") (rTupleQ K) := by
  subst h
  intro pins s σ H xs us Q I r h
  obtain ⟨p, ys, e, h1, h2⟩ := h
  exact call_tuple_of pins s σ H xs us Q I r ⟨p, ys, e, .inl ⟨h1, h2⟩⟩
theorem cr_allK (hc : X.calm = true) (h : X.K = K := by rfl) : CallR X (.builtin "all") (rAll K) := by subst h; exact cr_all hc
theorem cr_anyK (hc : X.calm = true) (h : X.K = K := by rfl) : CallR X (.builtin "any") (rAny K) := by subst h; exact cr_any hc
theorem cr_sumK (hc : X.calm = true) (h : X.K = K := by rfl) : CallR X (.builtin "sum") (rSum K) := by subst h; exact cr_sum hc
theorem cr_sortedIK (h : X.K = K := by rfl) : CallR X (.builtin "sorted") (rSortedI K) := by subst h; exact cr_sortedI
theorem call_isiK' (h : X.K = K := by rfl) : CallR X (.builtin "isinstance") (rIsi K) := by subst h; exact call_isi
theorem pi_listK {tg l : Expr} {tl : TE} (hl : PE X l tl) (h : X.K = K := by rfl) : PI X tg l (iList K tl) := by subst h; exact pi_list hl
theorem pi_tupK {tg l : Expr} {tl : TE} (hl : PE X l tl) (h : X.K = K := by rfl) : PI X tg l (iTup K tl) := by subst h; exact pi_tup hl
theorem pe_fldK {e : Expr} {f : Str} {pos : Pos} {ta : TE} (he : PE X e ta) (hb : attributeBase e f X.env (eval e X.env) = eval e X.env := by rfl) (h : X.K = K := by rfl) : PE X (.Attribute e f pos) (tFld K ta f) := by subst h; exact pe_fld he hb
theorem ps_fldK {o value : Expr} {f : Str} {pos pos' : Pos} {ta tv : TE} (ha : PE X o ta) (hv : PE X value tv) (hs : swapsWith value (some (.Attribute o f pos')) pos.line X.env = pure false := by rfl) (h : X.K = K := by rfl) : PS X (.Assign [.Attribute o f pos'] value pos) (sFld K ta tv f) := by subst h; exact ps_fld ha hv hs
theorem pg_tupK {es : List Expr} {k : Nat} {t : TGs} {n : Nat} {pos : Pos} (hc : X.calm = true) (hp : PGs X es t) (hn : (assignEach es X.env).length = n := by rfl) (hst : (assignEach es X.env).findIdx? (·.1) = none := by rfl) (h : X.K = K := by rfl) : PG X (.Tuple es k pos) (gTup K n t) := by subst h; exact pg_tup hc hp hn hst
theorem pe_bmK {T id : String} {name : Str} {o e : Expr} {es : List Expr} {to : TE} {t : TA} {apos cpos : Pos} {r : V → List V → Hp → VK → Prop} (pa : PlainAttrs T) (slot : Slot T name id) (hty : typeOf (.builtin id) = pure (.type "method_descriptor")) (hm : MtR X id r) (ho : PE X o to) (ha : PA X (e :: es) t) (hbase : attributeBase o name X.env (eval o X.env) = eval o X.env := by rfl)
    (hfew : ((backTo cpos (starEach (e :: es) X.env)).all (fun x => !x.1) && (backToKw cpos (keywordEach [] X.env)).all (fun x => x.1.isSome) && decide ((e :: es).length + ([] : List Keyword).length + (if ([] : List Keyword).isEmpty then 0 else 1) < 30)) = true := by rfl) (hline : (apos.endLine == cpos.line) = true := by rfl)
    (hst : starEach (e :: es) X.env = (false, eval e X.env) :: starEach es X.env := by rfl) (hplain : (backTo cpos (starEach es X.env)).any (·.1) = false := by rfl) (h : X.K = K := by rfl) : PE X (.Call (.Attribute o name apos) (e :: es) [] cpos) (tBM K T r to t) := by subst h; exact pe_bm pa slot hty hm ho ha hbase hfew hline hst hplain
theorem pe_bm0K {T id : String} {name : Str} {o : Expr} {to : TE} {apos cpos : Pos} {r : V → List V → Hp → VK → Prop} (pa : PlainAttrs T) (slot : Slot T name id) (hty : typeOf (.builtin id) = pure (.type "method_descriptor")) (hm : MtR X id r) (ho : PE X o to) (hbase : attributeBase o name X.env (eval o X.env) = eval o X.env := by rfl) (hline : (apos.endLine == cpos.line) = true := by rfl) (h : X.K = K := by rfl) :
    PE X (.Call (.Attribute o name apos) [] [] cpos) (tBM0 K T r to) := by subst h; exact pe_bm0 pa slot hty hm ho hbase hline
def tTruth (K : PySem.W.Frag) (ta : TE) : TT := fun σ H Q => ta σ H fun x H' => ∃ k, TruV K x H' k ∧ Q k H'
theorem pt_truthK {a : Expr} {ta : TE} (ha : PE X a ta) (he : ∀ whole, isTrue a X.env whole = (do let v ← whole; standAt a.pos; holding [v] (truthy v)) := by intro _; rfl) (h : X.K = K := by rfl) : PT X a (tTruth K ta) := by subst h; exact pt_truth ha he
end
/-! ### the state of the law's draws -/
def dkv (c : Addr) (at_ rest turn seed : Int) : List (Key × V) := [(.inr "cells", .ref c), (.inr "at", .int at_), (.inr "rest", .int rest), (.inr "turn", .int turn), (.inr "seed", .int seed)]
section
variable {c : Addr} {at_ rest turn seed z : Int}
theorem dk_cells : valV (dkv c at_ rest turn seed) (.inr "cells" : Key) = some (.ref c) := rfl
theorem dk_at : valV (dkv c at_ rest turn seed) (.inr "at" : Key) = some (.int at_) := rfl
theorem dk_rest : valV (dkv c at_ rest turn seed) (.inr "rest" : Key) = some (.int rest) := rfl
theorem dk_turn : valV (dkv c at_ rest turn seed) (.inr "turn" : Key) = some (.int turn) := rfl
theorem dk_seed : valV (dkv c at_ rest turn seed) (.inr "seed" : Key) = some (.int seed) := rfl
theorem dp_at : putK (dkv c at_ rest turn seed) (.inr "at" : Key) (.int z) = dkv c z rest turn seed := rfl
theorem dp_rest : putK (dkv c at_ rest turn seed) (.inr "rest" : Key) (.int z) = dkv c at_ z turn seed := rfl
theorem dp_turn : putK (dkv c at_ rest turn seed) (.inr "turn" : Key) (.int z) = dkv c at_ rest z seed := rfl
theorem dp_seed : putK (dkv c at_ rest turn seed) (.inr "seed" : Key) (.int z) = dkv c at_ rest turn z := rfl
end
def Dst (S : Addr × List Int) (H : Hp) (a : Addr) : Prop := H S.1 = some (.lst (S.2.map V.int)) ∧ S.2.length ≤ 100 ∧ ∃ (at_ rest turn seed : Int), H a = some (.dK (dkv S.1 at_ rest turn seed)) ∧ 0 ≤ at_
section
variable {S : Addr × List Int} {H H' H0 : Hp} {a p : Addr} {o : HO}
theorem Dst.dk (h : Dst S H a) : ∃ k, H a = some (.dK k) := let ⟨_, _, _, _, _, _, e, _⟩ := h; ⟨_, e⟩
theorem Dst.same (h : Dst S H a) (s : Same H H') : Dst S H' a := by
  obtain ⟨e1, hl, at_, rest, turn, seed, e2, h0⟩ := h
  exact ⟨s _ _ e1, hl, at_, rest, turn, seed, s _ _ e2, h0⟩
theorem Dst.ne (h : Dst S H a) (hp : H p = none) : p ≠ a := by
  obtain ⟨e1, hl, at_, rest, turn, seed, e2, h0⟩ := h
  intro e
  rw [e, e2] at hp
  cases hp
/-- an object that is newer than the state may change -/
theorem Dst.mut (h : Dst S H' a) (h0 : Dst S H0 a) (hp : H0 p = none) : Dst S (upd H' p o) a := by
  have n1 := h0.ne hp
  have n2 : p ≠ S.1 := fun e => by rw [e, h0.1] at hp; cases hp
  obtain ⟨e1, hl, at_, rest, turn, seed, e2, h0⟩ := h
  exact ⟨by rw [upd_ne n2.symm]; exact e1, hl, at_, rest, turn, seed, by rw [upd_ne n1.symm]; exact e2, h0⟩
theorem Dst.new (h : Dst S H a) (hp : H p = none) : Dst S (upd H p o) a := h.same (Same.new hp)
end
theorem Sam.mut {a p : Addr} {H H' : Hp} {o : HO} (e : Sam a H H') (h : H p = none) : Sam a H (upd H' p o) := fun b u n z => by rw [upd_ne (ne_of_none z h)]; exact e b u n z
theorem Sam.free {a p : Addr} {H H' : Hp} (e : Sam a H H') (h : H' p = none) (n : p ≠ a) : H p = none := by
  cases q : H p with
  | none => rfl
  | some o => rw [e p o n q] at h; cases h
theorem Sam.thenSame {a : Addr} {H H1 H2 : Hp} (h : Sam a H H1) (s : Same H1 H2) : Sam a H H2 := h.trans s.sam
/-! ### a Body -/
def bodyF (v1 v2 v3 v4 : V) : List (Str × V) := [("rows", v1), ("nots", v2), ("spans", v3), ("wide", v4)]
theorem bf_rows {v1 v2 v3 v4 : V} : (bodyF v1 v2 v3 v4).lookup ("rows" : Str) = some v1 := rfl
theorem bf_nots {v1 v2 v3 v4 : V} : (bodyF v1 v2 v3 v4).lookup ("nots" : Str) = some v2 := rfl
theorem bf_spans {v1 v2 v3 v4 : V} : (bodyF v1 v2 v3 v4).lookup ("spans" : Str) = some v3 := rfl
theorem bf_wide {v1 v2 v3 v4 : V} : (bodyF v1 v2 v3 v4).lookup ("wide" : Str) = some v4 := rfl
theorem bf_put {v1 v2 v3 v4 : V} : putF "wide" v4 (putF "spans" v3 (putF "nots" v2 (putF "rows" v1 []))) = bodyF v1 v2 v3 v4 := rfl
theorem bf_no {v1 v2 v3 v4 : V} : (bodyF v1 v2 v3 v4).lookup ("variables" : Str) = none ∧ (bodyF v1 v2 v3 v4).lookup ("span" : Str) = none ∧ (bodyF v1 v2 v3 v4).lookup ("tree" : Str) = none := ⟨rfl, rfl, rfl⟩
def IsBody (C : Addr) (H : Hp) (p : Addr) (v1 v2 v3 v4 : V) : Prop := ∃ dx, H p = some (.ins C dx (bodyF v1 v2 v3 v4))
theorem IsBody.same {C : Addr} {H H' : Hp} {p : Addr} {v1 v2 v3 v4 : V} (h : IsBody C H p v1 v2 v3 v4) (s : Same H H') : IsBody C H' p v1 v2 v3 v4 := let ⟨dx, e⟩ := h; ⟨dx, s _ _ e⟩
structure BodyC (K : PySem.W.Frag) (C : Addr) : Prop where
  cl : Cls K C
  rows : NoAttr K C "rows"
  nots : NoAttr K C "nots"
  spans : NoAttr K C "spans"
  wide : NoAttr K C "wide"
end My
/-! KitB -/
set_option Elab.async false
set_option linter.all false
set_option maxRecDepth 100000
namespace My
open PySem PySem.Spec PyProof.Rows L2
/-! ### data -/
mutual
theorem dp_map {K : PySem.W.Frag} {H H' : Hp} (h1 : ∀ b xs, SqL K H b xs → SqL K H' b xs) (h2 : ∀ b xs, SqT K H b xs → SqT K H' b xs) : ∀ {d : PyData} {v : V}, Dp K H v d → Dp K H' v d
  | .none, _, .non => .non
  | .bool _, _, .bl b => .bl b
  | .int _, _, .int i => .int i
  | .str _, _, .str x => .str x
  | .list ds, _, .lst s a => .lst (h1 _ _ s) (dpAll_map h1 h2 a)
  | .tuple ds, _, .tup s a => .tup (h2 _ _ s) (dpAll_map h1 h2 a)
theorem dpAll_map {K : PySem.W.Frag} {H H' : Hp} (h1 : ∀ b xs, SqL K H b xs → SqL K H' b xs) (h2 : ∀ b xs, SqT K H b xs → SqT K H' b xs) : ∀ {ds : List PyData} {vs : List V}, DpAll K H vs ds → DpAll K H' vs ds
  | [], _, .nil => .nil
  | _ :: _, _, .cons a r => .cons (dp_map h1 h2 a) (dpAll_map h1 h2 r)
end
section
variable {K : PySem.W.Frag} {H H' : Hp} {v : V} {d : PyData} {vs ws : List V} {ds es : List PyData}
theorem _root_.L2.Dp.same (h : Dp K H v d) (s : Same H H') : Dp K H' v d := dp_map (fun _ _ => s.seq) (fun _ _ => s.set) h
theorem _root_.L2.DpAll.same (h : DpAll K H vs ds) (s : Same H H') : DpAll K H' vs ds := dpAll_map (fun _ _ => s.seq) (fun _ _ => s.set) h
theorem _root_.L2.Dp.sam {a : Addr} {k : List (Key × V)} (h : Dp K H v d) (s : Sam a H H') (ha : H a = some (.dK k)) : Dp K H' v d := dp_map (fun _ _ => s.seq ha) (fun _ _ => s.set ha) h
theorem _root_.L2.DpAll.sam {a : Addr} {k : List (Key × V)} (h : DpAll K H vs ds) (s : Sam a H H') (ha : H a = some (.dK k)) : DpAll K H' vs ds := dpAll_map (fun _ _ => s.seq ha) (fun _ _ => s.set ha) h
theorem _root_.L2.DpAll.len : ∀ {vs : List V} {ds : List PyData}, DpAll K H vs ds → vs.length = ds.length
  | _, _, .nil => rfl
  | _, _, .cons _ r => by rw [List.length_cons, List.length_cons, L2.DpAll.len r]
theorem _root_.L2.DpAll.get : ∀ {vs : List V} {ds : List PyData} {i : Nat} {v : V}, DpAll K H vs ds → vs[i]? = some v → ∃ d, ds[i]? = some d ∧ Dp K H v d
  | _, _, _, _, .nil, e => by cases e
  | _, _, 0, _, .cons h r, e => by cases e; exact ⟨_, rfl, h⟩
  | _, _, i + 1, v, .cons h r, e => L2.DpAll.get (i := i) r e
theorem _root_.L2.DpAll.app : ∀ {vs ws : List V} {ds es : List PyData}, DpAll K H vs ds → DpAll K H ws es → DpAll K H (vs ++ ws) (ds ++ es)
  | _, _, _, _, .nil, r => r
  | _, _, _, _, .cons h t, r => .cons h (L2.DpAll.app t r)
theorem dpAll_ints : ∀ ns : List Int, DpAll K H (ns.map V.int) (ns.map PyData.int)
  | [] => .nil
  | n :: r => .cons (.int n) (dpAll_ints r)
theorem dpAll_ints_inv : ∀ {ns : List Int} {vs : List V}, DpAll K H vs (ns.map PyData.int) → vs = ns.map V.int
  | [], _, .nil => rfl
  | n :: r, _, .cons (.int _) t => by rw [dpAll_ints_inv t]; rfl
theorem dp_tup_inv {ds : List PyData} {v : V} : Dp K H v (.tuple ds) → ∃ a xs, v = .ref a ∧ SqT K H a xs ∧ DpAll K H xs ds
  | .tup s r => ⟨_, _, rfl, s, r⟩
theorem dp_int_inv {i : Int} {v : V} : Dp K H v (.int i) → v = .int i
  | .int _ => rfl
theorem dp_str_inv {x : Str} {v : V} : Dp K H v (.str x) → v = .str x
  | .str _ => rfl
theorem dpAll_cons_inv {d : PyData} {ds : List PyData} {vs : List V} : DpAll K H vs (d :: ds) → ∃ v r, vs = v :: r ∧ Dp K H v d ∧ DpAll K H r ds
  | .cons h r => ⟨_, _, rfl, h, r⟩
theorem dpAll_nil_inv {vs : List V} : DpAll K H vs [] → vs = []
  | .nil => rfl
end
/-- of bounded depth, its texts short -/
def Shp (n : Nat) (d : PyData) : Prop := d.canLay0 = true ∧ d.depth ≤ n
theorem Shp.shaped {n : Nat} {d : PyData} (h : Shp n d) (hn : n ≤ 64) : SeqAt.shaped d = true := by
  unfold SeqAt.shaped
  rw [h.1, decide_eq_true (Nat.le_trans h.2 hn)]
  rfl
theorem shpAll_lay {n : Nat} : ∀ {ds : List PyData}, (∀ d ∈ ds, Shp n d) → PyData.canLayAll0 ds = true ∧ PyData.depthAll ds ≤ n
  | [], _ => ⟨by unfold PyData.canLayAll0; rfl, by unfold PyData.depthAll; exact Nat.zero_le _⟩
  | d :: r, h => by
    obtain ⟨h1, h2⟩ := shpAll_lay (ds := r) fun e he => h e (List.mem_cons_of_mem _ he)
    obtain ⟨h3, h4⟩ := h d (List.mem_cons_self ..)
    refine ⟨?_, ?_⟩
    · unfold PyData.canLayAll0
      rw [h1, h3]
      rfl
    · unfold PyData.depthAll
      exact Nat.max_le.mpr ⟨h4, h2⟩
theorem shp_list {n : Nat} {ds : List PyData} (h : ∀ d ∈ ds, Shp n d) : Shp (n + 1) (.list ds) := by
  obtain ⟨h1, h2⟩ := shpAll_lay h
  refine ⟨?_, ?_⟩
  · unfold PyData.canLay0
    exact h1
  · unfold PyData.depth
    omega
theorem shp_tuple {n : Nat} {ds : List PyData} (h : ∀ d ∈ ds, Shp n d) : Shp (n + 1) (.tuple ds) := by
  obtain ⟨h1, h2⟩ := shpAll_lay h
  refine ⟨?_, ?_⟩
  · unfold PyData.canLay0
    exact h1
  · unfold PyData.depth
    omega
theorem shp_int {n : Nat} (i : Int) : Shp n (.int i) := ⟨by unfold PyData.canLay0; rfl, by unfold PyData.depth; exact Nat.zero_le _⟩
theorem shp_str {n : Nat} {x : Str} (h : (PyData.str x).canLay0 = true) : Shp n (.str x) := ⟨h, by unfold PyData.depth; exact Nat.zero_le _⟩
theorem Shp.mono {n m : Nat} {d : PyData} (h : Shp n d) (hn : n ≤ m) : Shp m d := ⟨h.1, Nat.le_trans h.2 hn⟩
theorem eqv_int (i j : Int) : PyData.eqv (.int i) (.int j) = (i == j) := by unfold PyData.eqv; rfl
theorem eqv_str (x y : Str) : PyData.eqv (.str x) (.str y) = (x == y) := by unfold PyData.eqv; rfl
theorem eqvAll_ints : ∀ ns ms : List Int, PyData.eqvAll (ns.map PyData.int) (ms.map PyData.int) = decide (ns = ms)
  | [], [] => by unfold PyData.eqvAll; rfl
  | [], _ :: _ => by unfold PyData.eqvAll; rfl
  | _ :: _, [] => by unfold PyData.eqvAll; rfl
  | n :: ns, m :: ms => by
    show PyData.eqvAll (.int n :: ns.map PyData.int) (.int m :: ms.map PyData.int) = _
    unfold PyData.eqvAll
    rw [eqv_int, eqvAll_ints ns ms]
    by_cases h1 : n = m
    · by_cases h2 : ns = ms
      · simp [h1, h2]
      · simp [h1, h2]
    · simp [h1]
theorem eqv_ints (ns ms : List Int) : PyData.eqv (.list (ns.map PyData.int)) (.list (ms.map PyData.int)) = decide (ns = ms) := by
  unfold PyData.eqv
  exact eqvAll_ints ns ms
theorem shp_ints (ns : List Int) : Shp 1 (.list (ns.map PyData.int)) := shp_list fun d h => by
  obtain ⟨i, _, rfl⟩ := List.mem_map.mp h
  exact shp_int i
/-- the things of a row, each once -/
def unl (ds : List PyData) : List PyData := ds.foldl (fun acc d => if (acc.any fun z => PyData.eqv z d) = true then acc else acc ++ [d]) []
theorem unl_snoc (ds : List PyData) (d : PyData) : unl (ds ++ [d]) = if ((unl ds).any fun z => PyData.eqv z d) = true then unl ds else unl ds ++ [d] := by
  unfold unl
  rw [List.foldl_append]
  rfl
def unlI (ns : List Int) : List Int := ns.foldl (fun acc n => if n ∈ acc then acc else acc ++ [n]) []
theorem unlI_snoc (ns : List Int) (n : Int) : unlI (ns ++ [n]) = if n ∈ unlI ns then unlI ns else unlI ns ++ [n] := by
  unfold unlI
  rw [List.foldl_append]
  rfl
theorem rev_ind {α : Type} {P : List α → Prop} (h0 : P []) (h1 : ∀ l a, P l → P (l ++ [a])) (l : List α) : P l := by
  have h : ∀ r : List α, P r.reverse := fun r => by
    induction r with
    | nil => exact h0
    | cons a r ih => rw [List.reverse_cons]; exact h1 _ _ ih
  have := h l.reverse
  rwa [List.reverse_reverse] at this
theorem any_eqv_int (ns : List Int) (n : Int) : ((ns.map PyData.int).any fun z => PyData.eqv z (.int n)) = decide (n ∈ ns) := by
  induction ns with
  | nil => rfl
  | cons m r ih =>
    rw [List.map_cons, List.any_cons, ih, eqv_int]
    by_cases h : m = n
    · subst h
      simp
    · have h' : ¬ n = m := fun e => h e.symm
      simp [h, h']
theorem unl_ints (ns : List Int) : unl (ns.map PyData.int) = (unlI ns).map PyData.int := by
  refine rev_ind (P := fun ns => unl (ns.map PyData.int) = (unlI ns).map PyData.int) rfl (fun l a ih => ?_) ns
  rw [List.map_append, List.map_singleton, unl_snoc, ih, any_eqv_int, unlI_snoc]
  by_cases h : a ∈ unlI l
  · rw [if_pos (decide_eq_true h), if_pos h]
  · rw [if_neg (by simp [h]), if_neg h, List.map_append]
    rfl
theorem unlI_nodup (ns : List Int) : (unlI ns).Nodup := by
  refine rev_ind (P := fun ns => (unlI ns).Nodup) List.nodup_nil (fun l a ih => ?_) ns
  rw [unlI_snoc]
  by_cases h : a ∈ unlI l
  · rw [if_pos h]; exact ih
  · rw [if_neg h]
    exact nd_snoc ih h
theorem unlI_mem (ns : List Int) : ∀ n, n ∈ unlI ns ↔ n ∈ ns := by
  refine rev_ind (P := fun ns => ∀ n, n ∈ unlI ns ↔ n ∈ ns) (fun n => Iff.rfl) (fun l a ih n => ?_) ns
  rw [unlI_snoc]
  by_cases h : a ∈ unlI l
  · rw [if_pos h, ih, List.mem_append, List.mem_singleton]
    refine ⟨.inl, fun q => q.elim id fun e => ?_⟩
    subst e
    exact (ih n).mp h
  · rw [if_neg h, List.mem_append, List.mem_append, ih]
theorem unl_len (ds : List PyData) : (unl ds).length ≤ ds.length := by
  refine rev_ind (P := fun ds => (unl ds).length ≤ ds.length) (Nat.le_refl _) (fun l a ih => ?_) ds
  rw [unl_snoc, List.length_append]
  split
  · exact Nat.le_trans ih (Nat.le_add_right _ _)
  · rw [List.length_append]
    exact Nat.add_le_add_right ih _
theorem unl_mem (ds : List PyData) : ∀ d ∈ unl ds, d ∈ ds := by
  refine rev_ind (P := fun ds => ∀ d ∈ unl ds, d ∈ ds) (fun _ h => h) (fun l a ih d h => ?_) ds
  rw [unl_snoc] at h
  rw [List.mem_append]
  split at h
  · exact .inl (ih d h)
  · rcases List.mem_append.mp h with h | h
    · exact .inl (ih d h)
    · exact .inr h
theorem eraseIdx_perm {α : Type} : ∀ (l : List α) (n : Nat) (h : n < l.length), ([l[n]] ++ l.eraseIdx n).Perm l
  | [], n, h => absurd h (Nat.not_lt_zero n)
  | a :: r, 0, _ => List.Perm.refl _
  | a :: r, n + 1, h => by
    have ih := eraseIdx_perm r n (Nat.lt_of_succ_lt_succ h)
    show (r[n]'(Nat.lt_of_succ_lt_succ h) :: a :: r.eraseIdx n).Perm (a :: r)
    exact (List.Perm.swap _ _ _).trans (List.Perm.cons a ih)
theorem inV_ints (n : Int) (zs : List Int) : inV (.int n) (zs.map V.int) = decide (n ∈ zs) := by
  unfold inV
  induction zs with
  | nil => rfl
  | cons z r ih =>
    rw [List.map_cons, List.any_cons, ih]
    show (z == n || _) = _
    by_cases h : z = n
    · subst h; simp
    · have h' : ¬ n = z := fun e => h e.symm
      simp [h, h']
theorem flat_ints (zs : List Int) : (zs.map V.int).all flatV = true := by
  rw [List.all_map]
  exact List.all_eq_true.mpr fun _ _ => rfl
/-! ### asked rows: a table's name and terms -/
abbrev Row := Str × List Int
def rowD (r : Row) : PyData := .tuple [.str r.1, .tuple (r.2.map PyData.int)]
def rowsD (rows : List Row) : PyData := .tuple (rows.map rowD)
def addV (acc : List Int) (t : Int) : List Int := if t < 0 ∧ t ∉ acc then acc ++ [t] else acc
def varsOf (rows : List Row) : List Int := (rows.flatMap (·.2)).foldl addV []
theorem addV_len (ts : List Int) : ∀ acc : List Int, (ts.foldl addV acc).length ≤ acc.length + ts.length := by
  induction ts with
  | nil => intro acc; exact Nat.le_refl _
  | cons t r ih =>
    intro acc
    refine Nat.le_trans (ih _) ?_
    have : (addV acc t).length ≤ acc.length + 1 := by
      unfold addV
      split
      · rw [List.length_append]; exact Nat.le_refl _
      · exact Nat.le_succ _
    rw [List.length_cons]
    omega
theorem rowD_inv {K : PySem.W.Frag} {H : Hp} {v : V} {r : Row} (h : Dp K H v (rowD r)) : ∃ a t, v = .ref a ∧ SqT K H a [.str r.1, .ref t] ∧ SqT K H t (r.2.map V.int) := by
  obtain ⟨a, xs, rfl, hS, hA⟩ := dp_tup_inv h
  obtain ⟨x, r1, rfl, hx, hA⟩ := dpAll_cons_inv hA
  obtain ⟨y, r2, rfl, hy, hA⟩ := dpAll_cons_inv hA
  cases dpAll_nil_inv hA
  cases dp_str_inv hx
  obtain ⟨t, ys, rfl, hT, hB⟩ := dp_tup_inv hy
  cases dpAll_ints_inv hB
  exact ⟨a, t, rfl, hS, hT⟩
theorem rows_inv {K : PySem.W.Frag} {H : Hp} {v : V} {rows : List Row} (h : Dp K H v (rowsD rows)) : ∃ a xs, v = .ref a ∧ SqT K H a xs ∧ DpAll K H xs (rows.map rowD) := dp_tup_inv h
theorem rowAt {K : PySem.W.Frag} {H : Hp} {xs : List V} {rows : List Row} {i : Nat} {x : V} (h : DpAll K H xs (rows.map rowD)) (e : xs[i]? = some x) : ∃ r, rows[i]? = some r ∧ ∃ a t, x = .ref a ∧ SqT K H a [.str r.1, .ref t] ∧ SqT K H t (r.2.map V.int) := by
  obtain ⟨d, hd, hx⟩ := h.get e
  rw [List.getElem?_map] at hd
  cases q : rows[i]? with
  | none => rw [q] at hd; cases hd
  | some r =>
    rw [q] at hd
    cases hd
    exact ⟨r, rfl, rowD_inv hx⟩
theorem flatMap_take_le (rows : List Row) (i : Nat) : ((rows.take i).flatMap (·.2)).length ≤ (rows.flatMap (·.2)).length := by
  have e : rows.flatMap (·.2) = (rows.take i).flatMap (·.2) ++ (rows.drop i).flatMap (·.2) := by rw [← List.flatMap_append, List.take_append_drop]
  rw [e, List.length_append]
  exact Nat.le_add_right _ _
/-! ### lists of dicts from ints to ints -/
abbrev Way := List (Int × Int)
def dkI (w : Way) : List (Key × V) := w.map fun p => (.inl p.1, .int p.2)
def DictsAt (H : Hp) (refs : List Addr) (ws : List Way) : Prop := Paired (fun (q : Addr) (w : Way) => H q = some (.dK (dkI w))) refs ws
section
variable {H H' : Hp} {refs : List Addr} {ws : List Way} {p : Addr}
theorem DictsAt.same (h : DictsAt H refs ws) (s : Same H H') : DictsAt H' refs ws := Paired.mapP h fun _ _ e => s _ _ e
theorem DictsAt.lst {xs ys : List V} (h : DictsAt H refs ws) (e : H p = some (.lst xs)) : DictsAt (upd H p (.lst ys)) refs ws := Paired.mapP h fun _ _ z => by
  rw [upd_ne (fun c => by rw [c, e] at z; cases z)]
  exact z
theorem DictsAt.app : ∀ {r1 r2 : List Addr} {w1 w2 : List Way}, DictsAt H r1 w1 → DictsAt H r2 w2 → DictsAt H (r1 ++ r2) (w1 ++ w2)
  | _, _, _, _, .nil, h => h
  | _, _, _, _, .cons a b, h => .cons a (DictsAt.app b h)
theorem DictsAt.get : ∀ {refs : List Addr} {ws : List Way} {i : Nat} {q : Addr}, DictsAt H refs ws → refs[i]? = some q → ∃ w, ws[i]? = some w ∧ H q = some (.dK (dkI w))
  | _, _, _, _, .nil, e => by cases e
  | _, _, 0, _, .cons a b, e => by cases e; exact ⟨_, rfl, a⟩
  | _, _, i + 1, _, .cons a b, e => DictsAt.get (i := i) b e
theorem DictsAt.len (h : DictsAt H refs ws) : refs.length = ws.length := Paired.length h
end
theorem dkI_val {w : Way} (hn : (w.map (·.1)).Nodup) : ∀ p ∈ dkI w, valV (dkI w) p.1 = some p.2 := by
  induction w with
  | nil => intro p hp; cases hp
  | cons a r ih =>
    intro p hp
    obtain ⟨h1, h2⟩ := List.nodup_cons.mp (show (a.1 :: r.map (·.1)).Nodup from hn)
    rcases List.mem_cons.mp (show p ∈ ((Sum.inl a.1 : Key), V.int a.2) :: dkI r from hp) with rfl | hp
    · exact valV_pos rfl
    · have hne : ¬ (Sum.inl a.1 : Key) = p.1 := fun e => by
        obtain ⟨b, hb, rfl⟩ := List.mem_map.mp hp
        exact h1 (List.mem_map.mpr ⟨b, hb, (Sum.inl.inj e).symm⟩)
      show valV (((Sum.inl a.1 : Key), V.int a.2) :: dkI r) p.1 = _
      rw [valV_neg hne]
      exact ih h2 p hp
theorem dkI_put {w : Way} {t x : Int} (h : t ∉ w.map (·.1)) : putK (dkI w) (.inl t) (.int x) = dkI (w ++ [(t, x)]) := by
  rw [putK_new]
  · unfold dkI
    rw [List.map_append]
    rfl
  · cases q : valV (dkI w) (.inl t : Key) with
    | none => rfl
    | some v =>
      have := valV_in q
      obtain ⟨p, hp, e⟩ := List.mem_map.mp this
      obtain ⟨b, hb, rfl⟩ := List.mem_map.mp hp
      exact absurd (List.mem_map.mpr ⟨b, hb, Sum.inl.inj e⟩) h
/-- all ways to give the variables their values -/
def stepW (ws : List Way) (c : Int × List Int) : List Way := ws.flatMap fun w => c.2.map fun x => w ++ [(c.1, x)]
def allW (cs : List (Int × List Int)) : List Way := cs.foldl stepW [[]]
theorem allW_snoc (cs : List (Int × List Int)) (c : Int × List Int) : allW (cs ++ [c]) = stepW (allW cs) c := by
  unfold allW
  rw [List.foldl_append]
  rfl
theorem sum_map_const {α : Type} (l : List α) (k : Nat) : (l.map fun _ => k).sum = l.length * k := by
  induction l with
  | nil => simp
  | cons a r ih => rw [List.map_cons, List.sum_cons, ih, List.length_cons, Nat.succ_mul]; omega
theorem stepW_len (ws : List Way) (c : Int × List Int) : (stepW ws c).length = ws.length * c.2.length := by
  unfold stepW
  rw [List.length_flatMap]
  simp only [List.length_map]
  exact sum_map_const _ _
def prodL (cs : List (Int × List Int)) : Nat := cs.foldl (fun t c => t * c.2.length) 1
theorem prodL_snoc (cs : List (Int × List Int)) (c : Int × List Int) : prodL (cs ++ [c]) = prodL cs * c.2.length := by
  unfold prodL
  rw [List.foldl_append]
  rfl
theorem allW_len (cs : List (Int × List Int)) : (allW cs).length = prodL cs := by
  refine rev_ind (P := fun cs => (allW cs).length = prodL cs) rfl (fun l a ih => ?_) cs
  rw [allW_snoc, stepW_len, ih, prodL_snoc]
theorem allW_keys (cs : List (Int × List Int)) : ∀ w ∈ allW cs, w.map (·.1) = cs.map (·.1) := by
  refine rev_ind (P := fun cs => ∀ w ∈ allW cs, w.map (·.1) = cs.map (·.1)) (fun w h => ?_) (fun l a ih w h => ?_) cs
  · rw [List.mem_singleton.mp (show w ∈ [([] : Way)] from h)]
    rfl
  · rw [allW_snoc] at h
    obtain ⟨w', hw', hx⟩ := List.mem_flatMap.mp h
    obtain ⟨x, _, rfl⟩ := List.mem_map.mp hx
    rw [List.map_append, List.map_append, ih w' hw']
    rfl
/-- the partial products grow where no row of values is empty -/
theorem prodL_take_le {cs : List (Int × List Int)} (h : ∀ c ∈ cs, 0 < c.2.length) (i : Nat) : prodL (cs.take i) ≤ prodL cs ∧ 0 < prodL (cs.take i) := by
  have mono : ∀ (a b : List (Int × List Int)), (∀ c ∈ b, 0 < c.2.length) → prodL a ≤ prodL (a ++ b) := fun a b => by
    refine rev_ind (P := fun b => (∀ c ∈ b, 0 < c.2.length) → prodL a ≤ prodL (a ++ b)) (fun _ => by rw [List.append_nil]; exact Nat.le_refl _) (fun l c ih hb => ?_) b
    rw [← List.append_assoc, prodL_snoc]
    refine Nat.le_trans (ih fun x hx => hb x (List.mem_append_left _ hx)) ?_
    exact Nat.le_mul_of_pos_right _ (hb c (List.mem_append_right _ (List.mem_singleton.mpr rfl)))
  have pos : ∀ (a : List (Int × List Int)), (∀ c ∈ a, 0 < c.2.length) → 0 < prodL a := fun a => by
    refine rev_ind (P := fun a => (∀ c ∈ a, 0 < c.2.length) → 0 < prodL a) (fun _ => Nat.one_pos) (fun l c ih hb => ?_) a
    rw [prodL_snoc]
    exact Nat.mul_pos (ih fun x hx => hb x (List.mem_append_left _ hx)) (hb c (List.mem_append_right _ (List.mem_singleton.mpr rfl)))
  refine ⟨?_, pos _ fun c hc => h c (List.mem_of_mem_take hc)⟩
  have := mono (cs.take i) (cs.drop i) fun c hc => h c (List.mem_of_mem_drop hc)
  rwa [List.take_append_drop] at this
/-- a row and its terms as they stand -/
def RowT (H : Hp) (v : V) (r : Row) : Prop := ∃ a t, v = .ref a ∧ H a = some (.tup [.str r.1, .ref t]) ∧ H t = some (.tup (r.2.map V.int))
theorem RowT.upd {H : Hp} {v : V} {r : Row} {p : Addr} {xs ys : List V} (h : RowT H v r) (e : H p = some (.lst xs)) : RowT (upd H p (.lst ys)) v r := by
  obtain ⟨a, t, rfl, h1, h2⟩ := h
  exact ⟨a, t, rfl, by rw [upd_ne (fun c => by rw [c, e] at h1; cases h1)]; exact h1, by rw [upd_ne (fun c => by rw [c, e] at h2; cases h2)]; exact h2⟩
theorem RowT.same {H H' : Hp} {v : V} {r : Row} (h : RowT H v r) (s : Same H H') : RowT H' v r := by
  obtain ⟨a, t, rfl, h1, h2⟩ := h
  exact ⟨a, t, rfl, s _ _ h1, s _ _ h2⟩
theorem RowT.sam {H H' : Hp} {v : V} {r : Row} {p : Addr} {k : List (Key × V)} (h : RowT H v r) (s : Sam p H H') (e : H p = some (.dK k)) : RowT H' v r := by
  obtain ⟨a, t, rfl, h1, h2⟩ := h
  exact ⟨a, t, rfl, s _ _ (fun c => by rw [c, e] at h1; cases h1) h1, s _ _ (fun c => by rw [c, e] at h2; cases h2) h2⟩
theorem RowT.dp {K : PySem.W.Frag} {H : Hp} {v : V} {r : Row} (h : RowT H v r) : Dp K H v (rowD r) := by
  obtain ⟨a, t, rfl, h1, h2⟩ := h
  exact .tup (SqT.of h1) (.cons (.str _) (.cons (.tup (SqT.of h2) (dpAll_ints _)) .nil))
theorem rowsT_dp {K : PySem.W.Frag} {H : Hp} : ∀ {vs : List V} {rows : List Row}, Paired (RowT H) vs rows → DpAll K H vs (rows.map rowD)
  | _, _, .nil => .nil
  | _, _, .cons a b => .cons a.dp (rowsT_dp b)
theorem paired_app {α β : Type} {F : α → β → Prop} : ∀ {a1 a2 : List α} {b1 b2 : List β}, Paired F a1 b1 → Paired F a2 b2 → Paired F (a1 ++ a2) (b1 ++ b2)
  | _, _, _, _, .nil, h => h
  | _, _, _, _, .cons x y, h => .cons x (paired_app y h)
theorem image_rows {rows : List Row} {ds : List PyData} (h : ∀ d ∈ ds, d ∈ rows.map rowD) : ∃ rows' : List Row, ds = rows'.map rowD ∧ ∀ r ∈ rows', r ∈ rows := by
  induction ds with
  | nil => exact ⟨[], rfl, fun r hr => absurd hr List.not_mem_nil⟩
  | cons d r ih =>
    obtain ⟨rs, e, hm⟩ := ih fun x hx => h x (List.mem_cons_of_mem _ hx)
    obtain ⟨a, ha, rfl⟩ := List.mem_map.mp (h d (List.mem_cons_self ..))
    exact ⟨a :: rs, by rw [e]; rfl, fun x hx => (List.mem_cons.mp hx).elim (fun z => z ▸ ha) (hm x)⟩
theorem paired_at {α β : Type} {F : α → β → Prop} : ∀ {as : List α} {bs : List β} {i : Nat} (h : Paired F as bs) (h1 : i < as.length) (h2 : i < bs.length), F as[i] bs[i]
  | _, _, i, .nil, h1, _ => absurd h1 (Nat.not_lt_zero i)
  | _ :: _, _ :: _, 0, .cons a _, _, _ => a
  | _ :: _, _ :: _, i + 1, .cons _ r, h1, h2 => paired_at r (Nat.lt_of_succ_lt_succ h1) (Nat.lt_of_succ_lt_succ h2)
end My
/-! M56 -/
set_option Elab.async false
set_option linter.all false
namespace My
/-! ### the values of a picture: the law's reckoning and the program's -/
def nearStep (points marks : List Int) (many : Int) (s : List Int × Int) (v : Int) : List Int × Int :=
  (if v ∈ marks ∨ (1 ≤ v - s.2 ∧ v - s.2 ≤ many) then s.1 ++ [v] else s.1, if v ∈ points then v else s.2)
def nearGo (points marks : List Int) (low many : Int) (n : Nat) : List Int × Int := ((List.range n).map fun i : Nat => low + (i : Int)).foldl (nearStep points marks many) ([], low)
def near (points marks : List Int) (low high many : Int) : List Int := (nearGo points marks low many (high - low).toNat).1
theorem nearGo_succ (points marks : List Int) (low many : Int) (n : Nat) : nearGo points marks low many (n + 1) = nearStep points marks many (nearGo points marks low many n) (low + n) := by
  unfold nearGo
  rw [List.range_succ, List.map_append, List.foldl_append]
  rfl
theorem nearGo_len (points marks : List Int) (low many : Int) (n : Nat) : (nearGo points marks low many n).1.length ≤ n := by
  induction n with
  | zero => exact Nat.le_refl _
  | succ n ih =>
    rw [nearGo_succ]
    unfold nearStep
    dsimp only
    split
    · rw [List.length_append]
      exact Nat.add_le_add_right ih 1
    · exact Nat.le_succ_of_le ih
structure V56 (points marks : List Int) : Prop where
  p10 : ∀ p ∈ points, p % 10 = 0
  pnd : points.Nodup
  m10 : ∀ m ∈ marks, m % 10 = 0
  mnd : marks.Nodup
section
variable {points marks : List Int} {low high many : Int}
theorem near_end (hv : V56 points marks) (hl : low % 10 = 0) (n : Nat) : ((nearGo points marks low many n).2 = low ∨ ((nearGo points marks low many n).2 ∈ points ∧ low < (nearGo points marks low many n).2)) ∧
    ((nearGo points marks low many n).2 = low ∨ (nearGo points marks low many n).2 < low + n) ∧ ∀ p ∈ points, low ≤ p → p < low + n → p ≤ (nearGo points marks low many n).2 := by
  induction n with
  | zero => exact ⟨.inl rfl, .inl rfl, fun p _ h1 h2 => by simp at h2; omega⟩
  | succ n ih =>
    rw [nearGo_succ]
    unfold nearStep
    dsimp only
    generalize (nearGo points marks low many n).2 = e at ih
    obtain ⟨h1, h2, h3⟩ := ih
    by_cases c : low + (n : Int) ∈ points
    · rw [if_pos c]
      refine ⟨?_, .inr (by push_cast; omega), fun p _ _ h => by push_cast at h; omega⟩
      by_cases z : n = 0
      · subst z; exact .inl (by simp)
      · exact .inr ⟨c, by omega⟩
    · rw [if_neg c]
      refine ⟨h1, by push_cast; omega, fun p hp a b => ?_⟩
      by_cases z : p = low + n
      · subst z; exact absurd hp c
      · exact h3 p hp a (by push_cast at b; omega)
theorem near_mem (hv : V56 points marks) (hl : low % 10 = 0) (h9 : many ≤ 9) (n : Nat) (v : Int) : v ∈ (nearGo points marks low many n).1 ↔
    (low ≤ v ∧ v < low + n) ∧ (v ∈ marks ∨ ∃ e, (e = low ∨ (e ∈ points ∧ low < e)) ∧ e < v ∧ v ≤ e + many) := by
  induction n with
  | zero =>
    refine ⟨fun h => absurd (show v ∈ ([] : List Int) from h) List.not_mem_nil, fun h => ?_⟩
    obtain ⟨⟨a, b⟩, _⟩ := h
    simp at b
    omega
  | succ n ih =>
    have he := near_end (many := many) hv hl n
    rw [nearGo_succ]
    unfold nearStep
    dsimp only
    generalize hg : nearGo points marks low many n = g at ih he
    obtain ⟨l, e⟩ := g
    dsimp only at ih he ⊢
    obtain ⟨h1, h2, h3⟩ := he
    have he10 : e % 10 = 0 := by
      rcases h1 with h | h
      · rw [h]; exact hl
      · exact hv.p10 e h.1
    have key : ((low + (n : Int)) ∈ marks ∨ (1 ≤ low + (n : Int) - e ∧ low + (n : Int) - e ≤ many)) ↔ ((low + (n : Int)) ∈ marks ∨ ∃ e, (e = low ∨ (e ∈ points ∧ low < e)) ∧ e < low + (n : Int) ∧ low + (n : Int) ≤ e + many) := by
      constructor
      · rintro (h | h)
        · exact .inl h
        · exact .inr ⟨e, h1, by omega, by omega⟩
      · rintro (h | ⟨e', h4, h5, h6⟩)
        · exact .inl h
        · refine .inr ?_
          have h7 : e' % 10 = 0 := by
            rcases h4 with h | h
            · rw [h]; exact hl
            · exact hv.p10 e' h.1
          have h8 : e' ≤ e := by
            rcases h4 with h | h
            · rcases h1 with h' | h'
              · omega
              · omega
            · exact h3 e' h.1 (by omega) h5
          have h9' : e ≤ low + n := by
            rcases h2 with h | h
            · omega
            · omega
          omega
    by_cases c : (low + (n : Int)) ∈ marks ∨ (1 ≤ low + (n : Int) - e ∧ low + (n : Int) - e ≤ many)
    · rw [if_pos c, List.mem_append, ih, List.mem_singleton]
      constructor
      · rintro (h | h)
        · exact ⟨⟨h.1.1, by have := h.1.2; push_cast; omega⟩, h.2⟩
        · subst h
          exact ⟨⟨by omega, by push_cast; omega⟩, key.mp c⟩
      · rintro ⟨⟨a, b⟩, d⟩
        by_cases z : v = low + n
        · exact .inr z
        · exact .inl ⟨⟨a, by push_cast at b; omega⟩, d⟩
    · rw [if_neg c, ih]
      constructor
      · rintro h
        exact ⟨⟨h.1.1, by have := h.1.2; push_cast; omega⟩, h.2⟩
      · rintro ⟨⟨a, b⟩, d⟩
        by_cases z : v = low + n
        · subst z
          exact absurd (key.mpr d) c
        · exact ⟨⟨a, by push_cast at b; omega⟩, d⟩
theorem near_sorted (n : Nat) : (nearGo points marks low many n).1.Pairwise (· < ·) ∧ ∀ v ∈ (nearGo points marks low many n).1, v < low + n := by
  induction n with
  | zero => exact ⟨List.Pairwise.nil, fun v h => absurd (show v ∈ ([] : List Int) from h) List.not_mem_nil⟩
  | succ n ih =>
    rw [nearGo_succ]
    unfold nearStep
    dsimp only
    obtain ⟨h1, h2⟩ := ih
    split
    · refine ⟨List.pairwise_append.mpr ⟨h1, List.pairwise_singleton _ _, fun a ha b hb => ?_⟩, fun v hv => ?_⟩
      · rw [List.mem_singleton] at hb
        subst hb
        exact h2 a ha
      · rcases List.mem_append.mp hv with h | h
        · have := h2 v h
          push_cast
          omega
        · rw [List.mem_singleton] at h
          subst h
          push_cast
          omega
    · exact ⟨h1, fun v hv => by have := h2 v hv; push_cast; omega⟩
def raw (points marks : List Int) (low high many : Int) : List Int :=
  (marks.filter fun m => decide (low ≤ m) && decide (m < high)) ++ (low :: points.filter fun p => decide (low < p) && decide (p < high)).flatMap fun e => (List.range many.toNat).map fun i : Nat => e + 1 + (i : Int)
theorem band_mem {a v : Int} : v ∈ ((List.range many.toNat).map fun i : Nat => a + 1 + (i : Int)) ↔ a < v ∧ v ≤ a + many := by
  rw [List.mem_map]
  constructor
  · rintro ⟨i, hi, rfl⟩
    rw [List.mem_range] at hi
    omega
  · rintro ⟨h1, h2⟩
    exact ⟨(v - a - 1).toNat, by rw [List.mem_range]; omega, by omega⟩
theorem ends_mem {e : Int} : e ∈ (low :: points.filter fun p => decide (low < p) && decide (p < high)) ↔ e = low ∨ (e ∈ points ∧ low < e ∧ e < high) := by
  rw [List.mem_cons, List.mem_filter, Bool.and_eq_true, decide_eq_true_eq, decide_eq_true_eq]
theorem raw_mem {v : Int} : v ∈ raw points marks low high many ↔ (v ∈ marks ∧ low ≤ v ∧ v < high) ∨ ∃ e, (e = low ∨ (e ∈ points ∧ low < e ∧ e < high)) ∧ e < v ∧ v ≤ e + many := by
  unfold raw
  rw [List.mem_append, List.mem_filter, Bool.and_eq_true, decide_eq_true_eq, decide_eq_true_eq, List.mem_flatMap]
  constructor
  · rintro (h | ⟨e, he, hv⟩)
    · exact .inl h
    · exact .inr ⟨e, ends_mem.mp he, band_mem.mp hv⟩
  · rintro (h | ⟨e, he, hv⟩)
    · exact .inl h
    · exact .inr ⟨e, ends_mem.mpr he, band_mem.mpr hv⟩
theorem raw_nodup (hv : V56 points marks) (hl : low % 10 = 0) (h9 : many ≤ 9) : (raw points marks low high many).Nodup := by
  have e10 : ∀ e ∈ (low :: points.filter fun p => decide (low < p) && decide (p < high)), e % 10 = 0 := fun e he => by
    rcases ends_mem.mp he with h | h
    · rw [h]; exact hl
    · exact hv.p10 e h.1
  unfold raw
  rw [List.nodup_append]
  refine ⟨hv.mnd.sublist List.filter_sublist, ?_, ?_⟩
  · unfold List.Nodup
    rw [List.pairwise_flatMap]
    refine ⟨fun e _ => ?_, ?_⟩
    · rw [List.pairwise_map]
      exact (List.nodup_range (n := many.toNat)).imp fun {a b} h z => h (by omega)
    · have hnd : (low :: points.filter fun p => decide (low < p) && decide (p < high)).Nodup := by
        rw [List.nodup_cons]
        refine ⟨fun h => ?_, hv.pnd.sublist List.filter_sublist⟩
        rw [List.mem_filter, Bool.and_eq_true, decide_eq_true_eq] at h
        omega
      refine hnd.imp_of_mem fun {a b} ha hb hne x hx y hy z => ?_
      have h1 := e10 a ha
      have h2 := e10 b hb
      have h3 := band_mem.mp hx
      have h4 := band_mem.mp hy
      omega
  · intro a ha b hb z
    subst z
    have h1 := hv.m10 a (List.mem_filter.mp ha).1
    obtain ⟨e, he, hx⟩ := List.mem_flatMap.mp hb
    have h2 := e10 e he
    have h3 := band_mem.mp hx
    omega
theorem near_eq (hv : V56 points marks) (hl : low % 10 = 0) (hh : high % 10 = 0) (hlt : low < high) (h9 : many ≤ 9) {ns : List Int} (hp : ns.Perm (raw points marks low high many)) (hs : ns.Pairwise (· ≤ ·)) : ns = near points marks low high many := by
  have hn := near_sorted (points := points) (marks := marks) (low := low) (many := many) (high - low).toNat
  have hcast : low + ((high - low).toNat : Int) = high := by omega
  have hnn : (near points marks low high many).Nodup := hn.1.imp fun {a b} h => by omega
  have hperm : ns.Perm (near points marks low high many) := by
    refine hp.trans ((List.perm_ext_iff_of_nodup (raw_nodup hv hl h9) hnn).mpr fun v => ?_)
    rw [raw_mem]
    unfold near
    rw [near_mem hv hl h9, hcast]
    constructor
    · rintro (⟨h1, h2, h3⟩ | ⟨e, he, h1, h2⟩)
      · exact ⟨⟨h2, h3⟩, .inl h1⟩
      · have he10 : e % 10 = 0 ∧ low ≤ e ∧ e < high := by
          rcases he with h | h
          · rw [h]; exact ⟨hl, Int.le_refl _, hlt⟩
          · exact ⟨hv.p10 e h.1, by omega, h.2.2⟩
        refine ⟨⟨by omega, by omega⟩, .inr ⟨e, he.imp id fun h => ⟨h.1, h.2.1⟩, h1, h2⟩⟩
    · rintro ⟨⟨h1, h2⟩, h3 | ⟨e, he, h4, h5⟩⟩
      · exact .inl ⟨h3, h1, h2⟩
      · exact .inr ⟨e, he.imp id fun h => ⟨h.1, h.2, by omega⟩, h4, h5⟩
  exact List.Perm.eq_of_pairwise (le := (· ≤ ·)) (fun a b _ _ h1 h2 => Int.le_antisymm h1 h2) hs (hn.1.imp fun {a b} h => by omega) hperm
theorem near_pos (hv : V56 points marks) (hl : low % 10 = 0) (h9 : many ≤ 9) (h1 : 1 ≤ many) (hlt : low + 1 < high) : 0 < (near points marks low high many).length := by
  have hcast : low + ((high - low).toNat : Int) = high := by omega
  refine List.length_pos_of_mem (a := low + 1) ?_
  unfold near
  rw [near_mem hv hl h9, hcast]
  exact ⟨⟨by omega, hlt⟩, .inr ⟨low, .inl rfl, by omega, by omega⟩⟩
end
end My
/-! KitX -/
set_option Elab.async false
set_option linter.all false
set_option maxRecDepth 100000
set_option maxHeartbeats 2000000
namespace My
open PySem PySem.Spec PyProof.Rows L2 NdefX PySem.W
/-! ### an own exception class whose __init__ begins with super().__init__(..) -/
/-- the bound __init__ called -/
theorem mw_call {X : Cx} {pins : List (Addr × Obj)} {σ : L2.St} {H : Hp} {s : Shared} {a C u : Addr} {us : List Value} {Q : Value → Shared → Prop} {A : Around} {E : Value → Shared → Prop} (T : OexC X.K C) (I : Inv X pins σ H s) (e : H a = some (exo a C none)) (hu : s.heap.get? u = some (kxs_mw "ValueError.__init__" a)) (hl : us.length ≤ sizeLine)
    (h : ∀ s', Inv X pins σ H s' → Q .none s') : wpAny (model X.prog X.w) A (call (.ref u) us) Q E s := by
  obtain ⟨nm, q, N, bs, bm, sn, sub, ab, col, dd, k0, k1, k2, k3, k5, hC, hbm⟩ := T.cls
  obtain ⟨t1, ho⟩ := exo_at I.hok e
  obtain ⟨hp, g, d, t, os⟩ := s
  refine wpAny_call (codeAny_of_tree ?_)
  show wpAny _ A.in1 (callAny (.ref u) ⟨us, []⟩) _ _ _
  simp only [callAny]
  refine wpAny_bind (wpAny_load hu ?_)
  simp only [kxs_mw, show (Value.type "method-wrapper" == Value.type "method" || Value.type "method-wrapper" == Value.type "builtin_function_or_method" || Value.type "method-wrapper" == Value.type "method-wrapper") = true by decide, if_true]
  refine KFB.if_so (by decide) ?_
  refine wpAny_bind (PySem.ESX.check_bound F.excBase_ValueError (I.kIn _ _ hC) ho rfl ?_)
  refine wpAny_bind (wpAny_pure (wpAny_pure ?_))
  refine ⟨Code.quiet_builtin _ (by decide +kernel), codeAny_builtin F.excBase_ValueError.initEntry ?_⟩
  rw [Around.under_plainId F.excBase_ValueError.init.plain _]
  wp_walk
  have fin : ∀ h' t2, (∀ b o, b ≠ a → hp.get? b = some o → h'.get? b = some o) → h'.get? a = some ({ cls := .ref C, dict := none, data := .fields #[.ref t2, .none, .none, .none, .bool false, .none] } : Obj) → ∀ t', Q .none ⟨h', g, d, t', os⟩ := fun h' t2 k hx t' => by
    have J := I.write (t' := t') (x := a) (e := a) (o := exo a C none) (by rw [e]; exact True.intro) (.inl rfl) k ⟨_, hx⟩ (exo_ok hx)
    have eu : upd H a (exo a C none) = H := by
      funext b
      by_cases hb : b = a
      · rw [hb, upd_same, e]
      · rw [upd_ne hb]
    rw [eu] at J
    exact h _ J
  refine fin _ hp.objs.size (fun b o hb ho => ?_) ?_ _
  · rw [Heap.get?_update_other _ _ (Ne.symm hb)]
    exact Heap.get?_push_of_some _ ho
  · rw [Heap.get?_update_self _ (Heap.get?_push_of_some _ ho) rfl]
    rfl
/-- what the written part says of such a class C and its __init__ F at f -/
structure SupC (P : Program) (K : PySem.W.Frag) (C f : Addr) (F : NF) (ps : List Str) : Prop where
  fn : ∃ oc od doc pm ctv osl, K.lookup f = some ⟨oc, od, .func (F.fd doc pm ctv), osl⟩
  cell : ∃ cc, F.cl = [(("__class__" : Str), cc)] ∧ ∃ cl cld csl, K.lookup cc = some ⟨cl, cld, .cell (some (.ref C)), csl⟩
  code : ∃ ccl cdd vs ccs file tf, K.lookup F.c = some ⟨ccl, cdd, .fields vs, ccs⟩ ∧ vs[2]? = some (.str file tf) ∧ ((P.main.file : Str) == file) = true
  first : ∃ ar, (F.params.posonlyargs ++ F.params.args).head? = some ar ∧ ps[0]? = some ar.arg
  cls : ∃ cd, PySem.W.clsIn K C = some cd
  sub : PySem.W.mroIn K C (.ref C) = some true
  top : (P.main.scope.names.lookup ("super" : Str)).isSome = false
  op : PySem.W.nsIn K cStatics "thirdparty.any" = some none
  sup : ks_superIn K C C "__init__" = some (some (.builtin "ValueError.__init__"))
  ve : PySem.W.subIn K (.ref C) (.type "ValueError") = some true
section
variable {X : Cx} {pins : List (Addr × Obj)} {σ : L2.St} {H : Hp} {s : Shared}
theorem exo_inst {a C : Addr} (I : Inv X pins σ H s) (e : H a = some (exo a C none)) : ∃ ox, PySem.W.InstAt s.heap a ox C none := by
  obtain ⟨t1, ho⟩ := exo_at I.hok e
  exact ⟨_, ho, rfl, rfl, trivial⟩
theorem superInit {a C f L : Addr} {F : NF} {ps : List Str} {e1 : Expr} {p0 p1 p2 pos pe : Pos} {body : List Stmt} {ta : TA} {R : Hp → Prop} {pl : Sem Bool} (S : SupC X.prog X.K C f F ps) (T : OexC X.K C) (hen : X.env = envF F f L) (hg : X.mg "super" = none)
    (hks : F.scope.names.lookup ("super" : Str) = some .globalImplicit) (hkc : F.scope.names.lookup ("__class__" : Str) = some .free) (hka : ∀ x, ps[0]? = some x → F.scope.names.lookup x = some .local) (hN : ∀ x, ps[0]? = some x → X.N[0]? = some x)
    (I : Inv X pins σ H s) (hs : σ[0]? = some (some (.ref a))) (ea : H a = some (exo a C none)) (ha : PA X [e1] ta) (q : ta σ H fun vs H1 => vs.length ≤ 1000 ∧ H1 a = some (exo a C none) ∧ R H1)
    (he : eval (.Call (.Attribute (.Call (.Name "super" p0) [] [] p1) "__init__" p2) [e1] [] pos) X.env = (do
      let ov ← attributeBase (.Call (.Name "super" p0) [] [] p1) "__init__" X.env (eval (.Call (.Name "super" p0) [] [] p1) X.env)
      standAt p2.atName
      let (f, first) ← holding [ov] (getMethod ov "__init__" pl)
      callWith pos f first (backTo pos (starEach [e1] X.env)) []))
    (hst : starEach [e1] X.env = [(false, eval e1 X.env)]) (hsw : swapsWith (.Call (.Attribute (.Call (.Name "super" p0) [] [] p1) "__init__" p2) [e1] [] pos) none pe.line X.env = pure false) (hin : interactive X.env = false) :
    _root_.PySem.wpAt (model X.prog X.w) X.A (.func body X.env) (exec (.Expr (.Call (.Attribute (.Call (.Name "super" p0) [] [] p1) "__init__" p2) [e1] [] pos) pe) X.env) (fun fl s' => fl = .next ∧ ∃ H', Inv X pins σ H' s' ∧ R H') X.xe s := by
  obtain ⟨oc, od, doc, pm, ctv, osl, lk⟩ := S.fn
  obtain ⟨cc, hcl, cl, cld, csl, hcell⟩ := S.cell
  obtain ⟨ccl, cdd, vs, ccs, file, tf, hcode, hvs, hfile⟩ := S.code
  obtain ⟨ar, har, hp0⟩ := S.first
  obtain ⟨cd, hcd⟩ := S.cls
  have KX : X.K.In s.heap := I.kIn
  have kind : X.env.scope.kind = .function := I.ok.kind
  have esc : X.env.scope = F.scope := by rw [hen]
  have eks : X.env.kindOf "super" = some .globalImplicit := by rw [hen]; exact hks
  have ekc : X.env.kindOf "__class__" = some .free := by rw [hen]; exact hkc
  have eka : X.env.kindOf ar.arg = some .local := by rw [hen]; exact hka _ hp0
  obtain ⟨oD, hCK, hD2⟩ : ∃ oD, X.K.lookup C = some oD ∧ oD.data = .cls cd := by
    unfold PySem.W.clsIn at hcd
    split at hcd
    · rename_i c d cd' sl ho
      cases hcd
      exact ⟨_, ho, rfl⟩
    · cases hcd
  have hD1 : s.heap.get? C = some oD := KX _ _ hCK
  obtain ⟨m, hns, hloc⟩ := I.loc
  have hself : ∃ u, RelV (.ref a) u ∧ Look X.env s.heap m ar.arg u := hloc 0 ar.arg (.ref a) (hN _ hp0) hs (by rw [esc]; exact .inl (hka _ hp0))
  obtain ⟨u0, ru0, hlk⟩ := hself
  obtain rfl : u0 = Value.ref a := ru0
  have hma : m ar.arg = some (.ref a) := by
    rcases hlk with h | h
    · exact h.2
    · rcases h.1 with h | h <;> rw [eka] at h <;> exact nomatch h
  obtain ⟨ox, inst⟩ := exo_inst I ea
  refine ks_wpAt_Expr_any (ks_wpAt_MethodCall ?_ he) hin hsw
  have hfu : X.env.func = some f := by rw [hen]
  have hco : X.env.code = .ref F.c := by rw [hen]
  have hg2 : X.K.In s.heap := KX
  refine ks_wpAt_super_base (env := X.env) eks ekc (by decide) hfu (KX _ _ lk) rfl har hco (KX _ _ hcode) rfl hvs hfile S.top ?_
  obtain ⟨mb, h1, h2⟩ := I.mod.blt
  refine ks_loadName_global kind eks (Calls.loadGlobal_builtin (by rw [I.ok.glob]; exact I.mod.glob.keeps I.bk) hg (by rw [I.ok.blt]; exact h1.keeps I.bk) ((h2 "super" (by decide)).trans (show bootBuiltins "super" = some (.type "super") by decide +kernel)) ⟨rfl, ?_⟩)
  refine wpAny_loadName_free kind ekc (c := cc) (by rw [hen]; show List.lookup _ F.cl = _; rw [hcl]; rfl) ⟨_, KX _ _ hcell, rfl⟩ ?_
  refine wpAny_loadName_local kind eka hns hma ?_
  obtain ⟨hh, g, d, t, os⟩ := s
  refine ks_wpAny_isType_cls hD1 hD2 ⟨rfl, ?_⟩
  refine ks_wpAny_call_super hD1 hD2 inst.at_ inst.cls (fun c e => ?_) (looks_mroIn KX S.sub) (fun h' e k => ?_)
  · have := inst.no
    unfold PySem.W.notCls at this
    rw [e] at this
    exact Bool.noConfusion this
  have I1 : Inv X pins σ H ⟨h', g, d, t, os⟩ := I.kept (t' := t) k
  have hI : Looks (model X.prog X.w) h' (isInstance (.ref a) (.type "ValueError")) true := by
    obtain ⟨ox', inst'⟩ := exo_inst I1 ea
    exact inst'.type.andThen (looks_subIn I1.kIn S.ve)
  have hsup := S.sup
  unfold ks_superIn at hsup
  rw [hcd] at hsup
  have hne : a ≠ C := fun z => by
    have q3 := (I.bs _ _ (I.ok.mod.kin _ _ hCK)).2
    rw [← z, ea] at q3
    cases q3
  refine kxs_getMethod kxs_ValueError e (looks_opaque I1.kIn S.op) (l₀ := cd.mro) (fun A Q E s k q => wpAny_bind ((looks_clsIn I1.kIn hcd) A _ E s k (wpAny_pure q))) rfl I1.kIn hsup hI hne (by decide) ?_
  have I2 : Inv X pins σ H ⟨h'.push (kxs_mw "ValueError.__init__" a), g, d, t + 1, os⟩ := I1.kept (t' := t + 1) fun b o z => Heap.get?_push_of_some _ z
  have hu : (h'.push (kxs_mw "ValueError.__init__" a)).get? h'.objs.size = some (kxs_mw "ValueError.__init__" a) := Heap.get?_push_at rfl rfl
  have I3 : Inv X (pins ++ [(h'.objs.size, kxs_mw "ValueError.__init__" a)]) σ H ⟨h'.push (kxs_mw "ValueError.__init__" a), g, d, t + 1, os⟩ := I2.pins_of fun p hp => by
    rcases List.mem_append.mp hp with hp | hp
    · exact I2.pin p (List.mem_append_right _ hp)
    · rw [List.mem_singleton] at hp
      subst hp
      exact ⟨hu, I1.hok.fresh (Nat.le_refl _), fun z => Nat.lt_irrefl _ (z ▸ I1.lt), I1.nofs (Nat.le_refl _), fun v z => by cases z⟩
  have harg := ha.run pos _ _ σ H _ I3 q
  show wpAny _ _ (callWith pos (.ref h'.objs.size) [] (backTo pos (starEach [e1] X.env)) []) _ _ _
  rw [hst] at harg ⊢
  refine kxs_callWith (i := "ValueError.__init__") (x := a) rfl (PySem.Calls.evalArgs_plain (thn harg fun us s3 ⟨vs, H1, I4, r, hl, ea1, hR⟩ => ?_))
  have hu3 := (I4.pin (h'.objs.size, kxs_mw "ValueError.__init__" a) (List.mem_append_right _ (List.mem_append_right _ (List.mem_singleton.mpr rfl)))).1
  refine ⟨hu3, mw_call T I4 ea1 hu3 ?_ fun s4 I5 => ⟨rfl, H1, I5.unpinned, hR⟩⟩
  show us.length ≤ sizeLine
  rw [← r.length]
  exact smallL hl
end
/-- THE RULE for such an __init__: super().__init__(e), then the rest -/
theorem fn_super {CX : CXT} {P : Program} {w : World} {K : PySem.W.Frag} {mg : Str → Option Value} {base : Heap} {k : Nat} {f C : Addr} {F : NF} {doc pm ctv oc : Value} {od : Option Addr} {osl : Array (Option Value)} {N ps : List Str} {sp : Sp} {e1 : Expr} {rest : List Stmt} {p0 p1 p2 pos pe : Pos} {pl : Sem Bool}
    (lk : K.lookup f = some ⟨oc, od, .func (F.fd doc pm ctv), osl⟩) (hcd : PySem.W.codeIn K (.ref F.c) F.qual = true) (S : NScope N ps ["__class__"] F.scope) (SC : SupC P K C f F ps) (T : OexC K C) (hg : mg "super" = none)
    (hks : F.scope.names.lookup ("super" : Str) = some .globalImplicit) (hps : 0 < ps.length)
    (hbd : F.body = .Expr (.Call (.Attribute (.Call (.Name "super" p0) [] [] p1) "__init__" p2) [e1] [] pos) pe :: rest)
    (he : ∀ L, eval (.Call (.Attribute (.Call (.Name "super" p0) [] [] p1) "__init__" p2) [e1] [] pos) (envF F f L) = (do
      let ov ← attributeBase (.Call (.Name "super" p0) [] [] p1) "__init__" (envF F f L) (eval (.Call (.Name "super" p0) [] [] p1) (envF F f L))
      standAt p2.atName
      let (g, first) ← holding [ov] (getMethod ov "__init__" pl)
      callWith pos g first (backTo pos (starEach [e1] (envF F f L))) []))
    (hst : ∀ L, starEach [e1] (envF F f L) = [(false, eval e1 (envF F f L))]) (hsw : ∀ L, swapsWith (.Call (.Attribute (.Call (.Name "super" p0) [] [] p1) "__init__" p2) [e1] [] pos) none pe.line (envF F f L) = pure false)
    (len : ∀ vs H Q E, sp vs H Q E → vs.length = ps.length)
    (hbody : ∀ (A : Around) (outer : List Env) (s : Shared) (H : Hp) (vs : List V) (Q : VK) (E : XK), Room k (A.deeper (envF F f s.heap.objs.size)) → sp vs H Q E →
      ∃ (a : Addr) (ta : TA) (tr : TS), vs[0]? = some (.ref a) ∧ H a = some (exo a C none) ∧ PA (ncx CX P w K mg base N F f A outer s H E) [e1] ta ∧ PSs (ncx CX P w K mg base N F f A outer s H E) rest tr ∧
        ta (startF N vs [some (.ref C)]) H (fun xs H1 => xs.length ≤ 1000 ∧ H1 a = some (exo a C none) ∧ tr { nx := fun _ H' => Q .non H', rt := Q } (startF N vs [some (.ref C)]) H1)) :
    FnOk P w K mg base CX (k + 1) f (F.fd doc pm ctv) ps sp := by
  refine ⟨len, fun A outer s H args us vs Q E hr e0 hb r hsp => ?_⟩
  have hl := len _ _ _ _ hsp
  have KX : K.In s.heap := e0.mod.kin.keeps fun b o e => (e0.bs b o e).1
  have lim : s.heap.NoLimit := e0.mod.nolimit.keeps fun b o e => (e0.bs b o e).1
  refine ks_codeAny_call_defAt (fd := F.fd doc pm ctv) (body := F.body) (binds := ps.zip us) hr.depth (KX _ _ lk) rfl lim (PySem.W.codeRec_of KX hcd) rfl hb S.nocell (fun ⟨n, _⟩ hy => S.par n (List.of_mem_zip hy).1) (fun h₁ hns kp => ?_) S.co S.gen S.kind
  obtain ⟨cc, hcl, cl, cld, csl, hcell⟩ := SC.cell
  have C0 : CellsAt F.cl ["__class__"] [some (.ref C)] s.heap H := by
    refine ⟨rfl, fun y c e => ?_, fun x y c e1 e2 => ?_, fun i y e => ?_⟩
    · rw [hcl] at e
      have : c = cc := by
        rw [List.lookup_cons] at e
        split at e
        · exact (Option.some.inj e).symm
        · cases e
      subst this
      exact ⟨(e0.bs _ _ (e0.mod.kin _ _ hcell)).2, _, _, KX _ _ hcell, rfl⟩
    · rw [hcl, List.lookup_cons] at e1 e2
      split at e1
      · split at e2
        · rename_i h1 _ h2
          rw [eq_of_beq h1, eq_of_beq h2]
        · cases e2
      · cases e1
    · cases i with
      | zero =>
        cases e
        exact ⟨cc, by rw [hcl]; rfl, fun v hv => by cases hv; exact ⟨.ref C, rfl, _, KX _ _ hcell, rfl⟩⟩
      | succ i => cases e
  obtain ⟨a, ta, tr, hv0, ea, ha, ht, hq⟩ := hbody A outer s H vs Q E (hr.deeper _) hsp
  have I : Inv (ncx CX P w K mg base N F f A outer s H E) [] (startF N vs [some (.ref C)]) H { s with heap := h₁, toks := s.toks + (ps.zip us).length } := inv_startN S hr.hd e0 hl r C0 hns kp
  show _root_.PySem.wpAt _ _ (.func F.body (envF F f s.heap.objs.size)) (execs F.body (envF F f s.heap.objs.size)) _ _ _
  rw [hbd]
  have hs0 : (startF N vs [some (.ref C)])[0]? = some (some (.ref a)) := by
    unfold startF
    rw [List.getElem?_append_left (by rw [List.length_map, hl]; exact hps), List.getElem?_map, hv0]
    rfl
  have hN0 : ∀ x, ps[0]? = some x → N[0]? = some x := fun x hx => by
    have q : (N.take (ps.length + (["__class__"] : List Str).length))[0]? = some x := by
      rw [S.pre, List.getElem?_append_left hps]
      exact hx
    rw [List.getElem?_take_of_lt (by omega)] at q
    exact q
  refine ks_wpAt_execs_cons (ks_wpAt_mono (superInit (X := ncx CX P w K mg base N F f A outer s H E) (F := F) SC T rfl hg hks (S.frk _ (List.mem_singleton.mpr rfl)) (fun x hx => S.par x (List.mem_of_getElem? hx)) hN0 I hs0 ea ha hq (he _) (hst _) (hsw _) I.quiet) (fun fl s' hs => ?_) fun e s' hs => hs)
  obtain ⟨rfl, H', J, hR⟩ := hs
  refine wpAt_of_wpAny (wpAny_mono (ht.run [] _ _ H' _ J hR) (fun fl s' hs => ?_) fun e s' hs => hs)
  have fin : ∀ {σ' : L2.St} {H' : Hp} {v : V} {u : Value} {s' : Shared}, Inv (ncx CX P w K mg base N F f A outer s H E) [] σ' H' s' → L2.RelV v u → Q v H' → CE outer P w H s Q u s' :=
    fun {σ' H' v u s'} J rv q => ⟨v, H', J.os, J.bare, J.base, J.hok, rv, q⟩
  cases fl with
  | ret u =>
    obtain ⟨v, σ', H', J, rv, q⟩ := hs
    exact fin J rv q
  | next =>
    obtain ⟨σ', H', J, q⟩ := hs
    exact fin (v := V.non) (u := Value.none) J rfl q
  | brk =>
    obtain ⟨_, _, _, q⟩ := hs
    exact False.elim q
  | cont =>
    obtain ⟨_, _, _, q⟩ := hs
    exact False.elim q
end My
namespace My
open PySem PySem.Spec PyProof.Rows L2
def rIsD (K : PySem.W.Frag) (D a : Addr) (cls : Value) (d : Option Addr) : List V → Hp → VK → Prop := fun xs H Q => ∃ (c : V) (cv : Value) (b : Bool) (dd : Addr) (fs : List (Str × V)), xs = [.ref a, c] ∧ (∀ u, RelV c u → u = cv) ∧ cls = .ref D ∧ d = some dd ∧ H dd = some (.xd fs) ∧ PySem.W.kitOne K (.ref D) cv = some b ∧ Q (.bl b) H
theorem call_isD {X : Cx} {a D : Addr} {oe : Obj} {cls : Value} {d : Option Addr} {pn : List (Addr × Obj)} (C : ExcC X.K D) (hz : Zc cls d oe) (hf : ∃ vs, oe.data = .fields vs) : CallR (X.suite a ((a, oe) :: pn)) (.builtin "isinstance") (rIsD X.K D a cls d) := by
  intro pins s σ H xs us Q I r h
  obtain ⟨c, cv, b, dd, fs, rfl, hcv, ecl, ed, edd, e, q⟩ := h
  subst ecl
  subst ed
  cases r with
  | cons rx rr =>
    cases rr with
    | cons rt rr =>
      cases rr
      cases rx
      have ec := hcv _ rt
      subst ec
      obtain ⟨hget, _⟩ := I.pin (a, oe) (List.mem_append.mpr (.inl List.mem_cons_self))
      obtain ⟨vs, hv⟩ := hf
      have hx : ObjOk X.prog X.w H s.heap dd (.xd fs) := I.hok dd _ edd
      obtain ⟨mA, hns, hr⟩ := hx
      obtain ⟨od, ho, hl⟩ := lookIn_ns hns
      have J : PySem.W.InstAt s.heap a oe D (some od) := ⟨hget, hz.1, by unfold PySem.W.notCls; rw [hv] <;> rfl, by rw [hz.2]; exact ho⟩
      exact PySem.W.kia_one (PySem.W.kitx_exc (K := X.K) (C := D) (ox := oe) (od := some od) (by obtain ⟨cd, hc, _⟩ := PySem.W.any_some C.hd; rw [hc]; rfl) C.hg C.hk C.hs C.ha C.hn C.ht C.hm) I.kIn J e (fun z => nomatch z) fun tk => ⟨.bl b, H, I.kept (t' := tk) fun _ _ z => z, rfl, q⟩
/-- an own error class that may be made: C(..) -/
structure ErrAt (P : Program) (w : World) (K : PySem.W.Frag) (mg : Str → Option Value) (base : Heap) (lvl : Nat) (x : Str) (C : Addr) (ps : List Str) (sp : Sp) : Prop where
  cls : OexC K C
  glob : mg x = some (.ref C)
  ex : ∃ f fd, PySem.W.findIn K (.ref C) "__init__" = some (some (.ref f)) ∧ PySem.W.typeIn K (.ref f) = some (.type "function") ∧ FnOk P w K mg base CX0 lvl f fd ps sp ∧ Binds K fd ps []
theorem pmk_err {X : Cx} {lvl : Nat} {x : Str} {C : Addr} {ps : List Str} {sp : Sp} {p pos : Pos} {e : Expr} {es : List Expr} {ta : TA} (E : ErrAt X.prog X.w X.K X.mg X.base lvl x C ps sp) (hr : Room (lvl + 1) X.A) (hg : Gl X x) (ha : PA X (e :: es) ta)
    (hdb : (x == ("__debug__" : Str)) = false := by decide) (he : starEach (e :: es) X.env = (false, eval e X.env) :: starEach es X.env := by rfl) (hpl : (backTo pos (starEach es X.env)).any (·.1) = false := by rfl) :
    PMk X (.Call (.Name x p) (e :: es) [] pos) (tMkO C sp [] ta) := by
  obtain ⟨f, fd, h1, h2, F, hb⟩ := E.ex
  exact pmk_oex E.cls h1 h2 F hr hb .nil (fun _ _ _ _ _ _ _ h => h.elim) hg E.glob ha hdb he hpl
/-- a raising def called in a try -/
theorem pe_calS {X : Cx} {CX : CXT} {lvl : Nat} {x : Str} {ps : List Str} {sp : Sp} {E : L2.St → XK} {p pos : Pos} {e : Expr} {es : List Expr} {t : TA} (C : Cal X.prog X.w X.K X.mg X.base CX lvl x ps sp) (hr : Room lvl X.A) (hg : Gl X x) (hx : ∀ σ, PassesAt CX X σ (E σ)) (ha : PA X (e :: es) t)
    (hdb : (x == ("__debug__" : Str)) = false := by decide) (he : starEach (e :: es) X.env = (false, eval e X.env) :: starEach es X.env := by rfl) (hpl : (backTo pos (starEach es X.env)).any (·.1) = false := by rfl) :
    PE X (.Call (.Name x p) (e :: es) [] pos) (tCallS sp E t) := by
  obtain ⟨f, fd, F, hm, hk, hb⟩ := C.ex
  exact pe_callS F hr hg hm hk hb hx ha hdb he hpl
theorem DefAt.okX {P : Program} {w : World} {K : PySem.W.Frag} {mg : Str → Option Value} {base : Heap} {x : Str} {st : Stmt} {N ps : List Str} {k : Nat} {sp : Sp} (D : DefAt K mg x st ps) (S : FnScope N ps (defScope st)) (len : ∀ vs H Q E, sp vs H Q E → vs.length = ps.length)
    (hbody : ∀ (f : Addr) (cdv : Value) (A : Around) (outer : List Env) (s : Shared) (H : Hp) (vs : List V) (Q : VK) (E : XK), Room k (A.deeper (envOfC x (defScope st) s.heap.objs.size f cdv)) → sp vs H Q E →
      ∃ t, PSs (cxOf (L2.CX P w) P w K mg base N x (defScope st) f cdv A outer s H E) (defBody st) t ∧ t { nx := fun _ H' => Q .non H', rt := Q } (start N vs) H) : Cal P w K mg base (L2.CX P w) (k + 1) x ps sp := by
  obtain ⟨f, fd, F, hm, hb⟩ := D.ex
  exact ⟨f, fd, F.okX S len (hbody f), hm, F.kp, hb⟩
end My
/-! D1 -/
set_option Elab.async false
set_option linter.all false
set_option maxRecDepth 100000
set_option maxHeartbeats 4000000
namespace My
open PySem PySem.Spec PyProof.Rows L2
def topS (i : Nat) : Stmt := PySem.Challenge.pw_planassize_k56_values_and_ways_of_pictur.main.body.getD i (.Pass ⟨0, 0, 0, 0⟩)
abbrev s_law_draw : Stmt := topS 14
theorem sc_law_draw : FnScope ["d", "many", "told", "cell"] ["d", "many"] (defScope s_law_draw) := ⟨rfl, rfl, rfl, by decide +kernel, rfl, by decide +kernel, by decide +kernel⟩
structure Blt (mg : Str → Option Value) : Prop where
  isinstance : mg "isinstance" = none
  bool : mg "bool" = none
  list : mg "list" = none
  dict : mg "dict" = none
  tuple : mg "tuple" = none
  sorted : mg "sorted" = none
  all : mg "all" = none
  int : mg "int" = none
  len : mg "len" = none
  range : mg "range" = none
section
variable {P : Program} {w : World} {K : PySem.W.Frag} {mg : Str → Option Value} {base : Heap}
theorem g_cells {H : Hp} {a c : Addr} {at_ rest turn seed : Int} (h : H a = some (.dK (dkv c at_ rest turn seed))) : DGet H a (.str "cells") (some (.ref c)) := DGet.k (k := .inr "cells") h
theorem g_at {H : Hp} {a c : Addr} {at_ rest turn seed : Int} (h : H a = some (.dK (dkv c at_ rest turn seed))) : DGet H a (.str "at") (some (.int at_)) := DGet.k (k := .inr "at") h
theorem g_rest {H : Hp} {a c : Addr} {at_ rest turn seed : Int} (h : H a = some (.dK (dkv c at_ rest turn seed))) : DGet H a (.str "rest") (some (.int rest)) := DGet.k (k := .inr "rest") h
theorem g_turn {H : Hp} {a c : Addr} {at_ rest turn seed : Int} (h : H a = some (.dK (dkv c at_ rest turn seed))) : DGet H a (.str "turn") (some (.int turn)) := DGet.k (k := .inr "turn") h
theorem g_seed {H : Hp} {a c : Addr} {at_ rest turn seed : Int} (h : H a = some (.dK (dkv c at_ rest turn seed))) : DGet H a (.str "seed") (some (.int seed)) := DGet.k (k := .inr "seed") h
theorem p_at {H : Hp} {a c : Addr} {at_ rest turn seed z : Int} (h : H a = some (.dK (dkv c at_ rest turn seed))) : DPut H a (.str "at") (.int z) (upd H a (.dK (dkv c z rest turn seed))) := DPut.k (k := .inr "at") h (small1000 (by show 5 ≤ 1000; decide))
theorem p_rest {H : Hp} {a c : Addr} {at_ rest turn seed z : Int} (h : H a = some (.dK (dkv c at_ rest turn seed))) : DPut H a (.str "rest") (.int z) (upd H a (.dK (dkv c at_ z turn seed))) := DPut.k (k := .inr "rest") h (small1000 (by show 5 ≤ 1000; decide))
theorem p_turn {H : Hp} {a c : Addr} {at_ rest turn seed z : Int} (h : H a = some (.dK (dkv c at_ rest turn seed))) : DPut H a (.str "turn") (.int z) (upd H a (.dK (dkv c at_ rest z seed))) := DPut.k (k := .inr "turn") h (small1000 (by show 5 ≤ 1000; decide))
theorem p_seed {H : Hp} {a c : Addr} {at_ rest turn seed z : Int} (h : H a = some (.dK (dkv c at_ rest turn seed))) : DPut H a (.str "seed") (.int z) (upd H a (.dK (dkv c at_ rest turn z))) := DPut.k (k := .inr "seed") h (small1000 (by show 5 ≤ 1000; decide))
def spDraw : Sp := fun vs H Q _ => ∃ (S : Addr × List Int) (a : Addr) (many : Int), vs = [.ref a, .int many] ∧ Dst S H a ∧ 0 < many ∧ many < 1000000000 ∧ ∀ (H' : Hp) (v : Int), Sam a H H' → Dst S H' a → 0 ≤ v → v < many → Q (.int v) H'
theorem ok_draw (T : Blt mg) (D : DefAt K mg "_law_draw" s_law_draw ["d", "many"]) : Cal P w K mg base CX0 1 "_law_draw" ["d", "many"] spDraw := by
  refine D.ok sc_law_draw (fun vs H Q E h => ?_) (fun f cdv A outer s H vs Q E hr h => ?_)
  · obtain ⟨S, a, many, rfl, _⟩ := h
    rfl
  · obtain ⟨S, a, many, rfl, hd, h1, h2, q⟩ := h
    have hu := hu_of hr
    refine ⟨_, (pss_cons (ps_dput hu (pv 0) pe_str (pe_op op_add (pe_dget hu (pv 0) pe_str (fun _ _ => rfl)) pe_int) rfl)
      (pss_cons (ps_if (pt_cmpR op_gt (pe_dget hu (pv 0) pe_str (fun _ _ => rfl)) pe_int (nomark _))
          (pss_cons (ps_set (i := 2) sc_law_draw.nd rfl (by first | exact Or.inl rfl | exact Or.inr rfl) (pe_op op_mod (pe_callTy call_intI (by rfl) T.int (by decide +kernel) (pa_cons (pe_dget hu (pv 0) pe_str (fun _ _ => rfl)) pa_nil)) (pv 1)))
          (pss_cons (ps_dput hu (pv 0) pe_str (pe_op op_fdiv (pe_dget hu (pv 0) pe_str (fun _ _ => rfl)) (pv 1)) rfl)
          (pss_one (ps_ret (pv 2)))))
          pss_nil)
      (pss_cons (ps_if (pt_cmpR op_lt (pe_dget hu (pv 0) pe_str (fun _ _ => rfl)) (pe_callB (call_lenK K) (by rfl) T.len (by decide +kernel) (pa_cons (pe_dget hu (pv 0) pe_str (fun _ _ => rfl)) pa_nil)) (nomark _))
          (pss_cons (ps_set (i := 3) sc_law_draw.nd rfl (by first | exact Or.inl rfl | exact Or.inr rfl) (pe_ix (ix_listK K) (pe_dget hu (pv 0) pe_str (fun _ _ => rfl)) (pe_dget hu (pv 0) pe_str (fun _ _ => rfl)) (fun _ _ => rfl)))
          (pss_cons (ps_dput hu (pv 0) pe_str (pe_op op_add (pe_dget hu (pv 0) pe_str (fun _ _ => rfl)) pe_int) rfl)
          (pss_cons (ps_if (pt_cmpR op_ge (pv 3) (pe_op op_pow pe_int pe_int) (nomark _))
              (pss_cons (ps_dput hu (pv 0) pe_str (pe_op op_fdiv (pe_op op_fdiv (pv 3) pe_int) (pv 1)) rfl)
              (pss_one (ps_ret (pe_op op_mod (pe_callTy call_intI (by rfl) T.int (by decide +kernel) (pa_cons (pe_op op_fdiv (pv 3) pe_int) pa_nil)) (pv 1)))))
              pss_nil)
          (pss_one (ps_dput hu (pv 0) pe_str (pe_op op_mod (pe_callTy call_intI (by rfl) T.int (by decide +kernel) (pa_cons (pe_op op_add (pe_op op_add (pe_op op_mul (pe_dget hu (pv 0) pe_str (fun _ _ => rfl)) pe_int) (pv 3)) pe_int) pa_nil)) pe_int) rfl)))))
          pss_nil)
      (pss_cons (ps_set (i := 2) sc_law_draw.nd rfl (by first | exact Or.inl rfl | exact Or.inr rfl) (pe_op op_mod (pe_callTy call_intI (by rfl) T.int (by decide +kernel) (pa_cons (pe_op op_add (pe_op op_mul (pe_op op_add (pe_dget hu (pv 0) pe_str (fun _ _ => rfl)) (pe_op op_mul (pe_dget hu (pv 0) pe_str (fun _ _ => rfl)) pe_int)) pe_int) pe_int) pa_nil)) pe_int))
      (pss_cons (ps_set (i := 2) sc_law_draw.nd rfl (by first | exact Or.inl rfl | exact Or.inr rfl) (pe_op op_mod (pe_callTy call_intI (by rfl) T.int (by decide +kernel) (pa_cons (pe_op op_add (pe_op op_fdiv (pv 2) pe_int) (pe_op op_mul (pv 2) pe_int)) pa_nil)) pe_int))
      (pss_one (ps_ret (pe_op op_mod (pv 2) (pv 1))))))))), ?_⟩
    obtain ⟨c, cells⟩ := S
    obtain ⟨e2, hl, at_, rest, turn, seed, e1, h0⟩ := hd
    replace e1 : H a = some (.dK (dkv c at_ rest turn seed)) := e1
    replace e2 : H c = some (.lst (cells.map V.int)) := e2
    have fin : ∀ (at1 rest1 turn1 seed1 : Int) (H1 : Hp), Sam a H H1 → H1 a = some (.dK (dkv c at1 rest1 turn1 seed1)) → 0 ≤ at1 → ∀ z : Int, Q (.int (z % many)) H1 := fun at1 rest1 turn1 seed1 H1 sm ea h01 z =>
      q H1 (z % many) sm ⟨sm c _ (fun e => by rw [e, e1] at e2; cases e2) e2, hl, at1, rest1, turn1, seed1, ea, h01⟩ (Int.emod_nonneg _ (by omega)) (Int.emod_lt_of_pos _ h1)
    -- d["turn"] = d["turn"] + 1
    refine ⟨_, rfl, _, _, rfl, g_turn e1, _, _, rfl, rfl, _, rfl, _, _, rfl, p_turn e1, ?_⟩
    have f1 := upd_same (H := H) (a := a) (o := .dK (dkv c at_ rest (turn + 1) seed))
    have s1 : Sam a H (upd H a (.dK (dkv c at_ rest (turn + 1) seed))) := Sam.up
    generalize upd H a (.dK (dkv c at_ rest (turn + 1) seed)) = H1 at f1 s1
    have g1 : H1 c = some (.lst (cells.map V.int)) := s1 c _ (fun e => by rw [e, e1] at e2; cases e2) e2
    -- if d["rest"] > 0
    refine ⟨_, rfl, _, _, rfl, g_rest f1, _, _, rfl, rfl, _, rfl, ite2 (fun _ => ?_) (fun _ => ?_)⟩
    · refine ⟨_, rfl, _, _, rfl, g_rest f1, ⟨_, rfl, _, rfl, _, _, rfl, rfl, h1, ?_⟩⟩
      refine ⟨_, rfl, _, _, rfl, g_rest f1, _, rfl, _, _, rfl, rfl, ⟨h1, by omega⟩, _, rfl, _, _, rfl, p_rest f1, ?_⟩
      refine ⟨_, rfl, ?_⟩
      exact fin _ _ _ _ _ (s1.trans Sam.up) upd_same h0 _
    · -- if d["at"] < len(d["cells"])
      refine ⟨_, rfl, _, _, rfl, g_at f1, _, rfl, _, _, rfl, g_cells f1, _, _, rfl, .inl (SqL.of g1), _, _, rfl, rfl, _, rfl, ite2 (fun hlt => ?_) (fun _ => ?_)⟩
      · have hlt' : at_ < cells.length := by
          have := of_decide_eq_true hlt
          rw [List.length_map] at this
          exact this
        obtain ⟨n, rfl⟩ : ∃ n : Nat, at_ = n := ⟨at_.toNat, by omega⟩
        have hn : n < cells.length := by omega
        refine ⟨_, rfl, _, _, rfl, g_cells f1, _, rfl, _, _, rfl, g_at f1, _, _, _, .int cells[n], rfl, rfl, SqL.of g1, atI_nat (by rw [List.getElem?_map, List.getElem?_eq_getElem hn]; rfl), ?_⟩
        refine ⟨_, rfl, _, _, rfl, g_at f1, _, _, rfl, rfl, _, rfl, _, _, rfl, p_at f1, ?_⟩
        have f2 := upd_same (H := H1) (a := a) (o := .dK (dkv c ((n : Int) + 1) rest (turn + 1) seed))
        have s2 : Sam a H (upd H1 a (.dK (dkv c ((n : Int) + 1) rest (turn + 1) seed))) := s1.trans Sam.up
        generalize upd H1 a (.dK (dkv c ((n : Int) + 1) rest (turn + 1) seed)) = H2 at f2 s2
        refine ⟨_, rfl, _, _, rfl, rfl, ⟨by decide, by decide, by decide⟩, _, _, rfl, rfl, _, rfl, ite2 (fun _ => ?_) (fun _ => ?_)⟩
        · refine ⟨_, rfl, _, _, rfl, rfl, ⟨by decide, by decide⟩, _, rfl, _, _, rfl, rfl, ⟨h1, by omega⟩, _, rfl, _, _, rfl, p_rest f2, ?_⟩
          refine ⟨_, rfl, _, _, rfl, rfl, ⟨by decide, by decide⟩, ⟨_, rfl, _, rfl, _, _, rfl, rfl, h1, ?_⟩⟩
          exact fin _ _ _ _ _ (s2.trans Sam.up) upd_same (by omega) _
        · refine ⟨_, rfl, _, _, rfl, g_seed f2, _, _, rfl, rfl, .inr ⟨by decide, by decide⟩, _, rfl, _, _, rfl, rfl, _, _, rfl, rfl, ⟨_, rfl, _, _, rfl, rfl, (by show (0 : Int) < _; decide), _, rfl, _, _, rfl, p_seed f2, ?_⟩⟩
          have f3 := upd_same (H := H2) (a := a) (o := .dK (dkv c ((n : Int) + 1) rest (turn + 1) ((seed * 1009 + cells[n] + 1) % 1000000007)))
          have s3 : Sam a H (upd H2 a (.dK (dkv c ((n : Int) + 1) rest (turn + 1) ((seed * 1009 + cells[n] + 1) % 1000000007)))) := s2.trans Sam.up
          generalize upd H2 a (.dK (dkv c ((n : Int) + 1) rest (turn + 1) ((seed * 1009 + cells[n] + 1) % 1000000007))) = H3 at f3 s3
          refine ⟨_, rfl, _, _, rfl, g_seed f3, _, rfl, _, _, rfl, g_turn f3, _, _, rfl, rfl, .inr ⟨by decide, by decide⟩, _, _, rfl, rfl, _, _, rfl, rfl, .inr ⟨by decide, by decide⟩, _, _, rfl, rfl, ⟨_, rfl, _, _, rfl, rfl, (by show (0 : Int) < _; decide), ?_⟩⟩
          refine ⟨_, rfl, _, _, rfl, rfl, ⟨by decide, by decide⟩, _, rfl, _, _, rfl, rfl, .inr ⟨by decide, by decide⟩, _, _, rfl, rfl, ⟨_, rfl, _, _, rfl, rfl, (by show (0 : Int) < _; decide), ?_⟩⟩
          exact ⟨_, rfl, _, rfl, _, _, rfl, rfl, h1, fin _ _ _ _ _ s3 f3 (by omega) _⟩
      · refine ⟨_, rfl, _, _, rfl, g_seed f1, _, rfl, _, _, rfl, g_turn f1, _, _, rfl, rfl, .inr ⟨by decide, by decide⟩, _, _, rfl, rfl, _, _, rfl, rfl, .inr ⟨by decide, by decide⟩, _, _, rfl, rfl, ⟨_, rfl, _, _, rfl, rfl, (by show (0 : Int) < _; decide), ?_⟩⟩
        refine ⟨_, rfl, _, _, rfl, rfl, ⟨by decide, by decide⟩, _, rfl, _, _, rfl, rfl, .inr ⟨by decide, by decide⟩, _, _, rfl, rfl, ⟨_, rfl, _, _, rfl, rfl, (by show (0 : Int) < _; decide), ?_⟩⟩
        exact ⟨_, rfl, _, rfl, _, _, rfl, rfl, h1, fin _ _ _ _ _ s1 f1 h0 _⟩
end
end My
/-! D2 -/
set_option Elab.async false
set_option linter.all false
set_option maxRecDepth 100000
set_option maxHeartbeats 4000000
namespace My
open PySem PySem.Spec PyProof.Rows L2
local macro_rules | `(tactic| walk_at "ne") => `(tactic| first | assumption | (apply Ne.symm; assumption) | (apply ne_of_none <;> assumption) | (apply Ne.symm; apply ne_of_none <;> assumption) | (grind [upd]))
local macro_rules | `(tactic| walk_at "hp") => `(tactic| first
  | assumption
  | exact upd_same
  | ((apply Same.at; focus assumption); (walk_at "hp"))
  | ((apply Same.at; focus (apply Same.new; assumption)); (walk_at "hp"))
  | ((apply upd_at; focus (walk_at "hp")); (walk_at "ne")))
local macro_rules | `(tactic| walk_at "sq") => `(tactic| first
  | assumption
  | (apply SqL.of; (walk_at "hp"))
  | (apply SqT.of; (walk_at "hp"))
  | ((apply Same.seq; focus assumption); (walk_at "sq"))
  | ((apply Same.set; focus assumption); (walk_at "sq"))
  | (apply Sam.seq; (focus assumption); (focus assumption); (walk_at "sq"))
  | (apply Sam.set; (focus assumption); (focus assumption); (walk_at "sq"))
  | ((apply Same.seq; focus (apply Same.new; assumption)); (walk_at "sq"))
  | ((apply Same.set; focus (apply Same.new; assumption)); (walk_at "sq")))
local macro_rules | `(tactic| walk_at "sz") => `(tactic| (first | (apply small1000) | (apply smallL)) <;> (try simp only [List.length_map, List.length_append, List.length_cons, List.length_nil, List.length_take]; omega))
local macro_rules | `(tactic| walk_at "cl") => `(tactic| first
  | rfl
  | ((with_reducible show SqL _ _ _ _); (walk_at "sq"))
  | ((with_reducible show SqT _ _ _ _); (walk_at "sq"))
  | ((with_reducible show SqL _ _ _ _ ∨ SqT _ _ _ _); first | (apply Or.inl; (walk_at "sq")) | (apply Or.inr; (walk_at "sq")))
  | ((with_reducible show tyV _ _ _ _); apply Or.inl; apply And.intro; (focus rfl); apply Exists.intro; (walk_at "sq"))
  | ((with_reducible show _ = Option.some _); (walk_at "hp"))
  | ((with_reducible show Exists _); apply Exists.intro; (walk_at "sq"))
  | assumption
  | ((show (0 : Int) < _); first | assumption | decide)
  | ((with_reducible show CMul _ _); first | (apply Or.inl; apply And.intro <;> decide) | (apply Or.inr; apply And.intro <;> decide))
  | ((with_reducible show CDiv _ _); apply And.intro <;> decide)
  | ((with_reducible show List.length _ < sizeLine); (walk_at "sz"))
  | ((with_reducible show List.length _ ≤ sizeLine); (walk_at "sz")))
local macro_rules | `(tactic| walk_at "rd") => `(tactic| repeat' (first
  | (apply Exists.intro)
  | (apply And.intro; focus (walk_at "cl"))))

abbrev s_law_begin : Stmt := topS 13
theorem sc_law_begin : FnScope ["script", "cells", "cell"] ["script"] (defScope s_law_begin) := ⟨rfl, rfl, rfl, by decide +kernel, rfl, by decide +kernel, by decide +kernel⟩
abbrev s_law_pick : Stmt := topS 15
theorem sc_law_pick : FnScope ["d", "row"] ["d", "row"] (defScope s_law_pick) := ⟨rfl, rfl, rfl, by decide +kernel, rfl, by decide +kernel, by decide +kernel⟩
section
variable {P : Program} {w : World} {K : PySem.W.Frag} {mg : Str → Option Value} {base : Heap}
def spBegin (K : PySem.W.Frag) : Sp := fun vs H Q _ => ∃ (a : Addr) (ns : List Int), vs = [.ref a] ∧ SqL K H a (ns.map V.int) ∧ ns.length ≤ 63 ∧ ∀ (H' : Hp) (p : Addr), Same H H' → H p = none → (∃ S, Dst S H' p) → Q (.ref p) H'
theorem ok_begin (T : Blt mg) (D : DefAt K mg "_law_begin" s_law_begin ["script"]) : Cal P w K mg base CX0 1 "_law_begin" ["script"] (spBegin K) := by
  refine D.ok sc_law_begin (fun vs H Q E h => ?_) (fun f cdv A outer s H vs Q E hr h => ?_)
  · obtain ⟨a, ns, rfl, _⟩ := h
    rfl
  · obtain ⟨a, ns, rfl, hS, hl, q⟩ := h
    have hu := hu_of hr
    refine ⟨_, (pss_cons (ps_set (i := 1) sc_law_begin.nd rfl (by first | exact Or.inl rfl | exact Or.inr rfl) (pe_lst pa_nil))
      (pss_cons (ps_forM PassesOwn.never rfl (pi_listK K (pe_slice (sl_listK K) (pv 0) po_none (po_some pe_int))) (pg_name (i := 2) sc_law_begin.nd rfl (by first | exact Or.inl rfl | exact Or.inr rfl))
          (pss_one (ps_expr (pe_bmK K PySem.F.plainAttrs_list PySem.F.slot_list_append PySem.F.type_list_append mt_append (pv 1) (pa_cons (pe_ifExp (pt_cmpR op_ge (pv 2) pe_int (nomark _)) (pe_op op_mul pe_int (pv 2)) (pe_op op_add (pe_op op_mul (pe_un un_neg pe_int) (pv 2)) pe_int)) pa_nil)))))
      (pss_one (ps_ret (pe_disp (pps_cons pe_str (pv 1) (pps_cons pe_str pe_int (pps_cons pe_str pe_int (pps_cons pe_str pe_int (pps_cons pe_str pe_int pps_nil))))) (by rfl) (by rfl) (fun z => by cases z) (by decide)))))), ?_⟩
    refine ⟨Nat.zero_le _, fun o no => ?_⟩
    walk_at "rd"
    intro p np
    have ew : cutV (ns.map V.int) none (some 63) = ns.map V.int := (cutV_to _ 63).trans (List.take_of_length_le (by rw [List.length_map]; exact hl))
    rw [ew]
    have s0 : Same H (upd (upd H o (.lst [])) p (.lst (ns.map V.int))) := (Same.new no).trans (Same.new np)
    have npo : p ≠ o := fun e => by rw [e, upd_same] at np; cases np
    have np0 : H p = none := by rw [upd_ne npo] at np; exact np
    have eo : upd (upd H o (.lst [])) p (.lst (ns.map V.int)) o = some (.lst (([] : List Int).map V.int)) := by rw [upd_ne npo.symm, upd_same]; rfl
    have ep : upd (upd H o (.lst [])) p (.lst (ns.map V.int)) p = some (.lst (ns.map V.int)) := upd_same
    generalize upd (upd H o (.lst [])) p (.lst (ns.map V.int)) = H1 at s0 eo ep
    walk_at "rd"
    refine loop_ints (K := K) (ns := ns) (fun i σ H2 => ∃ y zs, σ = [some (.ref a), some (.ref o), y] ∧ Same H H2 ∧ H2 p = some (.lst (ns.map V.int)) ∧ H2 o = some (.lst ((zs : List Int).map V.int)) ∧ zs.length ≤ i)
      ⟨none, [], rfl, s0, ep, eo, Nat.le_refl _⟩ (fun i σ H2 _ ⟨_, _, _, _, e, _⟩ => SqL.of e) ?_ ?_
    · rintro i n σ H2 hi ⟨y, zs, rfl, s2, e2, e3, hz⟩
      have hil : i < ns.length := (List.getElem?_eq_some_iff.mp hi).1
      walk_at "rd"
      have fin : ∀ z : Int, ∃ y' zs', ([some (.ref a), some (.ref o), y] : L2.St).set 2 (some (.int n)) = [some (.ref a), some (.ref o), y'] ∧ Same H (upd H2 o (.lst (zs.map V.int ++ [.int z]))) ∧ upd H2 o (.lst (zs.map V.int ++ [.int z])) p = some (.lst (ns.map V.int)) ∧ upd H2 o (.lst (zs.map V.int ++ [.int z])) o = some (.lst ((zs' : List Int).map V.int)) ∧ zs'.length ≤ i + 1 := fun z =>
        ⟨_, zs ++ [z], rfl, s2.mut no, (by rw [upd_ne npo]; exact e2), (by rw [upd_same, List.map_append]; rfl), (by rw [List.length_append]; show zs.length + 1 ≤ _; omega)⟩
      refine ite2 (fun _ => ?_) (fun _ => ?_) <;> walk_at "rd"
      all_goals exact Box.mk (fin _)
    · rintro σ H2 ⟨y, zs, rfl, s2, e2, e3, hz⟩
      intro r nr
      refine ⟨_, rfl, upd_same, dkv o 0 0 0 1, rfl, (by show 5 ≤ 15; decide), ?_⟩
      rw [upd_upd]
      exact q _ r (s2.trans (Same.new nr)) (s2.free nr) ⟨(o, zs), Same.new nr _ _ e3, (by show zs.length ≤ 100; omega), 0, 0, 0, 1, upd_same, Int.le_refl _⟩
def spPick (K : PySem.W.Frag) : Sp := fun vs H Q _ => ∃ (S : Addr × List Int) (a r : Addr) (xs : List V), vs = [.ref a, .ref r] ∧ Dst S H a ∧ (SqL K H r xs ∨ SqT K H r xs) ∧ 0 < xs.length ∧ xs.length ≤ 1000 ∧ ∀ (H' : Hp) (v : V), Sam a H H' → Dst S H' a → v ∈ xs → Q v H'
theorem ok_pick (T : Blt mg) (C_law_draw : Cal P w K mg base CX0 1 "_law_draw" ["d", "many"] spDraw) (D : DefAt K mg "_law_pick" s_law_pick ["d", "row"]) : Cal P w K mg base CX0 2 "_law_pick" ["d", "row"] (spPick K) := by
  refine D.ok sc_law_pick (fun vs H Q E h => ?_) (fun f cdv A outer s H vs Q E hr h => ?_)
  · obtain ⟨S, a, r, xs, rfl, _⟩ := h
    rfl
  · obtain ⟨S, a, r, xs, rfl, hd, hS, h0, hl, q⟩ := h
    have hu := hu_of hr
    refine ⟨_, (pss_one (ps_ret (pe_ix (ix_seqK K) (pv 1) (pe_cal C_law_draw (hr.mono (by decide)) (by rfl) (pa_cons (pv 0) (pa_cons (pe_callB (call_lenK K) (by rfl) T.len (by decide +kernel) (pa_cons (pv 1) pa_nil)) pa_nil))) (fun _ _ => rfl)))), ?_⟩
    obtain ⟨k, hk⟩ := hd.dk
    refine ⟨_, rfl, _, rfl, _, rfl, r, xs, rfl, hS, S, a, _, rfl, hd, by omega, by omega, fun H' v sm hd' hv0 hv => ?_⟩
    obtain ⟨n, rfl⟩ : ∃ n : Nat, v = n := ⟨v.toNat, by omega⟩
    have hn : n < xs.length := by omega
    rcases hS with hS | hS
    · exact .inl ⟨r, xs, _, xs[n], rfl, rfl, sm.seq hk hS, atI_nat (List.getElem?_eq_getElem hn), q _ _ sm hd' (List.getElem_mem hn)⟩
    · exact .inr (.inl ⟨r, xs, _, xs[n], rfl, rfl, sm.set hk hS, atI_nat (List.getElem?_eq_getElem hn), q _ _ sm hd' (List.getElem_mem hn)⟩)
end
end My
/-! D3 -/
set_option Elab.async false
set_option linter.all false
set_option maxRecDepth 100000
set_option maxHeartbeats 4000000
namespace My
open PySem PySem.Spec PyProof.Rows L2
local macro_rules | `(tactic| walk_at "ne") => `(tactic| first | assumption | (apply Ne.symm; assumption) | (apply ne_of_none <;> assumption) | (apply Ne.symm; apply ne_of_none <;> assumption) | (grind [upd]))
local macro_rules | `(tactic| walk_at "hp") => `(tactic| first
  | assumption
  | exact upd_same
  | ((apply Same.at; focus assumption); (walk_at "hp"))
  | ((apply Same.at; focus (apply Same.new; assumption)); (walk_at "hp"))
  | ((apply upd_at; focus (walk_at "hp")); (walk_at "ne")))
local macro_rules | `(tactic| walk_at "sq") => `(tactic| first
  | assumption
  | (apply SqL.of; (walk_at "hp"))
  | (apply SqT.of; (walk_at "hp"))
  | ((apply Same.seq; focus assumption); (walk_at "sq"))
  | ((apply Same.set; focus assumption); (walk_at "sq"))
  | (apply Sam.seq; (focus assumption); (focus assumption); (walk_at "sq"))
  | (apply Sam.set; (focus assumption); (focus assumption); (walk_at "sq"))
  | ((apply Same.seq; focus (apply Same.new; assumption)); (walk_at "sq"))
  | ((apply Same.set; focus (apply Same.new; assumption)); (walk_at "sq")))
local macro_rules | `(tactic| walk_at "sz") => `(tactic| (first | (apply small1000) | (apply smallL)) <;> (try simp only [List.length_map, List.length_append, List.length_cons, List.length_nil, List.length_take]; omega))
local macro_rules | `(tactic| walk_at "cl") => `(tactic| first
  | rfl
  | ((with_reducible show SqL _ _ _ _); (walk_at "sq"))
  | ((with_reducible show SqT _ _ _ _); (walk_at "sq"))
  | ((with_reducible show SqL _ _ _ _ ∨ SqT _ _ _ _); first | (apply Or.inl; (walk_at "sq")) | (apply Or.inr; (walk_at "sq")))
  | ((with_reducible show tyV _ _ _ _); apply Or.inl; apply And.intro; (focus rfl); apply Exists.intro; (walk_at "sq"))
  | ((with_reducible show _ = Option.some _); (walk_at "hp"))
  | ((with_reducible show Exists _); apply Exists.intro; (walk_at "sq"))
  | assumption
  | ((show (0 : Int) < _); first | assumption | decide)
  | ((with_reducible show CMul _ _); first | (apply Or.inl; apply And.intro <;> decide) | (apply Or.inr; apply And.intro <;> decide))
  | ((with_reducible show CDiv _ _); apply And.intro <;> decide)
  | ((with_reducible show List.length _ < sizeLine); (walk_at "sz"))
  | ((with_reducible show List.length _ ≤ sizeLine); (walk_at "sz")))
local macro_rules | `(tactic| walk_at "rd") => `(tactic| repeat' (first
  | (apply Exists.intro)
  | (apply And.intro; focus (walk_at "cl"))))

abbrev s_law_is_int : Stmt := topS 16
theorem sc_law_is_int : FnScope ["thing"] ["thing"] (defScope s_law_is_int) := ⟨rfl, rfl, rfl, by decide +kernel, rfl, by decide +kernel, by decide +kernel⟩
abbrev s_law_some : Stmt := topS 17
theorem sc_law_some : FnScope ["d", "row", "least", "told", "thing"] ["d", "row", "least"] (defScope s_law_some) := ⟨rfl, rfl, rfl, by decide +kernel, rfl, by decide +kernel, by decide +kernel⟩
abbrev s_law_mixed : Stmt := topS 18
theorem sc_law_mixed : FnScope ["d", "row", "left", "told", "turn"] ["d", "row"] (defScope s_law_mixed) := ⟨rfl, rfl, rfl, by decide +kernel, rfl, by decide +kernel, by decide +kernel⟩
abbrev s_law_unlike : Stmt := topS 19
theorem sc_law_unlike : FnScope ["row", "told", "thing"] ["row"] (defScope s_law_unlike) := ⟨rfl, rfl, rfl, by decide +kernel, rfl, by decide +kernel, by decide +kernel⟩
section
variable {P : Program} {w : World} {K : PySem.W.Frag} {mg : Str → Option Value} {base : Heap}
def spIsInt : Sp := fun vs H Q _ => ∃ (i : Int), vs = [.int i] ∧ Q (.bl true) H
theorem ok_is_int (T : Blt mg) (D : DefAt K mg "_law_is_int" s_law_is_int ["thing"]) : Cal P w K mg base CX0 1 "_law_is_int" ["thing"] spIsInt := by
  refine D.ok sc_law_is_int (fun vs H Q E h => ?_) (fun f cdv A outer s H vs Q E hr h => ?_)
  · obtain ⟨i, rfl, _⟩ := h
    rfl
  · obtain ⟨i, rfl, q⟩ := h
    have hu := hu_of hr
    refine ⟨_, (pss_one (ps_ret (pe_and (pe_callB (call_isiK' K) (by rfl) T.isinstance (by decide +kernel) (pa_cons (pv 0) (pa_cons (pe_bltn (v := .ty "int") (by rfl) T.int (by decide +kernel) rfl) pa_nil))) (pe_one (pe_not (pe_callB (call_isiK' K) (by rfl) T.isinstance (by decide +kernel) (pa_cons (pv 0) (pa_cons (pe_bltn (v := .ty "bool") (by rfl) T.bool (by decide +kernel) rfl) pa_nil)))))))), ?_⟩
    refine ⟨_, rfl, .int i, .ty "int", .type "int", .type "int", true, rfl, .ty _, .base (.int i), kit_ty (by decide +kernel), true, rfl, iteT ?_⟩
    exact ⟨_, rfl, .int i, .ty "bool", .type "int", .type "bool", false, rfl, .ty _, .base (.int i), kit_ty (by decide +kernel), false, rfl, q⟩
def spSome (K : PySem.W.Frag) : Sp := fun vs H Q _ => ∃ (S : Addr × List Int) (a r : Addr) (ns : List Int), vs = [.ref a, .ref r, .int 0] ∧ Dst S H a ∧ SqL K H r (ns.map V.int) ∧ ns.length ≤ 1000 ∧ ∀ (H' : Hp) (p : Addr) (ns' : List Int), Sam a H H' → Dst S H' a → H p = none → H' p = some (.lst (ns'.map V.int)) → ns'.Sublist ns → Q (.ref p) H'
theorem ok_some (T : Blt mg) (C_law_draw : Cal P w K mg base CX0 1 "_law_draw" ["d", "many"] spDraw) (D : DefAt K mg "_law_some" s_law_some ["d", "row", "least"]) : Cal P w K mg base CX0 2 "_law_some" ["d", "row", "least"] (spSome K) := by
  refine D.ok sc_law_some (fun vs H Q E h => ?_) (fun f cdv A outer s H vs Q E hr h => ?_)
  · obtain ⟨S, a, r, ns, rfl, _⟩ := h
    rfl
  · obtain ⟨S, a, r, ns, rfl, hd, hS, hl, q⟩ := h
    have hu := hu_of hr
    refine ⟨_, (pss_cons (ps_set (i := 3) sc_law_some.nd rfl (by first | exact Or.inl rfl | exact Or.inr rfl) (pe_lcM (own := [("thing", 4)]) (g := gName 4) rfl sc_law_some.nd (pi_listK K (pv 1)) (blkOk_by (N := ["d", "row", "least", "told", "thing"]) (sc := defScope s_law_some) (by decide +kernel)) (fun _ _ _ _ _ => pg_name (i := 4) sc_law_some.nd rfl (Or.inl rfl)) (fun _ _ _ _ _ => pts_one (pt_cmpR op_eq (pe_cal C_law_draw (hr.mono (by decide)) (by rfl) (pa_cons (pv 0) (pa_cons pe_int pa_nil))) pe_int (nomark _))) (fun _ _ _ _ _ => (pv 4))))
      (pss_cons (ps_forM PassesOwn.never rfl (pi_listK K (pv 1)) (pg_name (i := 4) sc_law_some.nd rfl (by first | exact Or.inl rfl | exact Or.inr rfl))
          (pss_one (ps_if (PW.pt (pw_and (pt_cmpR op_lt (pe_callB (call_lenK K) (by rfl) T.len (by decide +kernel) (pa_cons (pv 3) pa_nil)) (pv 2) (nomark _)) (pw_and1 (pt_cmpR (op_notIn_seqK K) (pv 4) (pv 3) (by with_unfolding_all rfl)))))
              (pss_one (ps_expr (pe_bmK K PySem.F.plainAttrs_list PySem.F.slot_list_append PySem.F.type_list_append mt_append (pv 3) (pa_cons (pv 4) pa_nil))))
              pss_nil)))
      (pss_one (ps_ret (pe_lcM (own := [("thing", 4)]) (g := gName 4) rfl sc_law_some.nd (pi_listK K (pv 1)) (blkOk_by (N := ["d", "row", "least", "told", "thing"]) (sc := defScope s_law_some) (by decide +kernel)) (fun _ _ _ _ _ => pg_name (i := 4) sc_law_some.nd rfl (Or.inl rfl)) (fun _ _ _ _ _ => pts_one (pt_cmpR (op_in_seqK K) (pv 4) (pv 3) (by with_unfolding_all rfl))) (fun _ _ _ _ _ => (pv 4))))))), ?_⟩
    obtain ⟨k, hk⟩ := hd.dk
    walk_at "rd"
    refine comp_list (xs := ns.map V.int) (fun D i H' => Sam a H H' ∧ Dst S H' a ∧ ∃ zs : List Int, H' D = some (.lst (zs.map V.int)) ∧ zs.length ≤ i)
      (fun D hD => ⟨(Same.new hD).sam, hd.same (Same.new hD), [], upd_same, Nat.le_refl _⟩) (fun D i H' _ _ h => h.1.seq hk hS) ?_ ?_
    · rintro D i x H1 hD hi ⟨s1, d1, zs, e1, hz⟩
      obtain ⟨hil, ei⟩ := List.getElem?_eq_some_iff.mp hi
      rw [List.getElem_map] at ei
      subst ei
      rw [List.length_map] at hil
      refine ⟨rfl, _, rfl, S, a, 2, rfl, d1, by decide, by decide, fun H2 v s2 d2 _ _ => ?_⟩
      have nDa : D ≠ a := fun e => by subst e; rw [hD] at hk; cases hk
      have e2 := s2 D _ nDa e1
      refine ⟨rfl, _, rfl, ite2 (fun _ => ?_) (fun _ => Box.mk ⟨s1.trans s2, d2, zs, e2, by omega⟩)⟩
      refine ⟨_, rfl, _, e2, ?_, Box.mk ⟨?_, ?_, zs ++ [ns[i]], ?_, ?_⟩⟩
      · rw [List.length_map]
        exact small1000 (by omega)
      · exact (s1.trans s2).mut hD
      · exact d2.mut hd hD
      · rw [upd_same, List.map_append]
        rfl
      · rw [List.length_append]
        show zs.length + 1 ≤ _
        omega
    · rintro D H1 hD ⟨s1, d1, zs, e1, hz⟩
      rw [List.length_map] at hz
      walk_at "rd"
      refine loop_ints (K := K) (ns := ns) (fun i σ H2 => (∃ y, σ = [some (.ref a), some (.ref r), some (.int 0), some (.ref D), y]) ∧ H2 = H1) ⟨⟨none, rfl⟩, rfl⟩ (fun i σ H2 _ h => h.2 ▸ s1.seq hk hS) ?_ ?_
      · rintro i n σ H2 hi ⟨⟨y, rfl⟩, rfl⟩
        walk_at "rd"
        rw [show decide (((zs.map V.int).length : Int) < 0) = false from decide_eq_false (by omega)]
        exact iteF (Box.mk ⟨⟨_, rfl⟩, rfl⟩)
      · rintro σ H2 ⟨⟨y, rfl⟩, rfl⟩
        walk_at "rd"
        have hl2 : zs.length ≤ 1000 := by omega
        refine comp_ints (fun n => inV (.int n) (zs.map V.int)) V.int (s1.seq hk hS) hl (fun n => rfl) (fun n _ H3 s3 R q3 => ?_) (fun n _ _ H3 s3 R q3 => ⟨_, rfl, q3⟩) (fun D' H3 hD' s3 e3 => ?_)
        · exact ⟨_, rfl, _, rfl, D, zs.map V.int, rfl, .inl (SqL.of (s3 _ _ e1)), rfl, by rw [List.all_map]; exact List.all_eq_true.mpr fun _ _ => rfl, _, rfl, q3⟩
        · have hD0 : H D' = none := s1.free hD' (fun e => by subst e; obtain ⟨k2, hk2⟩ := d1.dk; rw [hD'] at hk2; cases hk2)
          exact q H3 D' _ (s1.thenSame s3) (d1.same s3) hD0 e3 List.filter_sublist
def spMixed (K : PySem.W.Frag) : Sp := fun vs H Q _ => ∃ (S : Addr × List Int) (a r : Addr) (xs : List V), vs = [.ref a, .ref r] ∧ Dst S H a ∧ SqL K H r xs ∧ xs.length ≤ 1000 ∧ ∀ (H' : Hp) (p : Addr) (ys : List V), Sam a H H' → Dst S H' a → H p = none → H' p = some (.lst ys) → ys.Perm xs → Q (.ref p) H'
theorem ok_mixed (T : Blt mg) (C_law_draw : Cal P w K mg base CX0 1 "_law_draw" ["d", "many"] spDraw) (D : DefAt K mg "_law_mixed" s_law_mixed ["d", "row"]) : Cal P w K mg base CX0 2 "_law_mixed" ["d", "row"] (spMixed K) := by
  refine D.ok sc_law_mixed (fun vs H Q E h => ?_) (fun f cdv A outer s H vs Q E hr h => ?_)
  · obtain ⟨S, a, r, ns, rfl, _⟩ := h
    rfl
  · obtain ⟨S, a, r, xs, rfl, hd, hS, hl, q⟩ := h
    have hu := hu_of hr
    refine ⟨_, (pss_cons (ps_set (i := 2) sc_law_mixed.nd rfl (by first | exact Or.inl rfl | exact Or.inr rfl) (pe_callTy (call_listK K) (by rfl) T.list (by decide +kernel) (pa_cons (pv 1) pa_nil)))
      (pss_cons (ps_set (i := 3) sc_law_mixed.nd rfl (by first | exact Or.inl rfl | exact Or.inr rfl) (pe_lst pa_nil))
      (pss_cons (ps_forM PassesOwn.never rfl (pi_range1 (by rfl) T.range (pa_cons (pe_callB (call_lenK K) (by rfl) T.len (by decide +kernel) (pa_cons (pv 1) pa_nil)) pa_nil)) (pg_name (i := 4) sc_law_mixed.nd rfl (by first | exact Or.inl rfl | exact Or.inr rfl))
          (pss_one (ps_expr (pe_bmK K PySem.F.plainAttrs_list PySem.F.slot_list_append PySem.F.type_list_append mt_append (pv 3) (pa_cons (pe_bmK K PySem.F.plainAttrs_list PySem.F.slot_list_pop PySem.F.type_list_pop mt_popAt (pv 2) (pa_cons (pe_cal C_law_draw (hr.mono (by decide)) (by rfl) (pa_cons (pv 0) (pa_cons (pe_callB (call_lenK K) (by rfl) T.len (by decide +kernel) (pa_cons (pv 2) pa_nil)) pa_nil))) pa_nil)) pa_nil)))))
      (pss_one (ps_ret (pv 3)))))), ?_⟩
    obtain ⟨k, hk⟩ := hd.dk
    refine ⟨_, rfl, r, xs, rfl, .inl hS, fun l nl => ?_⟩
    refine ⟨Nat.zero_le _, fun t nt => ?_⟩
    have ntl : l ≠ t := fun e => by subst e; rw [upd_same] at nt; cases nt
    have nt0 : H t = none := by rw [upd_ne ntl.symm] at nt; exact nt
    refine ⟨_, rfl, r, xs, rfl, .inl ((Same.new nt).seq ((Same.new nl).seq hS)), _, rfl, by omega, by omega, ?_⟩
    refine loop_range (fun i σ H1 => (∃ y, σ = [some (.ref a), some (.ref r), some (.ref l), some (.ref t), y]) ∧ Sam a H H1 ∧ Dst S H1 a ∧ ∃ ls ts, H1 l = some (.lst ls) ∧ H1 t = some (.lst ts) ∧ (ls ++ ts).Perm xs ∧ ts.length = i)
      ⟨⟨none, rfl⟩, ((Same.new nl).trans (Same.new nt)).sam, (hd.new nl).new nt, xs, [], (by rw [upd_ne ntl]; exact upd_same), upd_same, by rw [List.append_nil], rfl⟩ ?_ ?_
    · rintro i σ H1 hi ⟨⟨y, rfl⟩, s1, d1, ls, ts, e1, e2, hp, ht⟩
      have hlen : ls.length + ts.length = xs.length := by rw [← List.length_append]; exact hp.length_eq
      refine ⟨_, rfl, .inl ⟨rfl, _, SqL.of e2⟩, _, rfl, .inl ⟨rfl, _, SqL.of e1⟩, ?_⟩
      refine ⟨_, rfl, _, rfl, l, ls, rfl, .inl (SqL.of e1), S, a, _, rfl, d1, by omega, by omega, fun H2 v s2 d2 v0 vl => ?_⟩
      obtain ⟨n, rfl⟩ : ∃ n : Nat, v = n := ⟨v.toNat, by omega⟩
      have hn : n < ls.length := by omega
      have f1 := s2 l _ (hd.ne nl) e1
      have f2 := s2 t _ (hd.ne nt0) e2
      refine ⟨l, ls, n, n, ls[n], rfl, rfl, f1, by omega, by omega, (ixN_seq (by unfold ixN; rw [if_pos (by omega), if_pos (by omega)]; rfl)).1, List.getElem?_eq_getElem hn, ?_⟩
      refine ⟨t, ts, ls[n], rfl, rfl, (by rw [upd_ne ntl.symm]; exact f2), small1000 (by omega), Box.mk ?_⟩
      refine ⟨⟨_, rfl⟩, ((s1.trans s2).mut nl).mut nt0, (d2.mut hd nl).mut hd nt0, ls.eraseIdx n, ts ++ [ls[n]], (by rw [upd_ne ntl]; exact upd_same), upd_same, ?_, by rw [List.length_append, ht]; rfl⟩
      refine List.Perm.trans ?_ hp
      rw [← List.append_assoc]
      refine (List.perm_append_comm).trans ?_
      rw [← List.append_assoc]
      refine List.Perm.append_right ts ?_
      exact eraseIdx_perm ls n hn
    · rintro σ H1 ⟨⟨y, rfl⟩, s1, d1, ls, ts, e1, e2, hp, ht⟩
      have hlen : ls.length + ts.length = xs.length := by rw [← List.length_append]; exact hp.length_eq
      have : ls = [] := List.length_eq_zero_iff.mp (by have : ((xs.length : Int).toNat) = xs.length := by omega
                                                       omega)
      subst this
      exact ⟨_, rfl, q H1 t ts s1 d1 nt0 e2 hp⟩
def spUnlike (K : PySem.W.Frag) : Sp := fun vs H Q _ => ∃ (r : Addr) (xs : List V) (ds : List PyData), vs = [.ref r] ∧ SqL K H r xs ∧ DpAll K H xs ds ∧ (∀ d ∈ ds, Shp 60 d) ∧ xs.length ≤ 1000 ∧ ∀ (H' : Hp) (p : Addr) (ys : List V), Same H H' → H p = none → H' p = some (.lst ys) → DpAll K H' ys (unl ds) → Q (.ref p) H'
theorem ok_unlike (T : Blt mg) (D : DefAt K mg "_law_unlike" s_law_unlike ["row"]) : Cal P w K mg base CX0 1 "_law_unlike" ["row"] (spUnlike K) := by
  refine D.ok sc_law_unlike (fun vs H Q E h => ?_) (fun f cdv A outer s H vs Q E hr h => ?_)
  · obtain ⟨r, xs, ds, rfl, _⟩ := h
    rfl
  · obtain ⟨r, xs, ds, rfl, hS, hD, hsh, hl, q⟩ := h
    have hu := hu_of hr
    refine ⟨_, (pss_cons (ps_set (i := 1) sc_law_unlike.nd rfl (by first | exact Or.inl rfl | exact Or.inr rfl) (pe_lst pa_nil))
      (pss_cons (ps_forM PassesOwn.never rfl (pi_listK K (pv 0)) (pg_name (i := 2) sc_law_unlike.nd rfl (by first | exact Or.inl rfl | exact Or.inr rfl))
          (pss_one (ps_if (pt_cmpR (op_notInDK K hr.units65) (pv 2) (pv 1) (by with_unfolding_all rfl))
              (pss_one (ps_expr (pe_bmK K PySem.F.plainAttrs_list PySem.F.slot_list_append PySem.F.type_list_append mt_append (pv 1) (pa_cons (pv 2) pa_nil))))
              pss_nil)))
      (pss_one (ps_ret (pv 1))))), ?_⟩
    refine ⟨Nat.zero_le _, fun t nt => ?_⟩
    refine ⟨_, rfl, r, rfl, ⟨xs, (Same.new nt).seq hS⟩, ?_⟩
    refine loop_list (xs := xs) (fun i σ H1 => (∃ y, σ = [some (.ref r), some (.ref t), y]) ∧ Same H H1 ∧ ∃ ys, H1 t = some (.lst ys) ∧ DpAll K H ys (unl (ds.take i))) ⟨⟨none, rfl⟩, Same.new nt, [], upd_same, .nil⟩ (fun i σ H1 _ h => h.2.1.seq hS) ?_ ?_
    · rintro i x σ H1 hi ⟨⟨y, rfl⟩, s1, ys, e1, hy⟩
      obtain ⟨d, hd, hx⟩ := hD.get hi
      have hil : i < xs.length := (List.getElem?_eq_some_iff.mp hi).1
      have et : unl (ds.take (i + 1)) = if ((unl (ds.take i)).any fun z => PyData.eqv z d) = true then unl (ds.take i) else unl (ds.take i) ++ [d] := by
        rw [List.take_add_one, hd, ← unl_snoc]
        rfl
      have hsd := hsh d (List.mem_of_getElem? hd)
      have hle : ys.length ≤ i := by
        rw [hy.len]
        exact Nat.le_trans (unl_len _) (by rw [List.length_take]; omega)
      refine ⟨_, rfl, _, rfl, d, unl (ds.take i), hx.same s1, .lst (SqL.of e1) (hy.same s1), hsd.shaped (by decide), (shp_list fun e he => hsh e (List.mem_of_mem_take (unl_mem _ e he))).shaped (by decide), _, rfl, ?_⟩
      by_cases c : ((unl (ds.take i)).any fun z => PyData.eqv z d) = true
      · rw [if_pos c] at et
        rw [c]
        exact iteF (Box.mk ⟨⟨_, rfl⟩, s1, ys, e1, by rw [et]; exact hy⟩)
      · rw [if_neg c] at et
        rw [Bool.not_eq_true] at c
        rw [c]
        refine iteT ⟨_, rfl, .inl ⟨rfl, _, SqL.of e1⟩, _, rfl, t, ys, x, rfl, rfl, e1, small1000 (by omega), Box.mk ⟨⟨_, rfl⟩, s1.mut nt, ys ++ [x], upd_same, ?_⟩⟩
        rw [et]
        exact hy.app (.cons hx .nil)
    · rintro σ H1 ⟨⟨y, rfl⟩, s1, ys, e1, hy⟩
      rw [hD.len, List.take_of_length_le (Nat.le_refl _)] at hy
      exact ⟨_, rfl, q H1 t ys s1 nt e1 (hy.same s1)⟩
end
end My
/-! D4 -/
set_option Elab.async false
set_option linter.all false
set_option maxRecDepth 100000
set_option maxHeartbeats 4000000
namespace My
open PySem PySem.Spec PyProof.Rows L2
local macro_rules | `(tactic| walk_at "ne") => `(tactic| first | assumption | (apply Ne.symm; assumption) | (apply ne_of_none <;> assumption) | (apply Ne.symm; apply ne_of_none <;> assumption) | (grind [upd]))
local macro_rules | `(tactic| walk_at "hp") => `(tactic| first
  | assumption
  | exact upd_same
  | ((apply Same.at; focus assumption); (walk_at "hp"))
  | ((apply Same.at; focus (apply Same.new; assumption)); (walk_at "hp"))
  | ((apply upd_at; focus (walk_at "hp")); (walk_at "ne")))
local macro_rules | `(tactic| walk_at "sq") => `(tactic| first
  | assumption
  | (apply SqL.of; (walk_at "hp"))
  | (apply SqT.of; (walk_at "hp"))
  | ((apply Same.seq; focus assumption); (walk_at "sq"))
  | ((apply Same.set; focus assumption); (walk_at "sq"))
  | (apply Sam.seq; (focus assumption); (focus assumption); (walk_at "sq"))
  | (apply Sam.set; (focus assumption); (focus assumption); (walk_at "sq"))
  | ((apply Same.seq; focus (apply Same.new; assumption)); (walk_at "sq"))
  | ((apply Same.set; focus (apply Same.new; assumption)); (walk_at "sq")))
local macro_rules | `(tactic| walk_at "sz") => `(tactic| (first | (apply small1000) | (apply smallL)) <;> (try simp only [List.length_map, List.length_append, List.length_cons, List.length_nil, List.length_take]; omega))
local macro_rules | `(tactic| walk_at "cl") => `(tactic| first
  | rfl
  | ((with_reducible show SqL _ _ _ _); (walk_at "sq"))
  | ((with_reducible show SqT _ _ _ _); (walk_at "sq"))
  | ((with_reducible show SqL _ _ _ _ ∨ SqT _ _ _ _); first | (apply Or.inl; (walk_at "sq")) | (apply Or.inr; (walk_at "sq")))
  | ((with_reducible show tyV _ _ _ _); apply Or.inl; apply And.intro; (focus rfl); apply Exists.intro; (walk_at "sq"))
  | ((with_reducible show _ = Option.some _); (walk_at "hp"))
  | ((with_reducible show Exists _); apply Exists.intro; (walk_at "sq"))
  | assumption
  | ((show (0 : Int) < _); first | assumption | decide)
  | ((with_reducible show CMul _ _); first | (apply Or.inl; apply And.intro <;> decide) | (apply Or.inr; apply And.intro <;> decide))
  | ((with_reducible show CDiv _ _); apply And.intro <;> decide)
  | ((with_reducible show List.length _ < sizeLine); (walk_at "sz"))
  | ((with_reducible show List.length _ ≤ sizeLine); (walk_at "sz")))
local macro_rules | `(tactic| walk_at "rd") => `(tactic| repeat' (first
  | (apply Exists.intro)
  | (apply And.intro; focus (walk_at "cl"))))

abbrev s_law_variables : Stmt := topS 20
theorem sc_law_variables : FnScope ["rows", "told", "row", "term"] ["rows"] (defScope s_law_variables) := ⟨rfl, rfl, rfl, by decide +kernel, rfl, by decide +kernel, by decide +kernel⟩
abbrev s_Body_variables : Stmt := inClass (topS 2) 4
theorem sc_Body_variables : FnScope ["self", "told", "row", "term"] ["self"] (defScope s_Body_variables) := ⟨rfl, rfl, rfl, by decide +kernel, rfl, by decide +kernel, by decide +kernel⟩
abbrev s_Body_span : Stmt := inClass (topS 2) 2
theorem sc_Body_span : FnScope ["self", "term"] ["self", "term"] (defScope s_Body_span) := ⟨rfl, rfl, rfl, by decide +kernel, rfl, by decide +kernel, by decide +kernel⟩
abbrev s_Body_init : Stmt := inClass (topS 2) 0
theorem sc_Body_init : FnScope ["self", "rows", "nots", "spans", "wide"] ["self", "rows", "nots", "spans", "wide"] (defScope s_Body_init) := ⟨rfl, rfl, rfl, by decide +kernel, rfl, by decide +kernel, by decide +kernel⟩
abbrev s_law_bounds : Stmt := topS 23
theorem sc_law_bounds : FnScope ["d", "low"] ["d"] (defScope s_law_bounds) := ⟨rfl, rfl, rfl, by decide +kernel, rfl, by decide +kernel, by decide +kernel⟩
section
variable {P : Program} {w : World} {K : PySem.W.Frag} {mg : Str → Option Value} {base : Heap}
def spVars (K : PySem.W.Frag) : Sp := fun vs H Q _ => ∃ (v : V) (rows : List Row), vs = [v] ∧ Dp K H v (rowsD rows) ∧ (rows.flatMap (·.2)).length ≤ 900 ∧ ∀ (H' : Hp) (p : Addr), Same H H' → H p = none → H' p = some (.lst ((varsOf rows).map V.int)) → Q (.ref p) H'
theorem ok_vars (T : Blt mg) (D : DefAt K mg "_law_variables" s_law_variables ["rows"]) : Cal P w K mg base CX0 1 "_law_variables" ["rows"] (spVars K) := by
  refine D.ok sc_law_variables (fun vs H Q E h => ?_) (fun f cdv A outer s H vs Q E hr h => ?_)
  · obtain ⟨v, rows, rfl, _⟩ := h
    rfl
  · obtain ⟨v, rows, rfl, hv, hl, q⟩ := h
    have hu := hu_of hr
    refine ⟨_, (pss_cons (ps_set (i := 1) sc_law_variables.nd rfl (by first | exact Or.inl rfl | exact Or.inr rfl) (pe_lst pa_nil))
      (pss_cons (ps_forM PassesOwn.never rfl (pi_tupK K (pv 0)) (pg_name (i := 2) sc_law_variables.nd rfl (by first | exact Or.inl rfl | exact Or.inr rfl))
          (pss_one (ps_forM PassesOwn.never rfl (pi_tupK K (pe_ix (ix_tupK K) (pv 2) pe_int (fun _ _ => rfl))) (pg_name (i := 3) sc_law_variables.nd rfl (by first | exact Or.inl rfl | exact Or.inr rfl))
              (pss_one (ps_if (PW.pt (pw_and (pt_cmpR op_lt (pv 3) pe_int (nomark _)) (pw_and1 (pt_cmpR (op_notIn_seqK K) (pv 3) (pv 1) (by with_unfolding_all rfl)))))
                  (pss_one (ps_expr (pe_bmK K PySem.F.plainAttrs_list PySem.F.slot_list_append PySem.F.type_list_append mt_append (pv 1) (pa_cons (pv 3) pa_nil))))
                  pss_nil)))))
      (pss_one (ps_ret (pv 1))))), ?_⟩
    obtain ⟨r, xs, rfl, hS, hA⟩ := rows_inv hv
    refine ⟨Nat.zero_le _, fun t nt => ?_⟩
    refine ⟨_, rfl, r, rfl, ⟨xs, (Same.new nt).set hS⟩, ?_⟩
    refine loop_tup (xs := xs) (fun i σ H1 => (∃ y z, σ = [some (.ref r), some (.ref t), y, z]) ∧ Same H H1 ∧ H1 t = some (.lst ((varsOf (rows.take i)).map V.int))) ⟨⟨none, none, rfl⟩, Same.new nt, upd_same⟩ (fun i σ H1 _ h => h.2.1.set hS) ?_ ?_
    · rintro i x σ H1 hi ⟨⟨y, z, rfl⟩, s1, e1⟩
      obtain ⟨rw_, hrw, a, u, rfl, hSa, hSu⟩ := rowAt hA hi
      have et : varsOf (rows.take (i + 1)) = rw_.2.foldl addV (varsOf (rows.take i)) := by
        unfold varsOf
        rw [List.take_add_one, hrw, List.flatMap_append, List.foldl_append]
        show List.foldl addV _ (List.flatMap (·.2) [rw_]) = _
        rw [List.flatMap_singleton]
      have ez : (varsOf (rows.take i)).length + rw_.2.length ≤ 900 := by
        have h1 := addV_len ((rows.take i).flatMap (·.2)) []
        have h2 : ((rows.take (i + 1)).flatMap (·.2)).length ≤ (rows.flatMap (·.2)).length := flatMap_take_le rows (i + 1)
        rw [List.take_add_one, hrw, List.flatMap_append, List.length_append] at h2
        have h3 : (List.flatMap (·.2) (some rw_).toList).length = rw_.2.length := by
          show (List.flatMap (·.2) [rw_]).length = _
          rw [List.flatMap_singleton]
        rw [h3] at h2
        have h4 : (varsOf (rows.take i)).length ≤ ([] : List Int).length + ((rows.take i).flatMap (·.2)).length := h1
        rw [List.length_nil] at h4
        omega
      refine ⟨_, rfl, a, _, 1, .ref u, rfl, rfl, s1.set hSa, rfl, u, rfl, ⟨_, s1.set hSu⟩, ?_⟩
      refine loop_tints (ns := rw_.2) (fun j σ H2 => (∃ y, σ = [some (.ref r), some (.ref t), some (.ref a), y]) ∧ Same H H2 ∧ H2 t = some (.lst (((rw_.2.take j).foldl addV (varsOf (rows.take i))).map V.int))) ⟨⟨_, rfl⟩, s1, e1⟩ (fun i σ H1 _ h => h.2.1.set hSu) ?_ ?_
      · rintro j n σ H2 hj ⟨⟨y', rfl⟩, s2, e2⟩
        have hjl : j < rw_.2.length := (List.getElem?_eq_some_iff.mp hj).1
        have ef : (rw_.2.take (j + 1)).foldl addV (varsOf (rows.take i)) = addV ((rw_.2.take j).foldl addV (varsOf (rows.take i))) n := by
          rw [List.take_add_one, hj, List.foldl_append]
          rfl
        have hz : ((rw_.2.take j).foldl addV (varsOf (rows.take i))).length < 1000 := by
          have := addV_len (rw_.2.take j) (varsOf (rows.take i))
          rw [List.length_take] at this
          omega
        generalize (rw_.2.take j).foldl addV (varsOf (rows.take i)) = acc at e2 ef hz
        rw [ef]
        unfold addV
        refine ⟨_, rfl, _, _, rfl, rfl, _, rfl, ?_⟩
        by_cases h1 : n < 0
        · rw [decide_eq_true h1]
          refine iteT ⟨_, rfl, _, rfl, t, acc.map V.int, rfl, .inl (SqL.of e2), rfl, flat_ints _, _, rfl, ?_⟩
          rw [inV_ints]
          by_cases h2 : n ∈ acc
          · rw [if_neg (fun h => h.2 h2), decide_eq_true h2]
            exact iteF (Box.mk ⟨⟨_, rfl⟩, s2, e2⟩)
          · rw [if_pos ⟨h1, h2⟩, decide_eq_false h2]
            refine iteT ⟨_, rfl, .inl ⟨rfl, _, SqL.of e2⟩, _, rfl, t, _, _, rfl, rfl, e2, by walk_at "sz", Box.mk ⟨⟨_, rfl⟩, s2.mut nt, ?_⟩⟩
            rw [upd_same, List.map_append]
            rfl
        · rw [decide_eq_false h1, if_neg (fun h => h1 h.1)]
          exact iteF (iteF (Box.mk ⟨⟨_, rfl⟩, s2, e2⟩))
      · rintro σ H2 ⟨⟨y', rfl⟩, s2, e2⟩
        rw [List.take_of_length_le (Nat.le_refl _), ← et] at e2
        exact Box.mk ⟨⟨_, _, rfl⟩, s2, e2⟩
    · rintro σ H1 ⟨⟨y, z, rfl⟩, s1, e1⟩
      rw [hA.len, List.length_map, List.take_of_length_le (Nat.le_refl _)] at e1
      exact ⟨_, rfl, q H1 t s1 nt e1⟩
def spBVars (K : PySem.W.Frag) (Cb : Addr) : Sp := fun vs H Q _ => ∃ (p : Addr) (v v2 v3 v4 : V) (rows : List Row), vs = [.ref p] ∧ IsBody Cb H p v v2 v3 v4 ∧ Dp K H v (rowsD rows) ∧ (rows.flatMap (·.2)).length ≤ 900 ∧ ∀ (H' : Hp) (p : Addr), Same H H' → H p = none → H' p = some (.lst ((varsOf rows).map V.int)) → Q (.ref p) H'
theorem ok_bvars {Cb : Addr} (T : Blt mg) (B : BodyC K Cb) (D : MethAt K Cb "variables" "Body.variables" s_Body_variables ["self"]) : CalM P w K mg base CX0 1 Cb "variables" ["self"] (spBVars K Cb) := by
  refine D.ok sc_Body_variables (fun vs H Q E h => ?_) (fun f cdv A outer s H vs Q E hr h => ?_)
  · obtain ⟨p, v, v2, v3, v4, rows, rfl, _⟩ := h
    rfl
  · obtain ⟨p, v, v2, v3, v4, rows, rfl, ⟨dx, hp⟩, hv, hl, q⟩ := h
    have hu := hu_of hr
    refine ⟨_, (pss_cons (ps_set (i := 1) sc_Body_variables.nd rfl (by first | exact Or.inl rfl | exact Or.inr rfl) (pe_lst pa_nil))
      (pss_cons (ps_forM PassesOwn.never rfl (pi_tupK K (pe_fldK K (pv 0))) (pg_name (i := 2) sc_Body_variables.nd rfl (by first | exact Or.inl rfl | exact Or.inr rfl))
          (pss_one (ps_forM PassesOwn.never rfl (pi_tupK K (pe_ix (ix_tupK K) (pv 2) pe_int (fun _ _ => rfl))) (pg_name (i := 3) sc_Body_variables.nd rfl (by first | exact Or.inl rfl | exact Or.inr rfl))
              (pss_one (ps_if (PW.pt (pw_and (pt_cmpR op_lt (pv 3) pe_int (nomark _)) (pw_and1 (pt_cmpR (op_notIn_seqK K) (pv 3) (pv 1) (by with_unfolding_all rfl)))))
                  (pss_one (ps_expr (pe_bmK K PySem.F.plainAttrs_list PySem.F.slot_list_append PySem.F.type_list_append mt_append (pv 1) (pa_cons (pv 3) pa_nil))))
                  pss_nil)))))
      (pss_one (ps_ret (pv 1))))), ?_⟩
    obtain ⟨r, xs, rfl, hS, hA⟩ := rows_inv hv
    refine ⟨Nat.zero_le _, fun t nt => ?_⟩
    refine ⟨_, rfl, p, Cb, dx, _, _, rfl, Same.new nt _ _ hp, B.cl, B.rows, bf_rows, r, rfl, ⟨xs, (Same.new nt).set hS⟩, ?_⟩
    refine loop_tup (xs := xs) (fun i σ H1 => (∃ y z, σ = [some (.ref p), some (.ref t), y, z]) ∧ Same H H1 ∧ H1 t = some (.lst ((varsOf (rows.take i)).map V.int))) ⟨⟨none, none, rfl⟩, Same.new nt, upd_same⟩ (fun i σ H1 _ h => h.2.1.set hS) ?_ ?_
    · rintro i x σ H1 hi ⟨⟨y, z, rfl⟩, s1, e1⟩
      obtain ⟨rw_, hrw, a, u, rfl, hSa, hSu⟩ := rowAt hA hi
      have et : varsOf (rows.take (i + 1)) = rw_.2.foldl addV (varsOf (rows.take i)) := by
        unfold varsOf
        rw [List.take_add_one, hrw, List.flatMap_append, List.foldl_append]
        show List.foldl addV _ (List.flatMap (·.2) [rw_]) = _
        rw [List.flatMap_singleton]
      have ez : (varsOf (rows.take i)).length + rw_.2.length ≤ 900 := by
        have h1 := addV_len ((rows.take i).flatMap (·.2)) []
        have h2 : ((rows.take (i + 1)).flatMap (·.2)).length ≤ (rows.flatMap (·.2)).length := flatMap_take_le rows (i + 1)
        rw [List.take_add_one, hrw, List.flatMap_append, List.length_append] at h2
        have h3 : (List.flatMap (·.2) (some rw_).toList).length = rw_.2.length := by
          show (List.flatMap (·.2) [rw_]).length = _
          rw [List.flatMap_singleton]
        rw [h3] at h2
        have h4 : (varsOf (rows.take i)).length ≤ ([] : List Int).length + ((rows.take i).flatMap (·.2)).length := h1
        rw [List.length_nil] at h4
        omega
      refine ⟨_, rfl, a, _, 1, .ref u, rfl, rfl, s1.set hSa, rfl, u, rfl, ⟨_, s1.set hSu⟩, ?_⟩
      refine loop_tints (ns := rw_.2) (fun j σ H2 => (∃ y, σ = [some (.ref p), some (.ref t), some (.ref a), y]) ∧ Same H H2 ∧ H2 t = some (.lst (((rw_.2.take j).foldl addV (varsOf (rows.take i))).map V.int))) ⟨⟨_, rfl⟩, s1, e1⟩ (fun i σ H1 _ h => h.2.1.set hSu) ?_ ?_
      · rintro j n σ H2 hj ⟨⟨y', rfl⟩, s2, e2⟩
        have hjl : j < rw_.2.length := (List.getElem?_eq_some_iff.mp hj).1
        have ef : (rw_.2.take (j + 1)).foldl addV (varsOf (rows.take i)) = addV ((rw_.2.take j).foldl addV (varsOf (rows.take i))) n := by
          rw [List.take_add_one, hj, List.foldl_append]
          rfl
        have hz : ((rw_.2.take j).foldl addV (varsOf (rows.take i))).length < 1000 := by
          have := addV_len (rw_.2.take j) (varsOf (rows.take i))
          rw [List.length_take] at this
          omega
        generalize (rw_.2.take j).foldl addV (varsOf (rows.take i)) = acc at e2 ef hz
        rw [ef]
        unfold addV
        refine ⟨_, rfl, _, _, rfl, rfl, _, rfl, ?_⟩
        by_cases h1 : n < 0
        · rw [decide_eq_true h1]
          refine iteT ⟨_, rfl, _, rfl, t, acc.map V.int, rfl, .inl (SqL.of e2), rfl, flat_ints _, _, rfl, ?_⟩
          rw [inV_ints]
          by_cases h2 : n ∈ acc
          · rw [if_neg (fun h => h.2 h2), decide_eq_true h2]
            exact iteF (Box.mk ⟨⟨_, rfl⟩, s2, e2⟩)
          · rw [if_pos ⟨h1, h2⟩, decide_eq_false h2]
            refine iteT ⟨_, rfl, .inl ⟨rfl, _, SqL.of e2⟩, _, rfl, t, _, _, rfl, rfl, e2, by walk_at "sz", Box.mk ⟨⟨_, rfl⟩, s2.mut nt, ?_⟩⟩
            rw [upd_same, List.map_append]
            rfl
        · rw [decide_eq_false h1, if_neg (fun h => h1 h.1)]
          exact iteF (iteF (Box.mk ⟨⟨_, rfl⟩, s2, e2⟩))
      · rintro σ H2 ⟨⟨y', rfl⟩, s2, e2⟩
        rw [List.take_of_length_le (Nat.le_refl _), ← et] at e2
        exact Box.mk ⟨⟨_, _, rfl⟩, s2, e2⟩
    · rintro σ H1 ⟨⟨y, z, rfl⟩, s1, e1⟩
      rw [hA.len, List.length_map, List.take_of_length_le (Nat.le_refl _)] at e1
      exact ⟨_, rfl, q H1 t s1 nt e1⟩
def spInit (Cb : Addr) : Sp := fun vs H Q _ => ∃ (p dx : Addr) (v1 v2 v3 v4 : V), vs = [.ref p, v1, v2, v3, v4] ∧ H p = some (.ins Cb dx []) ∧ Q .non (upd H p (.ins Cb dx (bodyF v1 v2 v3 v4)))
theorem ok_init {Cb : Addr} (T : Blt mg) (B : BodyC K Cb) (D : InitAt K mg "Body" Cb "Body.__init__" s_Body_init ["self", "rows", "nots", "spans", "wide"]) : Mak P w K mg base CX0 1 "Body" Cb ["self", "rows", "nots", "spans", "wide"] (spInit Cb) := by
  refine D.ok sc_Body_init (fun vs H Q E h => ?_) (fun f cdv A outer s H vs Q E hr h => ?_)
  · obtain ⟨p, dx, v1, v2, v3, v4, rfl, _⟩ := h
    rfl
  · obtain ⟨p, dx, v1, v2, v3, v4, rfl, hp, q⟩ := h
    refine ⟨_, (pss_cons (ps_fldK K (pv 0) (pv 1))
      (pss_cons (ps_fldK K (pv 0) (pv 2))
      (pss_cons (ps_fldK K (pv 0) (pv 3))
      (pss_one (ps_fldK K (pv 0) (pv 4)))))), ?_⟩
    refine ⟨_, rfl, _, rfl, p, Cb, dx, _, rfl, hp, B.cl, B.rows, by decide, _, rfl, _, rfl, p, Cb, dx, _, rfl, upd_same, B.cl, B.nots, (by show 1 < 1000; decide), _, rfl, _, rfl, p, Cb, dx, _, rfl, upd_same, B.cl, B.spans, (by show 2 < 1000; decide), _, rfl, _, rfl, p, Cb, dx, _, rfl, upd_same, B.cl, B.wide, (by show 3 < 1000; decide), ?_⟩
    rw [upd_upd, upd_upd, upd_upd, bf_put]
    exact q
/-- a dict of spans -/
def SpansAt (K : PySem.W.Frag) (H : Hp) (kvs : List (Key × V)) (sps : List (Int × (Int × Int))) : Prop := Paired (fun (kv : Key × V) (s : Int × (Int × Int)) => kv.1 = .inl s.1 ∧ ∃ q, kv.2 = .ref q ∧ SqT K H q [.int s.2.1, .int s.2.2]) kvs sps
theorem SpansAt.same {H H' : Hp} {kvs : List (Key × V)} {sps : List (Int × (Int × Int))} (h : SpansAt K H kvs sps) (s : Same H H') : SpansAt K H' kvs sps := Paired.mapP h fun _ _ ⟨e, q, e2, hq⟩ => ⟨e, q, e2, s.set hq⟩
theorem SpansAt.get : ∀ {H : Hp} {kvs : List (Key × V)} {sps : List (Int × (Int × Int))} (t : Int), SpansAt K H kvs sps → (valV kvs (.inl t) = none ∧ sps.lookup t = none) ∨ ∃ q lo hi, valV kvs (.inl t) = some (.ref q) ∧ sps.lookup t = some (lo, hi) ∧ SqT K H q [.int lo, .int hi]
  | _, _, _, t, .nil => .inl ⟨rfl, rfl⟩
  | _, (k, v) :: kvs, (i, lo, hi) :: sps, t, .cons h r => by
    obtain ⟨e, q, e2, hq⟩ := h
    cases (show k = .inl i from e)
    cases (show v = .ref q from e2)
    by_cases c : t = i
    · subst c
      refine .inr ⟨q, lo, hi, ?_, ?_, hq⟩
      · exact valV_pos rfl
      · rw [List.lookup_cons, beq_self_eq_true]
    · have c1 : ¬ (Sum.inl i : Key) = Sum.inl t := fun z => c (Sum.inl.inj z).symm
      have c2 : (t == i) = false := by simp [c]
      rcases SpansAt.get t r with ⟨a, b⟩ | ⟨q', lo', hi', a, b, c'⟩
      · refine .inl ⟨?_, ?_⟩
        · rw [valV_neg (show ¬ ((Sum.inl i, V.ref q) : Key × V).1 = Sum.inl t from c1)]
          exact a
        · rw [List.lookup_cons, c2]
          exact b
      · refine .inr ⟨q', lo', hi', ?_, ?_, c'⟩
        · rw [valV_neg (show ¬ ((Sum.inl i, V.ref q) : Key × V).1 = Sum.inl t from c1)]
          exact a
        · rw [List.lookup_cons, c2]
          exact b
def spanOf (sps : List (Int × (Int × Int))) (t : Int) : Int × Int := (sps.lookup t).getD (0, 1000)
def spSpan (K : PySem.W.Frag) (Cb : Addr) : Sp := fun vs H Q _ => ∃ (p d : Addr) (v1 v2 v4 : V) (kvs : List (Key × V)) (sps : List (Int × (Int × Int))) (t : Int), vs = [.ref p, .int t] ∧ IsBody Cb H p v1 v2 (.ref d) v4 ∧ H d = some (.dK kvs) ∧ SpansAt K H kvs sps ∧ t < 0 ∧
  ∀ (H' : Hp) (q : Addr), Same H H' → SqT K H' q [.int (spanOf sps t).1, .int (spanOf sps t).2] → Q (.ref q) H'
theorem ok_span {Cb : Addr} (T : Blt mg) (B : BodyC K Cb) (D : MethAt K Cb "span" "Body.span" s_Body_span ["self", "term"]) : CalM P w K mg base CX0 1 Cb "span" ["self", "term"] (spSpan K Cb) := by
  refine D.ok sc_Body_span (fun vs H Q E h => ?_) (fun f cdv A outer s H vs Q E hr h => ?_)
  · obtain ⟨p, d, v1, v2, v4, kvs, sps, t, rfl, _⟩ := h
    rfl
  · obtain ⟨p, d, v1, v2, v4, kvs, sps, t, rfl, ⟨dx, hp⟩, hd, hk, ht, q⟩ := h
    have hu := hu_of hr
    refine ⟨_, (pss_cons (ps_if (pt_cmpR op_ge (pv 1) pe_int (nomark _))
          (pss_one (ps_ret (pe_tup (pa_cons (pv 1) (pa_cons (pe_op op_add (pv 1) pe_int) pa_nil)))))
          pss_nil)
      (pss_one (ps_ret (pe_dget2 hu (pe_fldK K (pv 0)) (pv 1) (pe_tup (pa_cons pe_int (pa_cons pe_int pa_nil))) ⟨rfl, rfl, rfl, rfl⟩)))), ?_⟩
    refine ⟨_, rfl, _, _, rfl, rfl, _, rfl, ?_⟩
    rw [decide_eq_false (show ¬ (0 : Int) ≤ t by omega)]
    refine iteF ⟨_, rfl, p, Cb, dx, _, _, rfl, hp, B.cl, B.spans, bf_spans, d, rfl, .inl ⟨_, .inl hd⟩, _, rfl, (by show 2 ≤ sizeLine; decide), fun z nz => ⟨valV kvs (.inl t), DGet.k (k := .inl t) (Same.new nz _ _ hd), ?_⟩⟩
    rcases SpansAt.get t hk with ⟨a, b⟩ | ⟨q', lo', hi', a, b, c'⟩
    · rw [a]
      refine q _ z (Same.new nz) ?_
      unfold spanOf
      rw [b]
      exact SqT.of upd_same
    · rw [a]
      refine q _ q' (Same.new nz) ?_
      unfold spanOf
      rw [b]
      exact (Same.new nz).set c'
def spBounds (K : PySem.W.Frag) : Sp := fun vs H Q _ => ∃ (S : Addr × List Int) (a : Addr), vs = [.ref a] ∧ Dst S H a ∧ ∀ (H' : Hp) (p : Addr) (x y : Int), Sam a H H' → Dst S H' a → H p = none → H' p = some (.tup [.int (100 * x), .int (100 * y)]) → 0 ≤ x → x < y → y ≤ 10 → Q (.ref p) H'
theorem ok_bounds (T : Blt mg) (C_law_draw : Cal P w K mg base CX0 1 "_law_draw" ["d", "many"] spDraw) (D : DefAt K mg "_law_bounds" s_law_bounds ["d"]) : Cal P w K mg base CX0 2 "_law_bounds" ["d"] (spBounds K) := by
  refine D.ok sc_law_bounds (fun vs H Q E h => ?_) (fun f cdv A outer s H vs Q E hr h => ?_)
  · obtain ⟨S, a, rfl, _⟩ := h
    rfl
  · obtain ⟨S, a, rfl, hd, q⟩ := h
    have hu := hu_of hr
    refine ⟨_, (pss_cons (ps_set (i := 1) sc_law_bounds.nd rfl (by first | exact Or.inl rfl | exact Or.inr rfl) (pe_cal C_law_draw (hr.mono (by decide)) (by rfl) (pa_cons (pv 0) (pa_cons pe_int pa_nil))))
      (pss_one (ps_ret (pe_tup (pa_cons (pe_op op_mul pe_int (pv 1)) (pa_cons (pe_op op_mul pe_int (pe_op op_add (pe_op op_add (pv 1) pe_int) (pe_cal C_law_draw (hr.mono (by decide)) (by rfl) (pa_cons (pv 0) (pa_cons (pe_op op_sub pe_int (pv 1)) pa_nil))))) pa_nil)))))), ?_⟩
    refine ⟨_, rfl, S, a, 10, rfl, hd, by decide, by decide, fun H1 v s1 d1 v0 v1 => ?_⟩
    refine ⟨_, rfl, _, _, rfl, rfl, .inl ⟨by decide, by decide⟩, _, rfl, _, _, rfl, rfl, _, rfl, _, rfl, _, _, rfl, rfl, S, a, 10 - v, rfl, d1, by omega, by omega, fun H2 u s2 d2 u0 u1 => ?_⟩
    refine ⟨_, _, rfl, rfl, _, _, rfl, rfl, .inl ⟨by decide, by decide⟩, (by show 2 ≤ sizeLine; decide), fun p np => ?_⟩
    have n0 : H p = none := (s1.trans s2).free np (d2.ne np)
    exact q _ p v (v + 1 + u) ((s1.trans s2).mut n0) (d2.mut hd n0) n0 upd_same v0 (by omega) (by omega)
end
end My
/-! D5 -/
set_option Elab.async false
set_option linter.all false
set_option maxRecDepth 100000
set_option maxHeartbeats 4000000
namespace My
open PySem PySem.Spec PyProof.Rows L2
local macro_rules | `(tactic| walk_at "ne") => `(tactic| first | assumption | (apply Ne.symm; assumption) | (apply ne_of_none <;> assumption) | (apply Ne.symm; apply ne_of_none <;> assumption) | (grind [upd]))
local macro_rules | `(tactic| walk_at "hp") => `(tactic| first
  | assumption
  | exact upd_same
  | ((apply Same.at; focus assumption); (walk_at "hp"))
  | ((apply Same.at; focus (apply Same.new; assumption)); (walk_at "hp"))
  | ((apply upd_at; focus (walk_at "hp")); (walk_at "ne")))
local macro_rules | `(tactic| walk_at "sq") => `(tactic| first
  | assumption
  | (apply SqL.of; (walk_at "hp"))
  | (apply SqT.of; (walk_at "hp"))
  | ((apply Same.seq; focus assumption); (walk_at "sq"))
  | ((apply Same.set; focus assumption); (walk_at "sq"))
  | (apply Sam.seq; (focus assumption); (focus assumption); (walk_at "sq"))
  | (apply Sam.set; (focus assumption); (focus assumption); (walk_at "sq"))
  | ((apply Same.seq; focus (apply Same.new; assumption)); (walk_at "sq"))
  | ((apply Same.set; focus (apply Same.new; assumption)); (walk_at "sq")))
local macro_rules | `(tactic| walk_at "sz") => `(tactic| (first | (apply small1000) | (apply smallL)) <;> (try simp only [List.length_map, List.length_append, List.length_cons, List.length_nil, List.length_take]; omega))
local macro_rules | `(tactic| walk_at "cl") => `(tactic| first
  | rfl
  | ((with_reducible show SqL _ _ _ _); (walk_at "sq"))
  | ((with_reducible show SqT _ _ _ _); (walk_at "sq"))
  | ((with_reducible show SqL _ _ _ _ ∨ SqT _ _ _ _); first | (apply Or.inl; (walk_at "sq")) | (apply Or.inr; (walk_at "sq")))
  | ((with_reducible show tyV _ _ _ _); apply Or.inl; apply And.intro; (focus rfl); apply Exists.intro; (walk_at "sq"))
  | ((with_reducible show _ = Option.some _); (walk_at "hp"))
  | ((with_reducible show Exists _); apply Exists.intro; (walk_at "sq"))
  | assumption
  | ((show (0 : Int) < _); first | assumption | decide)
  | ((with_reducible show CMul _ _); first | (apply Or.inl; apply And.intro <;> decide) | (apply Or.inr; apply And.intro <;> decide))
  | ((with_reducible show CDiv _ _); apply And.intro <;> decide)
  | ((with_reducible show List.length _ < sizeLine); (walk_at "sz"))
  | ((with_reducible show List.length _ ≤ sizeLine); (walk_at "sz")))
local macro_rules | `(tactic| walk_at "rd") => `(tactic| repeat' (first
  | (apply Exists.intro)
  | (apply And.intro; focus (walk_at "cl"))))

abbrev s_law_near : Stmt := topS 21
theorem sc_law_near : FnScope ["points", "marks", "low", "high", "many", "is_point", "point", "is_played", "mark", "told", "end", "value"] ["points", "marks", "low", "high", "many"] (defScope s_law_near) := ⟨rfl, rfl, rfl, by decide +kernel, rfl, by decide +kernel, by decide +kernel⟩
abbrev s_values_for : Stmt := topS 10
theorem sc_values_for : FnScope ["points", "marks", "span", "many", "ends", "told", "end", "low", "high", "mark", "point", "step"] ["points", "marks", "span", "many"] (defScope s_values_for) := ⟨rfl, rfl, rfl, by decide +kernel, rfl, by decide +kernel, by decide +kernel⟩
section
variable {P : Program} {w : World} {K : PySem.W.Frag} {mg : Str → Option Value} {base : Heap}
def spNear (K : PySem.W.Frag) : Sp := fun vs H Q _ => ∃ (p1 p2 : Addr) (points marks : List Int) (low high many : Int), vs = [.ref p1, .ref p2, .int low, .int high, .int many] ∧ SqL K H p1 (points.map V.int) ∧ SqL K H p2 (marks.map V.int) ∧ points.length ≤ 1000 ∧ marks.length ≤ 1000 ∧ 0 ≤ low ∧ high ≤ 1000 ∧ low ≤ high ∧
  ∀ (H' : Hp) (p : Addr), Same H H' → H p = none → H' p = some (.lst ((near points marks low high many).map V.int)) → Q (.ref p) H'
/-- a dict whose keys are these ints -/
def KeysAre (kvs : List (Key × V)) (ns : List Int) : Prop := kvs.length ≤ ns.length ∧ ∀ v : Int, (valV kvs (.inl v)).isSome = decide (v ∈ ns)
theorem KeysAre.put {kvs : List (Key × V)} {ns : List Int} (h : KeysAre kvs ns) (n : Int) (y : V) : KeysAre (putK kvs (.inl n) y) (ns ++ [n]) := by
  refine ⟨?_, fun v => ?_⟩
  · rw [List.length_append]
    refine Nat.le_trans ?_ (Nat.add_le_add_right h.1 1)
    unfold putK
    split
    · rw [List.length_map]; exact Nat.le_succ _
    · rw [List.length_append]; exact Nat.le_refl _
  · rw [valV_put]
    by_cases c : v = n
    · subst c
      rw [if_pos rfl]
      simp
    · have c' : ¬ (Sum.inl v : Key) = Sum.inl n := fun z => c (Sum.inl.inj z)
      rw [if_neg c', h.2 v]
      simp [c]
theorem ok_near (T : Blt mg) (D : DefAt K mg "_law_near" s_law_near ["points", "marks", "low", "high", "many"]) : Cal P w K mg base CX0 1 "_law_near" ["points", "marks", "low", "high", "many"] (spNear K) := by
  refine D.ok sc_law_near (fun vs H Q E h => ?_) (fun f cdv A outer s H vs Q E hr h => ?_)
  · obtain ⟨p1, p2, points, marks, low, high, many, rfl, _⟩ := h
    rfl
  · obtain ⟨p1, p2, points, marks, low, high, many, rfl, hS1, hS2, hl1, hl2, h0, h1, hlh, q⟩ := h
    have hu := hu_of hr
    refine ⟨_, (pss_cons (ps_set (i := 5) sc_law_near.nd rfl (by first | exact Or.inl rfl | exact Or.inr rfl) pe_dnewK)
      (pss_cons (ps_forM PassesOwn.never rfl (pi_listK K (pv 0)) (pg_name (i := 6) sc_law_near.nd rfl (by first | exact Or.inl rfl | exact Or.inr rfl))
          (pss_one (ps_dput hu (pv 5) (pv 6) pe_bl rfl)))
      (pss_cons (ps_set (i := 7) sc_law_near.nd rfl (by first | exact Or.inl rfl | exact Or.inr rfl) pe_dnewK)
      (pss_cons (ps_forM PassesOwn.never rfl (pi_listK K (pv 1)) (pg_name (i := 8) sc_law_near.nd rfl (by first | exact Or.inl rfl | exact Or.inr rfl))
          (pss_one (ps_dput hu (pv 7) (pv 8) pe_bl rfl)))
      (pss_cons (ps_set (i := 9) sc_law_near.nd rfl (by first | exact Or.inl rfl | exact Or.inr rfl) (pe_lst pa_nil))
      (pss_cons (ps_set (i := 10) sc_law_near.nd rfl (by first | exact Or.inl rfl | exact Or.inr rfl) (pv 2))
      (pss_cons (ps_forM PassesOwn.never rfl (pi_range2 (by rfl) T.range (pa_cons (pv 2) (pa_cons (pv 3) pa_nil))) (pg_name (i := 11) sc_law_near.nd rfl (by first | exact Or.inl rfl | exact Or.inr rfl))
          (pss_mid (ps_if (PW.pt (pw_or (pt_cmp (pc_din hu (pv 11) (pv 7))) (pw_or1 (pt_chain op_le op_le pe_int (pe_op op_sub (pv 11) (pv 10)) (pv 4)))))
              (pss_one (ps_expr (pe_bmK K PySem.F.plainAttrs_list PySem.F.slot_list_append PySem.F.type_list_append mt_append (pv 9) (pa_cons (pv 11) pa_nil))))
              pss_nil)
          (pss_one (ps_if (pt_cmp (pc_din hu (pv 11) (pv 5)))
              (pss_one (ps_set (i := 10) sc_law_near.nd rfl (by first | exact Or.inl rfl | exact Or.inr rfl) (pv 11)))
              pss_nil))))
      (pss_one (ps_ret (pv 9)))))))))), ?_⟩
    intro d1 nd1
    refine ⟨_, rfl, p1, rfl, ⟨_, (Same.new nd1).seq hS1⟩, ?_⟩
    refine loop_ints (K := K) (ns := points) (fun i σ H1 => (∃ y, σ = [some (.ref p1), some (.ref p2), some (.int low), some (.int high), some (.int many), some (.ref d1), y, none, none, none, none, none]) ∧ Same H H1 ∧ ∃ kvs, H1 d1 = some (.dK kvs) ∧ KeysAre kvs (points.take i))
      ⟨⟨_, rfl⟩, Same.new nd1, [], upd_same, Nat.le_refl _, fun v => rfl⟩ (fun i σ H1 _ h => h.2.1.seq hS1) ?_ ?_
    · rintro i n σ H1 hi ⟨⟨y, rfl⟩, s1, kvs, e1, hk⟩
      have hz : kvs.length ≤ 1000 := Nat.le_trans hk.1 (by rw [List.length_take]; omega)
      refine ⟨_, rfl, _, rfl, d1, _, rfl, DPut.k (k := .inl n) e1 (small1000 hz), Box.mk ⟨⟨_, rfl⟩, s1.mut nd1, _, upd_same, ?_⟩⟩
      rw [List.take_add_one, hi]
      exact hk.put n _
    rintro σ H1 ⟨⟨y, rfl⟩, s1, kv1, e1, hk1⟩
    rw [List.take_of_length_le (Nat.le_refl _)] at hk1
    intro d2 nd2
    refine ⟨_, rfl, p2, rfl, ⟨_, (s1.trans (Same.new nd2)).seq hS2⟩, ?_⟩
    refine loop_ints (K := K) (ns := marks) (fun i σ H2 => (∃ y', σ = [some (.ref p1), some (.ref p2), some (.int low), some (.int high), some (.int many), some (.ref d1), y, some (.ref d2), y', none, none, none]) ∧ Same H1 H2 ∧ ∃ kvs, H2 d2 = some (.dK kvs) ∧ KeysAre kvs (marks.take i))
      ⟨⟨_, rfl⟩, Same.new nd2, [], upd_same, Nat.le_refl _, fun v => rfl⟩ (fun i σ H2 _ h => (s1.trans h.2.1).seq hS2) ?_ ?_
    · rintro i n σ H2 hi ⟨⟨y', rfl⟩, s2, kvs, e2, hk⟩
      have hz : kvs.length ≤ 1000 := Nat.le_trans hk.1 (by rw [List.length_take]; omega)
      refine ⟨_, rfl, _, rfl, d2, _, rfl, DPut.k (k := .inl n) e2 (small1000 hz), Box.mk ⟨⟨_, rfl⟩, s2.mut nd2, _, upd_same, ?_⟩⟩
      rw [List.take_add_one, hi]
      exact hk.put n _
    rintro σ H2 ⟨⟨y', rfl⟩, s2, kv2, e2, hk2⟩
    rw [List.take_of_length_le (Nat.le_refl _)] at hk2
    refine ⟨Nat.zero_le _, fun t nt => ?_⟩
    refine ⟨_, rfl, _, rfl, _, rfl, low, high, rfl, ⟨by omega, by omega, by omega, by omega⟩, ?_⟩
    refine loop_range (fun i σ H3 => (∃ y'', σ = [some (.ref p1), some (.ref p2), some (.int low), some (.int high), some (.int many), some (.ref d1), y, some (.ref d2), y', some (.ref t), some (.int (nearGo points marks low many i).2), y'']) ∧ Same H2 H3 ∧ H3 t = some (.lst ((nearGo points marks low many i).1.map V.int)))
      ⟨⟨_, rfl⟩, Same.new nt, upd_same⟩ ?_ ?_
    · rintro i σ H3 hi ⟨⟨y'', rfl⟩, s3, e3⟩
      have hz := nearGo_len points marks low many i
      rw [nearGo_succ]
      unfold nearStep
      dsimp only
      generalize nearGo points marks low many i = g at e3 hz
      obtain ⟨l, e⟩ := g
      dsimp only at e3 hz ⊢
      have g1 : H3 d1 = some (.dK kv1) := s3 _ _ (s2 _ _ e1)
      have g2 : H3 d2 = some (.dK kv2) := s3 _ _ e2
      refine mid_at (fun σ H4 => σ = [some (.ref p1), some (.ref p2), some (.int low), some (.int high), some (.int many), some (.ref d1), y, some (.ref d2), y', some (.ref t), some (.int e), some (.int (low + i))] ∧ Same H2 H4 ∧ H4 t = some (.lst ((if low + (i : Int) ∈ marks ∨ 1 ≤ low + (i : Int) - e ∧ low + (i : Int) - e ≤ many then l ++ [low + (i : Int)] else l).map V.int))) ?_ ?_
      · have app : ∀ (H5 : Hp), H5 = H3 → ∃ p, V.ref t = V.ref p ∧ True := fun _ _ => ⟨t, rfl, trivial⟩
        refine ⟨_, rfl, _, rfl, d2, _, rfl, DGet.k (k := .inl (low + (i : Int))) g2, _, rfl, ?_⟩
        rw [hk2.2]
        by_cases c : low + (i : Int) ∈ marks
        · rw [decide_eq_true c, if_pos (.inl c)]
          refine iteT (iteT ⟨_, rfl, .inl ⟨rfl, _, SqL.of e3⟩, _, rfl, t, _, _, rfl, rfl, e3, ?_, Box.mk ⟨rfl, s3.mut nt, ?_⟩⟩)
          · rw [List.length_map]; exact small1000 (by omega)
          · rw [upd_same, List.map_append]; rfl
        · rw [decide_eq_false c]
          refine iteF ⟨_, rfl, _, rfl, _, _, rfl, rfl, _, _, rfl, rfl, _, rfl, ?_⟩
          by_cases c1 : 1 ≤ low + (i : Int) - e
          · rw [decide_eq_true c1]
            refine iteT ⟨_, rfl, _, _, rfl, rfl, _, rfl, ?_⟩
            by_cases c2 : low + (i : Int) - e ≤ many
            · rw [decide_eq_true c2, if_pos (.inr ⟨c1, c2⟩)]
              refine iteT ⟨_, rfl, .inl ⟨rfl, _, SqL.of e3⟩, _, rfl, t, _, _, rfl, rfl, e3, ?_, Box.mk ⟨rfl, s3.mut nt, ?_⟩⟩
              · rw [List.length_map]; exact small1000 (by omega)
              · rw [upd_same, List.map_append]; rfl
            · rw [decide_eq_false c2, if_neg (fun h => h.elim c fun h => c2 h.2)]
              exact iteF (Box.mk ⟨rfl, s3, e3⟩)
          · have hm : (if low + (i : Int) ∈ marks ∨ 1 ≤ low + (i : Int) - e ∧ low + (i : Int) - e ≤ many then l ++ [low + (i : Int)] else l) = l := if_neg (fun h => h.elim c fun h => c1 h.1)
            rw [decide_eq_false c1, hm]
            exact iteF ⟨_, rfl, iteF (Box.mk ⟨rfl, s3, e3⟩)⟩
      · rintro σ H4 ⟨rfl, s4, e4⟩
        refine ⟨_, rfl, _, rfl, d1, _, rfl, DGet.k (k := .inl (low + (i : Int))) (s4 _ _ (s2 _ _ e1)), _, rfl, ?_⟩
        rw [hk1.2]
        by_cases c : low + (i : Int) ∈ points
        · rw [decide_eq_true c, if_pos c]
          exact iteT ⟨_, rfl, Box.mk ⟨⟨_, rfl⟩, s4, e4⟩⟩
        · rw [decide_eq_false c, if_neg c]
          exact iteF (Box.mk ⟨⟨_, rfl⟩, s4, e4⟩)
    · rintro σ H3 ⟨⟨y'', rfl⟩, s3, e3⟩
      exact ⟨_, rfl, q H3 t ((s1.trans s2).trans s3) (s1.free (s2.free nt)) e3⟩
def spValues (K : PySem.W.Frag) : Sp := fun vs H Q _ => ∃ (p1 p2 sp : Addr) (points marks : List Int) (low high many : Int), vs = [.ref p1, .ref p2, .ref sp, .int many] ∧ SqL K H p1 (points.map V.int) ∧ SqL K H p2 (marks.map V.int) ∧ SqT K H sp [.int low, .int high] ∧ points.length ≤ 200 ∧ marks.length ≤ 200 ∧
  V56 points marks ∧ low % 10 = 0 ∧ high % 10 = 0 ∧ low < high ∧ 1 ≤ many ∧ many ≤ 9 ∧
  ∀ (H' : Hp) (p : Addr), Same H H' → H p = none → H' p = some (.lst ((near points marks low high many).map V.int)) → Q (.ref p) H'
theorem ok_values (T : Blt mg) (D : DefAt K mg "values_for" s_values_for ["points", "marks", "span", "many"]) : Cal P w K mg base CX0 1 "values_for" ["points", "marks", "span", "many"] (spValues K) := by
  refine D.ok sc_values_for (fun vs H Q E h => ?_) (fun f cdv A outer s H vs Q E hr h => ?_)
  · obtain ⟨p1, p2, sp, points, marks, low, high, many, rfl, _⟩ := h
    rfl
  · obtain ⟨p1, p2, sp, points, marks, low, high, many, rfl, hS1, hS2, hSp, hl1, hl2, hv, h10, hh10, hlt, hm1, hm9, q⟩ := h
    have hu := hu_of hr
    refine ⟨_, (pss_cons (ps_asg (pv 2) (pg_tupK K (by rfl) (pgs_cons (pg_name (i := 7) sc_values_for.nd rfl (by first | exact Or.inl rfl | exact Or.inr rfl)) (pgs_cons (pg_name (i := 8) sc_values_for.nd rfl (by first | exact Or.inl rfl | exact Or.inr rfl)) pgs_nil))))
      (pss_cons (ps_set (i := 4) sc_values_for.nd rfl (by first | exact Or.inl rfl | exact Or.inr rfl) (pe_op op_cat (pe_lst (pa_cons (pv 7) pa_nil)) (pe_lcM (own := [("point", 10)]) (g := gName 10) rfl sc_values_for.nd (pi_listK K (pv 0)) (blkOk_by (N := ["points", "marks", "span", "many", "ends", "told", "end", "low", "high", "mark", "point", "step"]) (sc := defScope s_values_for) (by decide +kernel)) (fun _ _ _ _ _ => pg_name (i := 10) sc_values_for.nd rfl (Or.inl rfl)) (fun _ _ _ _ _ => pts_one (pt_chain op_lt op_lt (pv 7) (pv 10) (pv 8))) (fun _ _ _ _ _ => (pv 10)))))
      (pss_cons (ps_setLcM (i := 5) (own := [("mark", 9)]) (g := gName 9) rfl sc_values_for.nd rfl rfl (sw_true rfl rfl rfl (by decide +kernel)) (pi_listK K (pv 1)) (blkOk_by (N := ["points", "marks", "span", "many", "ends", "told", "end", "low", "high", "mark", "point", "step"]) (sc := defScope s_values_for) (by decide +kernel)) (fun _ _ _ _ _ => pg_name (i := 9) sc_values_for.nd rfl (Or.inl rfl)) (fun _ _ _ _ _ => pts_one (pt_chain op_le op_lt (pv 7) (pv 9) (pv 8))) (fun _ _ _ _ _ => (pv 9)))
      (pss_cons (ps_forM PassesOwn.never rfl (pi_listK K (pv 4)) (pg_name (i := 6) sc_values_for.nd rfl (by first | exact Or.inl rfl | exact Or.inr rfl))
          (pss_one (ps_expr (pe_bmK K PySem.F.plainAttrs_list PySem.F.slot_list_extend PySem.F.type_list_extend mt_extend (pv 5) (pa_cons (pe_lcM (own := [("step", 11)]) (g := gName 11) rfl sc_values_for.nd (pi_range1 (by rfl) T.range (pa_cons (pv 3) pa_nil)) (blkOk_by (N := ["points", "marks", "span", "many", "ends", "told", "end", "low", "high", "mark", "point", "step"]) (sc := defScope s_values_for) (by decide +kernel)) (fun _ _ _ _ _ => pg_name (i := 11) sc_values_for.nd rfl (Or.inl rfl)) (fun _ _ _ _ _ => pts_nil) (fun _ _ _ _ _ => (pe_op op_add (pe_op op_add (pv 6) pe_int) (pv 11)))) pa_nil)))))
      (pss_one (ps_ret (pe_callB (cr_sortedIK K) (by rfl) T.sorted (by decide +kernel) (pa_cons (pv 5) pa_nil)))))))), ?_⟩
    refine ⟨_, rfl, sp, _, rfl, hSp, rfl, _, _, rfl, _, _, rfl, rfl, ?_⟩
    refine ⟨_, rfl, (by show 1 ≤ sizeLine; decide), fun l nl => ?_⟩
    refine ⟨_, rfl, p1, rfl, ⟨_, (Same.new nl).seq hS1⟩, ?_⟩
    refine comp_ints (fun n => decide (low < n) && decide (n < high)) V.int ((Same.new nl).seq hS1) (by omega) (fun n => rfl) (fun n _ H3 s3 R q3 => ?_) (fun n _ _ H3 s3 R q3 => ⟨_, rfl, q3⟩) (fun D1 H1 nD1 s1 e1 => ?_)
    · refine ⟨_, rfl, _, rfl, _, _, rfl, rfl, _, rfl, ?_⟩
      by_cases c1 : low < n
      · rw [decide_eq_true c1] at q3 ⊢
        exact iteT ⟨_, rfl, _, _, rfl, rfl, _, rfl, q3⟩
      · rw [decide_eq_false c1] at q3 ⊢
        exact iteF ⟨_, rfl, q3⟩
    refine ⟨l, D1, [.int low], _, rfl, rfl, s1 _ _ upd_same, e1, ?_, fun en nen => ?_⟩
    · rw [List.length_map]
      have : (points.filter fun n => decide (low < n) && decide (n < high)).length ≤ points.length := List.length_filter_le _ _
      refine smallL ?_
      show 1 + _ ≤ 1000
      omega
    have s2 : Same H (upd H1 en (.lst ([V.int low] ++ (points.filter fun n => decide (low < n) && decide (n < high)).map V.int))) := ((Same.new nl).trans s1).trans (Same.new nen)
    have e2 : upd H1 en (.lst ([V.int low] ++ (points.filter fun n => decide (low < n) && decide (n < high)).map V.int)) en = some (.lst ((low :: points.filter fun n => decide (low < n) && decide (n < high)).map V.int)) := upd_same
    generalize upd H1 en (.lst ([V.int low] ++ (points.filter fun n => decide (low < n) && decide (n < high)).map V.int)) = H2 at s2 e2
    -- told = [mark ..]
    refine ⟨_, rfl, p2, rfl, ⟨_, s2.seq hS2⟩, ?_⟩
    refine comp_ints (fun n => decide (low ≤ n) && decide (n < high)) V.int (s2.seq hS2) (by omega) (fun n => rfl) (fun n _ H3 s3 R q3 => ?_) (fun n _ _ H3 s3 R q3 => ⟨_, rfl, q3⟩) (fun t H3 nt s3 e3 => ?_)
    · refine ⟨_, rfl, _, rfl, _, _, rfl, rfl, _, rfl, ?_⟩
      by_cases c1 : low ≤ n
      · rw [decide_eq_true c1] at q3 ⊢
        exact iteT ⟨_, rfl, _, _, rfl, rfl, _, rfl, q3⟩
      · rw [decide_eq_false c1] at q3 ⊢
        exact iteF ⟨_, rfl, q3⟩
    -- for end in ends
    have ez : (points.filter fun n => decide (low < n) && decide (n < high)).length ≤ 200 := Nat.le_trans (List.length_filter_le _ _) hl1
    have mz : (marks.filter fun n => decide (low ≤ n) && decide (n < high)).length ≤ 200 := Nat.le_trans (List.length_filter_le _ _) hl2
    have er : raw points marks low high many = (marks.filter fun n => decide (low ≤ n) && decide (n < high)) ++ (low :: points.filter fun n => decide (low < n) && decide (n < high)).flatMap (fun e => (List.range many.toNat).map fun i : Nat => e + 1 + (i : Int)) := rfl
    generalize (points.filter fun n => decide (low < n) && decide (n < high)) = es at e2 ez er
    generalize (marks.filter fun n => decide (low ≤ n) && decide (n < high)) = ms at e3 mz er
    have ez' : (low :: es).length ≤ 201 := by rw [List.length_cons]; omega
    generalize low :: es = ens at e2 ez' er
    refine ⟨_, rfl, en, rfl, ⟨_, SqL.of (s3 _ _ e2)⟩, ?_⟩
    refine loop_ints (K := K) (ns := ens) (fun i σ H4 => (∃ y1 y2 y3 y4, σ = [some (.ref p1), some (.ref p2), some (.ref sp), some (.int many), some (.ref en), some (.ref t), y1, some (.int low), some (.int high), y2, y3, y4]) ∧ Same H2 H4 ∧
        H4 t = some (.lst ((ms ++ (ens.take i).flatMap (fun e => (List.range many.toNat).map fun i : Nat => e + 1 + (i : Int))).map V.int))) ⟨⟨none, none, none, none, rfl⟩, s3, by rw [e3]; simp⟩ (fun i σ H4 _ h => SqL.of (h.2.1 _ _ e2)) ?_ ?_
    · rintro i n σ H4 hi ⟨⟨y1, y2, y3, y4, rfl⟩, s4, e4⟩
      have hil : i < ens.length := (List.getElem?_eq_some_iff.mp hi).1
      have hlen : ((ens.take i).flatMap (fun e => (List.range many.toNat).map fun i : Nat => e + 1 + (i : Int))).length ≤ 9 * i := by
        rw [List.length_flatMap]
        simp only [List.length_map, List.length_range]
        rw [List.map_const']
        rw [List.sum_replicate_nat, List.length_take]
        have : many.toNat ≤ 9 := by omega
        calc min i ens.length * many.toNat ≤ i * 9 := Nat.mul_le_mul (Nat.min_le_left _ _) this
          _ = 9 * i := Nat.mul_comm _ _
      refine ⟨_, rfl, .inl ⟨rfl, _, SqL.of e4⟩, _, rfl, _, rfl, by omega, by omega, ?_⟩
      refine comp_ran (fun _ => true) (fun z => .int (n + 1 + z)) (by omega) (fun n => rfl) (fun j _ H5 s5 R q5 => q5) (fun j _ _ H5 s5 R q5 => ⟨_, rfl, _, _, rfl, rfl, _, rfl, _, _, rfl, rfl, q5⟩) (fun D5 H5 nD5 s5 e5 => ?_)
      have ee : (((List.range many.toNat).map fun i : Nat => (0 : Int) + (i : Int)).filter fun _ => true).map (fun z => V.int (n + 1 + z)) = ((List.range many.toNat).map fun i : Nat => n + 1 + (i : Int)).map V.int := by
        rw [List.filter_eq_self.mpr (fun _ _ => rfl), List.map_map, List.map_map]
        refine List.map_congr_left fun a _ => ?_
        show V.int (n + 1 + (0 + (a : Int))) = V.int (n + 1 + (a : Int))
        rw [Int.zero_add]
      rw [ee] at e5
      refine ⟨t, D5, _, _, rfl, rfl, s5 _ _ e4, e5, ?_, Box.mk ⟨⟨_, _, _, _, rfl⟩, (s4.trans s5).mut nt, ?_⟩⟩
      · rw [List.length_map, List.length_append, List.length_map, List.length_map, List.length_range]
        exact smallK (by omega)
      · rw [upd_same, List.take_add_one, hi, List.flatMap_append, ← List.append_assoc, List.map_append, List.map_append, List.map_append]
        show some (HO.lst (_ ++ _)) = some (HO.lst (_ ++ List.map V.int (List.flatMap _ [n])))
        rw [List.flatMap_singleton]
    · rintro σ H4 ⟨⟨y1, y2, y3, y4, rfl⟩, s4, e4⟩
      rw [List.take_of_length_le (Nat.le_refl _), ← er] at e4
      refine ⟨_, rfl, t, raw points marks low high many, rfl, SqL.of e4, fun ns' p hp hs np => ?_⟩
      have := near_eq hv h10 hh10 hlt hm9 hp hs
      subst this
      exact q _ p ((s2.trans s4).trans (Same.new np)) (s2.free (s4.free np)) upd_same
end
end My
/-! D6 -/
set_option Elab.async false
set_option linter.all false
set_option maxRecDepth 100000
set_option maxHeartbeats 4000000
namespace My
open PySem PySem.Spec PyProof.Rows L2
local macro_rules | `(tactic| walk_at "ne") => `(tactic| first | assumption | (apply Ne.symm; assumption) | (apply ne_of_none <;> assumption) | (apply Ne.symm; apply ne_of_none <;> assumption) | (grind [upd]))
local macro_rules | `(tactic| walk_at "hp") => `(tactic| first
  | assumption
  | exact upd_same
  | ((apply Same.at; focus assumption); (walk_at "hp"))
  | ((apply Same.at; focus (apply Same.new; assumption)); (walk_at "hp"))
  | ((apply upd_at; focus (walk_at "hp")); (walk_at "ne")))
local macro_rules | `(tactic| walk_at "sq") => `(tactic| first
  | assumption
  | (apply SqL.of; (walk_at "hp"))
  | (apply SqT.of; (walk_at "hp"))
  | ((apply Same.seq; focus assumption); (walk_at "sq"))
  | ((apply Same.set; focus assumption); (walk_at "sq"))
  | (apply Sam.seq; (focus assumption); (focus assumption); (walk_at "sq"))
  | (apply Sam.set; (focus assumption); (focus assumption); (walk_at "sq"))
  | ((apply Same.seq; focus (apply Same.new; assumption)); (walk_at "sq"))
  | ((apply Same.set; focus (apply Same.new; assumption)); (walk_at "sq")))
local macro_rules | `(tactic| walk_at "sz") => `(tactic| (first | (apply small1000) | (apply smallL)) <;> (try simp only [List.length_map, List.length_append, List.length_cons, List.length_nil, List.length_take]; omega))
local macro_rules | `(tactic| walk_at "cl") => `(tactic| first
  | rfl
  | ((with_reducible show SqL _ _ _ _); (walk_at "sq"))
  | ((with_reducible show SqT _ _ _ _); (walk_at "sq"))
  | ((with_reducible show SqL _ _ _ _ ∨ SqT _ _ _ _); first | (apply Or.inl; (walk_at "sq")) | (apply Or.inr; (walk_at "sq")))
  | ((with_reducible show tyV _ _ _ _); apply Or.inl; apply And.intro; (focus rfl); apply Exists.intro; (walk_at "sq"))
  | ((with_reducible show _ = Option.some _); (walk_at "hp"))
  | ((with_reducible show Exists _); apply Exists.intro; (walk_at "sq"))
  | assumption
  | ((show (0 : Int) < _); first | assumption | decide)
  | ((with_reducible show CMul _ _); first | (apply Or.inl; apply And.intro <;> decide) | (apply Or.inr; apply And.intro <;> decide))
  | ((with_reducible show CDiv _ _); apply And.intro <;> decide)
  | ((with_reducible show List.length _ < sizeLine); (walk_at "sz"))
  | ((with_reducible show List.length _ ≤ sizeLine); (walk_at "sz")))
local macro_rules | `(tactic| walk_at "rd") => `(tactic| repeat' (first
  | (apply Exists.intro)
  | (apply And.intro; focus (walk_at "cl"))))

abbrev s_law_play : Stmt := topS 22
theorem sc_law_play : FnScope ["d", "marks", "hundreds", "way", "k", "turn"] ["d"] (defScope s_law_play) := ⟨rfl, rfl, rfl, by decide +kernel, rfl, by decide +kernel, by decide +kernel⟩
def allM : List Int := (((List.range 99).map fun i : Nat => (1 : Int) + (i : Int)).filter fun k => decide (0 < k % 10)).map fun k => 10 * k
def allH : List Int := (((List.range 9).map fun i : Nat => (1 : Int) + (i : Int)).filter fun _ => true).map fun k => 100 * k
theorem allM_nd : allM.Nodup := by decide +kernel
theorem allM_ok : ∀ m ∈ allM, m % 10 = 0 ∧ m % 100 ≠ 0 := by decide +kernel
theorem allM_len : allM.length = 90 := by decide +kernel
theorem allH_nd : allH.Nodup := by decide +kernel
theorem allH_ok : ∀ m ∈ allH, m % 100 = 0 := by decide +kernel
theorem allH_len : allH.length = 9 := by decide +kernel
theorem v56_of {hs ms points marks : List Int} (h1 : hs.Nodup) (h2 : ∀ h ∈ hs, h % 100 = 0) (m1 : ms.Nodup) (m2 : ∀ m ∈ ms, m ∈ allM) (hp : points.Perm (hs ++ ms)) (hm : marks.Perm ms) : V56 points marks := by
  refine ⟨fun p h => ?_, ?_, fun m h => (allM_ok m (m2 m (hm.mem_iff.mp h))).1, hm.nodup_iff.mpr m1⟩
  · rcases List.mem_append.mp (hp.mem_iff.mp h) with h | h
    · have := h2 p h
      omega
    · exact (allM_ok p (m2 p h)).1
  · refine hp.nodup_iff.mpr (List.nodup_append.mpr ⟨h1, m1, fun a ha b hb e => ?_⟩)
    subst e
    exact (allM_ok a (m2 a hb)).2 (h2 a ha)
section
variable {P : Program} {w : World} {K : PySem.W.Frag} {mg : Str → Option Value} {base : Heap}
def spPlay (K : PySem.W.Frag) : Sp := fun vs H Q _ => ∃ (S : Addr × List Int) (a : Addr), vs = [.ref a] ∧ Dst S H a ∧ ∀ (H' : Hp) (q p1 p2 : Addr) (points marks : List Int), Sam a H H' → Dst S H' a → H' q = some (.tup [.ref p1, .ref p2]) → H' p1 = some (.lst (points.map V.int)) → H' p2 = some (.lst (marks.map V.int)) →
  V56 points marks → points.length ≤ 200 → marks.length ≤ 200 → Q (.ref q) H'
theorem ok_play (T : Blt mg) (C_law_draw : Cal P w K mg base CX0 1 "_law_draw" ["d", "many"] spDraw) (C_law_pick : Cal P w K mg base CX0 2 "_law_pick" ["d", "row"] (spPick K)) (C_law_some : Cal P w K mg base CX0 2 "_law_some" ["d", "row", "least"] (spSome K)) (C_law_unlike : Cal P w K mg base CX0 1 "_law_unlike" ["row"] (spUnlike K))
    (D : DefAt K mg "_law_play" s_law_play ["d"]) : Cal P w K mg base CX0 3 "_law_play" ["d"] (spPlay K) := by
  refine D.ok sc_law_play (fun vs H Q E h => ?_) (fun f cdv A outer s H vs Q E hr h => ?_)
  · obtain ⟨S, a, rfl, _⟩ := h
    rfl
  · obtain ⟨S, a, rfl, hd, q⟩ := h
    have hu := hu_of hr
    refine ⟨_, (pss_cons (ps_set (i := 1) sc_law_play.nd rfl (by first | exact Or.inl rfl | exact Or.inr rfl) (pe_lcM (own := [("k", 4)]) (g := gName 4) rfl sc_law_play.nd (pi_range2 (by rfl) T.range (pa_cons pe_int (pa_cons pe_int pa_nil))) (blkOk_by (N := ["d", "marks", "hundreds", "way", "k", "turn"]) (sc := defScope s_law_play) (by decide +kernel)) (fun _ _ _ _ _ => pg_name (i := 4) sc_law_play.nd rfl (Or.inl rfl)) (fun _ _ _ _ _ => pts_one (pt_cmpR op_gt (pe_op op_mod (pe_callTy call_intI (by rfl) T.int (by decide +kernel) (pa_cons (pv 4) pa_nil)) pe_int) pe_int (nomark _))) (fun _ _ _ _ _ => (pe_op op_mul pe_int (pv 4)))))
      (pss_cons (ps_setLcM (i := 2) (own := [("k", 4)]) (g := gName 4) rfl sc_law_play.nd rfl rfl (sw_true rfl rfl rfl (by decide +kernel)) (pi_range2 (by rfl) T.range (pa_cons pe_int (pa_cons pe_int pa_nil))) (blkOk_by (N := ["d", "marks", "hundreds", "way", "k", "turn"]) (sc := defScope s_law_play) (by decide +kernel)) (fun _ _ _ _ _ => pg_name (i := 4) sc_law_play.nd rfl (Or.inl rfl)) (fun _ _ _ _ _ => pts_nil) (fun _ _ _ _ _ => (pe_op op_mul pe_int (pv 4))))
      (pss_cons (ps_set (i := 2) sc_law_play.nd rfl (by first | exact Or.inl rfl | exact Or.inr rfl) (pe_cal C_law_some (hr.mono (by decide)) (by rfl) (pa_cons (pv 0) (pa_cons (pe_slice (sl_listK K) (pv 2) po_none (po_some (pe_cal C_law_pick (hr.mono (by decide)) (by rfl) (pa_cons (pv 0) (pa_cons (pe_lst (pa_cons pe_int (pa_cons pe_int (pa_cons pe_int (pa_cons pe_int pa_nil))))) pa_nil))))) (pa_cons pe_int pa_nil)))))
      (pss_cons (ps_set (i := 3) sc_law_play.nd rfl (by first | exact Or.inl rfl | exact Or.inr rfl) (pe_cal C_law_draw (hr.mono (by decide)) (by rfl) (pa_cons (pv 0) (pa_cons pe_int pa_nil))))
      (pss_mid (ps_if (pt_cmpR op_lt (pv 3) pe_int (nomark _))
          (pss_one (ps_set (i := 1) sc_law_play.nd rfl (by first | exact Or.inl rfl | exact Or.inr rfl) (pe_callB (cr_sortedIK K) (by rfl) T.sorted (by decide +kernel) (pa_cons (pe_cal C_law_unlike (hr.mono (by decide)) (by rfl) (pa_cons (pe_lcM (own := [("turn", 5)]) (g := gName 5) rfl sc_law_play.nd (pi_range1 (by rfl) T.range (pa_cons (pv 3) pa_nil)) (blkOk_by (N := ["d", "marks", "hundreds", "way", "k", "turn"]) (sc := defScope s_law_play) (by decide +kernel)) (fun _ _ _ _ _ => pg_name (i := 5) sc_law_play.nd rfl (Or.inl rfl)) (fun _ _ _ _ _ => pts_nil) (fun _ _ _ _ _ => (pe_cal C_law_pick (hr.mono (by decide)) (by rfl) (pa_cons (pv 0) (pa_cons (pv 1) pa_nil))))) pa_nil)) pa_nil))))
          (pss_one (ps_if (pt_cmpR op_eq (pv 3) pe_int (nomark _))
              (pss_one (ps_set (i := 1) sc_law_play.nd rfl (by first | exact Or.inl rfl | exact Or.inr rfl) (pe_cal C_law_some (hr.mono (by decide)) (by rfl) (pa_cons (pv 0) (pa_cons (pv 1) (pa_cons pe_int pa_nil))))))
              pss_nil)))
      (pss_one (ps_ret (pe_tup (pa_cons (pe_callB (cr_sortedIK K) (by rfl) T.sorted (by decide +kernel) (pa_cons (pe_op op_cat (pv 2) (pv 1)) pa_nil)) (pa_cons (pv 1) pa_nil)))))))))), ?_⟩
    obtain ⟨k, hk⟩ := hd.dk
    -- marks, hundreds
    refine ⟨1, 100, rfl, ⟨by decide, by decide, by decide, by decide⟩, ?_⟩
    refine comp_ran (fun k => decide (0 < k % 10)) (fun k => .int (10 * k)) (by decide) (fun n => rfl) (fun j _ H5 s5 R q5 => ⟨_, rfl, _, rfl, _, _, rfl, rfl, (by show (0 : Int) < 10; decide), _, _, rfl, rfl, _, rfl, q5⟩) (fun j _ _ H5 s5 R q5 => ⟨_, rfl, _, _, rfl, rfl, .inl ⟨by decide, by decide⟩, q5⟩) (fun m H1 nm s1 e1 => ?_)
    have e1 : H1 m = some (.lst (allM.map V.int)) := by
      rw [e1]
      unfold allM
      rw [List.map_map]
      rfl
    refine ⟨1, 10, rfl, ⟨by decide, by decide, by decide, by decide⟩, ?_⟩
    refine comp_ran (fun _ => true) (fun k => .int (100 * k)) (by decide) (fun n => rfl) (fun j _ H5 s5 R q5 => q5) (fun j _ _ H5 s5 R q5 => ⟨_, rfl, _, _, rfl, rfl, .inl ⟨by decide, by decide⟩, q5⟩) (fun g H2 ng s2 e2 => ?_)
    have e2 : H2 g = some (.lst (allH.map V.int)) := by
      rw [e2]
      unfold allH
      rw [List.map_map]
      rfl
    have d2 := hd.same (s1.trans s2)
    -- hundreds = _law_some(d, hundreds[:pick], 0)
    refine ⟨_, rfl, _, rfl, _, rfl, (by show 4 ≤ sizeLine; decide), fun l nl => ?_⟩
    refine ⟨S, a, l, _, rfl, d2.new nl, .inl (SqL.of upd_same), by decide, by decide, fun H3 v s3 d3 hv => ?_⟩
    obtain ⟨n, rfl⟩ : ∃ n : Nat, v = .int (n : Int) := by
      simp only [List.mem_cons, List.not_mem_nil, or_false] at hv
      rcases hv with rfl | rfl | rfl | rfl
      · exact ⟨0, rfl⟩
      · exact ⟨2, rfl⟩
      · exact ⟨3, rfl⟩
      · exact ⟨9, rfl⟩
    have s23 : Sam a H2 H3 := (Same.new nl).sam.trans s3
    obtain ⟨k2, hk2⟩ := d2.dk
    have e3 : H3 g = some (.lst (allH.map V.int)) := s23 g _ (fun e => by rw [e, hk2] at e2; cases e2) e2
    have m3 : H3 m = some (.lst (allM.map V.int)) := s23 m _ (fun e => by rw [e, hd.same s1 |>.dk.choose_spec] at e1; cases e1) (s2 _ _ e1)
    refine ⟨_, rfl, g, _, rfl, SqL.of e3, fun c nc => ?_⟩
    rw [cutV_to, ← List.map_take]
    refine ⟨S, a, c, allH.take n, rfl, d3.new nc, SqL.of upd_same, by rw [List.length_take, allH_len]; omega, fun H4 hp hs s4 d4 nhp e4 hsub => ?_⟩
    have s34 : Sam a H3 H4 := (Same.new nc).sam.trans s4
    have m4 : H4 m = some (.lst (allM.map V.int)) := s34 m _ (fun e => by rw [e, d3.dk.choose_spec] at m3; cases m3) m3
    have hs1 : hs.Nodup := (allH_nd.sublist (List.take_sublist _ _)).sublist hsub
    have hs2 : ∀ h ∈ hs, h % 100 = 0 := fun h hh => allH_ok h ((hsub.trans (List.take_sublist _ _)).subset hh)
    have hs3 : hs.length ≤ 9 := by
      have := (hsub.trans (List.take_sublist _ _)).length_le
      rw [allH_len] at this
      exact this
    have sH4 : Sam a H H4 := (s1.trans s2).sam.trans (s23.trans s34)
    -- way
    refine ⟨_, rfl, S, a, 8, rfl, d4, by decide, by decide, fun H5 way s5 d5 w0 w8 => ?_⟩
    have m5 : H5 m = some (.lst (allM.map V.int)) := s5 m _ (fun e => by rw [e, d4.dk.choose_spec] at m4; cases m4) m4
    have h5 : H5 hp = some (.lst (hs.map V.int)) := s5 hp _ (fun e => by rw [e, d4.dk.choose_spec] at e4; cases e4) e4
    have sH5 : Sam a H H5 := sH4.trans s5
    refine mid_at (fun σ H6 => ∃ (mp : Addr) (ms : List Int) (y4 y5 : Option V), σ = [some (.ref a), some (.ref mp), some (.ref hp), some (.int way), y4, y5] ∧ Sam a H H6 ∧ Dst S H6 a ∧ H6 hp = some (.lst (hs.map V.int)) ∧ H6 mp = some (.lst (ms.map V.int)) ∧ ms.Nodup ∧ (∀ x ∈ ms, x ∈ allM) ∧ ms.length ≤ 90) ?_ ?_
    · refine ⟨_, rfl, _, _, rfl, rfl, _, rfl, ite2 (fun hw => ?_) (fun _ => ?_)⟩
      · have hw6 : way < 6 := of_decide_eq_true hw
        -- sorted(unlike([pick ..]))
        refine ⟨_, rfl, way, rfl, by omega, by omega, ?_⟩
        refine comp_range (fun D i H6 => Sam a H5 H6 ∧ Dst S H6 a ∧ ∃ zs : List Int, H6 D = some (.lst (zs.map V.int)) ∧ zs.length = i ∧ ∀ z ∈ zs, z ∈ allM) (fun D hD => ⟨(Same.new hD).sam, d5.new hD, [], upd_same, rfl, fun _ h => absurd h List.not_mem_nil⟩) ?_ ?_
        · rintro D i H6 hD hi ⟨s6, d6, zs, e6, hz, hzm⟩
          have m6 : H6 m = some (.lst (allM.map V.int)) := s6 m _ (fun e => by rw [e, d5.dk.choose_spec] at m5; cases m5) m5
          refine ⟨rfl, yesT ?_⟩
          refine ⟨_, rfl, _, rfl, S, a, m, _, rfl, d6, .inl (SqL.of m6), by rw [List.length_map, allM_len]; decide, by rw [List.length_map, allM_len]; decide, fun H7 v s7 d7 hv => ?_⟩
          obtain ⟨z, hzA, rfl⟩ := List.mem_map.mp hv
          have e7 := s7 D _ (d5.ne hD) e6
          refine ⟨_, e7, by rw [List.length_map]; exact small1000 (by omega), Box.mk ⟨(s6.trans s7).mut hD, d7.mut d5 hD, zs ++ [z], ?_, by rw [List.length_append, hz]; rfl, ?_⟩⟩
          · rw [upd_same, List.map_append]; rfl
          · intro x hx
            rcases List.mem_append.mp hx with h | h
            · exact hzm x h
            · rw [List.mem_singleton] at h
              subst h
              exact hzA
        · rintro D H6 hD ⟨s6, d6, zs, e6, hz, hzm⟩
          refine ⟨D, _, zs.map PyData.int, rfl, SqL.of e6, dpAll_ints zs, fun d hd' => ?_, by rw [List.length_map]; omega, fun H7 p ys s7 np e7 hy => ?_⟩
          · obtain ⟨i, _, rfl⟩ := List.mem_map.mp hd'
            exact shp_int i
          rw [unl_ints] at hy
          have hy' := dpAll_ints_inv hy
          subst hy'
          refine ⟨p, _, rfl, SqL.of e7, fun ns' r hperm _ nr => Box.mk ⟨r, ns', _, _, rfl, ?_, (d6.same s7).new nr, ?_, upd_same, ?_, ?_, ?_⟩⟩
          · exact (sH5.trans s6).thenSame (s7.trans (Same.new nr))
          · exact (s7.trans (Same.new nr)) _ _ (s6 hp _ (fun e => by rw [e, d5.dk.choose_spec] at h5; cases h5) h5)
          · exact hperm.nodup_iff.mpr (unlI_nodup zs)
          · exact fun x hx => hzm x ((unlI_mem zs x).mp (hperm.mem_iff.mp hx))
          · rw [hperm.length_eq]
            have h1 := unl_len (zs.map PyData.int)
            rw [unl_ints, List.length_map, List.length_map] at h1
            omega
      · refine ⟨_, rfl, rfl, _, rfl, ite2 (fun _ => ?_) (fun _ => ?_)⟩
        · refine ⟨_, rfl, _, rfl, S, a, m, allM, rfl, d5, SqL.of m5, by rw [allM_len]; decide, fun H6 p ms s6 d6 np e6 hsub => Box.mk ⟨p, ms, _, _, rfl, sH5.trans s6, d6, ?_, e6, allM_nd.sublist hsub, fun x hx => hsub.subset hx, ?_⟩⟩
          · exact s6 hp _ (fun e => by rw [e, d5.dk.choose_spec] at h5; cases h5) h5
          · have := hsub.length_le
            rw [allM_len] at this
            exact this
        · exact Box.mk ⟨m, allM, _, _, rfl, sH5, d5, h5, m5, allM_nd, fun x hx => hx, by rw [allM_len]; decide⟩
    · rintro σ H6 ⟨mp, ms, y4, y5, rfl, s6, d6, h6, m6, ms1, ms2, ms3⟩
      refine ⟨_, rfl, _, rfl, hp, mp, _, _, rfl, rfl, h6, m6, ?_, fun b nb => ?_⟩
      · rw [List.length_map, List.length_map]
        exact smallL (by omega)
      rw [← List.map_append]
      refine ⟨b, hs ++ ms, rfl, SqL.of upd_same, fun ps r hperm _ nr => ?_⟩
      refine ⟨_, rfl, (by show 2 ≤ sizeLine; decide), fun t nt => ?_⟩
      have sm : Same H6 (upd (upd (upd H6 b (.lst ((hs ++ ms).map V.int))) r (.lst (ps.map V.int))) t (.tup [.ref r, .ref mp])) := (Same.new nb).trans ((Same.new nr).trans (Same.new nt))
      refine q _ t r mp ps ms (s6.thenSame sm) (d6.same sm) upd_same (Same.new nt _ _ upd_same) (sm _ _ m6) (v56_of hs1 hs2 ms1 ms2 hperm (List.Perm.refl _)) ?_ (by omega)
      rw [hperm.length_eq, List.length_append]
      omega
end
end My
/-! D7 -/
set_option Elab.async false
set_option linter.all false
set_option maxRecDepth 100000
set_option maxHeartbeats 4000000
namespace My
open PySem PySem.Spec PyProof.Rows L2
local macro_rules | `(tactic| walk_at "ne") => `(tactic| first | assumption | (apply Ne.symm; assumption) | (apply ne_of_none <;> assumption) | (apply Ne.symm; apply ne_of_none <;> assumption) | (grind [upd]))
local macro_rules | `(tactic| walk_at "hp") => `(tactic| first
  | assumption
  | exact upd_same
  | ((apply Same.at; focus assumption); (walk_at "hp"))
  | ((apply Same.at; focus (apply Same.new; assumption)); (walk_at "hp"))
  | ((apply upd_at; focus (walk_at "hp")); (walk_at "ne")))
local macro_rules | `(tactic| walk_at "sq") => `(tactic| first
  | assumption
  | (apply SqL.of; (walk_at "hp"))
  | (apply SqT.of; (walk_at "hp"))
  | ((apply Same.seq; focus assumption); (walk_at "sq"))
  | ((apply Same.set; focus assumption); (walk_at "sq"))
  | (apply Sam.seq; (focus assumption); (focus assumption); (walk_at "sq"))
  | (apply Sam.set; (focus assumption); (focus assumption); (walk_at "sq"))
  | ((apply Same.seq; focus (apply Same.new; assumption)); (walk_at "sq"))
  | ((apply Same.set; focus (apply Same.new; assumption)); (walk_at "sq")))
local macro_rules | `(tactic| walk_at "sz") => `(tactic| (first | (apply small1000) | (apply smallL)) <;> (try simp only [List.length_map, List.length_append, List.length_cons, List.length_nil, List.length_take]; omega))
local macro_rules | `(tactic| walk_at "cl") => `(tactic| first
  | rfl
  | ((with_reducible show SqL _ _ _ _); (walk_at "sq"))
  | ((with_reducible show SqT _ _ _ _); (walk_at "sq"))
  | ((with_reducible show SqL _ _ _ _ ∨ SqT _ _ _ _); first | (apply Or.inl; (walk_at "sq")) | (apply Or.inr; (walk_at "sq")))
  | ((with_reducible show tyV _ _ _ _); apply Or.inl; apply And.intro; (focus rfl); apply Exists.intro; (walk_at "sq"))
  | ((with_reducible show _ = Option.some _); (walk_at "hp"))
  | ((with_reducible show Exists _); apply Exists.intro; (walk_at "sq"))
  | assumption
  | ((show (0 : Int) < _); first | assumption | decide)
  | ((with_reducible show CMul _ _); first | (apply Or.inl; apply And.intro <;> decide) | (apply Or.inr; apply And.intro <;> decide))
  | ((with_reducible show CDiv _ _); apply And.intro <;> decide)
  | ((with_reducible show List.length _ < sizeLine); (walk_at "sz"))
  | ((with_reducible show List.length _ ≤ sizeLine); (walk_at "sz")))
local macro_rules | `(tactic| walk_at "rd") => `(tactic| repeat' (first
  | (apply Exists.intro)
  | (apply And.intro; focus (walk_at "cl"))))

abbrev s_law_asked : Stmt := topS 24
theorem sc_law_asked : FnScope ["d", "pool", "told", "turn"] ["d"] (defScope s_law_asked) := ⟨rfl, rfl, rfl, by decide +kernel, rfl, by decide +kernel, by decide +kernel⟩
abbrev s_law_are_whole : Stmt := topS 25
theorem sc_law_are_whole : FnScope ["values", "value"] ["values"] (defScope s_law_are_whole) := ⟨rfl, rfl, rfl, by decide +kernel, rfl, by decide +kernel, by decide +kernel⟩
structure ROk (rows : List Row) : Prop where
  len : rows.length ≤ 3
  two : ∀ r ∈ rows, r.2.length = 2
  txt : ∀ r ∈ rows, (PyData.str r.1).canLay0 = true
theorem ROk.flat {rows : List Row} (h : ROk rows) : (rows.flatMap (·.2)).length ≤ 6 := by
  have : ∀ l : List Row, (∀ r ∈ l, r.2.length = 2) → (l.flatMap (·.2)).length = 2 * l.length := fun l => by
    induction l with
    | nil => intro _; rfl
    | cons a r ih =>
      intro hl
      rw [List.flatMap_cons, List.length_append, ih fun x hx => hl x (List.mem_cons_of_mem _ hx), hl a (List.mem_cons_self ..), List.length_cons]
      omega
  rw [this rows h.two]
  have := h.len
  omega
theorem ROk.shp {rows : List Row} (h : ROk rows) : ∀ d ∈ rows.map rowD, Shp 2 d := fun d hd => by
  obtain ⟨r, hr, rfl⟩ := List.mem_map.mp hd
  refine shp_tuple fun e he => ?_
  simp only [List.mem_cons, List.not_mem_nil, or_false] at he
  rcases he with rfl | rfl
  · exact shp_str (h.txt r hr)
  · refine shp_tuple (n := 0) fun z hz => ?_
    obtain ⟨i, _, rfl⟩ := List.mem_map.mp hz
    exact shp_int i
section
variable {P : Program} {w : World} {K : PySem.W.Frag} {mg : Str → Option Value} {base : Heap}
def spAsked (K : PySem.W.Frag) : Sp := fun vs H Q _ => ∃ (S : Addr × List Int) (a : Addr), vs = [.ref a] ∧ Dst S H a ∧ ∀ (H' : Hp) (p : Addr) (rows : List Row), Sam a H H' → Dst S H' a → Dp K H' (.ref p) (rowsD rows) → ROk rows → Q (.ref p) H'
theorem ok_asked (T : Blt mg) (C_law_draw : Cal P w K mg base CX0 1 "_law_draw" ["d", "many"] spDraw) (C_law_pick : Cal P w K mg base CX0 2 "_law_pick" ["d", "row"] (spPick K)) (C_law_unlike : Cal P w K mg base CX0 1 "_law_unlike" ["row"] (spUnlike K))
    (D : DefAt K mg "_law_asked" s_law_asked ["d"]) : Cal P w K mg base CX0 3 "_law_asked" ["d"] (spAsked K) := by
  refine D.ok sc_law_asked (fun vs H Q E h => ?_) (fun f cdv A outer s H vs Q E hr h => ?_)
  · obtain ⟨S, a, rfl, _⟩ := h
    rfl
  · obtain ⟨S, a, rfl, hd, q⟩ := h
    have hu := hu_of hr
    refine ⟨_, (pss_cons (ps_set (i := 1) sc_law_asked.nd rfl (by first | exact Or.inl rfl | exact Or.inr rfl) (pe_op op_cat (pe_slice (sl_listK K) (pe_lst (pa_cons (pe_un un_neg pe_int) (pa_cons (pe_un un_neg pe_int) (pa_cons (pe_un un_neg pe_int) (pa_cons (pe_un un_neg pe_int) (pa_cons (pe_un un_neg pe_int) pa_nil)))))) po_none (po_some (pe_cal C_law_draw (hr.mono (by decide)) (by rfl) (pa_cons (pv 0) (pa_cons pe_int pa_nil))))) (pe_lst (pa_cons pe_int (pa_cons pe_int pa_nil)))))
      (pss_cons (ps_set (i := 2) sc_law_asked.nd rfl (by first | exact Or.inl rfl | exact Or.inr rfl) (pe_lst pa_nil))
      (pss_cons (ps_forM PassesOwn.never rfl (pi_range1 (by rfl) T.range (pa_cons (pe_op op_add pe_int (pe_cal C_law_draw (hr.mono (by decide)) (by rfl) (pa_cons (pv 0) (pa_cons pe_int pa_nil)))) pa_nil)) (pg_name (i := 3) sc_law_asked.nd rfl (by first | exact Or.inl rfl | exact Or.inr rfl))
          (pss_one (ps_expr (pe_bmK K PySem.F.plainAttrs_list PySem.F.slot_list_append PySem.F.type_list_append mt_append (pv 2) (pa_cons (pe_tup (pa_cons (pe_cal C_law_pick (hr.mono (by decide)) (by rfl) (pa_cons (pv 0) (pa_cons (pe_lst (pa_cons pe_str (pa_cons pe_str pa_nil))) pa_nil))) (pa_cons (pe_tup (pa_cons (pe_cal C_law_pick (hr.mono (by decide)) (by rfl) (pa_cons (pv 0) (pa_cons (pv 1) pa_nil))) (pa_cons (pe_cal C_law_pick (hr.mono (by decide)) (by rfl) (pa_cons (pv 0) (pa_cons (pv 1) pa_nil))) pa_nil))) pa_nil))) pa_nil)))))
      (pss_one (ps_ret (pe_callTy (call_tupleK K) (by rfl) T.tuple (by decide +kernel) (pa_cons (pe_cal C_law_unlike (hr.mono (by decide)) (by rfl) (pa_cons (pv 2) pa_nil)) pa_nil))))))), ?_⟩
    -- pool
    refine ⟨3, rfl, 1, rfl, 7, rfl, 2, rfl, 5, rfl, (by show 5 ≤ sizeLine; decide), fun l nl => ?_⟩
    refine ⟨_, rfl, S, a, 6, rfl, hd.new nl, by decide, by decide, fun H1 v s1 d1 v0 v6 => ⟨v, rfl, ?_⟩⟩
    obtain ⟨n, rfl⟩ : ∃ n : Nat, v = n := ⟨v.toNat, by omega⟩
    have e1 : H1 l = some (.lst (([-3, -1, -7, -2, -5] : List Int).map V.int)) := s1 l _ (hd.ne nl) upd_same
    refine ⟨l, _, rfl, SqL.of e1, fun c nc => ?_⟩
    rw [cutV_to, ← List.map_take]
    refine ⟨(by show 2 ≤ sizeLine; decide), fun e ne => ?_⟩
    have ce : c ≠ e := fun z => by subst z; rw [upd_same] at ne; cases ne
    refine ⟨c, e, _, _, rfl, rfl, (by rw [upd_ne ce]; exact upd_same), upd_same, ?_, fun pl npl => ?_⟩
    · rw [List.length_map]
      refine smallL ?_
      have := List.length_take_le n ([-3, -1, -7, -2, -5] : List Int)
      show _ + 2 ≤ 1000
      have h5 : ([-3, -1, -7, -2, -5] : List Int).length = 5 := rfl
      have := List.length_take (i := n) (l := ([-3, -1, -7, -2, -5] : List Int))
      omega
    have epool : ((([-3, -1, -7, -2, -5] : List Int).take n).map V.int ++ [V.int 50, V.int 150]) = ((([-3, -1, -7, -2, -5] : List Int).take n ++ [50, 150]).map V.int) := by
      rw [List.map_append]
      rfl
    rw [epool]
    have hpn : 0 < (([-3, -1, -7, -2, -5] : List Int).take n ++ [50, 150]).length := by rw [List.length_append]; show 0 < _ + 2; omega
    have hpl : (([-3, -1, -7, -2, -5] : List Int).take n ++ [50, 150]).length ≤ 1000 := by
      rw [List.length_append, List.length_take]
      show min n 5 + 2 ≤ 1000
      omega
    generalize ([-3, -1, -7, -2, -5] : List Int).take n ++ [50, 150] = pool at hpn hpl
    have sA : Same H1 (upd (upd (upd H1 c (.lst (List.map V.int (List.take n [-3, -1, -7, -2, -5])))) e (.lst [V.int 50, V.int 150])) pl (.lst (pool.map V.int))) := (Same.new nc).trans ((Same.new ne).trans (Same.new npl))
    have ep : upd (upd (upd H1 c (.lst (List.map V.int (List.take n [-3, -1, -7, -2, -5])))) e (.lst [V.int 50, V.int 150])) pl (.lst (pool.map V.int)) pl = some (.lst (pool.map V.int)) := upd_same
    generalize upd (upd (upd H1 c (.lst (List.map V.int (List.take n [-3, -1, -7, -2, -5])))) e (.lst [V.int 50, V.int 150])) pl (.lst (pool.map V.int)) = H2 at sA ep
    have d2 := d1.same sA
    have s2 : Sam a H H2 := ((Same.new nl).sam.trans s1).thenSame sA
    -- told = []
    refine ⟨Nat.zero_le _, fun t nt => ?_⟩
    have nt0 : H t = none := s2.free nt (d2.ne nt)
    have npt : pl ≠ t := ne_of_none ep nt
    refine ⟨_, rfl, S, a, 3, rfl, d2.new nt, by decide, by decide, fun H3 u s3 d3 u0 u3 => ⟨_, _, rfl, rfl, _, rfl, by omega, by omega, ?_⟩⟩
    have e3 : H3 t = some (.lst []) := s3 t _ (d2.ne nt) upd_same
    have p3 : H3 pl = some (.lst (pool.map V.int)) := s3 pl _ (fun z => by rw [z, d2.dk.choose_spec] at ep; cases ep) (by rw [upd_ne npt]; exact ep)
    refine loop_range (fun i σ H4 => (∃ y, σ = [some (.ref a), some (.ref pl), some (.ref t), y]) ∧ Sam a H H4 ∧ Dst S H4 a ∧ H4 pl = some (.lst (pool.map V.int)) ∧ ∃ ys rows, H4 t = some (.lst ys) ∧ Paired (RowT H4) ys rows ∧ rows.length = i ∧ ∀ r ∈ rows, r.2.length = 2 ∧ (PyData.str r.1).canLay0 = true)
      ⟨⟨none, rfl⟩, s2.trans ((Same.new nt).sam.trans s3), d3, p3, [], [], e3, .nil, rfl, fun r hr => absurd hr List.not_mem_nil⟩ ?_ ?_
    · rintro i σ H4 hi ⟨⟨y, rfl⟩, s4, d4, p4, ys, rows, e4, hR, hz, hok⟩
      refine ⟨_, rfl, .inl ⟨rfl, _, SqL.of e4⟩, _, rfl, (by show 2 ≤ sizeLine; decide), fun l1 nl1 => ?_⟩
      refine ⟨S, a, l1, _, rfl, d4.new nl1, .inl (SqL.of upd_same), by decide, by decide, fun H5 v5 s5 d5 hv5 => ?_⟩
      have s45 : Sam a H4 H5 := (Same.new nl1).sam.trans s5
      have p5 : H5 pl = some (.lst (pool.map V.int)) := s45 pl _ (fun z => by rw [z, d4.dk.choose_spec] at p4; cases p4) p4
      obtain ⟨x5, rfl, hx5⟩ : ∃ x : Str, v5 = .str x ∧ (PyData.str x).canLay0 = true := by
        simp only [List.mem_cons, List.not_mem_nil, or_false] at hv5
        rcases hv5 with rfl | rfl
        · exact ⟨_, rfl, by decide +kernel⟩
        · exact ⟨_, rfl, by decide +kernel⟩
      refine ⟨_, rfl, _, rfl, S, a, pl, _, rfl, d5, .inl (SqL.of p5), by rw [List.length_map]; exact hpn, by rw [List.length_map]; exact hpl, fun H6 v6 s6 d6 hv6 => ?_⟩
      have p6 : H6 pl = some (.lst (pool.map V.int)) := s6 pl _ (fun z => by rw [z, d5.dk.choose_spec] at p5; cases p5) p5
      refine ⟨_, rfl, _, rfl, S, a, pl, _, rfl, d6, .inl (SqL.of p6), by rw [List.length_map]; exact hpn, by rw [List.length_map]; exact hpl, fun H7 v7 s7 d7 hv7 => ?_⟩
      have p7 : H7 pl = some (.lst (pool.map V.int)) := s7 pl _ (fun z => by rw [z, d6.dk.choose_spec] at p6; cases p6) p6
      obtain ⟨x6, _, rfl⟩ := List.mem_map.mp hv6
      obtain ⟨x7, _, rfl⟩ := List.mem_map.mp hv7
      have s47 : Sam a H4 H7 := s45.trans (s6.trans s7)
      refine ⟨(by show 2 ≤ sizeLine; decide), fun q1 nq1 => ⟨(by show 2 ≤ sizeLine; decide), fun q2 nq2 => ?_⟩⟩
      have e7 : H7 t = some (.lst ys) := s47 t _ (hd.ne nt0) e4
      have sB : Same H7 (upd (upd H7 q1 (.tup [.int x6, .int x7])) q2 (.tup [.str x5, .ref q1])) := (Same.new nq1).trans (Same.new nq2)
      have e8 := sB _ _ e7
      have n12 : q1 ≠ q2 := fun z => by subst z; rw [upd_same] at nq2; cases nq2
      have hnew : RowT (upd (upd H7 q1 (.tup [.int x6, .int x7])) q2 (.tup [.str x5, .ref q1])) (.ref q2) (x5, [x6, x7]) := ⟨q2, q1, rfl, upd_same, by rw [upd_ne n12]; exact upd_same⟩
      have hold : Paired (RowT (upd (upd H7 q1 (.tup [.int x6, .int x7])) q2 (.tup [.str x5, .ref q1]))) ys rows := Paired.mapP hR fun _ _ z => (z.sam s47 d4.dk.choose_spec).same sB
      refine ⟨t, ys, .ref q2, rfl, rfl, e8, small1000 ?_, Box.mk ⟨⟨_, rfl⟩, ((s4.trans s47).thenSame sB).mut nt0, (d7.same sB).mut hd nt0, ?_, ys ++ [.ref q2], rows ++ [(x5, [x6, x7])], upd_same, paired_app (Paired.mapP hold fun _ _ z => z.upd e8) (.cons (hnew.upd e8) .nil), by rw [List.length_append, hz]; rfl, fun r hr => ?_⟩⟩
      · rw [Paired.length hR]
        omega
      · rw [upd_ne npt]
        exact sB _ _ p7
      · rcases List.mem_append.mp hr with h | h
        · exact hok r h
        · rw [List.mem_singleton] at h
          subst h
          exact ⟨rfl, hx5⟩
    · rintro σ H4 ⟨⟨y, rfl⟩, s4, d4, p4, ys, rows, e4, hR, hz, hok⟩
      have hz3 : rows.length ≤ 3 := by omega
      have hro : ROk rows := ⟨hz3, fun r hr => (hok r hr).1, fun r hr => (hok r hr).2⟩
      refine ⟨_, rfl, t, ys, _, rfl, SqL.of e4, rowsT_dp hR, fun d hd' => (hro.shp d hd').mono (by decide), by rw [Paired.length hR]; omega, fun H5 p zs s5 np e5 hy => ?_⟩
      obtain ⟨rows', hr', hm'⟩ := image_rows (unl_mem (rows.map rowD))
      rw [hr'] at hy
      have hl' : rows'.length ≤ 3 := by
        have := unl_len (rows.map rowD)
        rw [hr', List.length_map, List.length_map] at this
        omega
      refine ⟨p, zs, rfl, SqL.of e5, fun r nr => q _ r rows' (s4.thenSame (s5.trans (Same.new nr))) (d4.same (s5.trans (Same.new nr))) ?_ ⟨hl', fun x hx => hro.two x (hm' x hx), fun x hx => hro.txt x (hm' x hx)⟩⟩
      exact .tup (SqT.of upd_same) (hy.same (Same.new nr))
def spWhole (K : PySem.W.Frag) : Sp := fun vs H Q _ => ∃ (p : Addr) (ns : List Int), vs = [.ref p] ∧ H p = some (.lst (ns.map V.int)) ∧ ns.length ≤ 1000 ∧ ∀ H' : Hp, Same H H' → Q (.bl true) H'
theorem ok_whole (T : Blt mg) (C_law_is_int : Cal P w K mg base CX0 1 "_law_is_int" ["thing"] spIsInt) (D : DefAt K mg "_law_are_whole" s_law_are_whole ["values"]) : Cal P w K mg base CX0 2 "_law_are_whole" ["values"] (spWhole K) := by
  refine D.ok sc_law_are_whole (fun vs H Q E h => ?_) (fun f cdv A outer s H vs Q E hr h => ?_)
  · obtain ⟨p, ns, rfl, _⟩ := h
    rfl
  · obtain ⟨p, ns, rfl, e, hl, q⟩ := h
    have hu := hu_of hr
    refine ⟨_, (pss_one (ps_ret (pe_and (pe_callB (call_isiK' K) (by rfl) T.isinstance (by decide +kernel) (pa_cons (pv 0) (pa_cons (pe_bltn (v := .ty "list") (by rfl) T.list (by decide +kernel) rfl) pa_nil))) (pe_one (pe_callB (cr_allK K rfl) (by rfl) T.all (by decide +kernel) (pa_cons (pe_lcM (own := [("value", 1)]) (g := gName 1) rfl sc_law_are_whole.nd (pi_listK K (pv 0)) (blkOk_by (N := ["values", "value"]) (sc := defScope s_law_are_whole) (by decide +kernel)) (fun _ _ _ _ _ => pg_name (i := 1) sc_law_are_whole.nd rfl (Or.inl rfl)) (fun _ _ _ _ _ => pts_nil) (fun _ _ _ _ _ => (pe_cal C_law_is_int (hr.mono (by decide)) (by rfl) (pa_cons (pv 1) pa_nil)))) pa_nil)))))), ?_⟩
    refine ⟨_, rfl, .ref p, .ty "list", .type "list", .type "list", true, rfl, .ty _, .base (.lst e), kit_ty (by decide +kernel), true, rfl, iteT ?_⟩
    refine ⟨_, rfl, p, rfl, ⟨_, SqL.of e⟩, ?_⟩
    refine comp_ints (fun _ => true) (fun _ => .bl true) (SqL.of e) hl (fun n => rfl) (fun j _ H5 s5 R q5 => q5) (fun j _ _ H5 s5 R q5 => ⟨_, rfl, j, rfl, q5⟩) (fun D5 H5 nD5 s5 e5 => ?_)
    refine ⟨D5, ns.map fun _ => true, rfl, SqL.of ?_, ?_⟩
    · rw [e5, List.filter_eq_self.mpr (fun _ _ => rfl), List.map_map]
      rfl
    · rw [show (ns.map fun _ => true).all id = true from List.all_eq_true.mpr fun x hx => by obtain ⟨_, _, rfl⟩ := List.mem_map.mp hx; rfl]
      exact q _ s5
end
end My
/-! D8 -/
set_option Elab.async false
set_option linter.all false
set_option maxRecDepth 100000
set_option maxHeartbeats 4000000
namespace My
open PySem PySem.Spec PyProof.Rows L2
local macro_rules | `(tactic| walk_at "ne") => `(tactic| first | assumption | (apply Ne.symm; assumption) | (apply ne_of_none <;> assumption) | (apply Ne.symm; apply ne_of_none <;> assumption) | (grind [upd]))
local macro_rules | `(tactic| walk_at "hp") => `(tactic| first
  | assumption
  | exact upd_same
  | ((apply Same.at; focus assumption); (walk_at "hp"))
  | ((apply Same.at; focus (apply Same.new; assumption)); (walk_at "hp"))
  | ((apply upd_at; focus (walk_at "hp")); (walk_at "ne")))
local macro_rules | `(tactic| walk_at "sq") => `(tactic| first
  | assumption
  | (apply SqL.of; (walk_at "hp"))
  | (apply SqT.of; (walk_at "hp"))
  | ((apply Same.seq; focus assumption); (walk_at "sq"))
  | ((apply Same.set; focus assumption); (walk_at "sq"))
  | (apply Sam.seq; (focus assumption); (focus assumption); (walk_at "sq"))
  | (apply Sam.set; (focus assumption); (focus assumption); (walk_at "sq"))
  | ((apply Same.seq; focus (apply Same.new; assumption)); (walk_at "sq"))
  | ((apply Same.set; focus (apply Same.new; assumption)); (walk_at "sq")))
local macro_rules | `(tactic| walk_at "sz") => `(tactic| (first | (apply small1000) | (apply smallL)) <;> (try simp only [List.length_map, List.length_append, List.length_cons, List.length_nil, List.length_take]; omega))
local macro_rules | `(tactic| walk_at "cl") => `(tactic| first
  | rfl
  | ((with_reducible show SqL _ _ _ _); (walk_at "sq"))
  | ((with_reducible show SqT _ _ _ _); (walk_at "sq"))
  | ((with_reducible show SqL _ _ _ _ ∨ SqT _ _ _ _); first | (apply Or.inl; (walk_at "sq")) | (apply Or.inr; (walk_at "sq")))
  | ((with_reducible show tyV _ _ _ _); apply Or.inl; apply And.intro; (focus rfl); apply Exists.intro; (walk_at "sq"))
  | ((with_reducible show _ = Option.some _); (walk_at "hp"))
  | ((with_reducible show Exists _); apply Exists.intro; (walk_at "sq"))
  | assumption
  | ((show (0 : Int) < _); first | assumption | decide)
  | ((with_reducible show CMul _ _); first | (apply Or.inl; apply And.intro <;> decide) | (apply Or.inr; apply And.intro <;> decide))
  | ((with_reducible show CDiv _ _); apply And.intro <;> decide)
  | ((with_reducible show List.length _ < sizeLine); (walk_at "sz"))
  | ((with_reducible show List.length _ ≤ sizeLine); (walk_at "sz")))
local macro_rules | `(tactic| walk_at "rd") => `(tactic| repeat' (first
  | (apply Exists.intro)
  | (apply And.intro; focus (walk_at "cl"))))

abbrev s_law_are_ways : Stmt := topS 26
theorem sc_law_are_ways : FnScope ["told", "due", "at", "term"] ["told", "due"] (defScope s_law_are_ways) := ⟨rfl, rfl, rfl, by decide +kernel, rfl, by decide +kernel, by decide +kernel⟩
abbrev s_law_all_ways : Stmt := topS 27
theorem sc_law_all_ways : FnScope ["met", "choices", "told", "at", "more", "ahead", "value", "chosen"] ["met", "choices"] (defScope s_law_all_ways) := ⟨rfl, rfl, rfl, by decide +kernel, rfl, by decide +kernel, by decide +kernel⟩
section
variable {P : Program} {w : World} {K : PySem.W.Frag} {mg : Str → Option Value} {base : Heap}
def spAreWays (K : PySem.W.Frag) : Sp := fun vs H Q _ => ∃ (p1 p2 : Addr) (r1 r2 : List Addr) (ws : List Way), vs = [.ref p1, .ref p2] ∧ H p1 = some (.lst (r1.map V.ref)) ∧ H p2 = some (.lst (r2.map V.ref)) ∧ DictsAt H r1 ws ∧ DictsAt H r2 ws ∧ (∀ x ∈ ws, (x.map (·.1)).Nodup) ∧ (∀ x ∈ ws, x.length ≤ 100) ∧ ws.length ≤ 1000 ∧
  ∀ H' : Hp, Same H H' → Q (.bl true) H'
theorem ok_are_ways (T : Blt mg) (C_law_is_int : Cal P w K mg base CX0 1 "_law_is_int" ["thing"] spIsInt) (D : DefAt K mg "_law_are_ways" s_law_are_ways ["told", "due"]) : Cal P w K mg base CX0 2 "_law_are_ways" ["told", "due"] (spAreWays K) := by
  refine D.ok sc_law_are_ways (fun vs H Q E h => ?_) (fun f cdv A outer s H vs Q E hr h => ?_)
  · obtain ⟨p1, p2, r1, r2, ws, rfl, _⟩ := h
    rfl
  · obtain ⟨p1, p2, r1, r2, ws, rfl, e1, e2, h1, h2, hnd, hsz, hlen, q⟩ := h
    have hu := hu_of hr
    have l1 := h1.len
    have l2 := h2.len
    refine ⟨_, (pss_cons (ps_if (PW.pt (pw_or (pt_not (pt_val (pe_callB (call_isiK' K) (by rfl) T.isinstance (by decide +kernel) (pa_cons (pv 0) (pa_cons (pe_bltn (v := .ty "list") (by rfl) T.list (by decide +kernel) rfl) pa_nil))))) (pw_or1 (pt_cmpR op_ne (pe_callB (call_lenK K) (by rfl) T.len (by decide +kernel) (pa_cons (pv 0) pa_nil)) (pe_callB (call_lenK K) (by rfl) T.len (by decide +kernel) (pa_cons (pv 1) pa_nil)) (nomark _)))))
          (pss_one (ps_ret pe_bl))
          pss_nil)
      (pss_cons (ps_forM PassesOwn.never rfl (pi_range1 (by rfl) T.range (pa_cons (pe_callB (call_lenK K) (by rfl) T.len (by decide +kernel) (pa_cons (pv 1) pa_nil)) pa_nil)) (pg_name (i := 2) sc_law_are_ways.nd rfl (by first | exact Or.inl rfl | exact Or.inr rfl))
          (pss_cons (ps_if (PW.pt (pw_or (pt_not (pt_val (pe_callB (call_isiK' K) (by rfl) T.isinstance (by decide +kernel) (pa_cons (pe_ix (ix_listK K) (pv 0) (pv 2) (fun _ _ => rfl)) (pa_cons (pe_bltn (v := .ty "dict") (by rfl) T.dict (by decide +kernel) rfl) pa_nil))))) (pw_or1 (pt_cmpR (op_ne_dictA hr.units0) (pe_ix (ix_listK K) (pv 0) (pv 2) (fun _ _ => rfl)) (pe_ix (ix_listK K) (pv 1) (pv 2) (fun _ _ => rfl)) (nomark _)))))
              (pss_one (ps_ret pe_bl))
              pss_nil)
          (pss_one (ps_if (pt_not (pt_val (pe_callB (cr_allK K rfl) (by rfl) T.all (by decide +kernel) (pa_cons (pe_lock (pe_lcM (own := [("term", 3)]) (g := gName 3) rfl sc_law_are_ways.nd (pi_keys (pe_ix (ix_listK K) (pv 1) (pv 2) (fun _ _ => rfl))) (blkOk_by (N := ["told", "due", "at", "term"]) (sc := defScope s_law_are_ways) (by decide +kernel)) (fun _ _ _ _ _ => pg_name (i := 3) sc_law_are_ways.nd rfl (Or.inl rfl)) (fun _ _ _ _ _ => pts_nil) (fun _ _ _ _ _ => (pe_cal C_law_is_int (hr.mono (by decide)) (by rfl) (pa_cons (pe_dget hu (pe_ix (ix_listK K) (pv 0) (pv 2) (fun _ _ => rfl)) (pv 3) (fun _ _ => rfl)) pa_nil))))) pa_nil))))
              (pss_one (ps_ret pe_bl))
              pss_nil))))
      (pss_one (ps_ret pe_bl)))), ?_⟩
    -- isinstance(told, list), lengths
    refine ⟨_, rfl, .ref p1, .ty "list", .type "list", .type "list", true, rfl, .ty _, .base (.lst e1), kit_ty (by decide +kernel), true, rfl, ?_⟩
    refine iteF ⟨_, rfl, p1, _, rfl, .inl (SqL.of e1), _, rfl, p2, _, rfl, .inl (SqL.of e2), rfl, _, rfl, ?_⟩
    refine iteNS (by rw [List.length_map, List.length_map, l1, l2]) ?_
    -- for at in range(len(due))
    refine ⟨_, rfl, p2, _, rfl, .inl (SqL.of e2), _, rfl, by omega, by rw [List.length_map]; omega, ?_⟩
    refine loop_range (fun i σ H1 => (∃ y z, σ = [some (.ref p1), some (.ref p2), y, z]) ∧ Same H H1) ⟨⟨none, none, rfl⟩, Same.refl H⟩ ?_ ?_
    · rintro i σ H1 hi ⟨⟨y, z, rfl⟩, s1⟩
      have hi2 : i < ws.length := by rw [List.length_map] at hi; omega
      have hi1 : i < r1.length := by omega
      have hi3 : i < r2.length := by omega
      have f1 : H1 p1 = some (.lst (r1.map V.ref)) := s1 _ _ e1
      have f2 : H1 p2 = some (.lst (r2.map V.ref)) := s1 _ _ e2
      have ew : ∀ q, ws[i]? = some q → q = ws[i] := fun q hq => by rw [List.getElem?_eq_getElem hi2] at hq; exact (Option.some.inj hq).symm
      have g1 : H1 r1[i] = some (.dK (dkI ws[i])) := by
        obtain ⟨w', hw, e⟩ := (h1.same s1).get (List.getElem?_eq_getElem hi1)
        rw [ew _ hw] at e
        exact e
      have g2 : H1 r2[i] = some (.dK (dkI ws[i])) := by
        obtain ⟨w', hw, e⟩ := (h2.same s1).get (List.getElem?_eq_getElem hi3)
        rw [ew _ hw] at e
        exact e
      have a1 : atI (r1.map V.ref) ((0 : Int) + (i : Int)) = some (.ref r1[i]) := by rw [Int.zero_add]; exact atI_nat (by rw [List.getElem?_map, List.getElem?_eq_getElem hi1]; rfl)
      have a2 : atI (r2.map V.ref) ((0 : Int) + (i : Int)) = some (.ref r2[i]) := by rw [Int.zero_add]; exact atI_nat (by rw [List.getElem?_map, List.getElem?_eq_getElem hi3]; rfl)
      have hn := hnd ws[i] (List.getElem_mem hi2)
      have hz := hsz ws[i] (List.getElem_mem hi2)
      generalize ws[i] = wi at g1 g2 hn hz
      -- isinstance(told[at], dict), told[at] != due[at]
      refine ⟨_, rfl, _, rfl, p1, _, _, _, rfl, rfl, SqL.of f1, a1, .ref r1[i], .ty "dict", .type "dict", .type "dict", true, rfl, .ty _, .base (.dK g1), kit_ty (by decide +kernel), true, rfl, ?_⟩
      refine iteF ⟨_, rfl, _, rfl, p1, _, _, _, rfl, rfl, SqL.of f1, a1, _, rfl, _, rfl, p2, _, _, _, rfl, rfl, SqL.of f2, a2, r1[i], r2[i], dkI wi, dkI wi, rfl, rfl, g1, g2, rfl, fun p hp => ⟨dkI_val hn p hp, ?_⟩, _, rfl, iteF ?_⟩
      · obtain ⟨b, _, rfl⟩ := List.mem_map.mp hp
        rfl
      -- all([_law_is_int(told[at][term]) for term in due[at]])
      refine ⟨r2[i], _, g2, trivial, fun od => ?_⟩
      have nk : ∀ {p : Addr} {xs : List V}, H1 p = some (.lst xs) → p ≠ r2[i] := fun e z => by rw [z, g2] at e; cases e
      refine ⟨_, rfl, _, rfl, p2, _, _, _, rfl, rfl, SqL.of (by rw [upd_ne (nk f2)]; exact f2), a2, r2[i], od, rfl, .inl ⟨_, upd_same, ?_⟩⟩
      have hrd : Rd (upd H1 r2[i] (.frz od (.dK (dkI wi)))) r1[i] (.dK (dkI wi)) := by
        by_cases hsame : r1[i] = r2[i]
        · rw [hsame]
          exact .inr ⟨od, upd_same⟩
        · exact .inl (by rw [upd_ne hsame]; exact g1)
      have rds : ∀ {H2 : Hp}, Same (upd H1 r2[i] (.frz od (.dK (dkI wi)))) H2 → Rd H2 r1[i] (.dK (dkI wi)) := fun s2 => hrd.elim (fun e => .inl (s2 _ _ e)) fun ⟨o, e⟩ => .inr ⟨o, s2 _ _ e⟩
      have f1' : upd H1 r2[i] (.frz od (.dK (dkI wi))) p1 = some (.lst (r1.map V.ref)) := by rw [upd_ne (nk f1)]; exact f1
      have hzk : (dkI wi).length ≤ 100 := by unfold dkI; rw [List.length_map]; exact hz
      refine comp_keys (fun D j H2 => Same (upd H1 r2[i] (.frz od (.dK (dkI wi)))) H2 ∧ ∃ bs : List Bool, H2 D = some (.lst (bs.map V.bl)) ∧ bs.length = j ∧ ∀ b ∈ bs, b = true) (fun D hD => ⟨Same.new hD, [], upd_same, rfl, fun _ h => absurd h List.not_mem_nil⟩) (fun D j H2 hD _ h => h.1 _ _ upd_same) ?_ ?_
      · rintro D j k v H2 hD hj ⟨s2, bs, eD, hb, hbt⟩
        have hjl : j < (dkI wi).length := (List.getElem?_eq_some_iff.mp hj).1
        have hm : (k, v) ∈ dkI wi := List.mem_of_getElem? hj
        obtain ⟨b, hb', hbe⟩ := List.mem_map.mp hm
        have hv : v = .int b.2 := (Prod.mk.inj hbe).2.symm
        have hk : k = .inl b.1 := (Prod.mk.inj hbe).1.symm
        have hval : valV (dkI wi) k = some (.int b.2) := by rw [dkI_val hn _ hm, hv]
        refine ⟨rfl, yesT ?_⟩
        refine ⟨_, rfl, _, rfl, p1, _, _, _, rfl, rfl, SqL.of (s2 _ _ f1'), a1, _, rfl, r1[i], .int b.2, rfl, .inl ⟨_, k, rds s2, rfl, hval.symm⟩, b.2, rfl, ?_⟩
        refine ⟨_, eD, by rw [List.length_map]; exact small1000 (by omega), Box.mk ⟨s2.mut hD, bs ++ [true], by rw [upd_same, List.map_append]; rfl, by rw [List.length_append, hb]; rfl, fun x hx => ?_⟩⟩
        rcases List.mem_append.mp hx with h | h
        · exact hbt x h
        · exact List.mem_singleton.mp h
      · rintro D H2 hD ⟨s2, bs, eD, hb, hbt⟩
        refine ⟨s2 _ _ upd_same, D, bs, rfl, SqL.of ?_, ?_⟩
        · rw [upd_ne (fun z => by rw [z, s2 _ _ upd_same] at eD; cases eD)]
          exact eD
        · rw [show bs.all id = true from List.all_eq_true.mpr hbt]
          refine ⟨_, rfl, iteF (Box.mk ⟨⟨_, _, rfl⟩, fun b o hbo => ?_⟩)⟩
          have hb1 := s1 b o hbo
          by_cases hbr : b = r2[i]
          · subst hbr
            rw [g2] at hb1
            cases hb1
            exact upd_same
          · rw [upd_ne hbr]
            exact s2 b o (by rw [upd_ne hbr]; exact hb1)
    · rintro σ H1 ⟨⟨y, z, rfl⟩, s1⟩
      exact q _ s1
def spAllWays (K : PySem.W.Frag) : Sp := fun vs H Q _ => ∃ (pm pc : Addr) (met : List Int) (cr : List Addr) (cs : List (List Int)), vs = [.ref pm, .ref pc] ∧ H pm = some (.lst (met.map V.int)) ∧ H pc = some (.lst (cr.map V.ref)) ∧ Paired (fun (r : Addr) (c : List Int) => H r = some (.lst (c.map V.int))) cr cs ∧ met.length = cs.length ∧ met.Nodup ∧ met.length ≤ 100 ∧
  (∀ i, (allW ((met.zip cs).take i)).length ≤ 1000) ∧ ∀ (H' : Hp) (p : Addr) (refs : List Addr), Same H H' → H' p = some (.lst (refs.map V.ref)) → H p = none → DictsAt H' refs (allW (met.zip cs)) → (∀ r ∈ refs, H r = none) → Q (.ref p) H'
theorem ok_all_ways (T : Blt mg) (D : DefAt K mg "_law_all_ways" s_law_all_ways ["met", "choices"]) : Cal P w K mg base CX0 1 "_law_all_ways" ["met", "choices"] (spAllWays K) := by
  refine D.ok sc_law_all_ways (fun vs H Q E h => ?_) (fun f cdv A outer s H vs Q E hr h => ?_)
  · obtain ⟨pm, pc, met, cr, cs, rfl, _⟩ := h
    rfl
  · obtain ⟨pm, pc, met, cr, cs, rfl, em, ec, hcs, hlm, hmn, hml, hbd, q⟩ := h
    have hu := hu_of hr
    have lcr := Paired.length hcs
    refine ⟨_, (pss_cons (ps_set (i := 2) sc_law_all_ways.nd rfl (by first | exact Or.inl rfl | exact Or.inr rfl) (pe_lst (pa_cons pe_dnewK pa_nil)))
      (pss_cons (ps_forM PassesOwn.never rfl (pi_range1 (by rfl) T.range (pa_cons (pe_callB (call_lenK K) (by rfl) T.len (by decide +kernel) (pa_cons (pv 0) pa_nil)) pa_nil)) (pg_name (i := 3) sc_law_all_ways.nd rfl (by first | exact Or.inl rfl | exact Or.inr rfl))
          (pss_cons (ps_set (i := 4) sc_law_all_ways.nd rfl (by first | exact Or.inl rfl | exact Or.inr rfl) (pe_lst pa_nil))
          (pss_cons (ps_forM PassesOwn.never rfl (pi_listK K (pv 2)) (pg_name (i := 5) sc_law_all_ways.nd rfl (by first | exact Or.inl rfl | exact Or.inr rfl))
              (pss_one (ps_forM PassesOwn.never rfl (pi_listK K (pe_ix (ix_listK K) (pv 1) (pv 3) (fun _ _ => rfl))) (pg_name (i := 6) sc_law_all_ways.nd rfl (by first | exact Or.inl rfl | exact Or.inr rfl))
                  (pss_cons (ps_set (i := 7) sc_law_all_ways.nd rfl (by first | exact Or.inl rfl | exact Or.inr rfl) (pe_callTy call_dictOf (by rfl) T.dict (by decide +kernel) (pa_cons (pv 5) pa_nil)))
                  (pss_cons (ps_dput hu (pv 7) (pe_ix (ix_listK K) (pv 0) (pv 3) (fun _ _ => rfl)) (pv 6) rfl)
                  (pss_one (ps_expr (pe_bmK K PySem.F.plainAttrs_list PySem.F.slot_list_append PySem.F.type_list_append mt_append (pv 4) (pa_cons (pv 7) pa_nil)))))))))
          (pss_one (ps_set (i := 2) sc_law_all_ways.nd rfl (by first | exact Or.inl rfl | exact Or.inr rfl) (pv 4))))))
      (pss_one (ps_ret (pv 2))))), ?_⟩
    -- told = [{}]
    intro e0 ne0
    refine ⟨(by show 1 ≤ sizeLine; decide), fun t0 nt0 => ?_⟩
    have n0 : e0 ≠ t0 := fun z => by subst z; rw [upd_same] at nt0; cases nt0
    have sA : Same H (upd (upd H e0 (.dK [])) t0 (.lst [V.ref e0])) := (Same.new ne0).trans (Same.new nt0)
    refine ⟨_, rfl, pm, _, rfl, .inl (SqL.of (sA _ _ em)), _, rfl, by omega, by rw [List.length_map]; omega, ?_⟩
    refine loop_range (fun i σ H1 => (∃ t y2 y3 y4 y5 y6, σ = [some (.ref pm), some (.ref pc), some (.ref t), y2, y3, y4, y5, y6] ∧ H t = none ∧ ∃ refs, H1 t = some (.lst (refs.map V.ref)) ∧ DictsAt H1 refs (allW ((met.zip cs).take i)) ∧ ∀ r ∈ refs, H r = none) ∧ Same H H1)
      ⟨⟨t0, none, none, none, none, none, rfl, by rw [upd_ne n0.symm] at nt0; exact nt0, [e0], upd_same, .cons (by rw [upd_ne n0]; exact upd_same) .nil, fun r hr' => by rw [List.mem_singleton.mp hr']; exact ne0⟩, sA⟩ ?_ ?_
    · rintro i σ H1 hi ⟨⟨t, y2, y3, y4, y5, y6, rfl, nt, refs, et, hD, hfr⟩, s1⟩
      rw [List.length_map] at hi
      have hi1 : i < met.length := by omega
      have hi2 : i < cs.length := by omega
      have hi3 : i < cr.length := by omega
      have hz : (met.zip cs)[i]? = some (met[i], cs[i]) := by
        rw [List.getElem?_eq_getElem (by rw [List.length_zip]; omega), List.getElem_zip]
      have eW : allW ((met.zip cs).take (i + 1)) = stepW (allW ((met.zip cs).take i)) (met[i], cs[i]) := by
        rw [List.take_add_one, hz]
        exact allW_snoc _ _
      have hkeys : ∀ x ∈ allW ((met.zip cs).take i), met[i] ∉ x.map (·.1) := fun x hx h => by
        rw [allW_keys _ x hx] at h
        obtain ⟨c, hc, hce⟩ := List.mem_map.mp h
        obtain ⟨j, hj, hje⟩ := List.mem_take_iff_getElem.mp hc
        rw [List.getElem_zip] at hje
        rw [← hje] at hce
        have hji : j < i := by omega
        have := (List.getElem_inj hmn).mp hce
        omega
      have hbd1 := hbd (i + 1)
      rw [eW] at hbd1 ⊢
      have hcr : H1 cr[i] = some (.lst (cs[i].map V.int)) := s1 _ _ (paired_at hcs hi3 hi2)
      have hklen : ∀ x ∈ allW ((met.zip cs).take i), x.length ≤ 100 := fun x hx => by
        have := congrArg List.length (allW_keys _ x hx)
        rw [List.length_map, List.length_map, List.length_take, List.length_zip] at this
        omega
      generalize allW ((met.zip cs).take i) = ws at hD hkeys hbd1 hklen
      have a1 : atI (met.map V.int) ((0 : Int) + (i : Int)) = some (.int met[i]) := by rw [Int.zero_add]; exact atI_nat (by rw [List.getElem?_map, List.getElem?_eq_getElem hi1]; rfl)
      have a2 : atI (cr.map V.ref) ((0 : Int) + (i : Int)) = some (.ref cr[i]) := by rw [Int.zero_add]; exact atI_nat (by rw [List.getElem?_map, List.getElem?_eq_getElem hi3]; rfl)
      generalize met[i] = mi at hkeys hbd1 a1
      generalize cs[i] = ci at hbd1 hcr
      generalize cr[i] = ri at hcr a2
      -- more = []
      refine ⟨Nat.zero_le _, fun m nm => ?_⟩
      have nmt : t ≠ m := ne_of_none et nm
      refine ⟨_, rfl, t, rfl, ⟨_, SqL.of (Same.new nm _ _ et)⟩, ?_⟩
      refine loop_list (xs := refs.map V.ref) (fun j σ H2 => (∃ y4 y5 y6, σ = [some (.ref pm), some (.ref pc), some (.ref t), some (.int (0 + (i : Int))), some (.ref m), y4, y5, y6]) ∧ Same H1 H2 ∧ ∃ nr, H2 m = some (.lst (nr.map V.ref)) ∧ DictsAt H2 nr (stepW (ws.take j) (mi, ci)) ∧ ∀ r ∈ nr, H1 r = none)
        ⟨⟨_, _, _, rfl⟩, Same.new nm, [], upd_same, .nil, fun r hr' => absurd hr' List.not_mem_nil⟩ (fun j σ H2 _ h => SqL.of (h.2.1 _ _ et)) ?_ ?_
      · rintro j x σ H2 hj ⟨⟨y4, y5, y6, rfl⟩, s2, nr, e2, hN, hnf⟩
        rw [List.getElem?_map] at hj
        obtain ⟨q', hq', rfl⟩ := Option.map_eq_some_iff.mp hj
        obtain ⟨wj, hwj, ewj⟩ := (hD.same s2).get hq'
        have hjl : j < ws.length := (List.getElem?_eq_some_iff.mp hwj).1
        have hwm : wj ∈ ws := List.mem_of_getElem? hwj
        have eS : stepW (ws.take (j + 1)) (mi, ci) = stepW (ws.take j) (mi, ci) ++ ci.map fun v => wj ++ [(mi, v)] := by
          unfold stepW
          rw [List.take_add_one, hwj, List.flatMap_append]
          show _ ++ List.flatMap _ [wj] = _
          rw [List.flatMap_singleton]
        have hbS : (stepW (ws.take j) (mi, ci)).length + ci.length ≤ 1000 := by
          have h1 := congrArg List.length eS
          rw [stepW_len, List.length_append, List.length_map, List.length_take] at h1
          rw [stepW_len] at hbd1
          dsimp only at h1 hbd1
          have h2 : min (j + 1) ws.length * ci.length ≤ ws.length * ci.length := Nat.mul_le_mul_right _ (Nat.min_le_right _ _)
          omega
        refine ⟨_, rfl, _, rfl, pc, _, _, _, rfl, rfl, SqL.of (s2 _ _ (s1 _ _ ec)), a2, ri, rfl, ⟨_, SqL.of (s2 _ _ hcr)⟩, ?_⟩
        refine loop_ints (K := K) (ns := ci) (fun k σ H3 => (∃ y6 y7, σ = [some (.ref pm), some (.ref pc), some (.ref t), some (.int (0 + (i : Int))), some (.ref m), some (.ref q'), y6, y7]) ∧ Same H1 H3 ∧ ∃ nr, H3 m = some (.lst (nr.map V.ref)) ∧ DictsAt H3 nr (stepW (ws.take j) (mi, ci) ++ (ci.take k).map fun v => wj ++ [(mi, v)]) ∧ ∀ r ∈ nr, H1 r = none)
          ⟨⟨_, _, rfl⟩, s2, nr, e2, by rw [List.take_zero, List.map_nil, List.append_nil]; exact hN, hnf⟩ (fun k σ H3 _ h => SqL.of (h.2.1 _ _ hcr)) ?_ ?_
        · rintro k v σ H3 hk ⟨⟨y6, y7, rfl⟩, s3, nr, e3, hN3, hnf3⟩
          have hkl : k < ci.length := (List.getElem?_eq_some_iff.mp hk).1
          have ew3 : H3 q' = some (.dK (dkI wj)) := s3 _ _ (by obtain ⟨w', hw', e'⟩ := hD.get hq'; rw [hwj] at hw'; cases hw'; exact e')
          refine ⟨_, rfl, q', _, rfl, .inl ew3, fun p np => ?_⟩
          refine ⟨_, rfl, _, rfl, _, rfl, _, rfl, pm, _, _, _, rfl, rfl, SqL.of (Same.new np _ _ (s3 _ _ (s1 _ _ em))), a1, p, _, rfl, DPut.k (k := .inl mi) upd_same (small1000 (by unfold dkI; rw [List.length_map]; have := hklen wj hwm; omega)), ?_⟩
          rw [upd_upd, dkI_put (hkeys wj hwm)]
          have npm : m ≠ p := ne_of_none e3 np
          have np1 : H1 p = none := s3.free np
          have e4 : upd H3 p (.dK (dkI (wj ++ [(mi, v)]))) m = some (.lst (nr.map V.ref)) := by rw [upd_ne npm]; exact e3
          have hlen3 : nr.length = (stepW (ws.take j) (mi, ci)).length + k := by
            rw [hN3.len, List.length_append, List.length_map, List.length_take]
            omega
          refine ⟨_, rfl, .inl ⟨rfl, _, SqL.of e4⟩, _, rfl, m, _, _, rfl, rfl, e4, small1000 (by rw [List.length_map]; omega), Box.mk ⟨⟨_, _, rfl⟩, (s3.mut np1).mut nm, nr ++ [p], by rw [upd_same, List.map_append]; rfl, ?_, fun r hr' => ?_⟩⟩
          · rw [List.take_add_one, hk, List.map_append, ← List.append_assoc]
            refine DictsAt.app ((hN3.same (Same.new np)).lst e4) (.cons ?_ .nil)
            rw [upd_ne npm.symm]
            exact upd_same
          · rcases List.mem_append.mp hr' with h | h
            · exact hnf3 r h
            · rw [List.mem_singleton.mp h]
              exact np1
        · rintro σ H3 ⟨⟨y6, y7, rfl⟩, s3, nr, e3, hN3, hnf3⟩
          rw [List.take_of_length_le (Nat.le_refl _), ← eS] at hN3
          exact Box.mk ⟨⟨_, _, _, rfl⟩, s3, nr, e3, hN3, hnf3⟩
      · rintro σ H2 ⟨⟨y4, y5, y6, rfl⟩, s2, nr, e2, hN, hnf⟩
        rw [List.length_map, hD.len, List.take_of_length_le (Nat.le_refl _)] at hN
        exact ⟨_, rfl, Box.mk ⟨⟨m, _, _, _, _, _, rfl, s1.free nm, nr, e2, hN, fun r hr' => s1.free (hnf r hr')⟩, s1.trans s2⟩⟩
    · rintro σ H1 ⟨⟨t, y2, y3, y4, y5, y6, rfl, nt, refs, et, hD, hfr⟩, s1⟩
      rw [List.take_of_length_le (by rw [List.length_zip, List.length_map]; omega)] at hD
      exact ⟨_, rfl, q H1 t refs s1 et nt hD hfr⟩
end
end My
/-! D9 -/
set_option Elab.async false
set_option linter.all false
set_option maxRecDepth 100000
set_option maxHeartbeats 4000000
namespace My
open PySem PySem.Spec PyProof.Rows L2
local macro_rules | `(tactic| walk_at "ne") => `(tactic| first | assumption | (apply Ne.symm; assumption) | (apply ne_of_none <;> assumption) | (apply Ne.symm; apply ne_of_none <;> assumption) | (grind [upd]))
local macro_rules | `(tactic| walk_at "hp") => `(tactic| first
  | assumption
  | exact upd_same
  | ((apply Same.at; focus assumption); (walk_at "hp"))
  | ((apply Same.at; focus (apply Same.new; assumption)); (walk_at "hp"))
  | ((apply upd_at; focus (walk_at "hp")); (walk_at "ne")))
local macro_rules | `(tactic| walk_at "sq") => `(tactic| first
  | assumption
  | (apply SqL.of; (walk_at "hp"))
  | (apply SqT.of; (walk_at "hp"))
  | ((apply Same.seq; focus assumption); (walk_at "sq"))
  | ((apply Same.set; focus assumption); (walk_at "sq"))
  | (apply Sam.seq; (focus assumption); (focus assumption); (walk_at "sq"))
  | (apply Sam.set; (focus assumption); (focus assumption); (walk_at "sq"))
  | ((apply Same.seq; focus (apply Same.new; assumption)); (walk_at "sq"))
  | ((apply Same.set; focus (apply Same.new; assumption)); (walk_at "sq")))
local macro_rules | `(tactic| walk_at "sz") => `(tactic| (first | (apply small1000) | (apply smallL)) <;> (try simp only [List.length_map, List.length_append, List.length_cons, List.length_nil, List.length_take]; omega))
local macro_rules | `(tactic| walk_at "cl") => `(tactic| first
  | rfl
  | ((with_reducible show SqL _ _ _ _); (walk_at "sq"))
  | ((with_reducible show SqT _ _ _ _); (walk_at "sq"))
  | ((with_reducible show SqL _ _ _ _ ∨ SqT _ _ _ _); first | (apply Or.inl; (walk_at "sq")) | (apply Or.inr; (walk_at "sq")))
  | ((with_reducible show tyV _ _ _ _); apply Or.inl; apply And.intro; (focus rfl); apply Exists.intro; (walk_at "sq"))
  | ((with_reducible show _ = Option.some _); (walk_at "hp"))
  | ((with_reducible show Exists _); apply Exists.intro; (walk_at "sq"))
  | assumption
  | ((show (0 : Int) < _); first | assumption | decide)
  | ((with_reducible show CMul _ _); first | (apply Or.inl; apply And.intro <;> decide) | (apply Or.inr; apply And.intro <;> decide))
  | ((with_reducible show CDiv _ _); apply And.intro <;> decide)
  | ((with_reducible show List.length _ < sizeLine); (walk_at "sz"))
  | ((with_reducible show List.length _ ≤ sizeLine); (walk_at "sz")))
local macro_rules | `(tactic| walk_at "rd") => `(tactic| repeat' (first
  | (apply Exists.intro)
  | (apply And.intro; focus (walk_at "cl"))))

abbrev s_TM : Stmt := inClass (topS 5) 0
def tmF (c cc : Addr) : NdefX.NF := ⟨"__init__", "TooMany.__init__", defArgs s_TM, defBody s_TM, defScope s_TM, [("__class__", cc)], c⟩
theorem sc_TM : NdefX.NScope ["self", "limit", "word", "__class__"] ["self", "limit", "word"] ["__class__"] (defScope s_TM) := NdefX.nscope_by (by decide +kernel)
section
variable {P : Program} {w : World} {K : PySem.W.Frag} {mg : Str → Option Value} {base : Heap}
def spTM (C : Addr) : Sp := fun vs H Q _ => ∃ (a : Addr), vs = [.ref a, .int 800, .str "ways"] ∧ H a = some (exo a C none) ∧
  ∀ (d : Addr) (H2 : Hp), H d = none → H2 a = some (exo a C (some d)) → H2 d = some (exd d [("word", .str "ways"), ("limit", .int 800)]) → (∀ b o, b ≠ a → H b = some o → H2 b = some o) → Q .non H2
theorem ok_tm {f C c cc : Addr} {doc pm ctv oc : Value} {od : Option Addr} {osl : Array (Option Value)} (lk : K.lookup f = some ⟨oc, od, .func ((tmF c cc).fd doc pm ctv), osl⟩) (hcd : PySem.W.codeIn K (.ref c) "TooMany.__init__" = true) (SC : SupC P K C f (tmF c cc) ["self", "limit", "word"]) (T : OexC K C) (hg : mg "super" = none)
    (x1 : PySem.W.findIn K (.ref C) "limit" = some none) (x2 : PySem.W.findIn K (.ref C) "word" = some none) : FnOk P w K mg base CX0 1 f ((tmF c cc).fd doc pm ctv) ["self", "limit", "word"] (spTM C) := by
  refine fn_super (F := tmF c cc) (e1 := _) (rest := _) (p0 := _) (p1 := _) (p2 := _) (pos := _) (pe := _) (pl := _) lk hcd sc_TM SC T hg (show (defScope s_TM).names.lookup ("super" : Str) = some .globalImplicit by decide +kernel) (by decide) rfl (fun L => rfl) (fun L => rfl) (fun L => rfl) (fun vs H Q E h => ?_) ?_
  · obtain ⟨a, rfl, _⟩ := h
    rfl
  · intro A outer s H vs Q E hr h
    obtain ⟨a, rfl, ea, q⟩ := h
    refine ⟨a, _, _, rfl, ea, pa_cons (pe_joined (PJ.cons pe_str (PJ.cons (pe_fmt (pv 1)) (PJ.cons pe_str (PJ.cons (pe_fmt (pv 2)) PJ.nil))))) pa_nil, (pss_cons (ps_ost (pv 0) (pv 1)) (pss_one (ps_ost (pv 0) (pv 2)))), ?_⟩
    refine ⟨_, rfl, by decide +kernel, ?_⟩
    refine ⟨.int 800, rfl, .inr ⟨800, rfl, by decide +kernel, _, rfl, by decide +kernel, _, rfl, by decide +kernel, .str "ways", rfl, .inl ⟨"ways", rfl, by decide +kernel, _, rfl, by decide +kernel, by decide, ea, ?_⟩⟩⟩
    refine ⟨_, rfl, _, rfl, a, C, rfl, T, x1, .inl ⟨ea, fun dx nd hda => ?_⟩⟩
    refine ⟨_, rfl, _, rfl, a, C, rfl, T, x2, .inr ⟨dx, [("limit", .int 800)], upd_same, by rw [upd_ne hda]; exact upd_same, by show 1 ≤ 900; decide, ?_⟩⟩
    refine q dx _ nd (by rw [upd_ne hda.symm]; exact upd_same) upd_same fun b o hb hbo => ?_
    have hbd : b ≠ dx := ne_of_none hbo nd
    rw [upd_ne hbd, upd_ne hb, upd_ne hbd]
    exact hbo
end
end My
/-! D10 -/
set_option Elab.async false
set_option linter.all false
set_option maxRecDepth 100000
set_option maxHeartbeats 4000000
namespace My
open PySem PySem.Spec PyProof.Rows L2
local macro_rules | `(tactic| walk_at "ne") => `(tactic| first | assumption | (apply Ne.symm; assumption) | (apply ne_of_none <;> assumption) | (apply Ne.symm; apply ne_of_none <;> assumption) | (grind [upd]))
local macro_rules | `(tactic| walk_at "hp") => `(tactic| first
  | assumption
  | exact upd_same
  | ((apply Same.at; focus assumption); (walk_at "hp"))
  | ((apply Same.at; focus (apply Same.new; assumption)); (walk_at "hp"))
  | ((apply upd_at; focus (walk_at "hp")); (walk_at "ne")))
local macro_rules | `(tactic| walk_at "sq") => `(tactic| first
  | assumption
  | (apply SqL.of; (walk_at "hp"))
  | (apply SqT.of; (walk_at "hp"))
  | ((apply Same.seq; focus assumption); (walk_at "sq"))
  | ((apply Same.set; focus assumption); (walk_at "sq"))
  | (apply Sam.seq; (focus assumption); (focus assumption); (walk_at "sq"))
  | (apply Sam.set; (focus assumption); (focus assumption); (walk_at "sq"))
  | ((apply Same.seq; focus (apply Same.new; assumption)); (walk_at "sq"))
  | ((apply Same.set; focus (apply Same.new; assumption)); (walk_at "sq")))
local macro_rules | `(tactic| walk_at "sz") => `(tactic| (first | (apply small1000) | (apply smallL)) <;> (try simp only [List.length_map, List.length_append, List.length_cons, List.length_nil, List.length_take]; omega))
local macro_rules | `(tactic| walk_at "cl") => `(tactic| first
  | rfl
  | ((with_reducible show SqL _ _ _ _); (walk_at "sq"))
  | ((with_reducible show SqT _ _ _ _); (walk_at "sq"))
  | ((with_reducible show SqL _ _ _ _ ∨ SqT _ _ _ _); first | (apply Or.inl; (walk_at "sq")) | (apply Or.inr; (walk_at "sq")))
  | ((with_reducible show tyV _ _ _ _); apply Or.inl; apply And.intro; (focus rfl); apply Exists.intro; (walk_at "sq"))
  | ((with_reducible show _ = Option.some _); (walk_at "hp"))
  | ((with_reducible show Exists _); apply Exists.intro; (walk_at "sq"))
  | assumption
  | ((show (0 : Int) < _); first | assumption | decide)
  | ((with_reducible show CMul _ _); first | (apply Or.inl; apply And.intro <;> decide) | (apply Or.inr; apply And.intro <;> decide))
  | ((with_reducible show CDiv _ _); apply And.intro <;> decide)
  | ((with_reducible show List.length _ < sizeLine); (walk_at "sz"))
  | ((with_reducible show List.length _ ≤ sizeLine); (walk_at "sz")))
local macro_rules | `(tactic| walk_at "rd") => `(tactic| repeat' (first
  | (apply Exists.intro)
  | (apply And.intro; focus (walk_at "cl"))))

abbrev s_ways_of : Stmt := topS 11
theorem sc_ways_of : FnScope ["points", "marks", "case", "variables", "told", "term", "more", "ahead", "value", "chosen"] ["points", "marks", "case"] (defScope s_ways_of) := ⟨rfl, rfl, rfl, by decide +kernel, rfl, by decide +kernel, by decide +kernel⟩
structure Txt (K : PySem.W.Frag) (mg : Str → Option Value) (Cb Ct Cu Cy Ca : Addr) (tk : Tok) : Prop extends Blt mg where
  m_MOST_WAYS : mg "MOST_WAYS" = some (.int 800 tk)
  g_TooMany : mg "TooMany" = some (.ref Ct)
  g_Unfit : mg "Unfit" = some (.ref Cu)
  g_Beyond : mg "Beyond" = some (.ref Cy)
  g_AssizeError : mg "AssizeError" = some (.ref Ca)
theorem addV_mem {acc : List Int} {ts : List Int} : ∀ x ∈ ts.foldl addV acc, x ∈ acc ∨ x < 0 := by
  induction ts generalizing acc with
  | nil => exact fun x h => .inl h
  | cons t r ih =>
    intro x h
    rcases ih x h with h | h
    · unfold addV at h
      split at h
      · rename_i c
        rcases List.mem_append.mp h with h | h
        · exact .inl h
        · rw [List.mem_singleton.mp h]
          exact .inr c.1
      · exact .inl h
    · exact .inr h
theorem addV_nd {acc : List Int} {ts : List Int} (h : acc.Nodup) : (ts.foldl addV acc).Nodup := by
  induction ts generalizing acc with
  | nil => exact h
  | cons t r ih =>
    refine ih ?_
    unfold addV
    split
    · rename_i c
      exact nd_snoc h c.2
    · exact h
theorem varsOf_neg {rows : List Row} {t : Int} (h : t ∈ varsOf rows) : t < 0 := (addV_mem t h).elim (fun h => absurd h List.not_mem_nil) id
theorem varsOf_nd (rows : List Row) : (varsOf rows).Nodup := addV_nd List.nodup_nil
theorem varsOf_len (rows : List Row) : (varsOf rows).length ≤ (rows.flatMap (·.2)).length := Nat.le_trans (addV_len _ _) (Nat.le_of_eq (Nat.zero_add _))
/-- the spans are whole tens, low below high -/
def SpOk (sps : List (Int × (Int × Int))) : Prop := ∀ t, (spanOf sps t).1 % 10 = 0 ∧ (spanOf sps t).2 % 10 = 0 ∧ (spanOf sps t).1 + 1 < (spanOf sps t).2 ∧ 0 ≤ (spanOf sps t).1 ∧ (spanOf sps t).2 ≤ 1000
def cho (points marks : List Int) (sps : List (Int × (Int × Int))) (vs : List Int) : List (Int × List Int) := vs.map fun t => (t, near points marks (spanOf sps t).1 (spanOf sps t).2 vs.length)
theorem cho_pos {points marks : List Int} {sps : List (Int × (Int × Int))} {vs : List Int} (hv : V56 points marks) (hs : SpOk sps) (hl : vs.length ≤ 9) : ∀ c ∈ cho points marks sps vs, 0 < c.2.length := fun c hc => by
  obtain ⟨t, ht, rfl⟩ := List.mem_map.mp hc
  have h0 := List.length_pos_of_mem ht
  exact near_pos hv (hs t).1 (by omega) (by omega) (hs t).2.2.1
section
variable {P : Program} {w : World} {K : PySem.W.Frag} {mg : Str → Option Value} {base : Heap}
def spWays (K : PySem.W.Frag) (Cb Ct : Addr) : Sp := fun vs H Q E => ∃ (p1 p2 pb d : Addr) (vR v2 v4 : V) (points marks : List Int) (rows : List Row) (kvs : List (Key × V)) (sps : List (Int × (Int × Int))), vs = [.ref p1, .ref p2, .ref pb] ∧
  H p1 = some (.lst (points.map V.int)) ∧ H p2 = some (.lst (marks.map V.int)) ∧ points.length ≤ 200 ∧ marks.length ≤ 200 ∧ V56 points marks ∧ IsBody Cb H pb vR v2 (.ref d) v4 ∧ H d = some (.dK kvs) ∧ SpansAt K H kvs sps ∧ SpOk sps ∧ Dp K H vR (rowsD rows) ∧ (rows.flatMap (·.2)).length ≤ 6 ∧
  (prodL (cho points marks sps (varsOf rows)) ≤ 800 → ∀ (H' : Hp) (p : Addr) (refs : List Addr), Same H H' → H p = none → H' p = some (.lst (refs.map V.ref)) → DictsAt H' refs (allW (cho points marks sps (varsOf rows))) → (∀ r ∈ refs, H r = none) → Q (.ref p) H') ∧
  (800 < prodL (cho points marks sps (varsOf rows)) → ∀ (H' : Hp) (dd : Addr), Same H H' → H dd = none → H' dd = some (.xd [("word", .str "ways"), ("limit", .int 800)]) → E (.ref Ct) (some dd) H')
theorem ok_ways {Cb Ct Cu Cy Ca : Addr} {tk : Tok} (T : Txt K mg Cb Ct Cu Cy Ca tk) (cl_Body : Cls K Cb) (C_Body_variables : CalM P w K mg base CX0 1 Cb "variables" ["self"] (spBVars K Cb)) (C_Body_span : CalM P w K mg base CX0 1 Cb "span" ["self", "term"] (spSpan K Cb))
    (C_values_for : Cal P w K mg base CX0 1 "values_for" ["points", "marks", "span", "many"] (spValues K)) (E_TooMany : ErrAt P w K mg base 1 "TooMany" Ct ["self", "limit", "word"] (spTM Ct))
    (D : DefAt K mg "ways_of" s_ways_of ["points", "marks", "case"]) : Cal P w K mg base (L2.CX P w) 3 "ways_of" ["points", "marks", "case"] (spWays K Cb Ct) := by
  refine D.okX sc_ways_of (fun vs H Q E h => ?_) (fun f cdv A outer s H vs Q E hr h => ?_)
  · obtain ⟨p1, p2, pb, d, vR, v2, v4, points, marks, rows, kvs, sps, rfl, _⟩ := h
    rfl
  · obtain ⟨p1, p2, pb, d, vR, v2, v4, points, marks, rows, kvs, sps, rfl, e1, e2, hl1, hl2, hv, ⟨dxb, eb⟩, ed, hsp, hso, hrw, hfl, q, x⟩ := h
    have hu := hu_of hr
    refine ⟨_, (pss_cons (ps_set (i := 3) sc_ways_of.nd rfl (by first | exact Or.inl rfl | exact Or.inr rfl) (pe_met0 cl_Body C_Body_variables (hr.mono (by decide)) (pv 2)))
      (pss_cons (ps_set (i := 4) sc_ways_of.nd rfl (by first | exact Or.inl rfl | exact Or.inr rfl) (pe_lst (pa_cons pe_dnewK pa_nil)))
      (pss_cons (ps_forM (passes_of rfl) rfl (pi_listK K (pv 3)) (pg_name (i := 5) sc_ways_of.nd rfl (by first | exact Or.inl rfl | exact Or.inr rfl))
          (pss_cons (ps_set (i := 6) sc_ways_of.nd rfl (by first | exact Or.inl rfl | exact Or.inr rfl) (pe_lst pa_nil))
          (pss_cons (ps_forM (passes_of rfl) rfl (pi_listK K (pv 4)) (pg_name (i := 7) sc_ways_of.nd rfl (by first | exact Or.inl rfl | exact Or.inr rfl))
              (pss_one (ps_forM (passes_of rfl) rfl (pi_listK K (pe_cal C_values_for (hr.mono (by decide)) (by rfl) (pa_cons (pv 0) (pa_cons (pv 1) (pa_cons (pe_met cl_Body C_Body_span (hr.mono (by decide)) (pv 2) (pa_cons (pv 5) pa_nil)) (pa_cons (pe_callB (call_lenK K) (by rfl) T.len (by decide +kernel) (pa_cons (pv 3) pa_nil)) pa_nil)))))) (pg_name (i := 8) sc_ways_of.nd rfl (by first | exact Or.inl rfl | exact Or.inr rfl))
                  (pss_cons (ps_set (i := 9) sc_ways_of.nd rfl (by first | exact Or.inl rfl | exact Or.inr rfl) (pe_callTy call_dictOf (by rfl) T.dict (by decide +kernel) (pa_cons (pv 7) pa_nil)))
                  (pss_cons (ps_dput hu (pv 9) (pv 5) (pv 8) rfl)
                  (pss_cons (ps_expr (pe_bmK K PySem.F.plainAttrs_list PySem.F.slot_list_append PySem.F.type_list_append mt_append (pv 6) (pa_cons (pv 9) pa_nil)))
                  (pss_one (ps_if (pt_cmpR op_gt (pe_callB (call_lenK K) (by rfl) T.len (by decide +kernel) (pa_cons (pv 6) pa_nil)) (pe_glob (v := .int 800) rfl T.m_MOST_WAYS ⟨_, rfl⟩) (nomark _))
                      (pss_one (ps_raise rfl (takes_of rfl rfl rfl rfl) (pmk_err E_TooMany (hr.mono (by decide)) (by rfl) (pa_cons (pe_glob (v := .int 800) rfl T.m_MOST_WAYS ⟨_, rfl⟩) (pa_cons pe_str pa_nil)))))
                      pss_nil))))))))
          (pss_one (ps_set (i := 4) sc_ways_of.nd rfl (by first | exact Or.inl rfl | exact Or.inr rfl) (pv 6))))))
      (pss_one (ps_ret (pv 4)))))), ?_⟩
    have hvl : (varsOf rows).length ≤ 6 := Nat.le_trans (varsOf_len rows) hfl
    have hneg : ∀ t ∈ varsOf rows, t < 0 := fun t ht => varsOf_neg ht
    have hnd := varsOf_nd rows
    have hpos := cho_pos hv hso (show (varsOf rows).length ≤ 9 by omega)
    -- variables = case.variables()
    refine ⟨_, rfl, pb, dxb, _, rfl, eb, rfl, pb, vR, v2, .ref d, v4, rows, rfl, ⟨dxb, eb⟩, hrw, by omega, fun H1 pvr s1 npv epv => ?_⟩
    generalize hvr : varsOf rows = vl at hvl hneg hnd hpos epv q x
    -- told = [{}]
    intro e0 ne0
    refine ⟨(by show 1 ≤ sizeLine; decide), fun t0 nt0 => ?_⟩
    have n0 : e0 ≠ t0 := fun z => by subst z; rw [upd_same] at nt0; cases nt0
    have sA : Same H1 (upd (upd H1 e0 (.dK [])) t0 (.lst [V.ref e0])) := (Same.new ne0).trans (Same.new nt0)
    refine ⟨_, rfl, pvr, rfl, ⟨_, SqL.of (sA _ _ epv)⟩, ?_⟩
    refine loop_ints (K := K) (ns := vl) (fun i σ H2 => (∃ t y5 y6 y7 y8 y9, σ = [some (.ref p1), some (.ref p2), some (.ref pb), some (.ref pvr), some (.ref t), y5, y6, y7, y8, y9] ∧ H1 t = none ∧ ∃ refs, H2 t = some (.lst (refs.map V.ref)) ∧ DictsAt H2 refs (allW ((cho points marks sps vl).take i)) ∧ ∀ r ∈ refs, H1 r = none) ∧ Same H1 H2 ∧ (allW ((cho points marks sps vl).take i)).length ≤ 800)
      ⟨⟨t0, none, none, none, none, none, rfl, by rw [upd_ne n0.symm] at nt0; exact nt0, [e0], upd_same, .cons (by rw [upd_ne n0]; exact upd_same) .nil, fun r hr' => by rw [List.mem_singleton.mp hr']; exact ne0⟩, sA, by show 1 ≤ 800; decide⟩ (fun i σ H2 _ h => SqL.of (h.2.1 _ _ epv)) ?_ ?_
    · rintro i n σ H2 hi ⟨⟨t, y5, y6, y7, y8, y9, rfl, nt, refs, et, hD, hfr⟩, s2, hw8⟩
      have hil : i < vl.length := (List.getElem?_eq_some_iff.mp hi).1
      have hn : n < 0 := hneg n (List.mem_of_getElem? hi)
      have hc : (cho points marks sps vl)[i]? = some (n, near points marks (spanOf sps n).1 (spanOf sps n).2 vl.length) := by
        unfold cho
        rw [List.getElem?_map, hi]
        rfl
      have hle := (prodL_take_le hpos (i + 1)).1
      rw [← allW_len] at hle
      have eW : allW ((cho points marks sps vl).take (i + 1)) = stepW (allW ((cho points marks sps vl).take i)) (n, near points marks (spanOf sps n).1 (spanOf sps n).2 vl.length) := by
        rw [List.take_add_one, hc]
        exact allW_snoc _ _
      have hkeys : ∀ x ∈ allW ((cho points marks sps vl).take i), x.map (·.1) = vl.take i := fun x hx => by
        rw [allW_keys _ x hx]
        unfold cho
        rw [← List.map_take, List.map_map]
        exact List.map_id _
      have hnot : n ∉ vl.take i := fun h => by
        obtain ⟨j, hj, hje⟩ := List.mem_take_iff_getElem.mp h
        obtain ⟨_, hie⟩ := List.getElem?_eq_some_iff.mp hi
        rw [← hie] at hje
        have := (List.getElem_inj hnd).mp hje
        omega
      rw [eW] at hle ⊢
      generalize hci : near points marks (spanOf sps n).1 (spanOf sps n).2 vl.length = ci at hle
      generalize allW ((cho points marks sps vl).take i) = ws at hD hkeys hle hw8
      have hk2 : ∀ x ∈ ws, n ∉ x.map (·.1) := fun x hx h => hnot (hkeys x hx ▸ h)
      have hklen : ∀ x ∈ ws, x.length ≤ 6 := fun x hx => by
        have := congrArg List.length (hkeys x hx)
        rw [List.length_map, List.length_take] at this
        omega
      -- more = []
      refine ⟨Nat.zero_le _, fun m nm => ?_⟩
      have nm1 : H1 m = none := s2.free nm
      refine ⟨_, rfl, t, rfl, ⟨_, SqL.of (Same.new nm _ _ et)⟩, ?_⟩
      refine loop_list (xs := refs.map V.ref) (fun j σ H3 => (∃ y7 y8 y9, σ = [some (.ref p1), some (.ref p2), some (.ref pb), some (.ref pvr), some (.ref t), some (.int n), some (.ref m), y7, y8, y9]) ∧ Same H2 H3 ∧ ∃ nr, H3 m = some (.lst (nr.map V.ref)) ∧ DictsAt H3 nr (stepW (ws.take j) (n, ci)) ∧ (∀ r ∈ nr, H2 r = none) ∧ nr.length ≤ 800)
        ⟨⟨_, _, _, rfl⟩, Same.new nm, [], upd_same, .nil, fun r hr' => absurd hr' List.not_mem_nil, Nat.zero_le _⟩ (fun j σ H3 _ h => SqL.of (h.2.1 _ _ et)) ?_ ?_
      · rintro j x' σ H3 hj ⟨⟨y7, y8, y9, rfl⟩, s3, nr, e3, hN, hnf, hn8⟩
        rw [List.getElem?_map] at hj
        obtain ⟨q', hq', rfl⟩ := Option.map_eq_some_iff.mp hj
        obtain ⟨wj, hwj, ewj⟩ := (hD.same s3).get hq'
        have hwm : wj ∈ ws := List.mem_of_getElem? hwj
        have eS : stepW (ws.take (j + 1)) (n, ci) = stepW (ws.take j) (n, ci) ++ ci.map fun v => wj ++ [(n, v)] := by
          unfold stepW
          rw [List.take_add_one, hwj, List.flatMap_append]
          show _ ++ List.flatMap _ [wj] = _
          rw [List.flatMap_singleton]
        have hbS : (stepW (ws.take j) (n, ci)).length + ci.length ≤ (stepW ws (n, ci)).length := by
          have h1 := congrArg List.length eS
          rw [stepW_len, List.length_append, List.length_map, List.length_take] at h1
          rw [stepW_len ws]
          dsimp only at h1 ⊢
          have h2 : min (j + 1) ws.length * ci.length ≤ ws.length * ci.length := Nat.mul_le_mul_right _ (Nat.min_le_right _ _)
          omega
        have sH3 : Same H H3 := s1.trans (s2.trans s3)
        have epv3 : H3 pvr = some (.lst (vl.map V.int)) := s3 _ _ (s2 _ _ epv)
        -- values_for(points, marks, case.span(term), len(variables))
        refine ⟨_, rfl, _, rfl, _, rfl, pb, dxb, _, rfl, sH3 _ _ eb, rfl, _, rfl, pb, d, vR, v2, v4, kvs, sps, n, rfl, ⟨dxb, sH3 _ _ eb⟩, sH3 _ _ ed, hsp.same sH3, hn, fun H4 sq s4 hsq => ?_⟩
        refine ⟨_, rfl, pvr, _, rfl, .inl (SqL.of (s4 _ _ epv3)), ?_⟩
        have sH4 := sH3.trans s4
        refine ⟨p1, p2, sq, points, marks, _, _, _, rfl, SqL.of (sH4 _ _ e1), SqL.of (sH4 _ _ e2), hsq, hl1, hl2, hv, (hso n).1, (hso n).2.1, by have := (hso n).2.2.1; omega, by rw [List.length_map]; omega, by rw [List.length_map]; omega, fun H5 pn s5 npn epn => ?_⟩
        rw [List.length_map, hci] at epn
        refine ⟨pn, rfl, ⟨_, SqL.of epn⟩, ?_⟩
        have s25 : Same H2 H5 := s3.trans (s4.trans s5)
        refine loop_ints (K := K) (ns := ci) (fun k σ H6 => (∃ y8 y9, σ = [some (.ref p1), some (.ref p2), some (.ref pb), some (.ref pvr), some (.ref t), some (.int n), some (.ref m), some (.ref q'), y8, y9]) ∧ Same H2 H6 ∧ H6 pn = some (.lst (ci.map V.int)) ∧ ∃ nr, H6 m = some (.lst (nr.map V.ref)) ∧ DictsAt H6 nr (stepW (ws.take j) (n, ci) ++ (ci.take k).map fun v => wj ++ [(n, v)]) ∧ (∀ r ∈ nr, H2 r = none) ∧ nr.length ≤ 800)
          ⟨⟨_, _, rfl⟩, s25, epn, nr, (s4.trans s5) _ _ e3, by rw [List.take_zero, List.map_nil, List.append_nil]; exact (hN.same s4).same s5, hnf, hn8⟩ (fun k σ H6 _ h => SqL.of h.2.2.1) ?_ ?_
        · rintro k v σ H6 hk ⟨⟨y8, y9, rfl⟩, s6, epn6, nr, e6, hN6, hnf6, hn86⟩
          have hkl : k < ci.length := (List.getElem?_eq_some_iff.mp hk).1
          have ew6 : H6 q' = some (.dK (dkI wj)) := s6 _ _ (by obtain ⟨w', hw', e'⟩ := hD.get hq'; rw [hwj] at hw'; cases hw'; exact e')
          refine ⟨_, rfl, q', _, rfl, .inl ew6, fun p np => ?_⟩
          refine ⟨_, rfl, _, rfl, _, rfl, p, _, rfl, DPut.k (k := .inl n) upd_same (small1000 (by unfold dkI; rw [List.length_map]; have := hklen wj hwm; omega)), ?_⟩
          rw [upd_upd, dkI_put (hk2 wj hwm)]
          have npm : m ≠ p := ne_of_none e6 np
          have np2 : H2 p = none := s6.free np
          have e7 : upd H6 p (.dK (dkI (wj ++ [(n, v)]))) m = some (.lst (nr.map V.ref)) := by rw [upd_ne npm]; exact e6
          have hlen6 : nr.length = (stepW (ws.take j) (n, ci)).length + k := by
            rw [hN6.len, List.length_append, List.length_map, List.length_take]
            omega
          refine ⟨_, rfl, .inl ⟨rfl, _, SqL.of e7⟩, _, rfl, m, _, _, rfl, rfl, e7, small1000 (by rw [List.length_map]; omega), ?_⟩
          have s8 : Same H2 (upd (upd H6 p (.dK (dkI (wj ++ [(n, v)])))) m (.lst (nr.map V.ref ++ [V.ref p]))) := (s6.mut np2).mut nm
          refine ⟨_, rfl, m, _, rfl, .inl (SqL.of upd_same), _, _, rfl, rfl, _, rfl, ite2 (fun hgt => ?_) (fun hgt => ?_)⟩
          · have hgt' := of_decide_eq_true hgt
            rw [List.length_append, List.length_map] at hgt'
            have hbig : 800 < prodL (cho points marks sps vl) := by
              have : nr.length + 1 > 800 := by
                have h := hgt'
                simp only [List.length_singleton] at h
                omega
              omega
            refine ⟨by decide, fun a na => ⟨a, rfl, upd_same, fun dd H7 ndd ea2 edd hk7 => ⟨rfl, dd, _, ea2, edd, ?_, ?_⟩⟩⟩
            · have hda : dd ≠ a := fun z => by rw [z, upd_same] at ndd; cases ndd
              rw [upd_ne hda] at ndd
              exact ndd
            · have hda : dd ≠ a := fun z => by rw [z, upd_same] at ndd; cases ndd
              rw [upd_ne hda] at ndd
              have sH8 : Same H (upd (upd H6 p (.dK (dkI (wj ++ [(n, v)])))) m (.lst (nr.map V.ref ++ [V.ref p]))) := s1.trans (s2.trans s8)
              refine x hbig _ dd (fun b o hb => ?_) (sH8.free ndd) upd_same
              have hb8 := sH8 b o hb
              have hba : b ≠ a := ne_of_none hb8 na
              have hbd : b ≠ dd := ne_of_none hb8 ndd
              rw [upd_ne hbd, del_ne hba]
              exact hk7 b o hba (by rw [upd_ne hba]; exact hb8)
          · have hgt' := of_decide_eq_false (Bool.eq_false_iff.mpr hgt)
            rw [List.length_append, List.length_map] at hgt'
            have hsm : nr.length + 1 ≤ 800 := by
              have h := hgt'
              simp only [List.length_singleton] at h
              omega
            have npn' : pn ≠ m := fun z => by subst z; rw [s4 _ _ e3] at npn; cases npn
            refine Box.mk ⟨⟨_, _, rfl⟩, s8, ?_, nr ++ [p], by rw [upd_same, List.map_append]; rfl, ?_, fun r hr' => ?_, by rw [List.length_append]; exact hsm⟩
            · rw [upd_ne npn', upd_ne (ne_of_none epn6 np)]
              exact epn6
            · rw [List.take_add_one, hk, List.map_append, ← List.append_assoc]
              refine DictsAt.app ((hN6.same (Same.new np)).lst e7) (.cons ?_ .nil)
              rw [upd_ne npm.symm]
              exact upd_same
            · rcases List.mem_append.mp hr' with h | h
              · exact hnf6 r h
              · rw [List.mem_singleton.mp h]
                exact np2
        · rintro σ H6 ⟨⟨y8, y9, rfl⟩, s6, epn6, nr, e6, hN6, hnf6, hn86⟩
          rw [List.take_of_length_le (Nat.le_refl _), ← eS] at hN6
          exact Box.mk ⟨⟨_, _, _, rfl⟩, s6, nr, e6, hN6, hnf6, hn86⟩
      · rintro σ H3 ⟨⟨y7, y8, y9, rfl⟩, s3, nr, e3, hN, hnf, hn8⟩
        rw [List.length_map, hD.len, List.take_of_length_le (Nat.le_refl _)] at hN
        exact ⟨_, rfl, Box.mk ⟨⟨m, _, _, _, _, _, rfl, nm1, nr, e3, hN, fun r hr' => s2.free (hnf r hr')⟩, s2.trans s3, by rw [← hN.len]; exact hn8⟩⟩
    · rintro σ H2 ⟨⟨t, y5, y6, y7, y8, y9, rfl, nt, refs, et, hD, hfr⟩, s2, hw8⟩
      rw [List.take_of_length_le (by unfold cho; rw [List.length_map]; exact Nat.le_refl _)] at hD hw8
      rw [allW_len] at hw8
      exact ⟨_, rfl, q hw8 H2 t refs (s1.trans s2) (s1.free nt) et hD (fun r hr' => s1.free (hfr r hr'))⟩
end
end My
/-! D11 -/
set_option Elab.async false
set_option linter.all false
set_option maxRecDepth 100000
set_option maxHeartbeats 4000000
namespace My
open PySem PySem.Spec PyProof.Rows L2
local macro_rules | `(tactic| walk_at "ne") => `(tactic| first | assumption | (apply Ne.symm; assumption) | (apply ne_of_none <;> assumption) | (apply Ne.symm; apply ne_of_none <;> assumption) | (grind [upd]))
local macro_rules | `(tactic| walk_at "hp") => `(tactic| first
  | assumption
  | exact upd_same
  | ((apply Same.at; focus assumption); (walk_at "hp"))
  | ((apply Same.at; focus (apply Same.new; assumption)); (walk_at "hp"))
  | ((apply upd_at; focus (walk_at "hp")); (walk_at "ne")))
local macro_rules | `(tactic| walk_at "sq") => `(tactic| first
  | assumption
  | (apply SqL.of; (walk_at "hp"))
  | (apply SqT.of; (walk_at "hp"))
  | ((apply Same.seq; focus assumption); (walk_at "sq"))
  | ((apply Same.set; focus assumption); (walk_at "sq"))
  | (apply Sam.seq; (focus assumption); (focus assumption); (walk_at "sq"))
  | (apply Sam.set; (focus assumption); (focus assumption); (walk_at "sq"))
  | ((apply Same.seq; focus (apply Same.new; assumption)); (walk_at "sq"))
  | ((apply Same.set; focus (apply Same.new; assumption)); (walk_at "sq")))
local macro_rules | `(tactic| walk_at "sz") => `(tactic| (first | (apply small1000) | (apply smallL)) <;> (try simp only [List.length_map, List.length_append, List.length_cons, List.length_nil, List.length_take]; omega))
local macro_rules | `(tactic| walk_at "cl") => `(tactic| first
  | rfl
  | ((with_reducible show SqL _ _ _ _); (walk_at "sq"))
  | ((with_reducible show SqT _ _ _ _); (walk_at "sq"))
  | ((with_reducible show SqL _ _ _ _ ∨ SqT _ _ _ _); first | (apply Or.inl; (walk_at "sq")) | (apply Or.inr; (walk_at "sq")))
  | ((with_reducible show tyV _ _ _ _); apply Or.inl; apply And.intro; (focus rfl); apply Exists.intro; (walk_at "sq"))
  | ((with_reducible show _ = Option.some _); (walk_at "hp"))
  | ((with_reducible show Exists _); apply Exists.intro; (walk_at "sq"))
  | assumption
  | ((show (0 : Int) < _); first | assumption | decide)
  | ((with_reducible show CMul _ _); first | (apply Or.inl; apply And.intro <;> decide) | (apply Or.inr; apply And.intro <;> decide))
  | ((with_reducible show CDiv _ _); apply And.intro <;> decide)
  | ((with_reducible show List.length _ < sizeLine); (walk_at "sz"))
  | ((with_reducible show List.length _ ≤ sizeLine); (walk_at "sz")))
local macro_rules | `(tactic| walk_at "rd") => `(tactic| repeat' (first
  | (apply Exists.intro)
  | (apply And.intro; focus (walk_at "cl"))))

abbrev s_law_values_hold : Stmt := topS 29
theorem sc_law_values_hold : FnScope ["d", "points", "marks", "many", "due", "told", "low", "high", "ends", "played"] ["d", "points", "marks"] (defScope s_law_values_hold) := ⟨rfl, rfl, rfl, by decide +kernel, rfl, by decide +kernel, by decide +kernel⟩
theorem near_len (points marks : List Int) (low high many : Int) : (near points marks low high many).length ≤ (high - low).toNat := nearGo_len points marks low many _
section
variable {P : Program} {w : World} {K : PySem.W.Frag} {mg : Str → Option Value} {base : Heap}
def spVH : Sp := fun vs H Q _ => ∃ (S : Addr × List Int) (a p1 p2 : Addr) (points marks : List Int), vs = [.ref a, .ref p1, .ref p2] ∧ Dst S H a ∧ H p1 = some (.lst (points.map V.int)) ∧ H p2 = some (.lst (marks.map V.int)) ∧ points.length ≤ 200 ∧ marks.length ≤ 200 ∧ V56 points marks ∧
  ∀ H' : Hp, Sam a H H' → Dst S H' a → Q (.bl true) H'
theorem ok_values_hold (T : Blt mg) (C_law_bounds : Cal P w K mg base CX0 2 "_law_bounds" ["d"] (spBounds K)) (C_law_draw : Cal P w K mg base CX0 1 "_law_draw" ["d", "many"] spDraw) (C_law_near : Cal P w K mg base CX0 1 "_law_near" ["points", "marks", "low", "high", "many"] (spNear K))
    (C_values_for : Cal P w K mg base CX0 1 "values_for" ["points", "marks", "span", "many"] (spValues K)) (C_law_are_whole : Cal P w K mg base CX0 2 "_law_are_whole" ["values"] (spWhole K))
    (D : DefAt K mg "_law_values_hold" s_law_values_hold ["d", "points", "marks"]) : Cal P w K mg base CX0 3 "_law_values_hold" ["d", "points", "marks"] spVH := by
  refine D.ok sc_law_values_hold (fun vs H Q E h => ?_) (fun f cdv A outer s H vs Q E hr h => ?_)
  · obtain ⟨S, a, p1, p2, points, marks, rfl, _⟩ := h
    rfl
  · obtain ⟨S, a, p1, p2, points, marks, rfl, hd, e1, e2, hl1, hl2, hv, q⟩ := h
    have hu := hu_of hr
    refine ⟨_, (pss_cons (ps_asg (pe_cal C_law_bounds (hr.mono (by decide)) (by rfl) (pa_cons (pv 0) pa_nil)) (pg_tupK K (by rfl) (pgs_cons (pg_name (i := 6) sc_law_values_hold.nd rfl (by first | exact Or.inl rfl | exact Or.inr rfl)) (pgs_cons (pg_name (i := 7) sc_law_values_hold.nd rfl (by first | exact Or.inl rfl | exact Or.inr rfl)) pgs_nil))))
      (pss_cons (ps_set (i := 3) sc_law_values_hold.nd rfl (by first | exact Or.inl rfl | exact Or.inr rfl) (pe_op op_add pe_int (pe_cal C_law_draw (hr.mono (by decide)) (by rfl) (pa_cons (pv 0) (pa_cons pe_int pa_nil)))))
      (pss_cons (ps_set (i := 4) sc_law_values_hold.nd rfl (by first | exact Or.inl rfl | exact Or.inr rfl) (pe_cal C_law_near (hr.mono (by decide)) (by rfl) (pa_cons (pv 1) (pa_cons (pv 2) (pa_cons (pv 6) (pa_cons (pv 7) (pa_cons (pv 3) pa_nil)))))))
      (pss_cons (ps_par (i := 8) (j := 9) (by rfl) sc_law_values_hold.nd rfl rfl (by decide) rfl rfl (pa_cons (pe_callTy (call_listK K) (by rfl) T.list (by decide +kernel) (pa_cons (pv 1) pa_nil)) (pa_cons (pe_callTy (call_listK K) (by rfl) T.list (by decide +kernel) (pa_cons (pv 2) pa_nil)) pa_nil)) (by rfl))
      (pss_cons (ps_set (i := 5) sc_law_values_hold.nd rfl (by first | exact Or.inl rfl | exact Or.inr rfl) (pe_cal C_values_for (hr.mono (by decide)) (by rfl) (pa_cons (pv 8) (pa_cons (pv 9) (pa_cons (pe_tup (pa_cons (pv 6) (pa_cons (pv 7) pa_nil))) (pa_cons (pv 3) pa_nil))))))
      (pss_cons (ps_if (PW.pt (pw_or (pt_not (pt_val (pe_cal C_law_are_whole (hr.mono (by decide)) (by rfl) (pa_cons (pv 5) pa_nil)))) (pw_or1 (pt_cmpR (op_neDK K hr.units) (pv 5) (pv 4) (nomark _)))))
          (pss_one (ps_ret pe_bl))
          pss_nil)
      (pss_cons (ps_expr (pe_bmK K PySem.F.plainAttrs_list PySem.F.slot_list_append PySem.F.type_list_append mt_append (pv 5) (pa_cons (pv 6) pa_nil)))
      (pss_one (ps_ret (pe_and (pe_cmpR (op_eqDK K hr.units) (pe_cal C_values_for (hr.mono (by decide)) (by rfl) (pa_cons (pv 8) (pa_cons (pv 9) (pa_cons (pe_tup (pa_cons (pv 6) (pa_cons (pv 7) pa_nil))) (pa_cons (pv 3) pa_nil))))) (pv 4) (nomark _)) (pe_and (pe_cmpR (op_eqDK K hr.units) (pv 8) (pv 1) (nomark _)) (pe_one (pe_cmpR (op_eqDK K hr.units) (pv 9) (pv 2) (nomark _)))))))))))))), ?_⟩
    have nd : ∀ {H0 : Hp} {p : Addr} {xs : List V}, Dst S H0 a → H0 p = some (.lst xs) → p ≠ a := fun d0 e z => by rw [z, d0.dk.choose_spec] at e; cases e
    -- low, high = bounds; many
    refine ⟨_, rfl, S, a, rfl, hd, fun H1 p x y s1 d1 np ep h0 hxy hy => ?_⟩
    refine ⟨p, _, rfl, SqT.of ep, rfl, _, _, rfl, _, _, rfl, rfl, ?_⟩
    refine ⟨_, rfl, S, a, 9, rfl, d1, by decide, by decide, fun H2 u s2 d2 u0 u9 => ⟨_, _, rfl, rfl, ?_⟩⟩
    have s12 := s1.trans s2
    have f1 : H2 p1 = some (.lst (points.map V.int)) := s12 p1 _ (nd hd e1) e1
    have f2 : H2 p2 = some (.lst (marks.map V.int)) := s12 p2 _ (nd hd e2) e2
    have hmany : 1 ≤ 1 + u ∧ 1 + u ≤ 9 := by omega
    -- due = near(..)
    refine ⟨_, rfl, _, rfl, _, rfl, _, rfl, _, rfl, p1, p2, points, marks, 100 * x, 100 * y, 1 + u, rfl, SqL.of f1, SqL.of f2, by omega, by omega, by omega, by omega, by omega, fun H3 pd s3 npd epd => ?_⟩
    -- ends, played
    refine ⟨_, rfl, p1, _, rfl, .inl (SqL.of (s3 _ _ f1)), fun l1 nl1 => ⟨_, rfl, p2, _, rfl, .inl (SqL.of (Same.new nl1 _ _ (s3 _ _ f2))), fun l2 nl2 => ?_⟩⟩
    have n12 : l1 ≠ l2 := fun z => by subst z; rw [upd_same] at nl2; cases nl2
    refine ⟨_, _, rfl, ?_⟩
    have sA : Same H3 (upd (upd H3 l1 (.lst (points.map V.int))) l2 (.lst (marks.map V.int))) := (Same.new nl1).trans (Same.new nl2)
    have g1 : upd (upd H3 l1 (.lst (points.map V.int))) l2 (.lst (marks.map V.int)) l1 = some (.lst (points.map V.int)) := by rw [upd_ne n12]; exact upd_same
    have g2 : upd (upd H3 l1 (.lst (points.map V.int))) l2 (.lst (marks.map V.int)) l2 = some (.lst (marks.map V.int)) := upd_same
    generalize upd (upd H3 l1 (.lst (points.map V.int))) l2 (.lst (marks.map V.int)) = H4 at sA g1 g2
    have s24 := s3.trans sA
    -- told = values_for(..)
    refine ⟨_, rfl, _, rfl, _, rfl, _, rfl, (by show 2 ≤ sizeLine; decide), fun tp ntp => ⟨_, rfl, ?_⟩⟩
    refine ⟨l1, l2, tp, points, marks, 100 * x, 100 * y, 1 + u, rfl, SqL.of (Same.new ntp _ _ g1), SqL.of (Same.new ntp _ _ g2), SqT.of upd_same, hl1, hl2, hv, by omega, by omega, by omega, by omega, by omega, fun H5 pt s5 npt ept => ?_⟩
    have s45 : Same H4 H5 := (Same.new ntp).trans s5
    have hlen := near_len points marks (100 * x) (100 * y) (1 + u)
    have hlen' : (near points marks (100 * x) (100 * y) (1 + u)).length ≤ 1000 := by omega
    generalize hdue : near points marks (100 * x) (100 * y) (1 + u) = due at epd ept hlen'
    -- are_whole(told), told != due
    have sh := (shp_ints due).shaped (by decide)
    have she : PyData.eqv (.list (due.map PyData.int)) (.list (due.map PyData.int)) = true := by rw [eqv_ints]; exact decide_eq_true rfl
    refine ⟨_, rfl, pt, due, rfl, ept, hlen', fun H6 s6 => ⟨true, rfl, iteF ?_⟩⟩
    have s46 := s45.trans s6
    have d6 : DpAll K H6 (due.map V.int) (due.map PyData.int) := dpAll_ints due
    refine ⟨_, rfl, _, rfl, .list (due.map PyData.int), .list (due.map PyData.int), .lst (SqL.of (s6 _ _ ept)) (dpAll_ints _), .lst (SqL.of (s46 _ _ (sA _ _ epd))) (dpAll_ints _), sh, sh, _, rfl, ?_⟩
    rw [she]
    refine iteF ?_
    -- told.append(low)
    refine ⟨_, rfl, .inl ⟨rfl, _, SqL.of (s6 _ _ ept)⟩, _, rfl, pt, _, _, rfl, rfl, s6 _ _ ept, small1000 (by rw [List.length_map]; exact hlen'), ?_⟩
    have npt4 : H4 pt = none := (Same.new ntp).free npt
    have s47 : Same H4 (upd H6 pt (.lst (due.map V.int ++ [V.int (100 * x)]))) := s46.mut npt4
    generalize upd H6 pt (.lst (due.map V.int ++ [V.int (100 * x)])) = H7 at s47
    -- values_for(..) == due
    refine ⟨_, rfl, _, rfl, _, rfl, _, rfl, (by show 2 ≤ sizeLine; decide), fun tp2 ntp2 => ⟨_, rfl, ?_⟩⟩
    refine ⟨l1, l2, tp2, points, marks, 100 * x, 100 * y, 1 + u, rfl, SqL.of (Same.new ntp2 _ _ (s47 _ _ g1)), SqL.of (Same.new ntp2 _ _ (s47 _ _ g2)), SqT.of upd_same, hl1, hl2, hv, by omega, by omega, by omega, by omega, by omega, fun H8 p8 s8 np8 ep8 => ?_⟩
    rw [hdue] at ep8
    have s48 : Same H4 H8 := s47.trans ((Same.new ntp2).trans s8)
    have s28 : Same H2 H8 := s24.trans s48
    have shp := (shp_ints points).shaped (by decide)
    have shm := (shp_ints marks).shaped (by decide)
    have shpe : PyData.eqv (.list (points.map PyData.int)) (.list (points.map PyData.int)) = true := by rw [eqv_ints]; exact decide_eq_true rfl
    have shme : PyData.eqv (.list (marks.map PyData.int)) (.list (marks.map PyData.int)) = true := by rw [eqv_ints]; exact decide_eq_true rfl
    refine ⟨_, rfl, .list (due.map PyData.int), .list (due.map PyData.int), .lst (SqL.of ep8) (dpAll_ints _), .lst (SqL.of (s48 _ _ (sA _ _ epd))) (dpAll_ints _), sh, sh, _, rfl, ?_⟩
    rw [she]
    refine iteT ⟨_, rfl, _, rfl, .list (points.map PyData.int), .list (points.map PyData.int), .lst (SqL.of (s48 _ _ g1)) (dpAll_ints _), .lst (SqL.of (s28 _ _ f1)) (dpAll_ints _), shp, shp, _, rfl, ?_⟩
    rw [shpe]
    refine iteT ⟨_, rfl, _, rfl, .list (marks.map PyData.int), .list (marks.map PyData.int), .lst (SqL.of (s48 _ _ g2)) (dpAll_ints _), .lst (SqL.of (s28 _ _ f2)) (dpAll_ints _), shm, shm, ?_⟩
    rw [shme]
    exact q H8 (s12.thenSame s28) (d2.same s28)
end
end My
/-! D12 -/
set_option Elab.async false
set_option linter.all false
set_option maxRecDepth 100000
set_option maxHeartbeats 4000000
namespace My
open PySem PySem.Spec PyProof.Rows L2
local macro_rules | `(tactic| walk_at "ne") => `(tactic| first | assumption | (apply Ne.symm; assumption) | (apply ne_of_none <;> assumption) | (apply Ne.symm; apply ne_of_none <;> assumption) | (grind [upd]))
local macro_rules | `(tactic| walk_at "hp") => `(tactic| first
  | assumption
  | exact upd_same
  | ((apply Same.at; focus assumption); (walk_at "hp"))
  | ((apply Same.at; focus (apply Same.new; assumption)); (walk_at "hp"))
  | ((apply upd_at; focus (walk_at "hp")); (walk_at "ne")))
local macro_rules | `(tactic| walk_at "sq") => `(tactic| first
  | assumption
  | (apply SqL.of; (walk_at "hp"))
  | (apply SqT.of; (walk_at "hp"))
  | ((apply Same.seq; focus assumption); (walk_at "sq"))
  | ((apply Same.set; focus assumption); (walk_at "sq"))
  | (apply Sam.seq; (focus assumption); (focus assumption); (walk_at "sq"))
  | (apply Sam.set; (focus assumption); (focus assumption); (walk_at "sq"))
  | ((apply Same.seq; focus (apply Same.new; assumption)); (walk_at "sq"))
  | ((apply Same.set; focus (apply Same.new; assumption)); (walk_at "sq")))
local macro_rules | `(tactic| walk_at "sz") => `(tactic| (first | (apply small1000) | (apply smallL)) <;> (try simp only [List.length_map, List.length_append, List.length_cons, List.length_nil, List.length_take]; omega))
local macro_rules | `(tactic| walk_at "cl") => `(tactic| first
  | rfl
  | ((with_reducible show SqL _ _ _ _); (walk_at "sq"))
  | ((with_reducible show SqT _ _ _ _); (walk_at "sq"))
  | ((with_reducible show SqL _ _ _ _ ∨ SqT _ _ _ _); first | (apply Or.inl; (walk_at "sq")) | (apply Or.inr; (walk_at "sq")))
  | ((with_reducible show tyV _ _ _ _); apply Or.inl; apply And.intro; (focus rfl); apply Exists.intro; (walk_at "sq"))
  | ((with_reducible show _ = Option.some _); (walk_at "hp"))
  | ((with_reducible show Exists _); apply Exists.intro; (walk_at "sq"))
  | assumption
  | ((show (0 : Int) < _); first | assumption | decide)
  | ((with_reducible show CMul _ _); first | (apply Or.inl; apply And.intro <;> decide) | (apply Or.inr; apply And.intro <;> decide))
  | ((with_reducible show CDiv _ _); apply And.intro <;> decide)
  | ((with_reducible show List.length _ < sizeLine); (walk_at "sz"))
  | ((with_reducible show List.length _ ≤ sizeLine); (walk_at "sz")))
local macro_rules | `(tactic| walk_at "rd") => `(tactic| repeat' (first
  | (apply Exists.intro)
  | (apply And.intro; focus (walk_at "cl"))))

abbrev s_law_ways_hold : Stmt := topS 28
theorem sc_law_ways_hold : FnScope ["points", "marks", "rows", "spans", "met", "choices", "total", "term", "body", "told", "raised", "due", "first", "ends", "played", "low", "high"] ["points", "marks", "rows", "spans"] (defScope s_law_ways_hold) := ⟨rfl, rfl, rfl, by decide +kernel, rfl, by decide +kernel, by decide +kernel⟩
/-- what is said of the own error classes -/
structure TxE (K : PySem.W.Frag) (mg : Str → Option Value) (Cb Ct Cu Cy Ca : Addr) (tk : Tok) : Prop extends Txt K mg Cb Ct Cu Cy Ca tk where
  xc_TooMany : ExcC K Ct
  xf_TooMany : XfC K Ct
  x_TooMany_limit : PySem.W.findIn K (.ref Ct) "limit" = some none
  x_TooMany_word : PySem.W.findIn K (.ref Ct) "word" = some none
  exm : PySem.W.exmOne K (.ref Ct) (.ref Ct) = some true
  kU : PySem.W.kitOne K (.ref Ct) (.ref Cu) = some false
  kY : PySem.W.kitOne K (.ref Ct) (.ref Cy) = some false
  kA : PySem.W.kitOne K (.ref Ct) (.ref Ca) = some true
theorem paired_and {α β : Type} {F : α → β → Prop} {G : α → Prop} : ∀ {as : List α} {bs : List β}, Paired F as bs → (∀ a ∈ as, G a) → Paired (fun a b => G a ∧ F a b) as bs
  | _, _, .nil, _ => .nil
  | _, _, .cons x r, h => .cons ⟨h _ (List.mem_cons_self ..), x⟩ (paired_and r fun a ha => h a (List.mem_cons_of_mem _ ha))
theorem cho_zip (points marks : List Int) (sps : List (Int × (Int × Int))) (vs : List Int) : vs.zip ((cho points marks sps vs).map (·.2)) = cho points marks sps vs := by
  unfold cho
  generalize vs.length = k
  induction vs with
  | nil => rfl
  | cons v r ih =>
    rw [List.map_cons, List.map_cons, List.zip_cons_cons, ih]
theorem valV_nd {kvs : List (Key × V)} (hn : (kvs.map (·.1)).Nodup) : ∀ p ∈ kvs, valV kvs p.1 = some p.2 := by
  induction kvs with
  | nil => exact fun p h => absurd h List.not_mem_nil
  | cons a r ih =>
    intro p hp
    obtain ⟨h1, h2⟩ := List.nodup_cons.mp (show (a.1 :: r.map (·.1)).Nodup from hn)
    rcases List.mem_cons.mp hp with rfl | hp
    · exact valV_pos rfl
    · rw [valV_neg (show ¬ a.1 = p.1 from fun e => h1 (e ▸ List.mem_map.mpr ⟨p, hp, rfl⟩))]
      exact ih h2 p hp
theorem spans_ref {K : PySem.W.Frag} {H : Hp} : ∀ {kvs : List (Key × V)} {sps : List (Int × (Int × Int))}, SpansAt K H kvs sps → ∀ p ∈ kvs, ∃ q, p.2 = .ref q
  | _, _, .nil => fun p h => absurd h List.not_mem_nil
  | _, _, .cons h r => fun p hp => by
    rcases List.mem_cons.mp hp with rfl | hp
    · exact ⟨h.2.choose, h.2.choose_spec.1⟩
    · exact spans_ref r p hp
section
variable {P : Program} {w : World} {K : PySem.W.Frag} {mg : Str → Option Value} {base : Heap}
def spWH (K : PySem.W.Frag) : Sp := fun vs H Q _ => ∃ (p1 p2 ds : Addr) (vR : V) (points marks : List Int) (rows : List Row) (kvs : List (Key × V)) (sps : List (Int × (Int × Int))), vs = [.ref p1, .ref p2, vR, .ref ds] ∧ H p1 = some (.lst (points.map V.int)) ∧ H p2 = some (.lst (marks.map V.int)) ∧ points.length ≤ 200 ∧ marks.length ≤ 200 ∧ V56 points marks ∧
  Dp K H vR (rowsD rows) ∧ ROk rows ∧ H ds = some (.dK kvs) ∧ SpansAt K H kvs sps ∧ SpOk sps ∧ (kvs.map (·.1)).Nodup ∧ ∀ H' : Hp, Same H H' → Q (.bl true) H'
theorem ok_ways_hold {Cb Ct Cu Cy Ca : Addr} {tk : Tok} (T : TxE K mg Cb Ct Cu Cy Ca tk) (B : BodyC K Cb) (C_law_variables : Cal P w K mg base CX0 1 "_law_variables" ["rows"] (spVars K)) (C_law_near : Cal P w K mg base CX0 1 "_law_near" ["points", "marks", "low", "high", "many"] (spNear K))
    (M_Body : Mak P w K mg base CX0 1 "Body" Cb ["self", "rows", "nots", "spans", "wide"] (spInit Cb)) (C_ways_of : Cal P w K mg base (L2.CX P w) 3 "ways_of" ["points", "marks", "case"] (spWays K Cb Ct)) (C_law_all_ways : Cal P w K mg base CX0 1 "_law_all_ways" ["met", "choices"] (spAllWays K))
    (C_law_are_ways : Cal P w K mg base CX0 2 "_law_are_ways" ["told", "due"] (spAreWays K))
    (D : DefAt K mg "_law_ways_hold" s_law_ways_hold ["points", "marks", "rows", "spans"]) : Cal P w K mg base CX0 4 "_law_ways_hold" ["points", "marks", "rows", "spans"] (spWH K) := by
  refine D.ok sc_law_ways_hold (fun vs H Q E h => ?_) (fun f cdv A outer s H vs Q E hr h => ?_)
  · obtain ⟨p1, p2, ds, vR, points, marks, rows, kvs, sps, rfl, _⟩ := h
    rfl
  · obtain ⟨p1, p2, ds, vR, points, marks, rows, kvs, sps, rfl, e1, e2, hl1, hl2, hv, hrw, hro, ed, hsp, hso, hkn, q⟩ := h
    have hu := hu_of hr
    refine ⟨_, (pss_cons (ps_set (i := 4) sc_law_ways_hold.nd rfl (by first | exact Or.inl rfl | exact Or.inr rfl) (pe_cal C_law_variables (hr.mono (by decide)) (by rfl) (pa_cons (pv 2) pa_nil)))
      (pss_cons (ps_set (i := 5) sc_law_ways_hold.nd rfl (by first | exact Or.inl rfl | exact Or.inr rfl) (pe_lst pa_nil))
      (pss_cons (ps_set (i := 6) sc_law_ways_hold.nd rfl (by first | exact Or.inl rfl | exact Or.inr rfl) pe_int)
      (pss_cons (ps_forM PassesOwn.never rfl (pi_listK K (pv 4)) (pg_name (i := 7) sc_law_ways_hold.nd rfl (by first | exact Or.inl rfl | exact Or.inr rfl))
          (pss_cons (ps_asg (pe_dget2 hu (pv 3) (pv 7) (pe_tup (pa_cons pe_int (pa_cons pe_int pa_nil))) ⟨rfl, rfl, rfl, rfl⟩) (pg_tupK K (by rfl) (pgs_cons (pg_name (i := 15) sc_law_ways_hold.nd rfl (by first | exact Or.inl rfl | exact Or.inr rfl)) (pgs_cons (pg_name (i := 16) sc_law_ways_hold.nd rfl (by first | exact Or.inl rfl | exact Or.inr rfl)) pgs_nil))))
          (pss_cons (ps_expr (pe_bmK K PySem.F.plainAttrs_list PySem.F.slot_list_append PySem.F.type_list_append mt_append (pv 5) (pa_cons (pe_cal C_law_near (hr.mono (by decide)) (by rfl) (pa_cons (pv 0) (pa_cons (pv 1) (pa_cons (pv 15) (pa_cons (pv 16) (pa_cons (pe_callB (call_lenK K) (by rfl) T.len (by decide +kernel) (pa_cons (pv 4) pa_nil)) pa_nil)))))) pa_nil)))
          (pss_one (ps_set (i := 6) sc_law_ways_hold.nd rfl (by first | exact Or.inl rfl | exact Or.inr rfl) (pe_op op_mul (pv 6) (pe_callB (call_lenK K) (by rfl) T.len (by decide +kernel) (pa_cons (pe_ix (ix_listK K) (pv 5) (pe_un un_neg pe_int) (fun _ _ => rfl)) pa_nil))))))))
      (pss_cons (ps_set (i := 8) sc_law_ways_hold.nd rfl (by first | exact Or.inl rfl | exact Or.inr rfl) (pe_mak M_Body (hr.mono (by decide)) (by rfl) (pa_cons (pv 2) (pa_cons (pe_tup pa_nil) (pa_cons (pe_callTy call_dictOf (by rfl) T.dict (by decide +kernel) (pa_cons (pv 3) pa_nil)) (pa_cons (pe_tup pa_nil) pa_nil))))))
      (pss_cons (ps_par (i := 13) (j := 14) (by rfl) sc_law_ways_hold.nd rfl rfl (by decide) rfl rfl (pa_cons (pe_callTy (call_listK K) (by rfl) T.list (by decide +kernel) (pa_cons (pv 0) pa_nil)) (pa_cons (pe_callTy (call_listK K) (by rfl) T.list (by decide +kernel) (pa_cons (pv 1) pa_nil)) pa_nil)) (by rfl))
      (pss_cons (ps_set (i := 9) sc_law_ways_hold.nd rfl (by first | exact Or.inl rfl | exact Or.inr rfl) (pe_lst pa_nil))
      (pss_cons (ps_try_as (i := 10) rfl rfl sc_law_ways_hold.nd rfl rfl ⟨rfl, by decide, .inl T.g_TooMany⟩ takes0 (fun W pn xe tk _ =>
          (pss_one (ps_set (i := 9) sc_law_ways_hold.nd rfl (by first | exact Or.inl rfl | exact Or.inr rfl) (pe_calS C_ways_of (hr.mono (by decide)) (by rfl) (fun σ => passAt tk σ) (pa_cons (pv 13) (pa_cons (pv 14) (pa_cons (pv 8) pa_nil)))))))
        (fun a oe cls d pn hz hf =>
          (pss_cons (ps_if (PW.pt (pw_or (pt_val (pe_callB (call_isD T.xc_TooMany hz hf) (by rfl) T.isinstance (by decide +kernel) (pa_cons (pv 10) (pa_cons (pe_glob (v := .ref _) rfl T.g_Unfit rfl) pa_nil)))) (pw_or (pt_val (pe_callB (call_isD T.xc_TooMany hz hf) (by rfl) T.isinstance (by decide +kernel) (pa_cons (pv 10) (pa_cons (pe_glob (v := .ref _) rfl T.g_Beyond rfl) pa_nil)))) (pw_or1 (pt_not (pt_val (pe_callB (call_isD T.xc_TooMany hz hf) (by rfl) T.isinstance (by decide +kernel) (pa_cons (pv 10) (pa_cons (pe_glob (v := .ref _) rfl T.g_AssizeError rfl) pa_nil)))))))))
              (pss_one (ps_ret pe_bl))
              pss_nil)
          (pss_one (ps_ret (pe_and (pe_cmpR op_gt (pv 6) pe_int (nomark _)) (pe_and (pe_cmpR op_eq (pe_xf T.xf_TooMany T.x_TooMany_limit hz hf (pv 10)) pe_int (nomark _)) (pe_one (pe_cmpR op_eq (pe_xf T.xf_TooMany T.x_TooMany_word hz hf (pv 10)) pe_str (nomark _))))))))))
      (pss_cons (ps_if (pt_cmpR op_gt (pv 6) pe_int (nomark _))
          (pss_one (ps_ret pe_bl))
          pss_nil)
      (pss_cons (ps_set (i := 11) sc_law_ways_hold.nd rfl (by first | exact Or.inl rfl | exact Or.inr rfl) (pe_cal C_law_all_ways (hr.mono (by decide)) (by rfl) (pa_cons (pv 4) (pa_cons (pv 5) pa_nil))))
      (pss_cons (ps_if (pt_not (pt_val (pe_cal C_law_are_ways (hr.mono (by decide)) (by rfl) (pa_cons (pv 9) (pa_cons (pv 11) pa_nil)))))
          (pss_one (ps_ret pe_bl))
          pss_nil)
      (pss_cons (ps_set (i := 12) sc_law_ways_hold.nd rfl (by first | exact Or.inl rfl | exact Or.inr rfl) (pe_ix (ix_listK K) (pv 9) pe_int (fun _ _ => rfl)))
      (pss_cons (ps_dput hu (pv 12) (pe_un un_neg pe_int) pe_int rfl)
      (pss_cons (ps_expr (pe_bmK K PySem.F.plainAttrs_list PySem.F.slot_list_append PySem.F.type_list_append mt_append (pv 9) (pa_cons pe_dnewK pa_nil)))
      (pss_cons (ps_if (pt_not (pt_val (pe_cal C_law_are_ways (hr.mono (by decide)) (by rfl) (pa_cons (pe_calS C_ways_of (hr.mono (by decide)) (by rfl) (fun σ => passAt takes0 σ) (pa_cons (pv 13) (pa_cons (pv 14) (pa_cons (pv 8) pa_nil)))) (pa_cons (pv 11) pa_nil)))))
          (pss_one (ps_ret pe_bl))
          pss_nil)
      (pss_one (ps_ret (pe_and (pe_cmpR (op_eqDK K hr.units) (pv 13) (pv 0) (nomark _)) (pe_and (pe_cmpR (op_eqDK K hr.units) (pv 14) (pv 1) (nomark _)) (pe_and (pe_cmpR (op_eqDK K hr.units) (pe_fldK K (pv 8)) (pv 2) (nomark _)) (pe_one (pe_cmpR (op_eqVK K hr.units) (pe_fldK K (pv 8)) (pv 3) (nomark _))))))))))))))))))))))), ?_⟩
    have hfl := hro.flat
    refine ⟨_, rfl, vR, rows, rfl, hrw, by omega, fun H1 pm s1 npm epm => ?_⟩
    refine ⟨Nat.zero_le _, fun pc npc => ?_⟩
    have nmc : pm ≠ pc := ne_of_none epm npc
    have hpos := cho_pos hv hso (show (varsOf rows).length ≤ 9 from Nat.le_trans (varsOf_len rows) (by omega))
    have hvl : (varsOf rows).length ≤ 6 := Nat.le_trans (varsOf_len rows) hfl
    have hneg : ∀ t ∈ varsOf rows, t < 0 := fun t ht => varsOf_neg ht
    have hnd := varsOf_nd rows
    have hchl : (cho points marks sps (varsOf rows)).length = (varsOf rows).length := by unfold cho; rw [List.length_map]
    have hzip := cho_zip points marks sps (varsOf rows)
    generalize hvr : varsOf rows = vl at hvl hneg hnd hpos epm hchl hzip
    have npcH : H pc = none := s1.free npc
    -- for term in met
    refine ⟨_, rfl, pm, rfl, ⟨_, SqL.of (Same.new npc _ _ epm)⟩, ?_⟩
    refine loop_ints (K := K) (ns := vl) (fun i σ H2 => (∃ y7 y15 y16, σ = [some (.ref p1), some (.ref p2), some vR, some (.ref ds), some (.ref pm), some (.ref pc), some (.int (prodL ((cho points marks sps vl).take i) : Int)), y7, none, none, none, none, none, none, none, y15, y16]) ∧ Same H1 H2 ∧
        ∃ cr, H2 pc = some (.lst (cr.map V.ref)) ∧ Paired (fun (r : Addr) (c : List Int) => H2 r = some (.lst (c.map V.int))) cr (((cho points marks sps vl).take i).map (·.2)) ∧ ∀ r ∈ cr, r ≠ pc)
      ⟨⟨none, none, none, rfl⟩, Same.new npc, [], upd_same, .nil, fun r hr' => absurd hr' List.not_mem_nil⟩ (fun i σ H2 _ h => SqL.of (h.2.1 _ _ epm)) ?_ ?_
    · rintro i n σ H2 hi ⟨⟨y7, y15, y16, rfl⟩, s2, cr, ec, hcr, hcn⟩
      have hil : i < vl.length := (List.getElem?_eq_some_iff.mp hi).1
      have hc : (cho points marks sps vl)[i]? = some (n, near points marks (spanOf sps n).1 (spanOf sps n).2 vl.length) := by
        unfold cho
        rw [List.getElem?_map, hi]
        rfl
      have et : (cho points marks sps vl).take (i + 1) = (cho points marks sps vl).take i ++ [(n, near points marks (spanOf sps n).1 (spanOf sps n).2 vl.length)] := by
        rw [List.take_add_one, hc]
        rfl
      have sH2 := s1.trans s2
      refine ⟨_, rfl, ds, rfl, .inl ⟨_, .inl (sH2 _ _ ed)⟩, _, rfl, (by show 2 ≤ sizeLine; decide), fun z nz => ⟨valV kvs (.inl n), DGet.k (k := .inl n) (Same.new nz _ _ (sH2 _ _ ed)), ?_⟩⟩
      obtain ⟨q', hx, hsq⟩ : ∃ q', (valV kvs (.inl n)).getD (.ref z) = .ref q' ∧ SqT K (upd H2 z (.tup [.int 0, .int 1000])) q' [.int (spanOf sps n).1, .int (spanOf sps n).2] := by
        rcases SpansAt.get n hsp with ⟨a, b⟩ | ⟨q', lo', hi', a, b, c'⟩
        · refine ⟨z, by rw [a]; rfl, ?_⟩
          unfold spanOf
          rw [b]
          exact SqT.of upd_same
        · refine ⟨q', by rw [a]; rfl, ?_⟩
          unfold spanOf
          rw [b]
          exact (Same.new nz).set (sH2.set c')
      rw [hx]
      refine ⟨q', _, rfl, hsq, rfl, _, _, rfl, _, _, rfl, rfl, ?_⟩
      have s23 : Same H1 (upd H2 z (.tup [.int 0, .int 1000])) := s2.trans (Same.new nz)
      have ec3 : upd H2 z (.tup [.int 0, .int 1000]) pc = some (.lst (cr.map V.ref)) := Same.new nz _ _ ec
      have hcr3 : Paired (fun (r : Addr) (c : List Int) => upd H2 z (.tup [.int 0, .int 1000]) r = some (.lst (c.map V.int))) cr (((cho points marks sps vl).take i).map (·.2)) := Paired.mapP hcr fun _ _ e => Same.new nz _ _ e
      generalize upd H2 z (.tup [.int 0, .int 1000]) = H3 at s23 ec3 hcr3
      have sH3 := s1.trans s23
      have hcl : cr.length = i := by
        rw [Paired.length hcr, List.length_map, List.length_take, hchl]
        omega
      obtain ⟨ho1, ho2, ho3, ho4, ho5⟩ := hso n
      -- choices.append(near(..))
      refine ⟨_, rfl, .inl ⟨rfl, _, SqL.of ec3⟩, _, rfl, _, rfl, _, rfl, _, rfl, _, rfl, pm, _, rfl, .inl (SqL.of (s23 _ _ epm)), ?_⟩
      refine ⟨p1, p2, points, marks, (spanOf sps n).1, (spanOf sps n).2, _, rfl, SqL.of (sH3 _ _ e1), SqL.of (sH3 _ _ e2), by omega, by omega, ho4, ho5, by omega, fun H4 pn s4 npn epn => ?_⟩
      rw [List.length_map] at epn
      have ec4 : H4 pc = some (.lst (cr.map V.ref)) := s4 _ _ ec3
      have npp : pc ≠ pn := ne_of_none ec3 npn
      refine ⟨pc, _, _, rfl, rfl, ec4, small1000 (by rw [List.length_map]; omega), ?_⟩
      have epn5 : upd H4 pc (.lst (cr.map V.ref ++ [V.ref pn])) pn = some (.lst ((near points marks (spanOf sps n).1 (spanOf sps n).2 vl.length).map V.int)) := by rw [upd_ne npp.symm]; exact epn
      have hnl := near_len points marks (spanOf sps n).1 (spanOf sps n).2 vl.length
      -- total = total * len(choices[-1])
      refine ⟨_, rfl, _, rfl, _, rfl, pc, _, _, .ref pn, rfl, rfl, SqL.of upd_same, ?_, pn, _, rfl, .inl (SqL.of epn5), _, _, rfl, rfl, .inr ⟨?_, ?_⟩, Box.mk ⟨⟨some (.int n), some (.int (spanOf sps n).1), some (.int (spanOf sps n).2), ?_⟩, (s23.trans s4).mut npc, cr ++ [pn], ?_, ?_, fun r hr' => ?_⟩⟩
      · exact atI_last _ _
      · rw [List.length_map]; omega
      · rw [List.length_map]
        have : (2 : Int) ^ 64 = 18446744073709551616 := by decide
        omega
      · have etot : ((prodL ((cho points marks sps vl).take (i + 1)) : Nat) : Int) = (prodL ((cho points marks sps vl).take i) : Int) * (((near points marks (spanOf sps n).1 (spanOf sps n).2 vl.length).map V.int).length : Int) := by
          rw [et, prodL_snoc, List.length_map]
          push_cast
          rfl
        rw [etot]
        rfl
      · rw [upd_same, List.map_append]; rfl
      · rw [et, List.map_append]
        refine paired_app (Paired.mapP (paired_and hcr3 hcn) fun r c e => ?_) (.cons epn5 .nil)
        show upd H4 pc _ r = _
        rw [upd_ne e.1]
        exact s4 _ _ e.2
      · rcases List.mem_append.mp hr' with h | h
        · exact hcn r h
        · rw [List.mem_singleton.mp h]
          exact npp.symm
    rintro σ H2 ⟨⟨y7, y15, y16, rfl⟩, s2, cr, ec, hcr, hcn⟩
    rw [List.take_of_length_le (by omega)] at hcr ⊢
    have sH2 := s1.trans s2
    -- body = Body(rows, (), dict(spans), ())
    refine ⟨_, rfl, Nat.zero_le _, fun u1 nu1 => ⟨_, rfl, ds, _, rfl, .inl (Same.new nu1 _ _ (sH2 _ _ ed)), fun dd ndd => ⟨Nat.zero_le _, fun u2 nu2 => fun pb dxb npb ndxb hdp => ?_⟩⟩⟩
    refine ⟨pb, dxb, vR, .ref u1, .ref dd, .ref u2, rfl, upd_same, rfl, ?_⟩
    rw [upd_upd]
    have sC : Same H2 (upd (upd (upd H2 u1 (.tup [])) dd (.dK kvs)) u2 (.tup [])) := (Same.new nu1).trans ((Same.new ndd).trans (Same.new nu2))
    have sD : Same (upd (upd (upd H2 u1 (.tup [])) dd (.dK kvs)) u2 (.tup [])) (upd (upd (upd (upd (upd H2 u1 (.tup [])) dd (.dK kvs)) u2 (.tup [])) dxb (.own pb)) pb (.ins Cb dxb (bodyF vR (.ref u1) (.ref dd) (.ref u2)))) := (Same.new ndxb).mut npb
    have sB := sC.trans sD
    have edd := sD dd _ (Same.new nu2 _ _ upd_same)
    have eb : (upd (upd (upd (upd (upd H2 u1 (.tup [])) dd (.dK kvs)) u2 (.tup [])) dxb (.own pb)) pb (.ins Cb dxb (bodyF vR (.ref u1) (.ref dd) (.ref u2)))) pb = _ := upd_same
    generalize upd (upd (upd (upd (upd H2 u1 (.tup [])) dd (.dK kvs)) u2 (.tup [])) dxb (.own pb)) pb (.ins Cb dxb (bodyF vR (.ref u1) (.ref dd) (.ref u2))) = H3 at sB edd eb
    have sH3 := sH2.trans sB
    -- ends, played; told = []
    refine ⟨_, rfl, p1, _, rfl, .inl (SqL.of (sH3 _ _ e1)), fun l1 nl1 => ⟨_, rfl, p2, _, rfl, .inl (SqL.of (Same.new nl1 _ _ (sH3 _ _ e2))), fun l2 nl2 => ⟨_, _, rfl, ?_⟩⟩⟩
    refine ⟨Nat.zero_le _, fun t0 nt0 => ?_⟩
    have sE : Same H3 (upd (upd (upd H3 l1 (.lst (points.map V.int))) l2 (.lst (marks.map V.int))) t0 (.lst [])) := (Same.new nl1).trans ((Same.new nl2).trans (Same.new nt0))
    have g1 := Same.new (o := .lst []) nt0 _ _ (Same.new (o := .lst (marks.map V.int)) nl2 l1 _ upd_same)
    have g2 := Same.new (o := .lst []) nt0 l2 _ upd_same
    generalize upd (upd (upd H3 l1 (.lst (points.map V.int))) l2 (.lst (marks.map V.int))) t0 (.lst []) = H6 at sE g1 g2
    have s36 := sB.trans sE
    have sH6 := sH3.trans sE
    have s16 := s2.trans s36
    -- try: told = ways_of(ends, played, body)
    refine ⟨_, rfl, _, rfl, _, rfl, l1, l2, pb, dd, vR, .ref u1, .ref u2, points, marks, rows, kvs, sps, rfl, g1, g2, hl1, hl2, hv, ⟨dxb, sE _ _ eb⟩, sE _ _ edd, hsp.same sH6, hso, hrw.same sH6, hfl, fun hle H7 pt refs s7 npt ept hD hfr => ?_, fun hgt H7 d7 s7 nd7 ed7 => ?_⟩
    · rw [hvr] at hle hD
      have h0 := (prodL_take_le hpos (cho points marks sps vl).length).2
      rw [List.take_of_length_le (Nat.le_refl _)] at h0
      have hlen := hD.len
      rw [allW_len] at hlen
      have hr0 : refs.length ≤ 800 := by omega
      refine ⟨_, rfl, _, _, rfl, rfl, _, rfl, ?_⟩
      rw [decide_eq_false (show ¬ (800 : Int) < _ by omega)]
      refine iteF ?_
      have s17 : Same H1 H7 := s16.trans s7
      have ec7 : H7 pc = some (.lst (cr.map V.ref)) := s7 _ _ (s36 _ _ ec)
      have hcr7 : Paired (fun (r : Addr) (c : List Int) => H7 r = some (.lst (c.map V.int))) cr ((cho points marks sps vl).map (·.2)) := Paired.mapP hcr fun _ _ e => s7 _ _ (s36 _ _ e)
      -- due = all_ways(met, choices)
      refine ⟨_, rfl, _, rfl, pm, pc, vl, cr, (cho points marks sps vl).map (·.2), rfl, s17 _ _ epm, ec7, hcr7, by rw [List.length_map, hchl], hnd, by omega, fun i => ?_, fun H8 pd refs2 s8 epd npd hD2 hfr2 => ?_⟩
      · rw [hzip, allW_len]
        have := (prodL_take_le hpos i).1
        omega
      rw [hzip] at hD2
      have hkeys : ∀ x ∈ allW (cho points marks sps vl), x.map (·.1) = vl := fun x hx => by
        rw [allW_keys _ x hx]
        unfold cho
        rw [List.map_map]
        exact List.map_id _
      have hwn : ∀ x ∈ allW (cho points marks sps vl), (x.map (·.1)).Nodup := fun x hx => by rw [hkeys x hx]; exact hnd
      have hwz : ∀ x ∈ allW (cho points marks sps vl), x.length ≤ 100 := fun x hx => by
        have := congrArg List.length (hkeys x hx)
        rw [List.length_map] at this
        omega
      have hwl : (allW (cho points marks sps vl)).length ≤ 1000 := by rw [allW_len]; omega
      -- are_ways(told, due)
      refine ⟨_, rfl, _, rfl, pt, pd, refs, refs2, _, rfl, s8 _ _ ept, epd, hD.same s8, hD2, hwn, hwz, hwl, fun H9 s9 => ⟨true, rfl, iteF ?_⟩⟩
      have s79 := s8.trans s9
      -- first = told[0]
      obtain ⟨r0, rs, rfl⟩ : ∃ r0 rs, refs = r0 :: rs := by
        cases refs with
        | nil => rw [List.length_nil] at hlen; omega
        | cons a b => exact ⟨a, b, rfl⟩
      have hfr0 : H6 r0 = none := hfr r0 (List.mem_cons_self ..)
      obtain ⟨w0, hw0, er0⟩ := hD.get (i := 0) (q := r0) rfl
      have er9 := s79 _ _ er0
      have hw0l := hwz w0 (List.mem_of_getElem? hw0)
      refine ⟨_, rfl, pt, _, 0, .ref r0, rfl, rfl, SqL.of (s79 _ _ ept), atI_nat (j := 0) rfl, ?_⟩
      -- first[-9] = 7
      refine ⟨_, rfl, _, rfl, r0, _, rfl, DPut.k (k := .inl (-9)) er9 (small1000 (by unfold dkI; rw [List.length_map]; omega)), ?_⟩
      have npt0 : pt ≠ r0 := fun z => by rw [z, er0] at ept; cases ept
      -- told.append({})
      have ept9 : upd H9 r0 (.dK (putK (dkI w0) (.inl (-9)) (.int 7))) pt = some (.lst ((r0 :: rs).map V.ref)) := by rw [upd_ne npt0]; exact s79 _ _ ept
      refine ⟨_, rfl, .inl ⟨rfl, _, SqL.of ept9⟩, fun e9 ne9 => ⟨pt, _, _, rfl, rfl, Same.new ne9 _ _ ept9, small1000 (by rw [List.length_map]; omega), ?_⟩⟩
      have s6A : Same H6 (upd (upd (upd H9 r0 (.dK (putK (dkI w0) (.inl (-9)) (.int 7)))) e9 (.dK [])) pt (.lst ((r0 :: rs).map V.ref ++ [V.ref e9]))) :=
        Same.mut (((s7.trans s79).mut hfr0).trans (Same.new ne9)) npt
      have keepA : ∀ {b : Addr} {o : HO}, H9 b = some o → b ≠ r0 → b ≠ pt → (upd (upd (upd H9 r0 (.dK (putK (dkI w0) (.inl (-9)) (.int 7)))) e9 (.dK [])) pt (.lst ((r0 :: rs).map V.ref ++ [V.ref e9]))) b = some o := fun {b o} hb h1 h2 => by
        rw [upd_ne h2]
        exact Same.new ne9 _ _ (by rw [upd_ne h1]; exact hb)
      generalize upd (upd (upd H9 r0 (.dK (putK (dkI w0) (.inl (-9)) (.int 7)))) e9 (.dK [])) pt (.lst ((r0 :: rs).map V.ref ++ [V.ref e9])) = HA at s6A keepA
      have epdA : HA pd = some (.lst (refs2.map V.ref)) := keepA (s9 _ _ epd) (fun z => by rw [z, er0] at npd; cases npd) (fun z => by rw [z, ept] at npd; cases npd)
      have hD2A : DictsAt HA refs2 (allW (cho points marks sps vl)) := Paired.mapP (paired_and hD2 hfr2) fun b _ e => keepA (s9 _ _ e.2) (fun z => by have := e.1; rw [z, er0] at this; cases this) (fun z => by have := e.1; rw [z, ept] at this; cases this)
      have sHA := sH6.trans s6A
      -- are_ways(ways_of(ends, played, body), due)
      refine ⟨_, rfl, _, rfl, _, rfl, l1, l2, pb, dd, vR, .ref u1, .ref u2, points, marks, rows, kvs, sps, rfl, s6A _ _ g1, s6A _ _ g2, hl1, hl2, hv, ⟨dxb, s6A _ _ (sE _ _ eb)⟩, s6A _ _ (sE _ _ edd), hsp.same sHA, hso, hrw.same sHA, hfl, fun _ HB pt2 refs3 sB2 npt2 ept2 hD3 hfr3 => ?_, fun hgt => ?_⟩
      · rw [hvr] at hD3
        refine ⟨_, rfl, pt2, pd, refs3, refs2, _, rfl, ept2, sB2 _ _ epdA, hD3, hD2A.same sB2, hwn, hwz, hwl, fun HC sC2 => ⟨true, rfl, iteF ?_⟩⟩
        have s6C : Same H6 HC := s6A.trans (sB2.trans sC2)
        have sHC : Same H HC := sH6.trans s6C
        have shp := (shp_ints points).shaped (by decide)
        have shm := (shp_ints marks).shaped (by decide)
        have shpe : PyData.eqv (.list (points.map PyData.int)) (.list (points.map PyData.int)) = true := by rw [eqv_ints]; exact decide_eq_true rfl
        have shme : PyData.eqv (.list (marks.map PyData.int)) (.list (marks.map PyData.int)) = true := by rw [eqv_ints]; exact decide_eq_true rfl
        have shr : SeqAt.shaped (rowsD rows) = true := (shp_tuple hro.shp).shaped (by decide)
        have shre : PyData.eqv (rowsD rows) (rowsD rows) = true := SeqAt.eqv_refl _ (shp_tuple hro.shp).1
        refine ⟨_, rfl, _, rfl, .list (points.map PyData.int), .list (points.map PyData.int), .lst (SqL.of (s6C _ _ g1)) (dpAll_ints _), .lst (SqL.of (sHC _ _ e1)) (dpAll_ints _), shp, shp, _, rfl, ?_⟩
        rw [shpe]
        refine iteT ⟨_, rfl, _, rfl, .list (marks.map PyData.int), .list (marks.map PyData.int), .lst (SqL.of (s6C _ _ g2)) (dpAll_ints _), .lst (SqL.of (sHC _ _ e2)) (dpAll_ints _), shm, shm, _, rfl, ?_⟩
        rw [shme]
        have ebC := s6C _ _ (sE _ _ eb)
        refine iteT ⟨_, rfl, pb, Cb, dxb, _, _, rfl, ebC, B.cl, B.rows, bf_rows, _, rfl, rowsD rows, rowsD rows, hrw.same sHC, hrw.same sHC, shr, shr, _, rfl, ?_⟩
        rw [shre]
        refine iteT ⟨_, rfl, pb, Cb, dxb, _, _, rfl, ebC, B.cl, B.spans, bf_spans, _, rfl, 1, by decide, .inr ⟨dd, ds, kvs, kvs, rfl, rfl, s6C _ _ (sE _ _ edd), sHC _ _ ed, rfl, fun p hp => ⟨p.2, valV_nd hkn p hp, ?_⟩⟩, q HC sHC⟩
        obtain ⟨q', hq'⟩ := spans_ref hsp p hp
        exact .inr (.inl ⟨q', hq', hq'⟩)
      · rw [hvr] at hgt
        omega
    · rw [hvr] at hgt
      refine ⟨true, T.exm, fun _ a na => ?_, fun h => nomatch h⟩
      refine ⟨_, rfl, .ref Cu, .ref Cu, false, d7, _, rfl, fun u h => h, rfl, rfl, ed7, T.kU, _, rfl, iteF ⟨_, rfl, .ref Cy, .ref Cy, false, d7, _, rfl, fun u h => h, rfl, rfl, ed7, T.kY, _, rfl, iteF ⟨_, rfl, .ref Ca, .ref Ca, true, d7, _, rfl, fun u h => h, rfl, rfl, ed7, T.kA, _, rfl, iteF ?_⟩⟩⟩
      refine ⟨_, rfl, _, _, rfl, rfl, _, rfl, ?_⟩
      rw [decide_eq_true (show (800 : Int) < _ by omega)]
      refine iteT ⟨_, rfl, rfl, rfl, d7, _, .int 800, rfl, ed7, rfl, rfl, _, rfl, iteT ⟨_, rfl, rfl, rfl, d7, _, .str "ways", rfl, ed7, rfl, rfl, ?_⟩⟩
      exact q H7 (sH6.trans s7)
end
end My
/-! D13 -/
set_option Elab.async false
set_option linter.all false
set_option maxRecDepth 100000
set_option maxHeartbeats 4000000
namespace My
open PySem PySem.Spec PyProof.Rows L2
local macro_rules | `(tactic| walk_at "ne") => `(tactic| first | assumption | (apply Ne.symm; assumption) | (apply ne_of_none <;> assumption) | (apply Ne.symm; apply ne_of_none <;> assumption) | (grind [upd]))
local macro_rules | `(tactic| walk_at "hp") => `(tactic| first
  | assumption
  | exact upd_same
  | ((apply Same.at; focus assumption); (walk_at "hp"))
  | ((apply Same.at; focus (apply Same.new; assumption)); (walk_at "hp"))
  | ((apply upd_at; focus (walk_at "hp")); (walk_at "ne")))
local macro_rules | `(tactic| walk_at "sq") => `(tactic| first
  | assumption
  | (apply SqL.of; (walk_at "hp"))
  | (apply SqT.of; (walk_at "hp"))
  | ((apply Same.seq; focus assumption); (walk_at "sq"))
  | ((apply Same.set; focus assumption); (walk_at "sq"))
  | (apply Sam.seq; (focus assumption); (focus assumption); (walk_at "sq"))
  | (apply Sam.set; (focus assumption); (focus assumption); (walk_at "sq"))
  | ((apply Same.seq; focus (apply Same.new; assumption)); (walk_at "sq"))
  | ((apply Same.set; focus (apply Same.new; assumption)); (walk_at "sq")))
local macro_rules | `(tactic| walk_at "sz") => `(tactic| (first | (apply small1000) | (apply smallL)) <;> (try simp only [List.length_map, List.length_append, List.length_cons, List.length_nil, List.length_take]; omega))
local macro_rules | `(tactic| walk_at "cl") => `(tactic| first
  | rfl
  | ((with_reducible show SqL _ _ _ _); (walk_at "sq"))
  | ((with_reducible show SqT _ _ _ _); (walk_at "sq"))
  | ((with_reducible show SqL _ _ _ _ ∨ SqT _ _ _ _); first | (apply Or.inl; (walk_at "sq")) | (apply Or.inr; (walk_at "sq")))
  | ((with_reducible show tyV _ _ _ _); apply Or.inl; apply And.intro; (focus rfl); apply Exists.intro; (walk_at "sq"))
  | ((with_reducible show _ = Option.some _); (walk_at "hp"))
  | ((with_reducible show Exists _); apply Exists.intro; (walk_at "sq"))
  | assumption
  | ((show (0 : Int) < _); first | assumption | decide)
  | ((with_reducible show CMul _ _); first | (apply Or.inl; apply And.intro <;> decide) | (apply Or.inr; apply And.intro <;> decide))
  | ((with_reducible show CDiv _ _); apply And.intro <;> decide)
  | ((with_reducible show List.length _ < sizeLine); (walk_at "sz"))
  | ((with_reducible show List.length _ ≤ sizeLine); (walk_at "sz")))
local macro_rules | `(tactic| walk_at "rd") => `(tactic| repeat' (first
  | (apply Exists.intro)
  | (apply And.intro; focus (walk_at "cl"))))

abbrev s_law_edge_holds : Stmt := topS 30
theorem sc_law_edge_holds : FnScope ["d", "bound", "marks", "near", "far", "ends", "rows", "spans", "played", "inside", "cuts", "most", "hundreds", "k", "mark"] ["d"] (defScope s_law_edge_holds) := ⟨rfl, rfl, rfl, by decide +kernel, rfl, by decide +kernel, by decide +kernel⟩
/-- refs to fours of ints, small -/
def Four (H0 : Hp) (vs : List V) (H : Hp) : Prop := Same H0 H ∧ ∀ v ∈ vs, ∃ (q : Addr) (i c m h : Int), v = .ref q ∧ H q = some (.tup [.int i, .int c, .int m, .int h]) ∧ 0 ≤ i ∧ 0 ≤ c ∧ c ≤ 6 ∧ i ≤ m ∧ m ≤ 30 ∧ 1 ≤ h ∧ h ≤ 9
theorem Four.nil (H : Hp) : Four H [] H := ⟨Same.refl H, fun v h => absurd h List.not_mem_nil⟩
theorem Four.add {H0 H : Hp} {vs : List V} {q : Addr} {i c m h : Int} (F : Four H0 vs H) (n : H q = none) (b : 0 ≤ i ∧ 0 ≤ c ∧ c ≤ 6 ∧ i ≤ m ∧ m ≤ 30 ∧ 1 ≤ h ∧ h ≤ 9) : Four H0 (vs ++ [.ref q]) (upd H q (.tup [.int i, .int c, .int m, .int h])) := by
  refine ⟨F.1.trans (Same.new n), fun v hv => ?_⟩
  rcases List.mem_append.mp hv with hv | hv
  · obtain ⟨q', i', c', m', h', e, e2, r⟩ := F.2 v hv
    exact ⟨q', i', c', m', h', e, Same.new n _ _ e2, r⟩
  · exact ⟨q, i, c, m, h, List.mem_singleton.mp hv, upd_same, b⟩
theorem ints_perm {ys : List V} {ns : List Int} (h : ys.Perm (ns.map V.int)) : ∃ zs : List Int, ys = zs.map V.int ∧ zs.Perm ns := by
  let g : V → Int := fun v => match v with | .int i => i | _ => 0
  refine ⟨ys.map g, ?_, ?_⟩
  · rw [List.map_map]
    symm
    have e : ∀ y ∈ ys, (V.int ∘ g) y = y := fun y hy => by
      obtain ⟨n, _, rfl⟩ := List.mem_map.mp (h.mem_iff.mp hy)
      rfl
    rw [List.map_congr_left e]
    exact List.map_id _
  · have := h.map g
    rw [List.map_map] at this
    have e : (g ∘ V.int) = id := rfl
    rw [e, List.map_id] at this
    exact this
theorem cut_ints (ns : List Int) (lo hi : Option Int) : ∃ ms : List Int, cutV (ns.map V.int) lo hi = ms.map V.int ∧ ms.Sublist ns := by
  unfold cutV
  rw [← List.map_drop, ← List.map_take]
  exact ⟨_, rfl, (List.take_sublist _ _).trans (List.drop_sublist _ _)⟩
def hundredsTo (n : Nat) : List Int := (List.range n).map fun i : Nat => 100 * ((1 : Int) + (i : Int))
theorem hundredsTo_nd (n : Nat) : (hundredsTo n).Nodup := by
  unfold hundredsTo
  unfold List.Nodup
  rw [List.pairwise_map]
  exact (List.nodup_range (n := n)).imp fun {a b} h z => h (by omega)
theorem hundredsTo_ok (n : Nat) : ∀ m ∈ hundredsTo n, m % 100 = 0 := fun m hm => by
  obtain ⟨i, _, rfl⟩ := List.mem_map.mp hm
  omega
section
variable {P : Program} {w : World} {K : PySem.W.Frag} {mg : Str → Option Value} {base : Heap}
def spEdge : Sp := fun vs H Q _ => ∃ (S : Addr × List Int) (a : Addr), vs = [.ref a] ∧ Dst S H a ∧ ∀ H' : Hp, Sam a H H' → Dst S H' a → Q (.bl true) H'
theorem ok_edge (T : Blt mg) (C_law_draw : Cal P w K mg base CX0 1 "_law_draw" ["d", "many"] spDraw) (C_law_pick : Cal P w K mg base CX0 2 "_law_pick" ["d", "row"] (spPick K)) (C_law_mixed : Cal P w K mg base CX0 2 "_law_mixed" ["d", "row"] (spMixed K))
    (C_law_ways_hold : Cal P w K mg base CX0 4 "_law_ways_hold" ["points", "marks", "rows", "spans"] (spWH K))
    (D : DefAt K mg "_law_edge_holds" s_law_edge_holds ["d"]) : Cal P w K mg base CX0 5 "_law_edge_holds" ["d"] spEdge := by
  refine D.ok sc_law_edge_holds (fun vs H Q E h => ?_) (fun f cdv A outer s H vs Q E hr h => ?_)
  · obtain ⟨S, a, rfl, _⟩ := h
    rfl
  · obtain ⟨S, a, rfl, hd, q⟩ := h
    have hu := hu_of hr
    refine ⟨_, (pss_cons (ps_asg (pe_cal C_law_pick (hr.mono (by decide)) (by rfl) (pa_cons (pv 0) (pa_cons (pe_lst (pa_cons (pe_tup (pa_cons pe_int (pa_cons pe_int (pa_cons pe_int (pa_cons pe_int pa_nil))))) (pa_cons (pe_tup (pa_cons pe_int (pa_cons pe_int (pa_cons pe_int (pa_cons pe_int pa_nil))))) (pa_cons (pe_tup (pa_cons pe_int (pa_cons pe_int (pa_cons pe_int (pa_cons pe_int pa_nil))))) (pa_cons (pe_tup (pa_cons pe_int (pa_cons pe_int (pa_cons pe_int (pa_cons pe_int pa_nil))))) (pa_cons (pe_tup (pa_cons pe_int (pa_cons pe_int (pa_cons pe_int (pa_cons pe_int pa_nil))))) (pa_cons (pe_tup (pa_cons pe_int (pa_cons pe_int (pa_cons pe_int (pa_cons pe_int pa_nil))))) (pa_cons (pe_tup (pa_cons pe_int (pa_cons pe_int (pa_cons pe_int (pa_cons pe_int pa_nil))))) (pa_cons (pe_tup (pa_cons pe_int (pa_cons pe_int (pa_cons pe_int (pa_cons pe_int pa_nil))))) (pa_cons (pe_tup (pa_cons pe_int (pa_cons pe_int (pa_cons pe_int (pa_cons pe_int pa_nil))))) (pa_cons (pe_tup (pa_cons pe_int (pa_cons pe_int (pa_cons pe_int (pa_cons pe_int pa_nil))))) (pa_cons (pe_tup (pa_cons pe_int (pa_cons pe_int (pa_cons pe_int (pa_cons pe_int pa_nil))))) (pa_cons (pe_tup (pa_cons pe_int (pa_cons pe_int (pa_cons pe_int (pa_cons pe_int pa_nil))))) (pa_cons (pe_tup (pa_cons pe_int (pa_cons pe_int (pa_cons pe_int (pa_cons pe_int pa_nil))))) (pa_cons (pe_tup (pa_cons pe_int (pa_cons pe_int (pa_cons pe_int (pa_cons pe_int pa_nil))))) pa_nil))))))))))))))) pa_nil))) (pg_tupK K (by rfl) (pgs_cons (pg_name (i := 9) sc_law_edge_holds.nd rfl (by first | exact Or.inl rfl | exact Or.inr rfl)) (pgs_cons (pg_name (i := 10) sc_law_edge_holds.nd rfl (by first | exact Or.inl rfl | exact Or.inr rfl)) (pgs_cons (pg_name (i := 11) sc_law_edge_holds.nd rfl (by first | exact Or.inl rfl | exact Or.inr rfl)) (pgs_cons (pg_name (i := 12) sc_law_edge_holds.nd rfl (by first | exact Or.inl rfl | exact Or.inr rfl)) pgs_nil))))))
      (pss_cons (ps_set (i := 1) sc_law_edge_holds.nd rfl (by first | exact Or.inl rfl | exact Or.inr rfl) (pe_op op_mul pe_int (pe_op op_add (pv 10) pe_int)))
      (pss_cons (ps_setLcM (i := 2) (own := [("k", 13)]) (g := gName 13) rfl sc_law_edge_holds.nd rfl rfl (sw_true rfl rfl rfl (by decide +kernel)) (pi_range2 (by rfl) T.range (pa_cons pe_int (pa_cons pe_int pa_nil))) (blkOk_by (N := ["d", "bound", "marks", "near", "far", "ends", "rows", "spans", "played", "inside", "cuts", "most", "hundreds", "k", "mark"]) (sc := defScope s_law_edge_holds) (by decide +kernel)) (fun _ _ _ _ _ => pg_name (i := 13) sc_law_edge_holds.nd rfl (Or.inl rfl)) (fun _ _ _ _ _ => pts_one (pt_cmpR op_gt (pe_op op_mod (pe_callTy call_intI (by rfl) T.int (by decide +kernel) (pa_cons (pv 13) pa_nil)) pe_int) pe_int (nomark _))) (fun _ _ _ _ _ => (pe_op op_mul pe_int (pv 13))))
      (pss_cons (ps_set (i := 3) sc_law_edge_holds.nd rfl (by first | exact Or.inl rfl | exact Or.inr rfl) (pe_slice (sl_listK K) (pe_cal C_law_mixed (hr.mono (by decide)) (by rfl) (pa_cons (pv 0) (pa_cons (pe_lcM (own := [("mark", 14)]) (g := gName 14) rfl sc_law_edge_holds.nd (pi_listK K (pv 2)) (blkOk_by (N := ["d", "bound", "marks", "near", "far", "ends", "rows", "spans", "played", "inside", "cuts", "most", "hundreds", "k", "mark"]) (sc := defScope s_law_edge_holds) (by decide +kernel)) (fun _ _ _ _ _ => pg_name (i := 14) sc_law_edge_holds.nd rfl (Or.inl rfl)) (fun _ _ _ _ _ => pts_one (pt_cmpR op_lt (pv 14) (pv 1) (nomark _))) (fun _ _ _ _ _ => (pv 14))) pa_nil))) po_none (po_some (pv 9))))
      (pss_cons (ps_set (i := 4) sc_law_edge_holds.nd rfl (by first | exact Or.inl rfl | exact Or.inr rfl) (pe_slice (sl_listK K) (pe_cal C_law_mixed (hr.mono (by decide)) (by rfl) (pa_cons (pv 0) (pa_cons (pe_lcM (own := [("mark", 14)]) (g := gName 14) rfl sc_law_edge_holds.nd (pi_listK K (pv 2)) (blkOk_by (N := ["d", "bound", "marks", "near", "far", "ends", "rows", "spans", "played", "inside", "cuts", "most", "hundreds", "k", "mark"]) (sc := defScope s_law_edge_holds) (by decide +kernel)) (fun _ _ _ _ _ => pg_name (i := 14) sc_law_edge_holds.nd rfl (Or.inl rfl)) (fun _ _ _ _ _ => pts_one (pt_cmpR op_gt (pv 14) (pv 1) (nomark _))) (fun _ _ _ _ _ => (pv 14))) pa_nil))) po_none (po_some (pe_op op_add (pe_op op_sub (pv 11) (pv 9)) pe_int))))
      (pss_cons (ps_setLcM (i := 5) (own := [("k", 13)]) (g := gName 13) rfl sc_law_edge_holds.nd rfl rfl (sw_true rfl rfl rfl (by decide +kernel)) (pi_range2 (by rfl) T.range (pa_cons pe_int (pa_cons (pe_op op_add (pv 12) pe_int) pa_nil))) (blkOk_by (N := ["d", "bound", "marks", "near", "far", "ends", "rows", "spans", "played", "inside", "cuts", "most", "hundreds", "k", "mark"]) (sc := defScope s_law_edge_holds) (by decide +kernel)) (fun _ _ _ _ _ => pg_name (i := 13) sc_law_edge_holds.nd rfl (Or.inl rfl)) (fun _ _ _ _ _ => pts_nil) (fun _ _ _ _ _ => (pe_op op_mul pe_int (pv 13))))
      (pss_cons (ps_set (i := 6) sc_law_edge_holds.nd rfl (by first | exact Or.inl rfl | exact Or.inr rfl) (pe_tup (pa_cons (pe_tup (pa_cons pe_str (pa_cons (pe_cal C_law_pick (hr.mono (by decide)) (by rfl) (pa_cons (pv 0) (pa_cons (pe_lst (pa_cons (pe_tup (pa_cons (pe_un un_neg pe_int) (pa_cons (pe_un un_neg pe_int) pa_nil))) (pa_cons (pe_tup (pa_cons (pe_un un_neg pe_int) (pa_cons (pe_un un_neg pe_int) pa_nil))) (pa_cons (pe_tup (pa_cons (pe_un un_neg pe_int) (pa_cons (pe_un un_neg pe_int) pa_nil))) pa_nil)))) pa_nil))) pa_nil))) pa_nil)))
      (pss_cons (ps_set (i := 7) sc_law_edge_holds.nd rfl (by first | exact Or.inl rfl | exact Or.inr rfl) pe_dnewK)
      (pss_cons (ps_dput hu (pv 7) (pe_cal C_law_pick (hr.mono (by decide)) (by rfl) (pa_cons (pv 0) (pa_cons (pe_ix (ix_tupK K) (pe_ix (ix_tupK K) (pv 6) pe_int (fun _ _ => rfl)) pe_int (fun _ _ => rfl)) pa_nil))) (pe_tup (pa_cons pe_int (pa_cons (pv 1) pa_nil))) rfl)
      (pss_cons (ps_forM PassesOwn.never rfl (pi_tupK K (pe_tup (pa_cons (pe_op op_cat (pv 3) (pe_slice (sl_listK K) (pv 4) po_none (po_some (pe_un un_neg pe_int)))) (pa_cons (pe_op op_cat (pv 3) (pv 4)) pa_nil)))) (pg_name (i := 8) sc_law_edge_holds.nd rfl (by first | exact Or.inl rfl | exact Or.inr rfl))
          (pss_one (ps_if (pt_not (pt_val (pe_cal C_law_ways_hold (hr.mono (by decide)) (by rfl) (pa_cons (pe_callB (cr_sortedIK K) (by rfl) T.sorted (by decide +kernel) (pa_cons (pe_op op_cat (pv 5) (pv 8)) pa_nil)) (pa_cons (pe_callB (cr_sortedIK K) (by rfl) T.sorted (by decide +kernel) (pa_cons (pv 8) pa_nil)) (pa_cons (pv 6) (pa_cons (pv 7) pa_nil)))))))
              (pss_one (ps_ret pe_bl))
              pss_nil)))
      (pss_one (ps_ret pe_bl)))))))))))), ?_⟩
    have nd : ∀ {H0 : Hp} {p : Addr} {xs : List V}, Dst S H0 a → H0 p = some (.lst xs) → p ≠ a := fun d0 e z => by rw [z, d0.dk.choose_spec] at e; cases e
    have ndt : ∀ {H0 : Hp} {p : Addr} {xs : List V}, Dst S H0 a → H0 p = some (.tup xs) → p ≠ a := fun d0 e z => by rw [z, d0.dk.choose_spec] at e; cases e
    -- inside, cuts, most, hundreds
    have A0 := Four.nil H
    refine ⟨_, rfl, (by show 4 ≤ sizeLine; decide), fun a1 n1 => ?_⟩
    have A1 := Four.add (i := 4) (c := 3) (m := 10) (h := 4) A0 n1 (by decide)
    refine ⟨(by show 4 ≤ sizeLine; decide), fun a2 n2 => ?_⟩
    have A2 := Four.add (i := 6) (c := 0) (m := 12) (h := 1) A1 n2 (by decide)
    refine ⟨(by show 4 ≤ sizeLine; decide), fun a3 n3 => ?_⟩
    have A3 := Four.add (i := 2) (c := 6) (m := 8) (h := 7) A2 n3 (by decide)
    refine ⟨(by show 4 ≤ sizeLine; decide), fun a4 n4 => ?_⟩
    have A4 := Four.add (i := 4) (c := 1) (m := 14) (h := 3) A3 n4 (by decide)
    refine ⟨(by show 4 ≤ sizeLine; decide), fun a5 n5 => ?_⟩
    have A5 := Four.add (i := 4) (c := 1) (m := 12) (h := 6) A4 n5 (by decide)
    refine ⟨(by show 4 ≤ sizeLine; decide), fun a6 n6 => ?_⟩
    have A6 := Four.add (i := 2) (c := 4) (m := 12) (h := 6) A5 n6 (by decide)
    refine ⟨(by show 4 ≤ sizeLine; decide), fun a7 n7 => ?_⟩
    have A7 := Four.add (i := 2) (c := 4) (m := 10) (h := 9) A6 n7 (by decide)
    refine ⟨(by show 4 ≤ sizeLine; decide), fun a8 n8 => ?_⟩
    have A8 := Four.add (i := 2) (c := 1) (m := 24) (h := 3) A7 n8 (by decide)
    refine ⟨(by show 4 ≤ sizeLine; decide), fun a9 n9 => ?_⟩
    have A9 := Four.add (i := 2) (c := 1) (m := 22) (h := 6) A8 n9 (by decide)
    refine ⟨(by show 4 ≤ sizeLine; decide), fun a10 n10 => ?_⟩
    have A10 := Four.add (i := 2) (c := 1) (m := 20) (h := 9) A9 n10 (by decide)
    refine ⟨(by show 4 ≤ sizeLine; decide), fun a11 n11 => ?_⟩
    have A11 := Four.add (i := 0) (c := 4) (m := 22) (h := 6) A10 n11 (by decide)
    refine ⟨(by show 4 ≤ sizeLine; decide), fun a12 n12 => ?_⟩
    have A12 := Four.add (i := 0) (c := 4) (m := 20) (h := 9) A11 n12 (by decide)
    refine ⟨(by show 4 ≤ sizeLine; decide), fun a13 n13 => ?_⟩
    have A13 := Four.add (i := 7) (c := 1) (m := 8) (h := 3) A12 n13 (by decide)
    refine ⟨(by show 4 ≤ sizeLine; decide), fun a14 n14 => ?_⟩
    have A14 := Four.add (i := 5) (c := 4) (m := 6) (h := 6) A13 n14 (by decide)
    refine ⟨(by show 14 ≤ sizeLine; decide), fun l nl => ?_⟩
    have sF := fun o => A14.1.trans (Same.new (o := o) nl)
    refine ⟨S, a, l, _, rfl, hd.same (sF _), .inl (SqL.of upd_same), by show 0 < 14; decide, by show 14 ≤ 1000; decide, fun H1 v s1 d1 hv => ?_⟩
    obtain ⟨q0, i, c, m, h, rfl, eq0, hi0, hc0, hc6, him, hm30, hh1, hh9⟩ := A14.2 v hv
    have s01 : Sam a H H1 := (sF _).sam.trans s1
    have eq1 := s1 q0 _ (ndt (hd.same A14.1) eq0) (Same.new nl _ _ eq0)
    clear A0 A1 A2 A3 A4 A5 A6 A7 A8 A9 A10 A11 A12 A13 A14 sF eq0 hv
    refine ⟨q0, _, rfl, SqT.of eq1, rfl, _, _, rfl, _, _, rfl, _, _, rfl, _, _, rfl, rfl, ?_⟩
    obtain ⟨ci, rfl⟩ : ∃ n : Nat, c = n := ⟨c.toNat, by omega⟩
    obtain ⟨ii, rfl⟩ : ∃ n : Nat, i = n := ⟨i.toNat, by omega⟩
    -- bound
    refine ⟨_, rfl, _, _, rfl, rfl, _, _, rfl, rfl, .inl ⟨by decide, by decide⟩, ?_⟩
    -- marks
    refine ⟨1, 100, rfl, ⟨by decide, by decide, by decide, by decide⟩, ?_⟩
    refine comp_ran (fun k => decide (0 < k % 10)) (fun k => .int (10 * k)) (by decide) (fun n => rfl) (fun j _ H5 s5 R q5 => ⟨_, rfl, _, rfl, _, _, rfl, rfl, (by show (0 : Int) < 10; decide), _, _, rfl, rfl, _, rfl, q5⟩) (fun j _ _ H5 s5 R q5 => ⟨_, rfl, _, _, rfl, rfl, .inl ⟨by decide, by decide⟩, q5⟩) (fun mk H2 nm s2 e2 => ?_)
    have e2 : H2 mk = some (.lst (allM.map V.int)) := by
      rw [e2]
      unfold allM
      rw [List.map_map]
      rfl
    have d2 := d1.same s2
    have s02 := s01.thenSame s2
    -- near
    refine ⟨_, rfl, _, rfl, mk, rfl, ⟨_, SqL.of e2⟩, ?_⟩
    refine comp_ints (fun n => decide (n < 100 * ((ci : Int) + 1))) V.int (SqL.of e2) (by rw [allM_len]; decide) (fun n => rfl) (fun n _ H3 s3 R q3 => ⟨_, rfl, _, rfl, _, _, rfl, rfl, _, rfl, q3⟩) (fun n _ _ H3 s3 R q3 => ⟨_, rfl, q3⟩) (fun c1 H3 nc1 s3 ec1 => ?_)
    refine ⟨S, a, c1, _, rfl, d2.same s3, SqL.of ec1, ?_, fun H4 m1 ys1 s4 d4 nm1 em1 hp1 => ?_⟩
    · rw [List.length_map]
      exact Nat.le_trans (List.length_filter_le _ _) (by rw [allM_len]; decide)
    obtain ⟨zs1, rfl, hz1⟩ := ints_perm hp1
    have s24 := s3.sam.trans s4
    refine ⟨_, rfl, _, rfl, m1, _, rfl, SqL.of em1, fun nr nnr => ?_⟩
    rw [cutV_to, ← List.map_take]
    have e24 : H4 mk = some (.lst (allM.map V.int)) := s24 mk _ (nd d2 e2) e2
    have near_in : ∀ z ∈ zs1.take ii, z ∈ allM ∧ z < 100 * ((ci : Int) + 1) := fun z hz => by
      have := hz1.mem_iff.mp (List.mem_of_mem_take hz)
      rw [List.mem_filter, decide_eq_true_eq] at this
      exact this
    have near_nd : (zs1.take ii).Nodup := (hz1.nodup_iff.mpr (allM_nd.sublist List.filter_sublist)).sublist (List.take_sublist _ _)
    have near_l : (zs1.take ii).length ≤ 90 := by
      have h1 := hz1.length_eq
      have h2 := List.length_filter_le (fun n => decide (n < 100 * ((ci : Int) + 1))) allM
      rw [allM_len] at h2
      rw [List.length_take]
      omega
    generalize zs1.take ii = near1 at near_in near_nd near_l
    have s45 : Same H4 (upd H4 nr (.lst (near1.map V.int))) := Same.new nnr
    have enr : upd H4 nr (.lst (near1.map V.int)) nr = some (.lst (near1.map V.int)) := upd_same
    generalize upd H4 nr (.lst (near1.map V.int)) = H5 at s45 enr
    have d5 := d4.same s45
    have s25 := s24.thenSame s45
    -- far
    refine ⟨_, rfl, _, rfl, mk, rfl, ⟨_, SqL.of (s45 _ _ e24)⟩, ?_⟩
    refine comp_ints (fun n => decide (100 * ((ci : Int) + 1) < n)) V.int (SqL.of (s45 _ _ e24)) (by rw [allM_len]; decide) (fun n => rfl) (fun n _ H3 s3 R q3 => ⟨_, rfl, _, rfl, _, _, rfl, rfl, _, rfl, q3⟩) (fun n _ _ H3 s3 R q3 => ⟨_, rfl, q3⟩) (fun c2 H6 nc2 s6 ec2 => ?_)
    refine ⟨S, a, c2, _, rfl, d5.same s6, SqL.of ec2, ?_, fun H7 m2 ys2 s7 d7 nm2 em2 hp2 => ?_⟩
    · rw [List.length_map]
      exact Nat.le_trans (List.length_filter_le _ _) (by rw [allM_len]; decide)
    obtain ⟨zs2, rfl, hz2⟩ := ints_perm hp2
    have s57 := s6.sam.trans s7
    refine ⟨_, rfl, _, rfl, _, _, rfl, rfl, _, _, rfl, rfl, _, rfl, m2, _, rfl, SqL.of em2, fun fr nfr => ?_⟩
    obtain ⟨far1, ef, hsub⟩ := cut_ints zs2 none (some ((fun i j => i + j) ((fun i j => i - j) m (ii : Int)) 1))
    have far_in : ∀ z ∈ far1, z ∈ allM ∧ 100 * ((ci : Int) + 1) < z := fun z hz => by
      have := hz2.mem_iff.mp (hsub.subset hz)
      rw [List.mem_filter, decide_eq_true_eq] at this
      exact this
    have far_nd : far1.Nodup := (hz2.nodup_iff.mpr (allM_nd.sublist List.filter_sublist)).sublist hsub
    have far_l : far1.length ≤ 90 := by
      have h1 := hz2.length_eq
      have h2 := List.length_filter_le (fun n => decide (100 * ((ci : Int) + 1) < n)) allM
      rw [allM_len] at h2
      have h3 := hsub.length_le
      omega
    rw [show cutV (zs2.map V.int) none (some ((fun i j => i + j) ((fun i j => i - j) m (ii : Int)) 1)) = far1.map V.int from ef] at *
    have enr7 : H7 nr = some (.lst (near1.map V.int)) := s57 nr _ (nd d5 enr) enr
    have s78 : Same H7 (upd H7 fr (.lst (far1.map V.int))) := Same.new nfr
    have efr : upd H7 fr (.lst (far1.map V.int)) fr = some (.lst (far1.map V.int)) := upd_same
    generalize upd H7 fr (.lst (far1.map V.int)) = H8 at s78 efr
    have s08 : Sam a H H8 := (s02.trans (s25.trans s57)).thenSame s78
    have d8 := d7.same s78
    -- ends
    refine ⟨_, rfl, _, _, rfl, rfl, 1, h + 1, rfl, ⟨by omega, by omega, by omega, by omega⟩, ?_⟩
    refine comp_ran (fun _ => true) (fun k => .int (100 * k)) (by omega) (fun n => rfl) (fun j _ H5 s5 R q5 => q5) (fun j _ _ H5 s5 R q5 => ⟨_, rfl, _, _, rfl, rfl, .inl ⟨by decide, by decide⟩, q5⟩) (fun en H9 nen s9 een => ?_)
    have ee : (((List.range (h + 1 - 1).toNat).map fun i : Nat => (1 : Int) + (i : Int)).filter fun _ => true).map (fun k => V.int (100 * k)) = (hundredsTo (h + 1 - 1).toNat).map V.int := by
      rw [List.filter_eq_self.mpr (fun _ _ => rfl), List.map_map]
      unfold hundredsTo
      rw [List.map_map]
      rfl
    rw [ee] at een
    have hel : (hundredsTo (h + 1 - 1).toNat).length ≤ 9 := by unfold hundredsTo; rw [List.length_map, List.length_range]; omega
    have hend := hundredsTo_nd (h + 1 - 1).toNat
    have heok := hundredsTo_ok (h + 1 - 1).toNat
    generalize hundredsTo (h + 1 - 1).toNat = ends at een hel hend heok
    have d9 := d8.same s9
    -- rows
    refine ⟨_, rfl, _, rfl, _, rfl, (by show 2 ≤ sizeLine; decide), fun b1 nb1 => ⟨_, rfl, _, rfl, (by show 2 ≤ sizeLine; decide), fun b2 nb2 => ⟨_, rfl, _, rfl, (by show 2 ≤ sizeLine; decide), fun b3 nb3 => ⟨(by show 3 ≤ sizeLine; decide), fun bl nbl => ?_⟩⟩⟩⟩
    have sG := (Same.new (o := .tup [.int (-1), .int (-2)]) nb1).trans ((Same.new (o := .tup [.int (-2), .int (-1)]) nb2).trans ((Same.new (o := .tup [.int (-4), .int (-3)]) nb3).trans (Same.new (o := .lst [.ref b1, .ref b2, .ref b3]) nbl)))
    refine ⟨S, a, bl, _, rfl, d9.same sG, .inl (SqL.of upd_same), by show 0 < 3; decide, by show 3 ≤ 1000; decide, fun H10 v s10 d10 hv => ?_⟩
    obtain ⟨qp, x, y, rfl, eqp⟩ : ∃ (qp : Addr) (x y : Int), v = .ref qp ∧ H10 qp = some (.tup [.int x, .int y]) := by
      have pass : ∀ {b : Addr} {xs : List V}, (upd (upd (upd (upd H9 b1 (.tup [.int (-1), .int (-2)])) b2 (.tup [.int (-2), .int (-1)])) b3 (.tup [.int (-4), .int (-3)])) bl (.lst [.ref b1, .ref b2, .ref b3])) b = some (.tup xs) → H10 b = some (.tup xs) := fun {b xs} e => s10 b _ (ndt (d9.same sG) e) e
      simp only [List.mem_cons, List.not_mem_nil, or_false] at hv
      rcases hv with rfl | rfl | rfl
      · exact ⟨b1, -1, -2, rfl, pass (Same.new nbl _ _ (Same.new nb3 _ _ (Same.new nb2 _ _ upd_same)))⟩
      · exact ⟨b2, -2, -1, rfl, pass (Same.new nbl _ _ (Same.new nb3 _ _ upd_same))⟩
      · exact ⟨b3, -4, -3, rfl, pass (Same.new nbl _ _ upd_same)⟩
    have s9A : Sam a H9 H10 := sG.sam.trans s10
    refine ⟨(by show 2 ≤ sizeLine; decide), fun r1 nr1 => ⟨(by show 1 ≤ sizeLine; decide), fun r2 nr2 => ?_⟩⟩
    have n12 : r1 ≠ r2 := fun z => by subst z; rw [upd_same] at nr2; cases nr2
    have sAB : Same H10 (upd (upd H10 r1 (.tup [.str "aq", .ref qp])) r2 (.tup [.ref r1])) := (Same.new nr1).trans (Same.new nr2)
    have er1 : upd (upd H10 r1 (.tup [.str "aq", .ref qp])) r2 (.tup [.ref r1]) r1 = some (.tup [.str "aq", .ref qp]) := by rw [upd_ne n12]; exact upd_same
    have er2 : upd (upd H10 r1 (.tup [.str "aq", .ref qp])) r2 (.tup [.ref r1]) r2 = some (.tup [.ref r1]) := upd_same
    generalize upd (upd H10 r1 (.tup [.str "aq", .ref qp])) r2 (.tup [.ref r1]) = H11 at sAB er1 er2
    have eqp1 := sAB _ _ eqp
    have d11 := d10.same sAB
    have s911 : Sam a H9 H11 := s9A.thenSame sAB
    -- spans
    intro sp nsp
    have nspH : H9 sp = none := s911.free nsp (d11.ne nsp)
    refine ⟨_, rfl, (by show 2 ≤ sizeLine; decide), fun tp ntp => ?_⟩
    have sBC : Same H11 (upd (upd H11 sp (.dK [])) tp (.tup [.int 0, .int (100 * ((ci : Int) + 1))])) := (Same.new nsp).trans (Same.new ntp)
    have nst : sp ≠ tp := fun z => by subst z; rw [upd_same] at ntp; cases ntp
    have esp : upd (upd H11 sp (.dK [])) tp (.tup [.int 0, .int (100 * ((ci : Int) + 1))]) sp = some (.dK []) := by rw [upd_ne nst]; exact upd_same
    have etp : upd (upd H11 sp (.dK [])) tp (.tup [.int 0, .int (100 * ((ci : Int) + 1))]) tp = some (.tup [.int 0, .int (100 * ((ci : Int) + 1))]) := upd_same
    refine ⟨_, rfl, _, rfl, _, rfl, r2, _, 0, .ref r1, rfl, rfl, SqT.of (sBC _ _ er2), rfl, r1, _, 1, .ref qp, rfl, rfl, SqT.of (sBC _ _ er1), rfl, S, a, qp, _, rfl, d11.same sBC, .inr (SqT.of (sBC _ _ eqp1)), by show 0 < 2; decide, by show 2 ≤ 1000; decide, fun H13 v s13 d13 hv => ?_⟩
    obtain ⟨t, rfl⟩ : ∃ t : Int, v = .int t := by
      simp only [List.mem_cons, List.not_mem_nil, or_false] at hv
      rcases hv with rfl | rfl
      · exact ⟨x, rfl⟩
      · exact ⟨y, rfl⟩
    have d12 := d11.same sBC
    have esp13 : H13 sp = some (.dK []) := s13 sp _ (fun z => by rw [z, d11.dk.choose_spec] at nsp; cases nsp) esp
    have etp13 : H13 tp = some (.tup [.int 0, .int (100 * ((ci : Int) + 1))]) := s13 tp _ (ndt d12 etp) etp
    refine ⟨sp, _, rfl, DPut.k (k := .inl t) esp13 (small1000 (by show 0 ≤ 1000; decide)), ?_⟩
    have s913 : Sam a H9 (upd H13 sp (.dK (putK [] (.inl t) (.ref tp)))) := ((s911.thenSame sBC).trans s13).mut nspH
    have d14 : Dst S (upd H13 sp (.dK (putK [] (.inl t) (.ref tp)))) a := d13.mut d9 nspH
    have esp14 : upd H13 sp (.dK (putK [] (.inl t) (.ref tp))) sp = some (.dK [(.inl t, .ref tp)]) := upd_same
    have keep : ∀ {b : Addr} {xs : List V}, H11 b = some (.tup xs) → upd H13 sp (.dK (putK [] (.inl t) (.ref tp))) b = some (.tup xs) := fun {b xs} e => by
      rw [upd_ne (fun z => by rw [z, nsp] at e; cases e)]
      exact s13 b _ (ndt d11 e) (sBC _ _ e)
    have er1' := keep er1
    have er2' := keep er2
    have eqp' := keep eqp1
    have etp14 : upd H13 sp (.dK (putK [] (.inl t) (.ref tp))) tp = some (.tup [.int 0, .int (100 * ((ci : Int) + 1))]) := by rw [upd_ne nst.symm]; exact etp13
    generalize upd H13 sp (.dK (putK [] (.inl t) (.ref tp))) = H14 at s913 d14 esp14 er1' er2' eqp' etp14
    have een14 : H14 en = some (.lst (ends.map V.int)) := s913 en _ (nd d9 een) een
    have enr14 : H14 nr = some (.lst (near1.map V.int)) := s913 nr _ (nd d9 (s9 _ _ (s78 _ _ enr7))) (s9 _ _ (s78 _ _ enr7))
    have efr14 : H14 fr = some (.lst (far1.map V.int)) := s913 fr _ (nd d9 (s9 _ _ efr)) (s9 _ _ efr)
    have s014 : Sam a H H14 := (s08.thenSame s9).trans s913
    -- the two plays
    obtain ⟨far2, ef2, hsub2⟩ := cut_ints far1 none (some ((fun i => -i) 1))
    refine ⟨_, rfl, _, rfl, _, rfl, _, rfl, fr, _, rfl, SqL.of efr14, fun c3 nc3 => ?_⟩
    rw [show cutV (far1.map V.int) none (some ((fun i => -i) 1)) = far2.map V.int from ef2] at *
    have far2_l : far2.length ≤ 90 := by have := hsub2.length_le; omega
    refine ⟨nr, c3, _, _, rfl, rfl, Same.new nc3 _ _ enr14, upd_same, by rw [List.length_map, List.length_map]; exact smallL (by omega), fun pl1 npl1 => ?_⟩
    have sJ := (Same.new (o := .lst (far2.map V.int)) nc3).trans (Same.new (o := .lst (near1.map V.int ++ far2.map V.int)) npl1)
    refine ⟨_, rfl, _, rfl, nr, fr, _, _, rfl, rfl, sJ _ _ enr14, sJ _ _ efr14, by rw [List.length_map, List.length_map]; exact smallL (by omega), fun pl2 npl2 => ⟨(by show 2 ≤ sizeLine; decide), fun tt ntt => ?_⟩⟩
    have sK := (Same.new (o := .lst (near1.map V.int ++ far1.map V.int)) npl2).trans (Same.new (o := .tup [.ref pl1, .ref pl2]) ntt)
    have PL : ∀ v ∈ ([.ref pl1, .ref pl2] : List V), ∃ (pl : Addr) (ns : List Int), v = .ref pl ∧ upd (upd (upd (upd H14 c3 (.lst (far2.map V.int))) pl1 (.lst (near1.map V.int ++ far2.map V.int))) pl2 (.lst (near1.map V.int ++ far1.map V.int))) tt (.tup [.ref pl1, .ref pl2]) pl = some (.lst (ns.map V.int)) ∧ ns.Nodup ∧ (∀ z ∈ ns, z ∈ allM) ∧ ns.length ≤ 180 := fun v hv => by
      have disj : ∀ {fs : List Int}, fs.Sublist far1 → (near1 ++ fs).Nodup ∧ (∀ z ∈ near1 ++ fs, z ∈ allM) ∧ (near1 ++ fs).length ≤ 180 := fun {fs} hs => by
        refine ⟨List.nodup_append.mpr ⟨near_nd, far_nd.sublist hs, fun a ha b hb e => ?_⟩, fun z hz => ?_, ?_⟩
        · have h1 := (near_in a ha).2
          have h2 := (far_in b (hs.subset hb)).2
          omega
        · rcases List.mem_append.mp hz with h | h
          · exact (near_in z h).1
          · exact (far_in z (hs.subset h)).1
        · have := hs.length_le
          rw [List.length_append]
          omega
      simp only [List.mem_cons, List.not_mem_nil, or_false] at hv
      rcases hv with rfl | rfl
      · refine ⟨pl1, near1 ++ far2, rfl, ?_, disj hsub2⟩
        rw [List.map_append]
        exact sK _ _ upd_same
      · refine ⟨pl2, near1 ++ far1, rfl, ?_, disj (List.Sublist.refl _)⟩
        rw [List.map_append]
        exact Same.new ntt _ _ upd_same
    refine ⟨tt, rfl, ⟨_, SqT.of upd_same⟩, ?_⟩
    have ett : upd (upd (upd (upd H14 c3 (.lst (far2.map V.int))) pl1 (.lst (near1.map V.int ++ far2.map V.int))) pl2 (.lst (near1.map V.int ++ far1.map V.int))) tt (.tup [.ref pl1, .ref pl2]) tt = some (.tup [.ref pl1, .ref pl2]) := upd_same
    have s1L := sJ.trans sK
    generalize upd (upd (upd (upd H14 c3 (.lst (far2.map V.int))) pl1 (.lst (near1.map V.int ++ far2.map V.int))) pl2 (.lst (near1.map V.int ++ far1.map V.int))) tt (.tup [.ref pl1, .ref pl2]) = HL at PL ett s1L
    refine loop_tup (xs := [.ref pl1, .ref pl2]) (fun j σ H' => (∃ y8, σ = [some (.ref a), some (.int (100 * ((ci : Int) + 1))), some (.ref mk), some (.ref nr), some (.ref fr), some (.ref en), some (.ref r2), some (.ref sp), y8, some (.int ii), some (.int ci), some (.int m), some (.int h), none, none]) ∧ Same HL H')
      ⟨⟨none, rfl⟩, Same.refl _⟩ (fun j σ H' _ h => SqT.of (h.2 _ _ ett)) ?_ ?_
    · rintro j v σ HX hj ⟨⟨y8, rfl⟩, sX⟩
      obtain ⟨pl, ns, rfl, epl, hns1, hns2, hns3⟩ := PL v (List.mem_of_getElem? hj)
      have s1X := s1L.trans sX
      refine ⟨_, rfl, _, rfl, en, pl, _, _, rfl, rfl, s1X _ _ een14, sX _ _ epl, by rw [List.length_map, List.length_map]; exact smallL (by omega), fun cb ncb => ?_⟩
      rw [← List.map_append]
      refine ⟨cb, ends ++ ns, rfl, SqL.of upd_same, fun ps rr hperm _ nrr => ?_⟩
      have sY := (Same.new (o := .lst ((ends ++ ns).map V.int)) ncb).trans (Same.new (o := .lst (ps.map V.int)) nrr)
      refine ⟨_, rfl, pl, ns, rfl, SqL.of (sY _ _ (sX _ _ epl)), fun ms rm hperm2 _ nrm => ?_⟩
      have sZ := sY.trans (Same.new (o := .lst (ms.map V.int)) nrm)
      have err : upd (upd (upd HX cb (.lst ((ends ++ ns).map V.int))) rr (.lst (ps.map V.int))) rm (.lst (ms.map V.int)) rr = some (.lst (ps.map V.int)) := Same.new nrm _ _ upd_same
      have erm : upd (upd (upd HX cb (.lst ((ends ++ ns).map V.int))) rr (.lst (ps.map V.int))) rm (.lst (ms.map V.int)) rm = some (.lst (ms.map V.int)) := upd_same
      generalize upd (upd (upd HX cb (.lst ((ends ++ ns).map V.int))) rr (.lst (ps.map V.int))) rm (.lst (ms.map V.int)) = HY at sZ err erm
      have s1Y := s1X.trans sZ
      refine ⟨_, rfl, _, rfl, rr, rm, sp, .ref r2, ps, ms, [("aq", [x, y])], [(.inl t, .ref tp)], [(t, (0, 100 * ((ci : Int) + 1)))], rfl, err, erm, ?_, ?_, v56_of hend heok hns1 hns2 hperm hperm2, ?_, ⟨by show 1 ≤ 3; decide, ?_, ?_⟩, s1Y _ _ esp14, .cons ⟨rfl, tp, rfl, SqT.of (s1Y _ _ etp14)⟩ .nil, ?_, ?_, fun HZ sHZ => ⟨true, rfl, iteF (Box.mk ⟨⟨_, rfl⟩, sX.trans (sZ.trans sHZ)⟩)⟩⟩
      · rw [hperm.length_eq, List.length_append]
        omega
      · rw [hperm2.length_eq]
        omega
      · refine .tup (SqT.of (s1Y _ _ er2')) (.cons (RowT.dp ⟨r1, qp, rfl, s1Y _ _ er1', s1Y _ _ eqp'⟩) .nil)
      · intro r hr'
        rw [List.mem_singleton.mp hr']
        rfl
      · intro r hr'
        rw [List.mem_singleton.mp hr']
        show (PyData.str "aq").canLay0 = true
        decide +kernel
      · intro u
        unfold spanOf
        rw [List.lookup_cons]
        by_cases cu : u = t
        · subst cu
          rw [beq_self_eq_true]
          show (0 : Int) % 10 = 0 ∧ (100 * ((ci : Int) + 1)) % 10 = 0 ∧ (0 : Int) + 1 < 100 * ((ci : Int) + 1) ∧ (0 : Int) ≤ 0 ∧ 100 * ((ci : Int) + 1) ≤ 1000
          omega
        · rw [show (u == t) = false by simp [cu]]
          show (0 : Int) % 10 = 0 ∧ (1000 : Int) % 10 = 0 ∧ (0 : Int) + 1 < 1000 ∧ (0 : Int) ≤ 0 ∧ (1000 : Int) ≤ 1000
          omega
      · show [(Sum.inl t : Key)].Nodup
        exact List.nodup_cons.mpr ⟨List.not_mem_nil, List.nodup_nil⟩
    · rintro σ HX ⟨⟨y8, rfl⟩, sX⟩
      exact q HX (s014.thenSame (s1L.trans sX)) (d14.same (s1L.trans sX))
end
end My
/-! D14 -/
set_option Elab.async false
set_option linter.all false
set_option maxRecDepth 100000
set_option maxHeartbeats 4000000
namespace My
open PySem PySem.Spec PyProof.Rows L2
local macro_rules | `(tactic| walk_at "ne") => `(tactic| first | assumption | (apply Ne.symm; assumption) | (apply ne_of_none <;> assumption) | (apply Ne.symm; apply ne_of_none <;> assumption) | (grind [upd]))
local macro_rules | `(tactic| walk_at "hp") => `(tactic| first
  | assumption
  | exact upd_same
  | ((apply Same.at; focus assumption); (walk_at "hp"))
  | ((apply Same.at; focus (apply Same.new; assumption)); (walk_at "hp"))
  | ((apply upd_at; focus (walk_at "hp")); (walk_at "ne")))
local macro_rules | `(tactic| walk_at "sq") => `(tactic| first
  | assumption
  | (apply SqL.of; (walk_at "hp"))
  | (apply SqT.of; (walk_at "hp"))
  | ((apply Same.seq; focus assumption); (walk_at "sq"))
  | ((apply Same.set; focus assumption); (walk_at "sq"))
  | (apply Sam.seq; (focus assumption); (focus assumption); (walk_at "sq"))
  | (apply Sam.set; (focus assumption); (focus assumption); (walk_at "sq"))
  | ((apply Same.seq; focus (apply Same.new; assumption)); (walk_at "sq"))
  | ((apply Same.set; focus (apply Same.new; assumption)); (walk_at "sq")))
local macro_rules | `(tactic| walk_at "sz") => `(tactic| (first | (apply small1000) | (apply smallL)) <;> (try simp only [List.length_map, List.length_append, List.length_cons, List.length_nil, List.length_take]; omega))
local macro_rules | `(tactic| walk_at "cl") => `(tactic| first
  | rfl
  | ((with_reducible show SqL _ _ _ _); (walk_at "sq"))
  | ((with_reducible show SqT _ _ _ _); (walk_at "sq"))
  | ((with_reducible show SqL _ _ _ _ ∨ SqT _ _ _ _); first | (apply Or.inl; (walk_at "sq")) | (apply Or.inr; (walk_at "sq")))
  | ((with_reducible show tyV _ _ _ _); apply Or.inl; apply And.intro; (focus rfl); apply Exists.intro; (walk_at "sq"))
  | ((with_reducible show _ = Option.some _); (walk_at "hp"))
  | ((with_reducible show Exists _); apply Exists.intro; (walk_at "sq"))
  | assumption
  | ((show (0 : Int) < _); first | assumption | decide)
  | ((with_reducible show CMul _ _); first | (apply Or.inl; apply And.intro <;> decide) | (apply Or.inr; apply And.intro <;> decide))
  | ((with_reducible show CDiv _ _); apply And.intro <;> decide)
  | ((with_reducible show List.length _ < sizeLine); (walk_at "sz"))
  | ((with_reducible show List.length _ ≤ sizeLine); (walk_at "sz")))
local macro_rules | `(tactic| walk_at "rd") => `(tactic| repeat' (first
  | (apply Exists.intro)
  | (apply And.intro; focus (walk_at "cl"))))

abbrev s_law : Stmt := topS 31
theorem sc_law : FnScope ["script", "d", "turn", "points", "marks", "rows", "spans", "term"] ["script"] (defScope s_law) := ⟨rfl, rfl, rfl, by decide +kernel, rfl, by decide +kernel, by decide +kernel⟩
theorem spanOf_snoc {sps : List (Int × (Int × Int))} {t : Int} {b : Int × Int} (u : Int) : spanOf (sps ++ [(t, b)]) u = spanOf sps u ∨ spanOf (sps ++ [(t, b)]) u = b := by
  unfold spanOf
  rw [List.lookup_append]
  cases q : sps.lookup u with
  | some v => exact .inl rfl
  | none =>
    rw [List.lookup_cons]
    cases q2 : (u == t) with
    | true => exact .inr rfl
    | false => exact .inl rfl
section
variable {P : Program} {w : World} {K : PySem.W.Frag} {mg : Str → Option Value} {base : Heap}
def spLaw (K : PySem.W.Frag) : Sp := fun vs H Q _ => ∃ (a : Addr) (ns : List Int), vs = [.ref a] ∧ SqL K H a (ns.map V.int) ∧ ns.length ≤ 63 ∧ ∀ H', Q (.bl true) H'
theorem ok_law (T : Blt mg) (C_law_begin : Cal P w K mg base CX0 1 "_law_begin" ["script"] (spBegin K)) (C_law_draw : Cal P w K mg base CX0 1 "_law_draw" ["d", "many"] spDraw) (C_law_play : Cal P w K mg base CX0 3 "_law_play" ["d"] (spPlay K)) (C_law_values_hold : Cal P w K mg base CX0 3 "_law_values_hold" ["d", "points", "marks"] spVH)
    (C_law_asked : Cal P w K mg base CX0 3 "_law_asked" ["d"] (spAsked K)) (C_law_variables : Cal P w K mg base CX0 1 "_law_variables" ["rows"] (spVars K)) (C_law_bounds : Cal P w K mg base CX0 2 "_law_bounds" ["d"] (spBounds K))
    (C_law_ways_hold : Cal P w K mg base CX0 4 "_law_ways_hold" ["points", "marks", "rows", "spans"] (spWH K)) (C_law_edge_holds : Cal P w K mg base CX0 5 "_law_edge_holds" ["d"] spEdge)
    {f : Addr} {fd : FuncData} (F : Fun K "law" "law" s_law f fd) : FnOk P w K mg base CX0 6 f fd ["script"] (spLaw K) := by
  refine F.ok sc_law (fun vs H Q E h => ?_) (fun cdv A outer s H vs Q E hr h => ?_)
  · obtain ⟨a, ns, rfl, _⟩ := h
    rfl
  · obtain ⟨a0, ns0, rfl, hS, hl0, q⟩ := h
    have hu := hu_of hr
    refine ⟨_, (pss_cons (ps_set (i := 1) sc_law.nd rfl (by first | exact Or.inl rfl | exact Or.inr rfl) (pe_cal C_law_begin (hr.mono (by decide)) (by rfl) (pa_cons (pv 0) pa_nil)))
      (pss_cons (ps_asg (pe_cal C_law_play (hr.mono (by decide)) (by rfl) (pa_cons (pv 1) pa_nil)) (pg_tupK K (by rfl) (pgs_cons (pg_name (i := 3) sc_law.nd rfl (by first | exact Or.inl rfl | exact Or.inr rfl)) (pgs_cons (pg_name (i := 4) sc_law.nd rfl (by first | exact Or.inl rfl | exact Or.inr rfl)) pgs_nil))))
      (pss_cons (ps_forM PassesOwn.never rfl (pi_range1 (by rfl) T.range (pa_cons pe_int pa_nil)) (pg_name (i := 2) sc_law.nd rfl (by first | exact Or.inl rfl | exact Or.inr rfl))
          (pss_one (ps_if (pt_not (pt_val (pe_cal C_law_values_hold (hr.mono (by decide)) (by rfl) (pa_cons (pv 1) (pa_cons (pv 3) (pa_cons (pv 4) pa_nil))))))
              (pss_one (ps_ret pe_bl))
              pss_nil)))
      (pss_cons (ps_forM PassesOwn.never rfl (pi_range1 (by rfl) T.range (pa_cons pe_int pa_nil)) (pg_name (i := 2) sc_law.nd rfl (by first | exact Or.inl rfl | exact Or.inr rfl))
          (pss_cons (ps_set (i := 5) sc_law.nd rfl (by first | exact Or.inl rfl | exact Or.inr rfl) (pe_cal C_law_asked (hr.mono (by decide)) (by rfl) (pa_cons (pv 1) pa_nil)))
          (pss_cons (ps_set (i := 6) sc_law.nd rfl (by first | exact Or.inl rfl | exact Or.inr rfl) pe_dnewK)
          (pss_cons (ps_forM PassesOwn.never rfl (pi_listK K (pe_cal C_law_variables (hr.mono (by decide)) (by rfl) (pa_cons (pv 5) pa_nil))) (pg_name (i := 7) sc_law.nd rfl (by first | exact Or.inl rfl | exact Or.inr rfl))
              (pss_one (ps_if (pt_cmpR op_eq (pe_cal C_law_draw (hr.mono (by decide)) (by rfl) (pa_cons (pv 1) (pa_cons pe_int pa_nil))) pe_int (nomark _))
                  (pss_one (ps_dput hu (pv 6) (pv 7) (pe_cal C_law_bounds (hr.mono (by decide)) (by rfl) (pa_cons (pv 1) pa_nil)) rfl))
                  pss_nil)))
          (pss_cons (ps_if (pt_not (pt_val (pe_cal C_law_ways_hold (hr.mono (by decide)) (by rfl) (pa_cons (pv 3) (pa_cons (pv 4) (pa_cons (pv 5) (pa_cons (pv 6) pa_nil)))))))
              (pss_one (ps_ret pe_bl))
              pss_nil)
          (pss_one (ps_asg (pe_cal C_law_play (hr.mono (by decide)) (by rfl) (pa_cons (pv 1) pa_nil)) (pg_tupK K (by rfl) (pgs_cons (pg_name (i := 3) sc_law.nd rfl (by first | exact Or.inl rfl | exact Or.inr rfl)) (pgs_cons (pg_name (i := 4) sc_law.nd rfl (by first | exact Or.inl rfl | exact Or.inr rfl)) pgs_nil))))))))))
      (pss_one (ps_ret (pe_or (pe_cmpR op_gt (pe_cal C_law_draw (hr.mono (by decide)) (by rfl) (pa_cons (pv 1) (pa_cons pe_int pa_nil))) pe_int (nomark _)) (pe_one (pe_cal C_law_edge_holds (hr.mono (by decide)) (by rfl) (pa_cons (pv 1) pa_nil)))))))))), ?_⟩
    -- d = begin(script)
    refine ⟨_, rfl, a0, ns0, rfl, hS, hl0, fun H1 a s1 na ⟨S, d1⟩ => ?_⟩
    have nd : ∀ {H0 : Hp} {p : Addr} {xs : List V}, Dst S H0 a → H0 p = some (.lst xs) → p ≠ a := fun d0 e z => by rw [z, d0.dk.choose_spec] at e; cases e
    have ndt : ∀ {H0 : Hp} {p : Addr} {xs : List V}, Dst S H0 a → H0 p = some (.tup xs) → p ≠ a := fun d0 e z => by rw [z, d0.dk.choose_spec] at e; cases e
    -- points, marks = play(d)
    refine ⟨_, rfl, S, a, rfl, d1, fun H2 qp p1 p2 points marks s2 d2 eq2 e1 e2 hv hl1 hl2 => ?_⟩
    refine ⟨qp, _, rfl, SqT.of eq2, rfl, _, _, rfl, _, _, rfl, rfl, ?_⟩
    -- two turns
    refine ⟨2, rfl, by decide, by decide, ?_⟩
    refine loop_range (fun i σ H3 => (∃ y2, σ = [some (.ref a0), some (.ref a), y2, some (.ref p1), some (.ref p2), none, none, none]) ∧ Sam a H2 H3 ∧ Dst S H3 a) ⟨⟨none, rfl⟩, Sam.refl _ _, d2⟩ ?_ ?_
    · rintro i σ H3 hi ⟨⟨y2, rfl⟩, s3, d3⟩
      refine ⟨_, rfl, _, rfl, _, rfl, S, a, p1, p2, points, marks, rfl, d3, s3 p1 _ (nd d2 e1) e1, s3 p2 _ (nd d2 e2) e2, hl1, hl2, hv, fun H4 s4 d4 => ⟨true, rfl, iteF (Box.mk ⟨⟨_, rfl⟩, s3.trans s4, d4⟩)⟩⟩
    rintro σ H3 ⟨⟨y2, rfl⟩, s3, d3⟩
    have e13 := s3 p1 _ (nd d2 e1) e1
    have e23 := s3 p2 _ (nd d2 e2) e2
    clear e1 e2 eq2 s2 d2 s3
    -- three turns
    refine ⟨3, rfl, by decide, by decide, ?_⟩
    refine loop_range (fun i σ H4 => ∃ y2 y5 y6 y7 p1 p2 points marks, σ = [some (.ref a0), some (.ref a), y2, some (.ref p1), some (.ref p2), y5, y6, y7] ∧ Dst S H4 a ∧ H4 p1 = some (.lst (points.map V.int)) ∧ H4 p2 = some (.lst (marks.map V.int)) ∧ V56 points marks ∧ points.length ≤ 200 ∧ marks.length ≤ 200)
      ⟨_, _, _, _, p1, p2, points, marks, rfl, d3, e13, e23, hv, hl1, hl2⟩ ?_ ?_
    · rintro i σ H4 hi ⟨y2, y5, y6, y7, p1, p2, points, marks, rfl, d4, e1, e2, hv, hl1, hl2⟩
      -- rows = asked(d)
      refine ⟨_, rfl, S, a, rfl, d4, fun H5 pr rows s5 d5 hrw hro => ?_⟩
      -- spans = {}
      intro sp nsp
      have d6 := d5.new (o := .dK []) nsp
      have hsa : sp ≠ a := d5.ne nsp
      have e16 := Same.new (o := .dK []) nsp _ _ (s5 p1 _ (nd d4 e1) e1)
      have e26 := Same.new (o := .dK []) nsp _ _ (s5 p2 _ (nd d4 e2) e2)
      have hrw6 := hrw.same (Same.new (o := .dK []) nsp)
      have esp : upd H5 sp (.dK []) sp = some (.dK []) := upd_same
      generalize upd H5 sp (.dK []) = H6 at d6 e16 e26 hrw6 esp
      -- for term in variables(rows)
      refine ⟨_, rfl, _, rows, rfl, hrw6, by have := hro.flat; omega, fun H7 pm s7 npm epm => ?_⟩
      have d7 := d6.same s7
      refine ⟨pm, rfl, ⟨_, SqL.of epm⟩, ?_⟩
      have hvl : (varsOf rows).length ≤ 6 := Nat.le_trans (varsOf_len rows) hro.flat
      refine loop_ints (K := K) (ns := varsOf rows) (fun j σ H8 => ∃ y7 kvs sps, σ = [some (.ref a0), some (.ref a), some (.int (0 + (i : Int))), some (.ref p1), some (.ref p2), some (.ref pr), some (.ref sp), y7] ∧ Dst S H8 a ∧ H8 p1 = some (.lst (points.map V.int)) ∧ H8 p2 = some (.lst (marks.map V.int)) ∧ H8 pm = some (.lst ((varsOf rows).map V.int)) ∧ Dp K H8 (.ref pr) (rowsD rows) ∧
          H8 sp = some (.dK kvs) ∧ SpansAt K H8 kvs sps ∧ SpOk sps ∧ (kvs.map (·.1)).Nodup ∧ (∀ k ∈ kvs.map (·.1), ∃ t ∈ (varsOf rows).take j, k = .inl t) ∧ kvs.length ≤ j)
        ⟨_, [], [], rfl, d7, s7 _ _ e16, s7 _ _ e26, epm, hrw6.same s7, s7 _ _ esp, .nil, fun t => show (0 : Int) % 10 = 0 ∧ (1000 : Int) % 10 = 0 ∧ (0 : Int) + 1 < 1000 ∧ (0 : Int) ≤ 0 ∧ (1000 : Int) ≤ 1000 by omega, List.nodup_nil, fun k hk => absurd hk List.not_mem_nil, Nat.le_refl _⟩ (fun j σ H8 _ ⟨_, _, _, h⟩ => SqL.of h.2.2.2.2.1) ?_ ?_
      · rintro j t σ H8 hj ⟨y7, kvs, sps, rfl, d8, f1, f2, f3, hrw8, f4, hsp, hso, hkn, hkt, hkl⟩
        have hjl : j < (varsOf rows).length := (List.getElem?_eq_some_iff.mp hj).1
        have ns8 : sp ≠ a := fun z => by rw [z] at hsa; exact hsa rfl
        refine ⟨_, rfl, S, a, 2, rfl, d8, by decide, by decide, fun H9 v s9 d9 v0 v2 => ⟨rfl, _, rfl, ?_⟩⟩
        have g1 := s9 p1 _ (nd d8 f1) f1
        have g2 := s9 p2 _ (nd d8 f2) f2
        have g3 := s9 pm _ (nd d8 f3) f3
        have g4 := s9 sp _ ns8 f4
        have hrw9 := hrw8.sam s9 d8.dk.choose_spec
        have hsp9 : SpansAt K H9 kvs sps := Paired.mapP hsp fun _ _ ⟨e, q, e2, hq⟩ => ⟨e, q, e2, s9.set d8.dk.choose_spec hq⟩
        refine ite2 (fun _ => ?_) (fun _ => ?_)
        · -- spans[term] = bounds(d)
          refine ⟨_, rfl, S, a, rfl, d9, fun H10 pb x y s10 d10 npb epb x0 xy y10 => ?_⟩
          have k1 := s10 p1 _ (nd d9 g1) g1
          have k2 := s10 p2 _ (nd d9 g2) g2
          have k3 := s10 pm _ (nd d9 g3) g3
          have k4 := s10 sp _ ns8 g4
          have hrw10 := hrw9.sam s10 d9.dk.choose_spec
          have hsp10 : SpansAt K H10 kvs sps := Paired.mapP hsp9 fun _ _ ⟨e, q, e2, hq⟩ => ⟨e, q, e2, s10.set d9.dk.choose_spec hq⟩
          have hnew : (Sum.inl t : Key) ∉ kvs.map (·.1) := fun hk => by
            obtain ⟨u, hu', he⟩ := hkt _ hk
            cases he
            obtain ⟨j', hj', hje⟩ := List.mem_take_iff_getElem.mp hu'
            obtain ⟨_, hie⟩ := List.getElem?_eq_some_iff.mp hj
            rw [← hie] at hje
            have := (List.getElem_inj (varsOf_nd rows)).mp hje
            omega
          have hput : putK kvs (.inl t) (.ref pb) = kvs ++ [(.inl t, .ref pb)] := putK_new _ (by
            cases qv : valV kvs (.inl t : Key) with
            | none => rfl
            | some v => exact absurd (valV_in qv) hnew)
          refine ⟨_, rfl, _, rfl, sp, _, rfl, DPut.k (k := .inl t) k4 (small1000 (by omega)), ?_⟩
          rw [hput]
          have sm : Sam sp H10 (upd H10 sp (.dK (kvs ++ [(.inl t, .ref pb)]))) := Sam.up
          have nl : ∀ {p : Addr} {xs : List V}, H10 p = some (.lst xs) → p ≠ sp := fun e z => by rw [z, k4] at e; cases e
          have nt : ∀ {p : Addr} {xs : List V}, H10 p = some (.tup xs) → p ≠ sp := fun e z => by rw [z, k4] at e; cases e
          refine Box.mk ⟨_, _, sps ++ [(t, (100 * x, 100 * y))], rfl, ?_, sm _ _ (nl k1) k1, sm _ _ (nl k2) k2, sm _ _ (nl k3) k3, hrw10.sam sm k4, upd_same, ?_, ?_, ?_, ?_, ?_⟩
          · obtain ⟨q1, q2, at_, rest, turn, seed, q3, q4⟩ := d10
            exact ⟨sm _ _ (nl q1) q1, q2, at_, rest, turn, seed, sm _ _ hsa.symm q3, q4⟩
          · refine paired_app (Paired.mapP hsp10 fun _ _ ⟨e, q, e2, hq⟩ => ⟨e, q, e2, sm.set k4 hq⟩) (.cons ⟨rfl, pb, rfl, SqT.of (sm _ _ (nt epb) epb)⟩ .nil)
          · intro u
            rcases spanOf_snoc (sps := sps) (t := t) (b := (100 * x, 100 * y)) u with h | h
            · rw [h]
              exact hso u
            · rw [h]
              show (100 * x) % 10 = 0 ∧ (100 * y) % 10 = 0 ∧ 100 * x + 1 < 100 * y ∧ 0 ≤ 100 * x ∧ 100 * y ≤ 1000
              omega
          · rw [List.map_append]
            exact nd_snoc hkn hnew
          · intro k hk
            rw [List.map_append] at hk
            rcases List.mem_append.mp hk with h | h
            · obtain ⟨u, hu', he⟩ := hkt k h
              exact ⟨u, by rw [List.take_add_one]; exact List.mem_append_left _ hu', he⟩
            · refine ⟨t, ?_, List.mem_singleton.mp h⟩
              rw [List.take_add_one, hj]
              exact List.mem_append_right _ (List.mem_singleton.mpr rfl)
          · rw [List.length_append]
            show kvs.length + 1 ≤ j + 1
            omega
        · refine Box.mk ⟨_, kvs, sps, rfl, d9, g1, g2, g3, hrw9, g4, hsp9, hso, hkn, fun k hk => ?_, by omega⟩
          obtain ⟨u, hu', he⟩ := hkt k hk
          exact ⟨u, by rw [List.take_add_one]; exact List.mem_append_left _ hu', he⟩
      · rintro σ H8 ⟨y7, kvs, sps, rfl, d8, f1, f2, f3, hrw8, f4, hsp, hso, hkn, hkt, hkl⟩
        -- ways_hold
        refine ⟨_, rfl, _, rfl, _, rfl, _, rfl, p1, p2, sp, .ref pr, points, marks, rows, kvs, sps, rfl, f1, f2, hl1, hl2, hv, hrw8, hro, f4, hsp, hso, hkn, fun H9 s9 => ⟨true, rfl, iteF ?_⟩⟩
        -- play
        refine ⟨_, rfl, S, a, rfl, d8.same s9, fun H10 qp p1' p2' points' marks' s10 d10 eq10 e1' e2' hv' hl1' hl2' => ?_⟩
        exact ⟨qp, _, rfl, SqT.of eq10, rfl, _, _, rfl, _, _, rfl, rfl, Box.mk ⟨_, _, _, _, p1', p2', points', marks', rfl, d10, e1', e2', hv', hl1', hl2'⟩⟩
    · rintro σ H4 ⟨y2, y5, y6, y7, p1, p2, points, marks, rfl, d4, e1, e2, hv, hl1, hl2⟩
      -- return draw(d, 3) > 0 or edge_holds(d)
      refine ⟨_, rfl, S, a, 3, rfl, d4, by decide, by decide, fun H5 v s5 d5 v0 v3 => ⟨_, _, rfl, rfl, _, rfl, ite2 (fun _ => q _) (fun _ => ?_)⟩⟩
      exact ⟨_, rfl, S, a, rfl, d5, fun H6 _ _ => q _⟩
end
end My
/-! D15 -/
set_option Elab.async false
set_option linter.all false
set_option maxRecDepth 100000
set_option maxHeartbeats 4000000
namespace My
open PySem PySem.Spec PyProof.Rows L2
section
theorem all_mk {w : World} {K : PySem.W.Frag} {h : Heap} {mg : Str → Option Value} {fa Cb Ct Cu Cy Ca fI cI cc : Addr} {tk : Tok} (X : K.In h) (G : h.Ns mainGlobals mg) (hfa : mg "law" = some (.ref fa))
    {f1 f2 f3 f4 f5 f6 f7 f8 f9 f10 f11 f12 f13 f14 f15 f16 f17 f18 f19 f20 f21 f22 f23 f24 : Addr} {od1 an1 od2 an2 od3 an3 od4 an4 od5 an5 od6 an6 od7 an7 od8 an8 od9 an9 od10 an10 od11 an11 od12 an12 od13 an13 od14 an14 od15 an15 od16 an16 od17 an17 od18 an18 od19 an19 od20 an20 od21 an21 od22 an22 od23 an23 od24 an24 : Option Addr} {sl1 sl2 sl3 sl4 sl5 sl6 sl7 sl8 sl9 sl10 sl11 sl12 sl13 sl14 sl15 sl16 sl17 sl18 sl19 sl20 sl21 sl22 sl23 sl24 : Array (Option Value)} {oc1 kV1 dc1 pm1 cd1 ct1 oc2 kV2 dc2 pm2 cd2 ct2 oc3 kV3 dc3 pm3 cd3 ct3 oc4 kV4 dc4 pm4 cd4 ct4 oc5 kV5 dc5 pm5 cd5 ct5 oc6 kV6 dc6 pm6 cd6 ct6 oc7 kV7 dc7 pm7 cd7 ct7 oc8 kV8 dc8 pm8 cd8 ct8 oc9 kV9 dc9 pm9 cd9 ct9 oc10 kV10 dc10 pm10 cd10 ct10 oc11 kV11 dc11 pm11 cd11 ct11 oc12 kV12 dc12 pm12 cd12 ct12 oc13 kV13 dc13 pm13 cd13 ct13 oc14 kV14 dc14 pm14 cd14 ct14 oc15 kV15 dc15 pm15 cd15 ct15 oc16 kV16 dc16 pm16 cd16 ct16 oc17 kV17 dc17 pm17 cd17 ct17 oc18 kV18 dc18 pm18 cd18 ct18 oc19 kV19 dc19 pm19 cd19 ct19 oc20 kV20 dc20 pm20 cd20 ct20 oc21 kV21 dc21 pm21 cd21 ct21 oc22 kV22 dc22 pm22 cd22 ct22 oc23 kV23 dc23 pm23 cd23 ct23 oc24 kV24 dc24 pm24 cd24 ct24 : Value}
    {nmT qT : Str} {NT : Addr} {bsT bmT : List Value} {snT : List Str} {subT : List Value} {abT : Bool} {colT : Option Bool} {ddT : Option Addr} {m0 m1 m2 m3 m5 : Option Value}
    {ocI dcI pmI ctI clc cld : Value} {odI odc odd : Option Addr} {slI slc sld : Array (Option Value)} {vsd : Array Value} {fileD : Str} {tfD : Tok} {cdT : _}
    (aB : PySem.W.nsIn K mainGlobals "Body" = some (some (.ref Cb)))
    (a1 : PySem.W.nsIn K mainGlobals "_law_begin" = some (some (.ref f1)))
    (l1 : K.lookup f1 = some ⟨oc1, od1, .func (PySem.W.fnOf "_law_begin" "_law_begin" (defArgs s_law_begin) (defBody s_law_begin) (defScope s_law_begin) .none kV1 dc1 pm1 an1 cd1 ct1), sl1⟩)
    (c1 : PySem.W.codeIn K cd1 "_law_begin" = true)
    (k1 : PySem.W.keepIn K (.ref f1) = true)
    (a2 : PySem.W.nsIn K mainGlobals "_law_draw" = some (some (.ref f2)))
    (l2 : K.lookup f2 = some ⟨oc2, od2, .func (PySem.W.fnOf "_law_draw" "_law_draw" (defArgs s_law_draw) (defBody s_law_draw) (defScope s_law_draw) .none kV2 dc2 pm2 an2 cd2 ct2), sl2⟩)
    (c2 : PySem.W.codeIn K cd2 "_law_draw" = true)
    (k2 : PySem.W.keepIn K (.ref f2) = true)
    (a3 : PySem.W.nsIn K mainGlobals "_law_pick" = some (some (.ref f3)))
    (l3 : K.lookup f3 = some ⟨oc3, od3, .func (PySem.W.fnOf "_law_pick" "_law_pick" (defArgs s_law_pick) (defBody s_law_pick) (defScope s_law_pick) .none kV3 dc3 pm3 an3 cd3 ct3), sl3⟩)
    (c3 : PySem.W.codeIn K cd3 "_law_pick" = true)
    (k3 : PySem.W.keepIn K (.ref f3) = true)
    (a4 : PySem.W.nsIn K mainGlobals "_law_is_int" = some (some (.ref f4)))
    (l4 : K.lookup f4 = some ⟨oc4, od4, .func (PySem.W.fnOf "_law_is_int" "_law_is_int" (defArgs s_law_is_int) (defBody s_law_is_int) (defScope s_law_is_int) .none kV4 dc4 pm4 an4 cd4 ct4), sl4⟩)
    (c4 : PySem.W.codeIn K cd4 "_law_is_int" = true)
    (k4 : PySem.W.keepIn K (.ref f4) = true)
    (a5 : PySem.W.nsIn K mainGlobals "_law_some" = some (some (.ref f5)))
    (l5 : K.lookup f5 = some ⟨oc5, od5, .func (PySem.W.fnOf "_law_some" "_law_some" (defArgs s_law_some) (defBody s_law_some) (defScope s_law_some) .none kV5 dc5 pm5 an5 cd5 ct5), sl5⟩)
    (c5 : PySem.W.codeIn K cd5 "_law_some" = true)
    (k5 : PySem.W.keepIn K (.ref f5) = true)
    (a6 : PySem.W.nsIn K mainGlobals "_law_mixed" = some (some (.ref f6)))
    (l6 : K.lookup f6 = some ⟨oc6, od6, .func (PySem.W.fnOf "_law_mixed" "_law_mixed" (defArgs s_law_mixed) (defBody s_law_mixed) (defScope s_law_mixed) .none kV6 dc6 pm6 an6 cd6 ct6), sl6⟩)
    (c6 : PySem.W.codeIn K cd6 "_law_mixed" = true)
    (k6 : PySem.W.keepIn K (.ref f6) = true)
    (a7 : PySem.W.nsIn K mainGlobals "_law_unlike" = some (some (.ref f7)))
    (l7 : K.lookup f7 = some ⟨oc7, od7, .func (PySem.W.fnOf "_law_unlike" "_law_unlike" (defArgs s_law_unlike) (defBody s_law_unlike) (defScope s_law_unlike) .none kV7 dc7 pm7 an7 cd7 ct7), sl7⟩)
    (c7 : PySem.W.codeIn K cd7 "_law_unlike" = true)
    (k7 : PySem.W.keepIn K (.ref f7) = true)
    (a8 : PySem.W.nsIn K mainGlobals "_law_variables" = some (some (.ref f8)))
    (l8 : K.lookup f8 = some ⟨oc8, od8, .func (PySem.W.fnOf "_law_variables" "_law_variables" (defArgs s_law_variables) (defBody s_law_variables) (defScope s_law_variables) .none kV8 dc8 pm8 an8 cd8 ct8), sl8⟩)
    (c8 : PySem.W.codeIn K cd8 "_law_variables" = true)
    (k8 : PySem.W.keepIn K (.ref f8) = true)
    (a9 : PySem.W.nsIn K mainGlobals "_law_near" = some (some (.ref f9)))
    (l9 : K.lookup f9 = some ⟨oc9, od9, .func (PySem.W.fnOf "_law_near" "_law_near" (defArgs s_law_near) (defBody s_law_near) (defScope s_law_near) .none kV9 dc9 pm9 an9 cd9 ct9), sl9⟩)
    (c9 : PySem.W.codeIn K cd9 "_law_near" = true)
    (k9 : PySem.W.keepIn K (.ref f9) = true)
    (a10 : PySem.W.nsIn K mainGlobals "_law_play" = some (some (.ref f10)))
    (l10 : K.lookup f10 = some ⟨oc10, od10, .func (PySem.W.fnOf "_law_play" "_law_play" (defArgs s_law_play) (defBody s_law_play) (defScope s_law_play) .none kV10 dc10 pm10 an10 cd10 ct10), sl10⟩)
    (c10 : PySem.W.codeIn K cd10 "_law_play" = true)
    (k10 : PySem.W.keepIn K (.ref f10) = true)
    (a11 : PySem.W.nsIn K mainGlobals "_law_bounds" = some (some (.ref f11)))
    (l11 : K.lookup f11 = some ⟨oc11, od11, .func (PySem.W.fnOf "_law_bounds" "_law_bounds" (defArgs s_law_bounds) (defBody s_law_bounds) (defScope s_law_bounds) .none kV11 dc11 pm11 an11 cd11 ct11), sl11⟩)
    (c11 : PySem.W.codeIn K cd11 "_law_bounds" = true)
    (k11 : PySem.W.keepIn K (.ref f11) = true)
    (a12 : PySem.W.nsIn K mainGlobals "_law_asked" = some (some (.ref f12)))
    (l12 : K.lookup f12 = some ⟨oc12, od12, .func (PySem.W.fnOf "_law_asked" "_law_asked" (defArgs s_law_asked) (defBody s_law_asked) (defScope s_law_asked) .none kV12 dc12 pm12 an12 cd12 ct12), sl12⟩)
    (c12 : PySem.W.codeIn K cd12 "_law_asked" = true)
    (k12 : PySem.W.keepIn K (.ref f12) = true)
    (a13 : PySem.W.nsIn K mainGlobals "_law_are_whole" = some (some (.ref f13)))
    (l13 : K.lookup f13 = some ⟨oc13, od13, .func (PySem.W.fnOf "_law_are_whole" "_law_are_whole" (defArgs s_law_are_whole) (defBody s_law_are_whole) (defScope s_law_are_whole) .none kV13 dc13 pm13 an13 cd13 ct13), sl13⟩)
    (c13 : PySem.W.codeIn K cd13 "_law_are_whole" = true)
    (k13 : PySem.W.keepIn K (.ref f13) = true)
    (a14 : PySem.W.nsIn K mainGlobals "_law_are_ways" = some (some (.ref f14)))
    (l14 : K.lookup f14 = some ⟨oc14, od14, .func (PySem.W.fnOf "_law_are_ways" "_law_are_ways" (defArgs s_law_are_ways) (defBody s_law_are_ways) (defScope s_law_are_ways) .none kV14 dc14 pm14 an14 cd14 ct14), sl14⟩)
    (c14 : PySem.W.codeIn K cd14 "_law_are_ways" = true)
    (k14 : PySem.W.keepIn K (.ref f14) = true)
    (a15 : PySem.W.nsIn K mainGlobals "_law_all_ways" = some (some (.ref f15)))
    (l15 : K.lookup f15 = some ⟨oc15, od15, .func (PySem.W.fnOf "_law_all_ways" "_law_all_ways" (defArgs s_law_all_ways) (defBody s_law_all_ways) (defScope s_law_all_ways) .none kV15 dc15 pm15 an15 cd15 ct15), sl15⟩)
    (c15 : PySem.W.codeIn K cd15 "_law_all_ways" = true)
    (k15 : PySem.W.keepIn K (.ref f15) = true)
    (a16 : PySem.W.nsIn K mainGlobals "_law_ways_hold" = some (some (.ref f16)))
    (l16 : K.lookup f16 = some ⟨oc16, od16, .func (PySem.W.fnOf "_law_ways_hold" "_law_ways_hold" (defArgs s_law_ways_hold) (defBody s_law_ways_hold) (defScope s_law_ways_hold) .none kV16 dc16 pm16 an16 cd16 ct16), sl16⟩)
    (c16 : PySem.W.codeIn K cd16 "_law_ways_hold" = true)
    (k16 : PySem.W.keepIn K (.ref f16) = true)
    (a17 : PySem.W.nsIn K mainGlobals "_law_values_hold" = some (some (.ref f17)))
    (l17 : K.lookup f17 = some ⟨oc17, od17, .func (PySem.W.fnOf "_law_values_hold" "_law_values_hold" (defArgs s_law_values_hold) (defBody s_law_values_hold) (defScope s_law_values_hold) .none kV17 dc17 pm17 an17 cd17 ct17), sl17⟩)
    (c17 : PySem.W.codeIn K cd17 "_law_values_hold" = true)
    (k17 : PySem.W.keepIn K (.ref f17) = true)
    (a18 : PySem.W.nsIn K mainGlobals "_law_edge_holds" = some (some (.ref f18)))
    (l18 : K.lookup f18 = some ⟨oc18, od18, .func (PySem.W.fnOf "_law_edge_holds" "_law_edge_holds" (defArgs s_law_edge_holds) (defBody s_law_edge_holds) (defScope s_law_edge_holds) .none kV18 dc18 pm18 an18 cd18 ct18), sl18⟩)
    (c18 : PySem.W.codeIn K cd18 "_law_edge_holds" = true)
    (k18 : PySem.W.keepIn K (.ref f18) = true)
    (a19 : PySem.W.nsIn K mainGlobals "values_for" = some (some (.ref f19)))
    (l19 : K.lookup f19 = some ⟨oc19, od19, .func (PySem.W.fnOf "values_for" "values_for" (defArgs s_values_for) (defBody s_values_for) (defScope s_values_for) .none kV19 dc19 pm19 an19 cd19 ct19), sl19⟩)
    (c19 : PySem.W.codeIn K cd19 "values_for" = true)
    (k19 : PySem.W.keepIn K (.ref f19) = true)
    (a20 : PySem.W.nsIn K mainGlobals "ways_of" = some (some (.ref f20)))
    (l20 : K.lookup f20 = some ⟨oc20, od20, .func (PySem.W.fnOf "ways_of" "ways_of" (defArgs s_ways_of) (defBody s_ways_of) (defScope s_ways_of) .none kV20 dc20 pm20 an20 cd20 ct20), sl20⟩)
    (c20 : PySem.W.codeIn K cd20 "ways_of" = true)
    (k20 : PySem.W.keepIn K (.ref f20) = true)
    (a21 : PySem.W.nsIn K mainGlobals "law" = some (some (.ref f21)))
    (l21 : K.lookup f21 = some ⟨oc21, od21, .func (PySem.W.fnOf "law" "law" (defArgs s_law) (defBody s_law) (defScope s_law) .none kV21 dc21 pm21 an21 cd21 ct21), sl21⟩)
    (c21 : PySem.W.codeIn K cd21 "law" = true)
    (k21 : PySem.W.keepIn K (.ref f21) = true)
    (a22 : PySem.W.findIn K (.ref Cb) "__init__" = some (some (.ref f22)))
    (i22 : PySem.W.isFn K (.ref f22) = true)
    (l22 : K.lookup f22 = some ⟨oc22, od22, .func (PySem.W.fnOf "__init__" "Body.__init__" (defArgs s_Body_init) (defBody s_Body_init) (defScope s_Body_init) .none kV22 dc22 pm22 an22 cd22 ct22), sl22⟩)
    (c22 : PySem.W.codeIn K cd22 "Body.__init__" = true)
    (k22 : PySem.W.keepIn K (.ref f22) = true)
    (a23 : PySem.W.findIn K (.ref Cb) "span" = some (some (.ref f23)))
    (i23 : PySem.W.isFn K (.ref f23) = true)
    (l23 : K.lookup f23 = some ⟨oc23, od23, .func (PySem.W.fnOf "span" "Body.span" (defArgs s_Body_span) (defBody s_Body_span) (defScope s_Body_span) .none kV23 dc23 pm23 an23 cd23 ct23), sl23⟩)
    (c23 : PySem.W.codeIn K cd23 "Body.span" = true)
    (k23 : PySem.W.keepIn K (.ref f23) = true)
    (a24 : PySem.W.findIn K (.ref Cb) "variables" = some (some (.ref f24)))
    (i24 : PySem.W.isFn K (.ref f24) = true)
    (l24 : K.lookup f24 = some ⟨oc24, od24, .func (PySem.W.fnOf "variables" "Body.variables" (defArgs s_Body_variables) (defBody s_Body_variables) (defScope s_Body_variables) .none kV24 dc24 pm24 an24 cd24 ct24), sl24⟩)
    (c24 : PySem.W.codeIn K cd24 "Body.variables" = true)
    (k24 : PySem.W.keepIn K (.ref f24) = true)
    (pg : PySem.W.plainGet K Cb Str.empty = true)
    (hd : PySem.W.hasDictIn K Cb = true)
    (po : PySem.W.plainOver K Cb = true)
    (sa : PySem.W.findIn K (.ref Cb) "__setattr__" = some (some (.builtin "object.__setattr__")))
    (mk : PySem.W.makesIn K Cb = true)
    (kc : PySem.W.keepIn K (.ref Cb) = true)
    (n_rows : PySem.W.findIn K (.ref Cb) "rows" = some none)
    (n_nots : PySem.W.findIn K (.ref Cb) "nots" = some none)
    (n_spans : PySem.W.findIn K (.ref Cb) "spans" = some none)
    (n_wide : PySem.W.findIn K (.ref Cb) "wide" = some none)
    (mw : PySem.W.nsIn K mainGlobals "MOST_WAYS" = some (some (.int 800 tk)))
    (aT : PySem.W.nsIn K mainGlobals "TooMany" = some (some (.ref Ct)))
    (aU : PySem.W.nsIn K mainGlobals "Unfit" = some (some (.ref Cu)))
    (aY : PySem.W.nsIn K mainGlobals "Beyond" = some (some (.ref Cy)))
    (aA : PySem.W.nsIn K mainGlobals "AssizeError" = some (some (.ref Ca)))
    (xT : K.lookup Ct = some (excClassObj nmT qT Ct NT bsT bmT true snT subT abT colT ddT m0 m1 m2 m3 m5 "ValueError.__new__"))
    (rv : PySem.HandSPX.refsVE bmT = true)
    (saT : PySem.W.findIn K (.ref Ct) "__setattr__" = some (some (.builtin "object.__setattr__")))
    (eT : PySem.W.subIn K (.ref Ct) (.type "BaseException") = some true)
    (tT : PySem.W.typeIn K (.ref Ct) = some (.type "type"))
    (kT : PySem.W.keepIn K (.ref Ct) = true)
    (hT : PySem.W.hasDictIn K Ct = true)
    (gaT : PySem.W.findIn K (.ref Ct) "__getattribute__" = some (some (.builtin "BaseException.__getattribute__")))
    (ggT : PySem.W.findIn K (.ref Ct) "__getattr__" = some none)
    (caT : PySem.W.findIn K (.ref Ct) "__class__" = some (some (.builtin "object.__class__")))
    (cnT : PySem.W.specialIn K (.builtin "object.__class__") "__get__" = some (some (.builtin "getset_descriptor.__get__")))
    (ctT : PySem.W.takesIn K (.builtin "object.__class__") = some true)
    (cmT : PySem.W.mroIn K Ct (.type "object") = some true)
    (xl : PySem.W.findIn K (.ref Ct) "limit" = some none)
    (xw : PySem.W.findIn K (.ref Ct) "word" = some none)
    (aI : PySem.W.findIn K (.ref Ct) "__init__" = some (some (.ref fI)))
    (tI : PySem.W.typeIn K (.ref fI) = some (.type "function"))
    (lI : K.lookup fI = some ⟨ocI, odI, .func ((tmF cI cc).fd dcI pmI ctI), slI⟩)
    (kI : PySem.W.codeIn K (.ref cI) "TooMany.__init__" = true)
    (lc : K.lookup cc = some ⟨clc, odc, .cell (some (.ref Ct)), slc⟩)
    (ld : K.lookup cI = some ⟨cld, odd, .fields vsd, sld⟩)
    (fd2 : vsd[2]? = some (.str fileD tfD))
    (ff : ((PySem.Challenge.pw_planassize_k56_values_and_ways_of_pictur.main.file : Str) == fileD) = true)
    (clT : PySem.W.clsIn K Ct = some cdT)
    (suT : PySem.W.mroIn K Ct (.ref Ct) = some true)
    (opT : PySem.W.nsIn K cStatics "thirdparty.any" = some none)
    (spT : PySem.W.ks_superIn K Ct Ct "__init__" = some (some (.builtin "ValueError.__init__")))
    (veT : PySem.W.subIn K (.ref Ct) (.type "ValueError") = some true)
    (exT : PySem.W.exmOne K (.ref Ct) (.ref Ct) = some true)
    (kU : PySem.W.kitOne K (.ref Ct) (.ref Cu) = some false)
    (kY : PySem.W.kitOne K (.ref Ct) (.ref Cy) = some false)
    (kA : PySem.W.kitOne K (.ref Ct) (.ref Ca) = some true)
    (z_isinstance : PySem.W.nsIn K mainGlobals "isinstance" = some none)
    (z_bool : PySem.W.nsIn K mainGlobals "bool" = some none)
    (z_list : PySem.W.nsIn K mainGlobals "list" = some none)
    (z_dict : PySem.W.nsIn K mainGlobals "dict" = some none)
    (z_tuple : PySem.W.nsIn K mainGlobals "tuple" = some none)
    (z_sorted : PySem.W.nsIn K mainGlobals "sorted" = some none)
    (z_all : PySem.W.nsIn K mainGlobals "all" = some none)
    (z_int : PySem.W.nsIn K mainGlobals "int" = some none)
    (z_len : PySem.W.nsIn K mainGlobals "len" = some none)
    (z_range : PySem.W.nsIn K mainGlobals "range" = some none)
    (z_super : PySem.W.nsIn K mainGlobals "super" = some none) :
    ∃ fd : FuncData, (∀ (s : Shared) (v : Value), BindsTo s fd ⟨[v], []⟩ [("script", v)]) ∧ ∀ base : Heap, K.In base → base.Ns mainGlobals mg → FnOk PySem.Challenge.pw_planassize_k56_values_and_ways_of_pictur w K mg base CX0 6 fa fd ["script"] (spLaw K) := by
  have e := hfa.symm.trans (PySem.W.mg_of X G a21)
  cases e
  have B : Blt mg := ⟨PySem.W.mg_none_of X G z_isinstance, PySem.W.mg_none_of X G z_bool, PySem.W.mg_none_of X G z_list, PySem.W.mg_none_of X G z_dict, PySem.W.mg_none_of X G z_tuple, PySem.W.mg_none_of X G z_sorted, PySem.W.mg_none_of X G z_all, PySem.W.mg_none_of X G z_int, PySem.W.mg_none_of X G z_len, PySem.W.mg_none_of X G z_range⟩
  have TX : TxE K mg Cb Ct Cu Cy Ca tk := { toTxt := { toBlt := B, m_MOST_WAYS := PySem.W.mg_of X G mw, g_TooMany := PySem.W.mg_of X G aT, g_Unfit := PySem.W.mg_of X G aU, g_Beyond := PySem.W.mg_of X G aY, g_AssizeError := PySem.W.mg_of X G aA }, xc_TooMany := ⟨gaT, ggT, eT, hT, caT, cnT, ctT, cmT⟩, xf_TooMany := ⟨gaT, ggT, eT, hT⟩, x_TooMany_limit := xl, x_TooMany_word := xw, exm := exT, kU := kU, kY := kY, kA := kA }
  have CB : BodyC K Cb := ⟨⟨pg, hd, po, sa⟩, n_rows, n_nots, n_spans, n_wide⟩
  have OT : OexC K Ct := ⟨⟨nmT, qT, NT, bsT, bmT, snT, subT, abT, colT, ddT, m0, m1, m2, m3, m5, xT, rv⟩, saT, eT, tT, kT⟩
  have ST : SupC PySem.Challenge.pw_planassize_k56_values_and_ways_of_pictur K Ct fI (tmF cI cc) ["self", "limit", "word"] := ⟨⟨_, _, _, _, _, _, lI⟩, ⟨cc, rfl, _, _, _, lc⟩, ⟨_, _, _, _, _, _, ld, fd2, ff⟩, ⟨_, rfl, rfl⟩, ⟨_, clT⟩, suT, by decide +kernel, opT, spT, veT⟩
  have F1 := fun_mk (st := s_law_begin) l1 c1 k1
  have b1 := F1.binds (ps := ["script"]) fun _ _ _ _ _ _ us hl => match us, hl with | [_], _ => rfl
  have D1 : DefAt K mg "_law_begin" s_law_begin ["script"] := ⟨_, _, F1, PySem.W.mg_of X G a1, b1⟩
  have F2 := fun_mk (st := s_law_draw) l2 c2 k2
  have b2 := F2.binds (ps := ["d", "many"]) fun _ _ _ _ _ _ us hl => match us, hl with | [_, _], _ => rfl
  have D2 : DefAt K mg "_law_draw" s_law_draw ["d", "many"] := ⟨_, _, F2, PySem.W.mg_of X G a2, b2⟩
  have F3 := fun_mk (st := s_law_pick) l3 c3 k3
  have b3 := F3.binds (ps := ["d", "row"]) fun _ _ _ _ _ _ us hl => match us, hl with | [_, _], _ => rfl
  have D3 : DefAt K mg "_law_pick" s_law_pick ["d", "row"] := ⟨_, _, F3, PySem.W.mg_of X G a3, b3⟩
  have F4 := fun_mk (st := s_law_is_int) l4 c4 k4
  have b4 := F4.binds (ps := ["thing"]) fun _ _ _ _ _ _ us hl => match us, hl with | [_], _ => rfl
  have D4 : DefAt K mg "_law_is_int" s_law_is_int ["thing"] := ⟨_, _, F4, PySem.W.mg_of X G a4, b4⟩
  have F5 := fun_mk (st := s_law_some) l5 c5 k5
  have b5 := F5.binds (ps := ["d", "row", "least"]) fun _ _ _ _ _ _ us hl => match us, hl with | [_, _, _], _ => rfl
  have D5 : DefAt K mg "_law_some" s_law_some ["d", "row", "least"] := ⟨_, _, F5, PySem.W.mg_of X G a5, b5⟩
  have F6 := fun_mk (st := s_law_mixed) l6 c6 k6
  have b6 := F6.binds (ps := ["d", "row"]) fun _ _ _ _ _ _ us hl => match us, hl with | [_, _], _ => rfl
  have D6 : DefAt K mg "_law_mixed" s_law_mixed ["d", "row"] := ⟨_, _, F6, PySem.W.mg_of X G a6, b6⟩
  have F7 := fun_mk (st := s_law_unlike) l7 c7 k7
  have b7 := F7.binds (ps := ["row"]) fun _ _ _ _ _ _ us hl => match us, hl with | [_], _ => rfl
  have D7 : DefAt K mg "_law_unlike" s_law_unlike ["row"] := ⟨_, _, F7, PySem.W.mg_of X G a7, b7⟩
  have F8 := fun_mk (st := s_law_variables) l8 c8 k8
  have b8 := F8.binds (ps := ["rows"]) fun _ _ _ _ _ _ us hl => match us, hl with | [_], _ => rfl
  have D8 : DefAt K mg "_law_variables" s_law_variables ["rows"] := ⟨_, _, F8, PySem.W.mg_of X G a8, b8⟩
  have F9 := fun_mk (st := s_law_near) l9 c9 k9
  have b9 := F9.binds (ps := ["points", "marks", "low", "high", "many"]) fun _ _ _ _ _ _ us hl => match us, hl with | [_, _, _, _, _], _ => rfl
  have D9 : DefAt K mg "_law_near" s_law_near ["points", "marks", "low", "high", "many"] := ⟨_, _, F9, PySem.W.mg_of X G a9, b9⟩
  have F10 := fun_mk (st := s_law_play) l10 c10 k10
  have b10 := F10.binds (ps := ["d"]) fun _ _ _ _ _ _ us hl => match us, hl with | [_], _ => rfl
  have D10 : DefAt K mg "_law_play" s_law_play ["d"] := ⟨_, _, F10, PySem.W.mg_of X G a10, b10⟩
  have F11 := fun_mk (st := s_law_bounds) l11 c11 k11
  have b11 := F11.binds (ps := ["d"]) fun _ _ _ _ _ _ us hl => match us, hl with | [_], _ => rfl
  have D11 : DefAt K mg "_law_bounds" s_law_bounds ["d"] := ⟨_, _, F11, PySem.W.mg_of X G a11, b11⟩
  have F12 := fun_mk (st := s_law_asked) l12 c12 k12
  have b12 := F12.binds (ps := ["d"]) fun _ _ _ _ _ _ us hl => match us, hl with | [_], _ => rfl
  have D12 : DefAt K mg "_law_asked" s_law_asked ["d"] := ⟨_, _, F12, PySem.W.mg_of X G a12, b12⟩
  have F13 := fun_mk (st := s_law_are_whole) l13 c13 k13
  have b13 := F13.binds (ps := ["values"]) fun _ _ _ _ _ _ us hl => match us, hl with | [_], _ => rfl
  have D13 : DefAt K mg "_law_are_whole" s_law_are_whole ["values"] := ⟨_, _, F13, PySem.W.mg_of X G a13, b13⟩
  have F14 := fun_mk (st := s_law_are_ways) l14 c14 k14
  have b14 := F14.binds (ps := ["told", "due"]) fun _ _ _ _ _ _ us hl => match us, hl with | [_, _], _ => rfl
  have D14 : DefAt K mg "_law_are_ways" s_law_are_ways ["told", "due"] := ⟨_, _, F14, PySem.W.mg_of X G a14, b14⟩
  have F15 := fun_mk (st := s_law_all_ways) l15 c15 k15
  have b15 := F15.binds (ps := ["met", "choices"]) fun _ _ _ _ _ _ us hl => match us, hl with | [_, _], _ => rfl
  have D15 : DefAt K mg "_law_all_ways" s_law_all_ways ["met", "choices"] := ⟨_, _, F15, PySem.W.mg_of X G a15, b15⟩
  have F16 := fun_mk (st := s_law_ways_hold) l16 c16 k16
  have b16 := F16.binds (ps := ["points", "marks", "rows", "spans"]) fun _ _ _ _ _ _ us hl => match us, hl with | [_, _, _, _], _ => rfl
  have D16 : DefAt K mg "_law_ways_hold" s_law_ways_hold ["points", "marks", "rows", "spans"] := ⟨_, _, F16, PySem.W.mg_of X G a16, b16⟩
  have F17 := fun_mk (st := s_law_values_hold) l17 c17 k17
  have b17 := F17.binds (ps := ["d", "points", "marks"]) fun _ _ _ _ _ _ us hl => match us, hl with | [_, _, _], _ => rfl
  have D17 : DefAt K mg "_law_values_hold" s_law_values_hold ["d", "points", "marks"] := ⟨_, _, F17, PySem.W.mg_of X G a17, b17⟩
  have F18 := fun_mk (st := s_law_edge_holds) l18 c18 k18
  have b18 := F18.binds (ps := ["d"]) fun _ _ _ _ _ _ us hl => match us, hl with | [_], _ => rfl
  have D18 : DefAt K mg "_law_edge_holds" s_law_edge_holds ["d"] := ⟨_, _, F18, PySem.W.mg_of X G a18, b18⟩
  have F19 := fun_mk (st := s_values_for) l19 c19 k19
  have b19 := F19.binds (ps := ["points", "marks", "span", "many"]) fun _ _ _ _ _ _ us hl => match us, hl with | [_, _, _, _], _ => rfl
  have D19 : DefAt K mg "values_for" s_values_for ["points", "marks", "span", "many"] := ⟨_, _, F19, PySem.W.mg_of X G a19, b19⟩
  have F20 := fun_mk (st := s_ways_of) l20 c20 k20
  have b20 := F20.binds (ps := ["points", "marks", "case"]) fun _ _ _ _ _ _ us hl => match us, hl with | [_, _, _], _ => rfl
  have D20 : DefAt K mg "ways_of" s_ways_of ["points", "marks", "case"] := ⟨_, _, F20, PySem.W.mg_of X G a20, b20⟩
  have F21 := fun_mk (st := s_law) l21 c21 k21
  have b21 := F21.binds (ps := ["script"]) fun _ _ _ _ _ _ us hl => match us, hl with | [_], _ => rfl
  have D21 : DefAt K mg "law" s_law ["script"] := ⟨_, _, F21, PySem.W.mg_of X G a21, b21⟩
  have F22 := fun_mk (st := s_Body_init) l22 c22 k22
  have b22 := F22.binds (ps := ["self", "rows", "nots", "spans", "wide"]) fun _ _ _ _ _ _ us hl => match us, hl with | [_, _, _, _, _], _ => rfl
  have D22 : InitAt K mg "Body" Cb "Body.__init__" s_Body_init ["self", "rows", "nots", "spans", "wide"] := ⟨_, _, F22, ⟨mk, a22, i22, kc⟩, PySem.W.mg_of X G aB, b22⟩
  have F23 := fun_mk (st := s_Body_span) l23 c23 k23
  have b23 := F23.binds (ps := ["self", "term"]) fun _ _ _ _ _ _ us hl => match us, hl with | [_, _], _ => rfl
  have D23 : MethAt K Cb "span" "Body.span" s_Body_span ["self", "term"] := ⟨_, _, F23, ⟨a23, i23, k23⟩, b23⟩
  have F24 := fun_mk (st := s_Body_variables) l24 c24 k24
  have b24 := F24.binds (ps := ["self"]) fun _ _ _ _ _ _ us hl => match us, hl with | [_], _ => rfl
  have D24 : MethAt K Cb "variables" "Body.variables" s_Body_variables ["self"] := ⟨_, _, F24, ⟨a24, i24, k24⟩, b24⟩
  refine ⟨PySem.W.fnOf "law" "law" (defArgs s_law) (defBody s_law) (defScope s_law) .none kV21 dc21 pm21 an21 cd21 ct21, fun s v => .of_eq rfl, fun base Kb Gb => ?_⟩
  have Cdraw := ok_draw (P := PySem.Challenge.pw_planassize_k56_values_and_ways_of_pictur) (w := w) (base := base) B D2
  have Cbegin := ok_begin (P := PySem.Challenge.pw_planassize_k56_values_and_ways_of_pictur) (w := w) (base := base) B D1
  have Cpick := ok_pick (P := PySem.Challenge.pw_planassize_k56_values_and_ways_of_pictur) (w := w) (base := base) B Cdraw D3
  have Cisint := ok_is_int (P := PySem.Challenge.pw_planassize_k56_values_and_ways_of_pictur) (w := w) (base := base) B D4
  have Csome := ok_some (P := PySem.Challenge.pw_planassize_k56_values_and_ways_of_pictur) (w := w) (base := base) B Cdraw D5
  have Cmixed := ok_mixed (P := PySem.Challenge.pw_planassize_k56_values_and_ways_of_pictur) (w := w) (base := base) B Cdraw D6
  have Cunlike := ok_unlike (P := PySem.Challenge.pw_planassize_k56_values_and_ways_of_pictur) (w := w) (base := base) B D7
  have Cvars := ok_vars (P := PySem.Challenge.pw_planassize_k56_values_and_ways_of_pictur) (w := w) (base := base) B D8
  have Cnear := ok_near (P := PySem.Challenge.pw_planassize_k56_values_and_ways_of_pictur) (w := w) (base := base) B D9
  have Cplay := ok_play (P := PySem.Challenge.pw_planassize_k56_values_and_ways_of_pictur) (w := w) (base := base) B Cdraw Cpick Csome Cunlike D10
  have Cbounds := ok_bounds (P := PySem.Challenge.pw_planassize_k56_values_and_ways_of_pictur) (w := w) (base := base) B Cdraw D11
  have Casked := ok_asked (P := PySem.Challenge.pw_planassize_k56_values_and_ways_of_pictur) (w := w) (base := base) B Cdraw Cpick Cunlike D12
  have Cwhole := ok_whole (P := PySem.Challenge.pw_planassize_k56_values_and_ways_of_pictur) (w := w) (base := base) B Cisint D13
  have Careways := ok_are_ways (P := PySem.Challenge.pw_planassize_k56_values_and_ways_of_pictur) (w := w) (base := base) B Cisint D14
  have Callways := ok_all_ways (P := PySem.Challenge.pw_planassize_k56_values_and_ways_of_pictur) (w := w) (base := base) B D15
  have Cvalues := ok_values (P := PySem.Challenge.pw_planassize_k56_values_and_ways_of_pictur) (w := w) (base := base) B D19
  have Mbody := ok_init (P := PySem.Challenge.pw_planassize_k56_values_and_ways_of_pictur) (w := w) (base := base) B CB D22
  have Cspan := ok_span (P := PySem.Challenge.pw_planassize_k56_values_and_ways_of_pictur) (w := w) (base := base) B CB D23
  have Cbvars := ok_bvars (P := PySem.Challenge.pw_planassize_k56_values_and_ways_of_pictur) (w := w) (base := base) B CB D24
  have bI : Binds K ((tmF cI cc).fd dcI pmI ctI) ["self", "limit", "word"] [] := .all fun us hl => match us, hl with | [_, _, _], _ => rfl
  have ET : ErrAt PySem.Challenge.pw_planassize_k56_values_and_ways_of_pictur w K mg base 1 "TooMany" Ct ["self", "limit", "word"] (spTM Ct) := ⟨OT, PySem.W.mg_of X G aT, _, _, aI, tI, ok_tm lI kI ST OT (PySem.W.mg_none_of X G z_super) xl xw, bI⟩
  have Cways := ok_ways TX.toTxt CB.cl Cbvars Cspan Cvalues ET D20
  have Cwh := ok_ways_hold TX CB Cvars Cnear Mbody Cways Callways Careways D16
  have Cvh := ok_values_hold B Cbounds Cdraw Cnear Cvalues Cwhole D17
  have Ceh := ok_edge B Cdraw Cpick Cmixed Cwh D18
  exact ok_law B Cbegin Cdraw Cplay Cvh Casked Cvars Cbounds Cwh Ceh F21
end
end My
open PySem PySem.W PyProof.Rows
set_option maxHeartbeats 0 in
theorem PySem.Challenge.cw_planassize_k56_values_and_ways_of_pictur_holds : PySem.Challenge.rw_planassize_k56_values_and_ways_of_pictur.Holds := by
  w_on; o_law; k_head; (case hw => w_witness2)
  k_fill
  refine L2.walk_of (l := PySem.Challenge.rw_planassize_k56_values_and_ways_of_pictur) (n := 63) (k := 6) (x := "script") (CX := fun _ => L2.CX0) (sp := fun w => My.spLaw _) rfl (by decide) rfl ⟨rfl, by decide, by decide⟩ (fun w h Y => PySem.W.kIn_of Y) ?F (fun _ _ a ns hl _ hS => ⟨a, ns, rfl, hS, hl, fun _ => rfl⟩) (fun _ _ _ _ _ h => h)
  case F =>
    intro w mg fa h KX G hmg
    refine' My.all_mk KX G hmg ?aB ?a1 ?l1 ?c1 ?k1 ?a2 ?l2 ?c2 ?k2 ?a3 ?l3 ?c3 ?k3 ?a4 ?l4 ?c4 ?k4 ?a5 ?l5 ?c5 ?k5 ?a6 ?l6 ?c6 ?k6 ?a7 ?l7 ?c7 ?k7 ?a8 ?l8 ?c8 ?k8 ?a9 ?l9 ?c9 ?k9 ?a10 ?l10 ?c10 ?k10 ?a11 ?l11 ?c11 ?k11 ?a12 ?l12 ?c12 ?k12 ?a13 ?l13 ?c13 ?k13 ?a14 ?l14 ?c14 ?k14 ?a15 ?l15 ?c15 ?k15 ?a16 ?l16 ?c16 ?k16 ?a17 ?l17 ?c17 ?k17 ?a18 ?l18 ?c18 ?k18 ?a19 ?l19 ?c19 ?k19 ?a20 ?l20 ?c20 ?k20 ?a21 ?l21 ?c21 ?k21 ?a22 ?i22 ?l22 ?c22 ?k22 ?a23 ?i23 ?l23 ?c23 ?k23 ?a24 ?i24 ?l24 ?c24 ?k24 ?pg ?hd ?po ?sa ?mk ?kc ?n_rows ?n_nots ?n_spans ?n_wide ?mw ?aT ?aU ?aY ?aA ?xT ?rv ?saT ?eT ?tT ?kT ?hT ?gaT ?ggT ?caT ?cnT ?ctT ?cmT ?xl ?xw ?aI ?tI ?lI ?kI ?lc ?ld ?fd2 ?ff ?clT ?suT ?opT ?spT ?veT ?exT ?kU ?kY ?kA ?z_isinstance ?z_bool ?z_list ?z_dict ?z_tuple ?z_sorted ?z_all ?z_int ?z_len ?z_range ?z_super
    (case aB => k_is)
    (case a1 => k_is)
    (case l1 => k_is)
    (case c1 => k_is)
    (case k1 => k_is)
    (case a2 => k_is)
    (case l2 => k_is)
    (case c2 => k_is)
    (case k2 => k_is)
    (case a3 => k_is)
    (case l3 => k_is)
    (case c3 => k_is)
    (case k3 => k_is)
    (case a4 => k_is)
    (case l4 => k_is)
    (case c4 => k_is)
    (case k4 => k_is)
    (case a5 => k_is)
    (case l5 => k_is)
    (case c5 => k_is)
    (case k5 => k_is)
    (case a6 => k_is)
    (case l6 => k_is)
    (case c6 => k_is)
    (case k6 => k_is)
    (case a7 => k_is)
    (case l7 => k_is)
    (case c7 => k_is)
    (case k7 => k_is)
    (case a8 => k_is)
    (case l8 => k_is)
    (case c8 => k_is)
    (case k8 => k_is)
    (case a9 => k_is)
    (case l9 => k_is)
    (case c9 => k_is)
    (case k9 => k_is)
    (case a10 => k_is)
    (case l10 => k_is)
    (case c10 => k_is)
    (case k10 => k_is)
    (case a11 => k_is)
    (case l11 => k_is)
    (case c11 => k_is)
    (case k11 => k_is)
    (case a12 => k_is)
    (case l12 => k_is)
    (case c12 => k_is)
    (case k12 => k_is)
    (case a13 => k_is)
    (case l13 => k_is)
    (case c13 => k_is)
    (case k13 => k_is)
    (case a14 => k_is)
    (case l14 => k_is)
    (case c14 => k_is)
    (case k14 => k_is)
    (case a15 => k_is)
    (case l15 => k_is)
    (case c15 => k_is)
    (case k15 => k_is)
    (case a16 => k_is)
    (case l16 => k_is)
    (case c16 => k_is)
    (case k16 => k_is)
    (case a17 => k_is)
    (case l17 => k_is)
    (case c17 => k_is)
    (case k17 => k_is)
    (case a18 => k_is)
    (case l18 => k_is)
    (case c18 => k_is)
    (case k18 => k_is)
    (case a19 => k_is)
    (case l19 => k_is)
    (case c19 => k_is)
    (case k19 => k_is)
    (case a20 => k_is)
    (case l20 => k_is)
    (case c20 => k_is)
    (case k20 => k_is)
    (case a21 => k_is)
    (case l21 => k_is)
    (case c21 => k_is)
    (case k21 => k_is)
    (case a22 => k_is)
    (case i22 => k_is)
    (case l22 => k_is)
    (case c22 => k_is)
    (case k22 => k_is)
    (case a23 => k_is)
    (case i23 => k_is)
    (case l23 => k_is)
    (case c23 => k_is)
    (case k23 => k_is)
    (case a24 => k_is)
    (case i24 => k_is)
    (case l24 => k_is)
    (case c24 => k_is)
    (case k24 => k_is)
    (case pg => k_is)
    (case hd => k_is)
    (case po => k_is)
    (case sa => k_is)
    (case mk => k_is)
    (case kc => k_is)
    (case n_rows => k_is)
    (case n_nots => k_is)
    (case n_spans => k_is)
    (case n_wide => k_is)
    (case mw => k_is)
    (case aT => k_is)
    (case aU => k_is)
    (case aY => k_is)
    (case aA => k_is)
    (case xT => k_is)
    (case rv => decide +kernel)
    (case saT => k_is)
    (case eT => k_is)
    (case tT => k_is)
    (case kT => k_is)
    (case hT => k_is)
    (case gaT => k_is)
    (case ggT => k_is)
    (case caT => k_is)
    (case cnT => k_is)
    (case ctT => k_is)
    (case cmT => k_is)
    (case xl => k_is)
    (case xw => k_is)
    (case aI => k_is)
    (case tI => k_is)
    (case lI => k_is)
    (case kI => k_is)
    (case lc => k_is)
    (case ld => k_is)
    (case fd2 => exact rfl)
    (case ff => decide +kernel)
    (case clT => k_is)
    (case suT => k_is)
    (case opT => k_is)
    (case spT => ks_is)
    (case veT => k_is)
    (case exT => kernel_rfl)
    (case kU => kernel_rfl)
    (case kY => kernel_rfl)
    (case kA => kernel_rfl)
    (case z_isinstance => k_is)
    (case z_bool => k_is)
    (case z_list => k_is)
    (case z_dict => k_is)
    (case z_tuple => k_is)
    (case z_sorted => k_is)
    (case z_all => k_is)
    (case z_int => k_is)
    (case z_len => k_is)
    (case z_range => k_is)
    (case z_super => k_is)
