import PyProof.Rows.All
import Wide.All
import OpenK.AllK
import Wide.FinOn
import KE.KStateDown
import Lean
import HandS.ForMost
import HandS.IsInst
import HandS.Style
import HandS.Wide
import HandS.TupMul
import HandS.Conv
import HandS.TupAny
import HandS.TupLe
import HandS.SortInts
import HandS.Codes
import HandS.StrMore
import HandS.FStr
import HandS.Walk
import HandS.More
import HandS.Defaults
import HandS.Head0
import HandS.Head1
import HandS.Head2
import HandS.HeadEnd
import HandS.HeadHook1
import HandS.HeadHook2
import PySem.Challenge.RW_heldorder_k01_moves_composed
import KE.KExcSuper
import KE.KSuper
import HandS.ExcInit
import HandS.NestedK
import HandS.ExcField
import HandS.TryOnly
import HandS.ExcIs
import HandS.HotCalls
import HandS.ExcCtx
import HandS.RaiseFrom
import HandS.ExcInitHot
import KE.KExcIs
import HandS.ExcOwn
import KE.GoesEnum
import HandS.Iter
import PyProof.Rows.Chain
import HandS.List
import HandS.Small
import HandS.Dict
set_option Elab.async false
set_option linter.all false
set_option maxRecDepth 100000
set_option maxHeartbeats 4000000
namespace Ho
open PySem PySem.Spec PyProof.Rows L2
/-! ## HoA -/


/-- the items of a tracked list or tuple -/
def sq (H : Hp) (p : Addr) : Option (List V) := match H p with
  | some (.lst xs) => some xs
  | some (.tup xs) => some xs
  | _ => none
theorem sq_l {H : Hp} {p : Addr} {xs : List V} (h : H p = some (.lst xs)) : sq H p = some xs := by unfold sq; rw [h]
theorem sq_t {H : Hp} {p : Addr} {xs : List V} (h : H p = some (.tup xs)) : sq H p = some xs := by unfold sq; rw [h]
theorem sq_or {H : Hp} {p : Addr} {xs : List V} (h : sq H p = some xs) : H p = some (.lst xs) ∨ H p = some (.tup xs) := by
  unfold sq at h
  cases e : H p with
  | none => rw [e] at h; cases h
  | some o => rw [e] at h; cases o <;> first | (cases h; first | exact .inl rfl | exact .inr rfl) | cases h

def rIx1 : R2 := fun x y H Q => ∃ p i xs v, x = .ref p ∧ y = .int i ∧ sq H p = some xs ∧ atI xs i = some v ∧ Q v H
def rLen1 : List V → Hp → VK → Prop := fun vs H Q => ∃ p xs, vs = [.ref p] ∧ sq H p = some xs ∧ Q (.int xs.length) H
def tyN (H : Hp) (x : V) : Option String := match x with
  | .non => some "NoneType"
  | .bl _ => some "bool"
  | .int _ => some "int"
  | .str _ => some "str"
  | .ref p => match H p with
    | some (.lst _) => some "list"
    | some (.tup _) => some "tuple"
    | some (.dK _) => some "dict"
    | some (.dT _) => some "dict"
    | _ => none
  | _ => none
def rIsi1 : List V → Hp → VK → Prop := fun vs H Q => ∃ x T t b, vs = [x, .ty T] ∧ tyN H x = some t ∧ kitB t T = some b ∧ Q (.bl b) H
def rIsTF : R2 := fun x y H Q => ∃ b, y = .bl b ∧ Q (.bl (decide (x = .bl b))) H
section
variable {X : Cx}
theorem ix1 : IxR X rIx1 := by
  intro value slice pins s σ H x y v u Q I rx ry h hs
  obtain ⟨p, i, xs, z, rfl, rfl, hq, he, q⟩ := h
  rcases sq_or hq with hq | hq
  · exact ix_list value slice pins s σ H _ _ v u Q I rx ry ⟨p, xs, i, z, rfl, rfl, SqL.of hq, he, q⟩ hs
  · exact ix_tup value slice pins s σ H _ _ v u Q I rx ry ⟨p, xs, i, z, rfl, rfl, SqT.of hq, he, q⟩ hs
theorem len1 : CallR X (.builtin "len") rLen1 := by
  intro pins s σ H xs us Q I r h
  obtain ⟨p, ys, rfl, hq, q⟩ := h
  rcases sq_or hq with hq | hq
  · exact call_len pins s σ H _ us Q I r ⟨_, _, rfl, .inl ⟨_, SqL.of hq, rfl⟩, q⟩
  · exact call_len pins s σ H _ us Q I r ⟨_, _, rfl, .inr ⟨_, SqT.of hq, rfl⟩, q⟩
theorem tyN_ty {K : PySem.W.Frag} {H : Hp} {x : V} {t : String} (h : tyN H x = some t) : TyX K H x (.type t) := by
  cases x with
  | non => cases h; exact .base .non
  | bl b => cases h; exact .base (.bl b)
  | int i => cases h; exact .base (.int i)
  | str z => cases h; exact .base (.str z)
  | byt b => cases h
  | flt b => cases h
  | ty n => cases h
  | ref p =>
    unfold tyN at h
    simp only at h
    cases e : H p with
    | none => rw [e] at h; cases h
    | some o =>
      rw [e] at h
      cases o <;> first
        | (cases h; first | exact .base (.lst e) | exact .base (.tup e) | exact .base (.dK e) | exact .base (.dT e))
        | cases h
theorem isi1 : CallR X (.builtin "isinstance") rIsi1 := by
  intro pins s σ H xs us Q I r h
  obtain ⟨x, T, t, b, rfl, ht, hk, q⟩ := h
  exact call_isi pins s σ H _ us Q I r ⟨x, .ty T, .type t, .type T, b, rfl, .ty T, tyN_ty ht, kit_ty hk, q⟩
end

section
variable {X : Cx}
theorem is_plain_bl {x : V} {v : Value} {b : Bool} (r : RelV x v) : plainIs v (.bool b) = true ∧ (v == Value.bool b) = decide (x = .bl b) := by
  cases x with
  | bl a => cases (show v = Value.bool a from r); exact ⟨rfl, by cases a <;> cases b <;> rfl⟩
  | non => cases (show v = Value.none from r); exact ⟨rfl, by simp⟩
  | ref a => cases (show v = Value.ref a from r); exact ⟨rfl, by simp⟩
  | ty a => cases (show v = Value.type a from r); exact ⟨rfl, by simp⟩
  | int i => obtain ⟨t, rfl⟩ := r; exact ⟨rfl, by simp⟩
  | str i => obtain ⟨t, rfl⟩ := r; exact ⟨rfl, by simp⟩
  | byt i => obtain ⟨t, rfl⟩ := r; exact ⟨rfl, by simp⟩
  | flt i => obtain ⟨t, rfl⟩ := r; exact ⟨rfl, by simp⟩
theorem op_isTF : OpR X (compareOp .Is) rIsTF := by
  intro pins s σ H x y v u Q I rx ry h
  obtain ⟨b, rfl, q⟩ := h
  cases (show u = Value.bool b from ry)
  obtain ⟨h1, h2⟩ := is_plain_bl (b := b) rx
  exact wpAny_is_plain h1 (by rw [h2]; exact ⟨.bl _, H, I, rfl, q⟩)
def iSq (K : PySem.W.Frag) (tl : TE) : TI := fun σ H R => tl σ H fun x H1 => ∃ a xs, x = .ref a ∧ ((H1 a = some (.lst xs) ∧ R (Itl K a) H1) ∨ (H1 a = some (.tup xs) ∧ R (Itt K a) H1))
theorem pi_sq {tg l : Expr} {tl : TE} (hl : PE X l tl) : PI X tg l (iSq X.K tl) := by
  refine ⟨fun pins s σ H R I h => ?_⟩
  refine thn (hl.run pins s σ H _ I h) fun v s1 ⟨x, H1, I1, r1, q1⟩ => ?_
  obtain ⟨a, xs, rfl, ⟨hq, q⟩ | ⟨hq, q⟩⟩ := q1
  · cases r1
    obtain ⟨its, rv, p, hz⟩ := I1.list (SqL.of hq)
    refine wpAny_pyIter_list p.isList ?_
    refine ⟨s1.heap.objs.size, [s1.heap.objs.size], _, _, H1, rfl, I1.kept (t' := s1.toks) fun b o e => Heap.get?_push_of_some _ e, turn_list a _, ⟨_, Heap.get?_push_size _ rfl, rfl, rfl⟩, fun b hb => ?_, q⟩
    have e : b = s1.heap.objs.size := by simpa using hb
    subst e
    exact I1.fpOk (Nat.le_refl _) (I1.hok.fresh (Nat.le_refl _))
  · cases r1
    obtain ⟨its, rv, p, hz⟩ := I1.tuple (SqT.of hq)
    refine wpAny_pyIter_tuple (show s1.heap.IsTuple a its.toArray from p) ?_
    refine ⟨s1.heap.objs.size, [s1.heap.objs.size], _, _, H1, rfl, I1.kept (t' := s1.toks) fun b o e => Heap.get?_push_of_some _ e, turn_tuple a _, ⟨_, Heap.get?_push_size _ rfl, rfl, rfl⟩, fun b hb => ?_, q⟩
    have e : b = s1.heap.objs.size := by simpa using hb
    subst e
    exact I1.fpOk (Nat.le_refl _) (I1.hok.fresh (Nat.le_refl _))
end
/-! ### defs that let nothing out -/
def Cl (P : Program) (w : World) (K : PySem.W.Frag) (mg : Str → Option Value) (base : Heap) (k : Nat) (x : Str) (ps : List Str) (sp : Sp) : Prop :=
  ∃ f fd, mg x = some (.ref f) ∧ PySem.W.keepIn K (.ref f) = true ∧ (∀ (s : Shared) (us : List Value), us.length = ps.length → BindsTo s fd ⟨us, []⟩ (ps.zip us)) ∧ FnOk P w K mg base CX0 k f fd ps sp
abbrev FnP (K : PySem.W.Frag) (x : Str) (st : Stmt) (f : Addr) (fd : FuncData) : Prop := FunD K x x (defArgs st) (defBody st) (defScope st) [] [] f fd
def Df (K : PySem.W.Frag) (mg : Str → Option Value) (x : Str) (st : Stmt) : Prop := ∃ f fd, FnP K x st f fd ∧ mg x = some (.ref f)
section
variable {P : Program} {w : World} {K : PySem.W.Frag} {mg : Str → Option Value} {base : Heap}
theorem Cl.mono {j k : Nat} {x : Str} {ps : List Str} {sp : Sp} (C : Cl P w K mg base j x ps sp) (h : j ≤ k) : Cl P w K mg base k x ps sp := by
  obtain ⟨f, fd, a, b, c, d⟩ := C
  exact ⟨f, fd, a, b, c, d.mono h⟩
theorem cl_of {x : Str} {st : Stmt} {N ps : List Str} {k : Nat} {sp : Sp} (D : Df K mg x st) (S : FnScope N ps (defScope st))
    (hb : ∀ (kV doc pm : Value) (an : Option Addr) (cdv ct : Value) (us : List Value), us.length = ps.length → bindArgs (PySem.W.fnOf x x (defArgs st) (defBody st) (defScope st) .none kV doc pm an cdv ct) ⟨us, []⟩ = pure (ps.zip us))
    (len : ∀ vs H Q E, sp vs H Q E → vs.length = ps.length)
    (hbody : ∀ (f : Addr) (cdv : Value) (A : Around) (outer : List Env) (s : Shared) (H : Hp) (vs : List V) (Q : VK) (E : XK), Room k (A.deeper (envOfC x (defScope st) s.heap.objs.size f cdv)) → sp vs H Q E →
      ∃ t, PSs (cxOf CX0 P w K mg base N x (defScope st) f cdv A outer s H E).nox (defBody st) t ∧ t { nx := fun _ H' => Q .non H', rt := Q } (start N vs) H) : Cl P w K mg base (k + 1) x ps sp := by
  obtain ⟨f, fd, F, g⟩ := D
  refine ⟨f, fd, g, F.kp, F.bindsA hb, F.ok S len fun cdv A outer s H vs Q E hr hsp => ?_⟩
  obtain ⟨t, h, q⟩ := hbody f cdv A outer s H vs Q E hr hsp
  exact ⟨t, h.nox, q⟩
end
theorem fn_ofF {P : Program} {w : World} {K : PySem.W.Frag} {mg : Str → Option Value} {base : Heap} {x : Str} {st : Stmt} {N ps : List Str} {k : Nat} {sp : Sp} {f : Addr} {fd : FuncData} (F : FnP K x st f fd) (S : FnScope N ps (defScope st))
    (len : ∀ vs H Q E, sp vs H Q E → vs.length = ps.length)
    (hbody : ∀ (f : Addr) (cdv : Value) (A : Around) (outer : List Env) (s : Shared) (H : Hp) (vs : List V) (Q : VK) (E : XK), Room k (A.deeper (envOfC x (defScope st) s.heap.objs.size f cdv)) → sp vs H Q E →
      ∃ t, PSs (cxOf CX0 P w K mg base N x (defScope st) f cdv A outer s H E).nox (defBody st) t ∧ t { nx := fun _ H' => Q .non H', rt := Q } (start N vs) H) : FnOk P w K mg base CX0 (k + 1) f fd ps sp := by
  refine F.ok S len fun cdv A outer s H vs Q E hr hsp => ?_
  obtain ⟨t, h, q⟩ := hbody f cdv A outer s H vs Q E hr hsp
  exact ⟨t, h.nox, q⟩
section
variable {X : Cx}
theorem pe_cl {j k : Nat} {x : Str} {ps : List Str} {sp : Sp} {p pos : Pos} {e : Expr} {es : List Expr} {t : TA} (C : Cl X.prog X.w X.K X.mg X.base j x ps sp) (hr : Room k X.A) (hg : Gl X x) (ha : PA X (e :: es) t) (hjk : j ≤ k := by decide)
    (hdb : (x == ("__debug__" : Str)) = false := by decide) (he : starEach (e :: es) X.env = (false, eval e X.env) :: starEach es X.env := by rfl) (hpl : (backTo pos (starEach es X.env)).any (·.1) = false := by rfl) :
    PE X (.Call (.Name x p) (e :: es) [] pos) (tCall sp [] E0 t) := by
  obtain ⟨f, fd, a, b, c, d⟩ := C
  exact pe_call d (hr.mono hjk) hg a b (fun s us _ hl => by rw [List.append_nil] at hl ⊢; exact c s us hl) .nil pass0 ha hdb he hpl
end
/-! ### heaps that have grown, heaps that have changed -/
structure New (H : Hp) (p : Addr) (o : HO) (H' : Hp) : Prop where
  fr : H p = none
  at_ : H' p = some o
  old : ∀ b, b ≠ p → H' b = H b
structure Put (H : Hp) (p : Addr) (o : HO) (H' : Hp) : Prop where
  at_ : H' p = some o
  old : ∀ b, b ≠ p → H' b = H b
theorem New.eq {H H' : Hp} {p : Addr} {o : HO} (n : New H p o H') : H' = upd H p o := by
  funext b
  by_cases e : b = p
  · rw [e, n.at_, upd_same]
  · rw [n.old b e, upd_ne e]
theorem Put.eq {H H' : Hp} {p : Addr} {o : HO} (n : Put H p o H') : H' = upd H p o := by
  funext b
  by_cases e : b = p
  · rw [e, n.at_, upd_same]
  · rw [n.old b e, upd_ne e]
theorem New.mk' {H : Hp} {p : Addr} {o : HO} (h : H p = none) : New H p o (upd H p o) := ⟨h, upd_same, fun _ e => upd_ne e⟩
theorem Put.mk' {H : Hp} {p : Addr} {o : HO} : Put H p o (upd H p o) := ⟨upd_same, fun _ e => upd_ne e⟩
theorem New.ne {H H' : Hp} {p b : Addr} {o u : HO} (n : New H p o H') (h : H b = some u) : b ≠ p := ne_of_none h n.fr
theorem New.k {H H' : Hp} {p b : Addr} {o u : HO} (n : New H p o H') (h : H b = some u) : H' b = some u := (n.old b (n.ne h)).trans h
theorem New.same {H H' : Hp} {p : Addr} {o : HO} (n : New H p o H') : Same H H' := fun _ _ h => n.k h
theorem Put.k {H H' : Hp} {p b : Addr} {o u : HO} (n : Put H p o H') (ne : b ≠ p) (h : H b = some u) : H' b = some u := (n.old b ne).trans h
def Nw (H : Hp) (o : HO) (Q : Addr → Hp → Prop) : Prop := ∀ p H', New H p o H' → Q p H'
def Wr (H : Hp) (p : Addr) (o : HO) (Q : Hp → Prop) : Prop := ∀ H', Put H p o H' → Q H'
theorem nw_eq {H : Hp} {o : HO} {Q : VK} : (∀ p, H p = none → Q (.ref p) (upd H p o)) = Nw H o fun p H' => Q (.ref p) H' := by
  apply propext; constructor
  · intro h p H' n; rw [n.eq]; exact h p n.fr
  · intro h p hp; exact h p _ (New.mk' hp)
theorem wr_eq {H : Hp} {p : Addr} {o : HO} {Q : Hp → Prop} : Q (upd H p o) = Wr H p o Q := by
  apply propext; constructor
  · intro h H' n; rw [n.eq]; exact h
  · intro h; exact h _ Put.mk'
/-- what stood is as it was, but what stands at s -/
def Kp (s : Addr) (H H' : Hp) : Prop := ∀ b o, b ≠ s → H b = some o → H' b = some o
theorem Kp.refl {s : Addr} {H : Hp} : Kp s H H := fun _ _ _ h => h
theorem Kp.trans {s : Addr} {H H1 H2 : Hp} (a : Kp s H H1) (b : Kp s H1 H2) : Kp s H H2 := fun c o ne h => b c o ne (a c o ne h)
theorem Kp.same {s : Addr} {H H1 : Hp} (a : Same H H1) : Kp s H H1 := fun c o _ h => a c o h
theorem Kp.put {s : Addr} {H H1 : Hp} {o : HO} (a : Put H s o H1) : Kp s H H1 := fun c u ne h => a.k ne h
theorem Kp.k {s b : Addr} {H H' : Hp} {o : HO} (a : Kp s H H') (ne : b ≠ s) (h : H b = some o) : H' b = some o := a b o ne h
theorem Kp.fresh {s b : Addr} {H H' : Hp} (a : Kp s H H') (ne : b ≠ s) (h : H' b = none) : H b = none := by
  cases e : H b with
  | none => rfl
  | some o => rw [a b o ne e] at h; cases h
/-! ### rules of my own, and what the library's say -/
section
variable {X : Cx}
theorem CallR_imp {f : Value} {r r' : List V → Hp → VK → Prop} (h : CallR X f r) (i : ∀ xs H Q, r' xs H Q → r xs H Q) : CallR X f r' := fun pins s σ H xs us Q I rv q => h pins s σ H xs us Q I rv (i _ _ _ q)
theorem OpR_imp {f : Value → Value → Sem Value} {r r' : R2} (h : OpR X f r) (i : ∀ x y H Q, r' x y H Q → r x y H Q) : OpR X f r' := fun pins s σ H x y v u Q I rx ry q => h pins s σ H x y v u Q I rx ry (i _ _ _ _ q)
theorem MtR_imp {id : String} {r r' : V → List V → Hp → VK → Prop} (h : MtR X id r) (i : ∀ x xs H Q, r' x xs H Q → r x xs H Q) : MtR X id r' := fun pins s σ H x xs v us Q I rx rv q => h pins s σ H x xs v us Q I rx rv (i _ _ _ _ q)
def qInt : List V → Hp → VK → Prop := fun xs H Q => match xs with
  | [.int i] => Q (.int i) H
  | [.bl b] => Q (.int (if b then 1 else 0)) H
  | _ => False
theorem int1 : CallR X (.type "int") qInt := CallR_imp call_int1 fun xs H Q h => by
  unfold qInt at h
  split at h
  · exact .inl ⟨_, rfl, h⟩
  · exact .inr ⟨_, rfl, h⟩
  · exact h.elim
/-- list(x), x a list or a tuple -/
def qLst : List V → Hp → VK → Prop := fun xs H Q => match xs with
  | [.ref p] => ∃ ys, sq H p = some ys ∧ Nw H (.lst ys) fun l H' => Q (.ref l) H'
  | _ => False
theorem lst1 : CallR X (.type "list") qLst := CallR_imp call_list_of fun xs H Q h => by
  unfold qLst at h
  split at h
  · obtain ⟨ys, hs, q⟩ := h
    refine ⟨_, ys, rfl, ?_, ?_⟩
    · rcases sq_or hs with h | h
      · exact .inl (SqL.of h)
      · exact .inr (SqT.of h)
    · rw [nw_eq]; exact q
  · exact h.elim
/-- tuple(x), x a list -/
def qTup : List V → Hp → VK → Prop := fun xs H Q => match xs with
  | [.ref p] => ∃ ys, H p = some (.lst ys) ∧ Nw H (.tup ys) fun l H' => Q (.ref l) H'
  | _ => False
theorem tup1 : CallR X (.type "tuple") qTup := CallR_imp call_tuple_of fun xs H Q h => by
  unfold qTup at h
  split at h
  · obtain ⟨ys, hs, q⟩ := h
    refine ⟨_, ys, rfl, .inl ⟨SqL.of hs, ?_⟩⟩
    rw [nw_eq]; exact q
  · exact h.elim
end
section
variable {H : Hp} {Q : VK} {K : PySem.W.Frag}
theorem b_int {i : Int} : qInt [.int i] H Q = Q (.int i) H := rfl
theorem b_intb {b : Bool} : qInt [.bl b] H Q = Q (.int (if b then 1 else 0)) H := rfl
theorem b_list {p : Addr} : qLst [.ref p] H Q = ∃ ys, sq H p = some ys ∧ Nw H (.lst ys) fun l H' => Q (.ref l) H' := rfl
theorem b_tuple {p : Addr} : qTup [.ref p] H Q = ∃ ys, H p = some (.lst ys) ∧ Nw H (.tup ys) fun l H' => Q (.ref l) H' := rfl
theorem b_ix {p : Addr} {i : Int} : rIx1 (.ref p) (.int i) H Q = ∃ xs, sq H p = some xs ∧ ∃ v, atI xs i = some v ∧ Q v H := by
  unfold rIx1; apply propext; constructor
  · rintro ⟨_, _, xs, v, h1, h2, h⟩; cases h1; cases h2; exact ⟨xs, h.1, v, h.2⟩
  · rintro ⟨xs, h0, v, h⟩; exact ⟨_, _, xs, v, rfl, rfl, h0, h⟩
theorem b_len {p : Addr} : rLen1 [.ref p] H Q = ∃ xs, sq H p = some xs ∧ Q (.int xs.length) H := by
  unfold rLen1; apply propext; constructor
  · rintro ⟨_, xs, h1, h⟩; cases h1; exact ⟨xs, h⟩
  · rintro ⟨xs, h⟩; exact ⟨_, xs, rfl, h⟩
theorem b_setL {p : Addr} {k : Int} {v : V} {Q : Hp → Prop} : rSetL (.ref p) (.int k) v H Q = ∃ xs, H p = some (.lst xs) ∧ ∃ j, ixN xs.length k = some j ∧ Wr H p (.lst (xs.set j v)) Q := by
  unfold rSetL; apply propext; constructor
  · rintro ⟨_, xs, _, j, h1, h2, h3, h4, h⟩; cases h1; cases h2; rw [wr_eq (Q := Q)] at h; exact ⟨xs, h3, j, h4, h⟩
  · rintro ⟨xs, h3, j, h4, h⟩; rw [← wr_eq (Q := Q)] at h; exact ⟨_, xs, _, j, rfl, rfl, h3, h4, h⟩
theorem b_app {p : Addr} {y : V} : rAppend (.ref p) [y] H Q = ∃ xs, H p = some (.lst xs) ∧ xs.length < sizeLine ∧ Wr H p (.lst (xs ++ [y])) fun H' => Q .non H' := by
  unfold rAppend; apply propext; constructor
  · rintro ⟨_, xs, _, h1, h2, h3, h4, h⟩; cases h1; cases h2; rw [wr_eq (Q := fun H' => Q .non H')] at h; exact ⟨xs, h3, h4, h⟩
  · rintro ⟨xs, h3, h4, h⟩; rw [← wr_eq (Q := fun H' => Q .non H')] at h; exact ⟨_, xs, _, rfl, rfl, h3, h4, h⟩
theorem b_pop {p : Addr} : rPop (.ref p) [] H Q = ∃ xs, H p = some (.lst xs) ∧ ∃ y, xs[xs.length - 1]? = some y ∧ Wr H p (.lst xs.dropLast) fun H' => Q y H' := by
  unfold rPop; apply propext; constructor
  · rintro ⟨_, xs, y, h1, h2, h3, h4, h⟩; cases h1; rw [wr_eq (Q := fun H' => Q y H')] at h; exact ⟨xs, h3, y, h4, h⟩
  · rintro ⟨xs, h3, y, h4, h⟩; rw [← wr_eq (Q := fun H' => Q y H')] at h; exact ⟨_, xs, y, rfl, rfl, h3, h4, h⟩
theorem b_popAt {p : Addr} {i : Int} : rPopAt (.ref p) [.int i] H Q = ∃ xs, H p = some (.lst xs) ∧ ∃ k y, -(2 ^ 63) ≤ i ∧ i < 2 ^ 63 ∧ seqIndex? i xs.length = some k ∧ xs[k]? = some y ∧ Wr H p (.lst (xs.eraseIdx k)) fun H' => Q y H' := by
  unfold rPopAt; apply propext; constructor
  · rintro ⟨_, xs, _, k, y, h1, h2, h3, a, b, c, d, h⟩; cases h1; cases h2; rw [wr_eq (Q := fun H' => Q y H')] at h; exact ⟨xs, h3, k, y, a, b, c, d, h⟩
  · rintro ⟨xs, h3, k, y, a, b, c, d, h⟩; rw [← wr_eq (Q := fun H' => Q y H')] at h; exact ⟨_, xs, _, k, y, rfl, rfl, h3, a, b, c, d, h⟩
theorem b_sl {p : Addr} {lo hi : Option Int} : rSlL K (.ref p) lo hi H Q = ∃ xs, SqL K H p xs ∧ Nw H (.lst (cutV xs lo hi)) fun q H' => Q (.ref q) H' := by
  unfold rSlL; apply propext; constructor
  · rintro ⟨_, xs, h1, h2, h⟩; cases h1; rw [nw_eq] at h; exact ⟨xs, h2, h⟩
  · rintro ⟨xs, h2, h⟩; rw [← nw_eq] at h; exact ⟨_, xs, rfl, h2, h⟩
theorem b_rep {p : Addr} {k : Int} : rRep (.ref p) (.int k) H Q = ∃ xs, H p = some (.lst xs) ∧ -(2 ^ 63) ≤ k ∧ k < 2 ^ 63 ∧ xs.length * k.toNat ≤ sizeLine ∧ Nw H (.lst (List.replicate k.toNat xs).flatten) fun q H' => Q (.ref q) H' := by
  unfold rRep; apply propext; constructor
  · rintro ⟨_, _, xs, h1, h2, h3, a, b, c, h⟩; cases h1; cases h2; rw [nw_eq] at h; exact ⟨xs, h3, a, b, c, h⟩
  · rintro ⟨xs, h3, a, b, c, h⟩; rw [← nw_eq] at h; exact ⟨_, _, xs, rfl, rfl, h3, a, b, c, h⟩
theorem b_cat {p q : Addr} : rCat (.ref p) (.ref q) H Q = ∃ xs, H p = some (.lst xs) ∧ ∃ zs, H q = some (.lst zs) ∧ xs.length + zs.length ≤ sizeLine ∧ Nw H (.lst (xs ++ zs)) fun q H' => Q (.ref q) H' := by
  unfold rCat; apply propext; constructor
  · rintro ⟨_, _, xs, zs, h1, h2, h3, h4, a, h⟩; cases h1; cases h2; rw [nw_eq] at h; exact ⟨xs, h3, zs, h4, a, h⟩
  · rintro ⟨xs, h3, zs, h4, a, h⟩; rw [← nw_eq] at h; exact ⟨_, _, xs, zs, rfl, rfl, h3, h4, a, h⟩
theorem b_lstRg {σ : L2.St} {te : L2.St → Hp → (Int → Int → Hp → Prop) → Prop} : tLstRg te σ H Q = te σ H fun a b H1 => RgOk a b ∧ Nw H1 (.lst (rgV a b)) fun q H' => Q (.ref q) H' := by
  unfold tLstRg; simp only [nw_eq]
theorem b_tupRg {σ : L2.St} {te : L2.St → Hp → (Int → Int → Hp → Prop) → Prop} : tTupRg te σ H Q = te σ H fun a b H1 => RgOk a b ∧ Nw H1 (.tup (rgV a b)) fun q H' => Q (.ref q) H' := by
  unfold tTupRg; simp only [nw_eq]
theorem b_rg1 {σ : L2.St} {ta : TE} {Q : Int → Int → Hp → Prop} : tRg1 ta σ H Q = ta σ H fun x H1 => ∃ n, x = .int n ∧ Q 0 n H1 := rfl
theorem b_rg2 {σ : L2.St} {ta tb : TE} {Q : Int → Int → Hp → Prop} : tRg2 ta tb σ H Q = ta σ H fun x H1 => tb σ H1 fun y H2 => ∃ i j, x = .int i ∧ y = .int j ∧ Q i j H2 := rfl
theorem tyl {p : Addr} {xs : List V} (h : H p = some (.lst xs)) : tyV K "list" (.ref p) H := .inl ⟨rfl, _, SqL.of h⟩
end
structure NoB (mg : Str → Option Value) : Prop where
  no_len : mg "len" = none
  no_int : mg "int" = none
  no_bool : mg "bool" = none
  no_str : mg "str" = none
  no_range : mg "range" = none
  no_isinstance : mg "isinstance" = none
  no_tuple : mg "tuple" = none
  no_list : mg "list" = none
  no_min : mg "min" = none
  no_max : mg "max" = none
  no_sorted : mg "sorted" = none
  no_enumerate : mg "enumerate" = none
  no_sum : mg "sum" = none
  no_any : mg "any" = none
  no_all : mg "all" = none
  no_zip : mg "zip" = none
  no_reversed : mg "reversed" = none
  no_super : mg "super" = none
  no_set : mg "set" = none
  no_dict : mg "dict" = none
  no_ValueError : mg "ValueError" = none
  no_abs : mg "abs" = none
/-! ### what readings say, applied -/
section
variable {σ : L2.St} {H : Hp} {Q : VK} {D : Ends} {K : PySem.W.Frag}
theorem a_var {i : Nat} : tVar i σ H Q = ∃ v, σ[i]? = some (some v) ∧ Q v H := rfl
theorem a_c {v : V} : tC v σ H Q = Q v H := rfl
theorem a_op {r : R2} {a b : TE} : tOp r a b σ H Q = a σ H fun x H1 => b σ H1 fun y H2 => r x y H2 Q := rfl
theorem a_un {r : V → Hp → VK → Prop} {a : TE} : tUn r a σ H Q = a σ H fun x H1 => r x H1 Q := rfl
theorem a_test {a : TE} {Q : Bool → Hp → Prop} : tTest a σ H Q = a σ H fun x H1 => ∃ k, x = .bl k ∧ Q k H1 := rfl
theorem a_b {a : TE} {Q : Bool → Hp → Prop} : tB a σ H Q = a σ H fun x H1 => ∃ k, x = .bl k ∧ Q k H1 := rfl
theorem a_and {t u : TT} {Q : Bool → Hp → Prop} : tAnd t u σ H Q = t σ H fun c H1 => if c = true then u σ H1 Q else Q false H1 := rfl
theorem a_or {t u : TT} {Q : Bool → Hp → Prop} : tOr t u σ H Q = t σ H fun c H1 => if c = true then Q true H1 else u σ H1 Q := rfl
theorem a_not {t : TT} {Q : Bool → Hp → Prop} : tNot t σ H Q = t σ H fun c H1 => Q (!c) H1 := rfl
theorem a_andV {a b : TE} : tAndV a b σ H Q = a σ H fun x H1 => ∃ c, x = .bl c ∧ if c = true then b σ H1 Q else Q (.bl false) H1 := rfl
theorem a_orV {a b : TE} : tOrV a b σ H Q = a σ H fun x H1 => ∃ c, x = .bl c ∧ if c = true then Q (.bl true) H1 else b σ H1 Q := rfl
theorem a_notV {a : TE} : tNotV a σ H Q = a σ H fun x H1 => ∃ c, x = .bl c ∧ Q (.bl (!c)) H1 := rfl
theorem a_if {t : TT} {a b : TE} : tIf t a b σ H Q = t σ H fun c H1 => if c = true then a σ H1 Q else b σ H1 Q := rfl
theorem a_next : tNext D σ H = D.nx σ H := rfl
theorem a_seq {t u : TS} : tSeq t u D σ H = t { D with nx := u D } σ H := rfl
theorem a_break : tBreak D σ H = D.bk σ H := rfl
theorem a_cont : tCont D σ H = D.ct σ H := rfl
theorem a_drop {a : TE} : tDrop a D σ H = a σ H fun _ H1 => D.nx σ H1 := rfl
theorem a_ret {a : TE} : tRet a D σ H = a σ H D.rt := rfl
theorem a_retN : tRetN D σ H = D.rt .non H := rfl
theorem a_ifS {c : TT} {t u : TS} : tIfS c t u D σ H = c σ H fun b H1 => if b = true then t D σ H1 else u D σ H1 := rfl
theorem a_asg {a : TE} {g : TG} : tAsg a g D σ H = a σ H fun x H1 => g x σ H1 D.nx := rfl
theorem a_name {i : Nat} {v : V} {Q : L2.St → Hp → Prop} : gName i v σ H Q = Q (σ.set i (some v)) H := rfl
theorem a_sub {o i : TE} {t : TSet} {v : V} {Q : L2.St → Hp → Prop} : gSub o i t v σ H Q = o σ H fun o H1 => i σ H1 fun i H2 => t o i v H2 fun H3 => Q σ H3 := rfl
theorem a_nil {Q : List V → Hp → Prop} : tNil σ H Q = Q [] H := rfl
theorem a_cons {a : TE} {r : TA} {Q : List V → Hp → Prop} : tCons a r σ H Q = a σ H fun x H1 => r σ H1 fun xs H2 => Q (x :: xs) H2 := rfl
theorem a_tup {t : TA} : tTup t σ H Q = t σ H fun xs H1 => xs.length ≤ sizeLine ∧ Nw H1 (.tup xs) fun p H' => Q (.ref p) H' := by unfold tTup; simp only [nw_eq]
theorem a_lst {t : TA} : tLst t σ H Q = t σ H fun xs H1 => xs.length ≤ sizeLine ∧ Nw H1 (.lst xs) fun p H' => Q (.ref p) H' := by unfold tLst; simp only [nw_eq]
theorem a_call {sp : Sp} {E : XK} {t : TA} : tCall sp [] E t σ H Q = t σ H fun vs H1 => sp vs H1 Q E := by
  unfold tCall; simp only [List.append_nil]
theorem a_cb {r : List V → Hp → VK → Prop} {t : TA} : tCB r t σ H Q = t σ H fun vs H1 => r vs H1 Q := rfl
theorem a_bm0 {T : String} {r : V → List V → Hp → VK → Prop} {to : TE} : tBM0 K T r to σ H Q = to σ H fun x H1 => tyV K T x H1 ∧ r x [] H1 Q := rfl
theorem a_bm {T : String} {r : V → List V → Hp → VK → Prop} {to : TE} {t : TA} : tBM K T r to t σ H Q = to σ H fun x H1 => tyV K T x H1 ∧ t σ H1 fun xs H2 => r x xs H2 Q := rfl
theorem a_sl {r : V → Option Int → Option Int → Hp → VK → Prop} {te : TE} {tl th : TO} : tSl r te tl th σ H Q = te σ H fun x H1 => tl σ H1 fun l H2 => th σ H2 fun u H3 => r x l u H3 Q := rfl
theorem a_nopart {Q : Option Int → Hp → Prop} : tNoPart σ H Q = Q none H := rfl
theorem a_part {t : TE} {Q : Option Int → Hp → Prop} : tPart t σ H Q = t σ H fun x H1 => ∃ i, x = .int i ∧ Q (some i) H1 := rfl
theorem a_aug {i : Nat} {te : TE} {ti : TIp} : tAug i te ti D σ H = ∃ x, σ[i]? = some (some x) ∧ te σ H fun y H1 => ti x y H1 fun z H2 => D.nx (σ.set i (some z)) H2 := rfl
theorem b_rI {C : Int → Int → Prop} {g : Int → Int → V} {x y : Int} : rI C g (.int x) (.int y) H Q = (C x y ∧ Q (g x y) H) := by
  unfold rI; apply propext; constructor
  · rintro ⟨i, j, h1, h2, h⟩; cases h1; cases h2; exact h
  · intro h; exact ⟨x, y, rfl, rfl, h⟩
theorem b_rI0 {g : Int → Int → V} {x y : Int} : rI0 g (.int x) (.int y) H Q = Q (g x y) H := by
  unfold rI0; apply propext; constructor
  · rintro ⟨i, j, h1, h2, h⟩; cases h1; cases h2; exact h
  · intro h; exact ⟨x, y, rfl, rfl, h⟩
theorem b_rU {g : Int → V} {x : Int} : rU g (.int x) H Q = Q (g x) H := by
  unfold rU; apply propext; constructor
  · rintro ⟨i, h1, h⟩; cases h1; exact h
  · intro h; exact ⟨x, rfl, h⟩
theorem b_eq {x y : V} : rEq x y H Q = (scal x y = true ∧ Q (.bl (decide (x = y))) H) := rfl
theorem b_ne {x y : V} : rNe x y H Q = (scal x y = true ∧ Q (.bl (!decide (x = y))) H) := rfl
theorem b_isTF {x : V} {b : Bool} : rIsTF x (.bl b) H Q = Q (.bl (decide (x = .bl b))) H := by
  unfold rIsTF; apply propext; constructor
  · rintro ⟨i, h1, h⟩; cases h1; exact h
  · intro h; exact ⟨b, rfl, h⟩
end
theorem seq_join {t u : TS} {D : Ends} {σ : L2.St} {H : Hp} (M : L2.St → Hp → Prop) (h2 : ∀ N : L2.St → Hp → Prop, (∀ σ H, M σ H → N σ H) → t { D with nx := N } σ H) (h1 : ∀ σ H, M σ H → u D σ H) : tSeq t u D σ H := h2 (u D) h1
theorem ixN_7 : ixN 7 1 = some 1 ∧ ixN 7 2 = some 2 ∧ ixN 7 3 = some 3 ∧ ixN 7 4 = some 4 ∧ ixN 7 5 = some 5 ∧ ixN 7 6 = some 6 := by decide
theorem atI_of {α : Type} {xs : List α} {i : Int} {v : α} (h0 : 0 ≤ i) (h : xs[i.toNat]? = some v) : atI xs i = some v := by
  have hl := (List.getElem?_eq_some_iff.mp h).1
  unfold atI ixN
  rw [if_pos h0, if_pos (by omega)]
  exact h
theorem atI_0 {α : Type} {a : α} {r : List α} : atI (a :: r) 0 = some a := atI_of (by decide) rfl
theorem atI_1 {α : Type} {a b : α} {r : List α} : atI (a :: b :: r) 1 = some b := atI_of (by decide) rfl
theorem atI_2 {α : Type} {a b c : α} {r : List α} : atI (a :: b :: c :: r) 2 = some c := atI_of (by decide) rfl
theorem atI_3 {α : Type} {a b c d : α} {r : List α} : atI (a :: b :: c :: d :: r) 3 = some d := atI_of (by decide) rfl
theorem atI_4 {α : Type} {a b c d e : α} {r : List α} : atI (a :: b :: c :: d :: e :: r) 4 = some e := atI_of (by decide) rfl
theorem atI_5 {α : Type} {a b c d e f : α} {r : List α} : atI (a :: b :: c :: d :: e :: f :: r) 5 = some f := atI_of (by decide) rfl
theorem atI_6 {α : Type} {a b c d e f g : α} {r : List α} : atI (a :: b :: c :: d :: e :: f :: g :: r) 6 = some g := atI_of (by decide) rfl
theorem ixN_of {n : Nat} {i : Int} (h0 : 0 ≤ i) (h : i < n) : ixN n i = some i.toNat := by
  unfold ixN
  rw [if_pos h0, if_pos h]
theorem fm_bound {x m : Int} (h : 0 < m) : 0 ≤ x.fmod m ∧ x.fmod m < m := ⟨Int.fmod_nonneg_of_pos x h, Int.fmod_lt_of_pos x h⟩
theorem cm_lit {i j : Int} (h : -(2 ^ 64) < j ∧ j < 2 ^ 64) : CMul i j := .inr h
theorem cm_fm {x y m : Int} (h : 0 < m) (h2 : m < 2 ^ 64) : CMul (x.fmod m) y := .inl (by have := fm_bound (x := x) h; omega)
theorem scal_ii {i j : Int} : scal (.int i) (.int j) = true := rfl
theorem scal_bb {i j : Bool} : scal (.bl i) (.bl j) = true := rfl
theorem scal_ss {i j : Str} : scal (.str i) (.str j) = true := rfl
theorem scal_is {i : Int} {j : Str} : scal (.int i) (.str j) = true := rfl
theorem scal_si {i : Int} {j : Str} : scal (.str j) (.int i) = true := rfl
/-! ### loops -/
section
variable {σ : L2.St} {H : Hp} {Q : VK} {D : Ends} {K : PySem.W.Frag} {g : TG} {tb : TS} {tt : TT} {te : TE} {vs : List Nat} {ta : TA} {tl : TE}
def FRg (lo : Int) (n : Nat) (g : TG) (tb : TS) (D : Ends) (σ : L2.St) (H : Hp) : Prop := ∃ W : Nat → Nat → L2.St → Hp → Prop, (∃ m, W 0 m σ H) ∧ ∀ i m σ H, W i m σ H →
      ((Itr lo n).stop i H ∧ D.nx σ H) ∨ ((Itr lo n).go i H ∧ ∃ N : L2.St → Hp → Prop, (∀ σ' H', N σ' H' → ∃ m', m' < m ∧ W (i + 1) m' σ' H') ∧ ∀ x H', (Itr lo n).yld i H x H' → g x σ H' fun σ2 H2 => tb { D with nx := N, ct := N, bk := D.nx } σ2 H2)
theorem a_forR : tFor (iRng1 ta) g tb D σ H = ta σ H fun vs H1 => ∃ j : Int, vs = [.int j] ∧ -(2 ^ 62) ≤ j ∧ j < 2 ^ 62 ∧ FRg 0 j.toNat g tb D σ H1 := rfl
theorem a_forR2 : tFor (iRng2 ta) g tb D σ H = ta σ H fun vs H1 => ∃ i j : Int, vs = [.int i, .int j] ∧ (-(2 ^ 62) ≤ i ∧ i < 2 ^ 62 ∧ -(2 ^ 62) ≤ j ∧ j < 2 ^ 62) ∧ FRg i (j - i).toNat g tb D σ H1 := rfl
theorem fr_by {lo : Int} {n : Nat} (Pv : Nat → L2.St → Hp → Prop) (h0 : Pv 0 σ H)
    (hs : ∀ i σ H (N : L2.St → Hp → Prop), (∀ σ' H', Pv (i + 1) σ' H' → N σ' H') → i < n → Pv i σ H → g (.int (lo + i)) σ H fun σ2 H2 => tb { D with nx := N, ct := N, bk := D.nx } σ2 H2) (hd : ∀ σ H, Pv n σ H → D.nx σ H) : FRg lo n g tb D σ H := for_range Pv h0 (fun i σ H => hs i σ H _ fun _ _ z => z) hd
def FSq (K : PySem.W.Frag) (a : Addr) (g : TG) (tb : TS) (D : Ends) (σ : L2.St) (H : Hp) : Prop := ∃ xs, (H a = some (.lst xs) ∧ tFor (fun _ H R => R (Itl K a) H) g tb D σ H) ∨ (H a = some (.tup xs) ∧ tFor (fun _ H R => R (Itt K a) H) g tb D σ H)
def FSqV (K : PySem.W.Frag) (x : V) (g : TG) (tb : TS) (D : Ends) (σ : L2.St) (H : Hp) : Prop := ∃ a xs, x = .ref a ∧ ((H a = some (.lst xs) ∧ tFor (fun _ H R => R (Itl K a) H) g tb D σ H) ∨ (H a = some (.tup xs) ∧ tFor (fun _ H R => R (Itt K a) H) g tb D σ H))
theorem a_forS : tFor (iSq K tl) g tb D σ H = tl σ H fun x H1 => FSqV K x g tb D σ H1 := rfl
theorem b_fsq {a : Addr} : FSqV K (.ref a) g tb D σ H = FSq K a g tb D σ H := by
  unfold FSqV FSq; apply propext; constructor
  · rintro ⟨b, xs, e, h⟩; cases e; exact ⟨xs, h⟩
  · rintro ⟨xs, h⟩; exact ⟨a, xs, rfl, h⟩
theorem fs_by {a : Addr} {xs : List V} (hq : sq H a = some xs) (Pv : Nat → L2.St → Hp → Prop) (h0 : Pv 0 σ H) (hl : ∀ i σ' H', Pv i σ' H' → ∀ o, H a = some o → H' a = some o)
    (hs : ∀ i x σ H (N : L2.St → Hp → Prop), (∀ σ' H', Pv (i + 1) σ' H' → N σ' H') → xs[i]? = some x → Pv i σ H → g x σ H fun σ2 H2 => tb { D with nx := N, ct := N, bk := D.nx } σ2 H2) (hd : ∀ σ H, Pv xs.length σ H → D.nx σ H) : FSq K a g tb D σ H := by
  rcases sq_or hq with h | h
  · exact ⟨xs, .inl ⟨h, for_list Pv h0 (fun i σ' H' _ p => SqL.of (hl i σ' H' p _ h)) (fun i x σ H => hs i x σ H _ fun _ _ z => z) hd⟩⟩
  · exact ⟨xs, .inr ⟨h, for_tup Pv h0 (fun i σ' H' _ p => SqT.of (hl i σ' H' p _ h)) (fun i x σ H => hs i x σ H _ fun _ _ z => z) hd⟩⟩
/-! ### comprehensions -/
def CRg (lo : Int) (n : Nat) (g : TG) (tt : TT) (te : TE) (vs : List Nat) (σ : L2.St) (H : Hp) (Q : VK) : Prop := tLc (fun _ H R => R (Itr lo n) H) g tt te vs σ H Q
theorem a_lcR : tLc (iRng1 ta) g tt te vs σ H Q = ta σ H fun ws H1 => ∃ j : Int, ws = [.int j] ∧ -(2 ^ 62) ≤ j ∧ j < 2 ^ 62 ∧ CRg 0 j.toNat g tt te vs σ H1 Q := rfl
theorem a_lcR2 : tLc (iRng2 ta) g tt te vs σ H Q = ta σ H fun ws H1 => ∃ i j : Int, ws = [.int i, .int j] ∧ (-(2 ^ 62) ≤ i ∧ i < 2 ^ 62 ∧ -(2 ^ 62) ≤ j ∧ j < 2 ^ 62) ∧ CRg i (j - i).toNat g tt te vs σ H1 Q := rfl
/-- the end of a comprehension's turn -/
def CSt (C : Addr) (N : Hp → Prop) (y : V) (H : Hp) : Prop := ∃ acc, H C = some (.lst acc) ∧ acc.length < sizeLine ∧ N (upd H C (.lst (acc ++ [y])))
theorem cst {C : Addr} {N : Hp → Prop} {y : V} {H : Hp} {acc : List V} (h : H C = some (.lst acc)) (hl : acc.length < sizeLine) (hn : ∀ H5, Put H C (.lst (acc ++ [y])) H5 → N H5) : CSt C N y H := ⟨acc, h, hl, hn _ Put.mk'⟩
theorem cr_by {lo : Int} {n : Nat} (Pv : Addr → Nat → List V → Hp → Prop) (h0 : ∀ C H0, New H C (.lst []) H0 → Pv C 0 [] H0)
    (hs : ∀ C i acc H1 N, H C = none → i < n → H1 C = some (.lst acc) → Pv C i acc H1 → (∀ acc' H5, H5 C = some (.lst acc') → Pv C (i + 1) acc' H5 → N H5) → g (.int (lo + i)) (wipe σ vs) H1 fun σ2 H2 => wipe σ2 vs = wipe σ vs ∧ tt σ2 H2 fun b H3 =>
      if b = true then te σ2 H3 fun y H4 => CSt C N y H4 else N H3)
    (hd : ∀ C acc H1, H C = none → H1 C = some (.lst acc) → Pv C n acc H1 → Q (.ref C) H1) : CRg lo n g tt te vs σ H Q := by
  intro C hC
  refine lc_range (fun i H1 => ∃ acc, H1 C = some (.lst acc) ∧ Pv C i acc H1) ⟨[], upd_same, h0 C _ (New.mk' hC)⟩ (fun i H1 hi ⟨acc, ha, p⟩ => ?_) (fun H1 ⟨acc, ha, p⟩ => hd C acc H1 hC ha p)
  exact hs C i acc H1 _ hC hi ha p fun acc' H5 h5 p5 => ⟨acc', h5, p5⟩
def CSq (K : PySem.W.Frag) (a : Addr) (g : TG) (tt : TT) (te : TE) (vs : List Nat) (σ : L2.St) (H : Hp) (Q : VK) : Prop := ∃ xs, (H a = some (.lst xs) ∧ tLc (fun _ H R => R (Itl K a) H) g tt te vs σ H Q) ∨ (H a = some (.tup xs) ∧ tLc (fun _ H R => R (Itt K a) H) g tt te vs σ H Q)
def CSqV (K : PySem.W.Frag) (x : V) (g : TG) (tt : TT) (te : TE) (vs : List Nat) (σ : L2.St) (H : Hp) (Q : VK) : Prop := ∃ a xs, x = .ref a ∧ ((H a = some (.lst xs) ∧ tLc (fun _ H R => R (Itl K a) H) g tt te vs σ H Q) ∨ (H a = some (.tup xs) ∧ tLc (fun _ H R => R (Itt K a) H) g tt te vs σ H Q))
theorem a_lcS : tLc (iSq K tl) g tt te vs σ H Q = tl σ H fun x H1 => CSqV K x g tt te vs σ H1 Q := rfl
theorem b_csq {a : Addr} : CSqV K (.ref a) g tt te vs σ H Q = CSq K a g tt te vs σ H Q := by
  unfold CSqV CSq; apply propext; constructor
  · rintro ⟨b, xs, e, h⟩; cases e; exact ⟨xs, h⟩
  · rintro ⟨xs, h⟩; exact ⟨a, xs, rfl, h⟩
theorem cs_by {a : Addr} {xs : List V} (hq : sq H a = some xs) (Pv : Addr → Nat → List V → Hp → Prop) (h0 : ∀ C H0, New H C (.lst []) H0 → Pv C 0 [] H0) (hl : ∀ C i acc H', H C = none → Pv C i acc H' → ∀ o, H a = some o → H' a = some o)
    (hs : ∀ C i x acc H1 N, H C = none → xs[i]? = some x → H1 C = some (.lst acc) → Pv C i acc H1 → (∀ acc' H5, H5 C = some (.lst acc') → Pv C (i + 1) acc' H5 → N H5) → g x (wipe σ vs) H1 fun σ2 H2 => wipe σ2 vs = wipe σ vs ∧ tt σ2 H2 fun b H3 =>
      if b = true then te σ2 H3 fun y H4 => CSt C N y H4 else N H3)
    (hd : ∀ C acc H1, H C = none → H1 C = some (.lst acc) → Pv C xs.length acc H1 → Q (.ref C) H1) : CSq K a g tt te vs σ H Q := by
  rcases sq_or hq with h | h
  · refine ⟨xs, .inl ⟨h, fun C hC => ?_⟩⟩
    refine lc_list (fun i H1 => ∃ acc, H1 C = some (.lst acc) ∧ Pv C i acc H1) ⟨[], upd_same, h0 C _ (New.mk' hC)⟩ (fun i H1 _ ⟨acc, ha, p⟩ => SqL.of (hl C i acc H1 hC p _ h)) (fun i x H1 hi ⟨acc, ha, p⟩ => ?_) (fun H1 ⟨acc, ha, p⟩ => hd C acc H1 hC ha p)
    exact hs C i x acc H1 _ hC hi ha p fun acc' H5 h5 p5 => ⟨acc', h5, p5⟩
  · refine ⟨xs, .inr ⟨h, fun C hC => ?_⟩⟩
    refine lc_tup (fun i H1 => ∃ acc, H1 C = some (.lst acc) ∧ Pv C i acc H1) ⟨[], upd_same, h0 C _ (New.mk' hC)⟩ (fun i H1 _ ⟨acc, ha, p⟩ => SqT.of (hl C i acc H1 hC p _ h)) (fun i x H1 hi ⟨acc, ha, p⟩ => ?_) (fun H1 ⟨acc, ha, p⟩ => hd C acc H1 hC ha p)
    exact hs C i x acc H1 _ hC hi ha p fun acc' H5 h5 p5 => ⟨acc', h5, p5⟩
/-! ### while -/
def WSt (N : L2.St → Hp → Prop) (tb : TS) (D : Ends) (σ : L2.St) (b : Bool) (H : Hp) : Prop := if b = true then tb { D with nx := N, ct := N, bk := D.nx } σ H else D.nx σ H
theorem wh_by {c : TT} (Pv : Nat → L2.St → Hp → Prop) (m : Nat) (h0 : Pv m σ H) (hs : ∀ m σ H (N : L2.St → Hp → Prop) (R : Bool → Hp → Prop), (∀ m' σ' H', m' < m → Pv m' σ' H' → N σ' H') → (∀ b H1, WSt N tb D σ b H1 → R b H1) → Pv m σ H → c σ H R) : tWhile c tb D σ H := by
  refine ⟨Pv, ⟨m, h0⟩, fun m σ H p => ?_⟩
  refine hs m σ H (fun σ' H' => ∃ m', m' < m ∧ Pv m' σ' H') _ (fun m' σ' H' h p => ⟨m', h, p⟩) (fun b H1 h => ?_) p
  unfold WSt at h
  cases b with
  | true => exact ⟨_, fun _ _ z => z, h⟩
  | false => exact h
theorem wst {N : L2.St → Hp → Prop} {b : Bool} (ht : b = true → tb { D with nx := N, ct := N, bk := D.nx } σ H) (hf : b = false → D.nx σ H) : WSt N tb D σ b H := by
  cases b with
  | true => exact ht rfl
  | false => exact hf rfl
end
theorem wipe_nil {σ : L2.St} : wipe σ [] = σ := rfl
theorem wipe_cons {σ : L2.St} {v : Nat} {vs : List Nat} : wipe σ (v :: vs) = (wipe σ vs).set v none := rfl
theorem a_yes {σ : L2.St} {H : Hp} {Q : Bool → Hp → Prop} : tYes σ H Q = Q true H := rfl
/-! ### data -/
inductive Lf : V → PyData → Nat → Prop
  | non : Lf .non .none 1
  | bl (b : Bool) : Lf (.bl b) (.bool b) 1
  | int (i : Int) : Lf (.int i) (.int i) 1
  | str (x : Str) : Lf (.str x) (.str x) (x.length + 1)
theorem Lf.pos {v : V} {d : PyData} {n : Nat} (h : Lf v d n) : 0 < n := by cases h <;> omega
mutual
inductive Dw (E : List Addr) (H : Hp) : V → PyData → Nat → Prop
  | lf {v : V} {d : PyData} {n : Nat} : Lf v d n → Dw E H v d n
  | lst {a : Addr} {xs : List V} {ds : List PyData} {n : Nat} : a ∉ E → H a = some (.lst xs) → DwAll E H xs ds n → Dw E H (.ref a) (.list ds) (n + 1)
  | tup {a : Addr} {xs : List V} {ds : List PyData} {n : Nat} : a ∉ E → H a = some (.tup xs) → DwAll E H xs ds n → Dw E H (.ref a) (.tuple ds) (n + 1)
inductive DwAll (E : List Addr) (H : Hp) : List V → List PyData → Nat → Prop
  | nil : DwAll E H [] [] 0
  | cons {v : V} {vs : List V} {d : PyData} {ds : List PyData} {n m : Nat} : Dw E H v d n → DwAll E H vs ds m → DwAll E H (v :: vs) (d :: ds) (n + m)
end
mutual
theorem Dw.kp {E : List Addr} {H H' : Hp} (k : ∀ a o, a ∉ E → H a = some o → H' a = some o) : ∀ {v : V} {d : PyData} {n : Nat}, Dw E H v d n → Dw E H' v d n
  | _, _, _, .lf l => .lf l
  | _, _, _, .lst ne h a => .lst ne (k _ _ ne h) (DwAll.kp k a)
  | _, _, _, .tup ne h a => .tup ne (k _ _ ne h) (DwAll.kp k a)
theorem DwAll.kp {E : List Addr} {H H' : Hp} (k : ∀ a o, a ∉ E → H a = some o → H' a = some o) : ∀ {v : List V} {d : List PyData} {n : Nat}, DwAll E H v d n → DwAll E H' v d n
  | _, _, _, .nil => .nil
  | _, _, _, .cons a b => .cons (Dw.kp k a) (DwAll.kp k b)
end
theorem Dw.pos {E : List Addr} {H : Hp} {v : V} {d : PyData} {n : Nat} (h : Dw E H v d n) : 0 < n := by
  cases h with
  | lf l => exact l.pos
  | lst => omega
  | tup => omega
theorem DwAll.len {E : List Addr} {H : Hp} : ∀ {v : List V} {d : List PyData} {n : Nat}, DwAll E H v d n → v.length = d.length ∧ v.length ≤ n
  | _, _, _, .nil => ⟨rfl, Nat.le_refl _⟩
  | _, _, _, .cons a b => by
    have h1 := DwAll.len b
    have h2 := a.pos
    simp only [List.length_cons]
    omega
theorem DwAll.app {E : List Addr} {H : Hp} : ∀ {v : List V} {d : List PyData} {n : Nat} {v' : List V} {d' : List PyData} {n' : Nat}, DwAll E H v d n → DwAll E H v' d' n' → DwAll E H (v ++ v') (d ++ d') (n + n')
  | _, _, _, _, _, n', .nil, b => by rw [Nat.zero_add]; exact b
  | _, _, _, _, _, _, .cons (n := n) (m := m) a r, b => by rw [Nat.add_assoc]; exact .cons a (DwAll.app r b)
theorem DwAll.one {E : List Addr} {H : Hp} {v : V} {d : PyData} {n : Nat} (h : Dw E H v d n) : DwAll E H [v] [d] n := .cons h .nil
theorem DwAll.get {E : List Addr} {H : Hp} : ∀ {v : List V} {d : List PyData} {n i : Nat} {x : V}, DwAll E H v d n → v[i]? = some x → ∃ e m, d[i]? = some e ∧ Dw E H x e m ∧ m ≤ n
  | _, _, _, _, _, .nil, h => by simp at h
  | _, _, _, 0, x, .cons (n := n) (m := m) a r, h => by
    simp at h; subst h
    exact ⟨_, _, rfl, a, by omega⟩
  | _, _, _, i + 1, x, .cons (n := n) (m := m) a r, h => by
    obtain ⟨e, k, h1, h2, h3⟩ := DwAll.get (i := i) (x := x) r (by simpa using h)
    exact ⟨e, k, by simpa using h1, h2, by omega⟩
theorem DwAll.mem {E : List Addr} {H : Hp} {v : List V} {d : List PyData} {n : Nat} {x : V} (h : DwAll E H v d n) (hx : x ∈ v) : ∃ e m, e ∈ d ∧ Dw E H x e m ∧ m ≤ n := by
  obtain ⟨i, hi⟩ := List.getElem?_of_mem hx
  obtain ⟨e, m, h1, h2, h3⟩ := h.get hi
  exact ⟨e, m, List.mem_of_getElem? h1, h2, h3⟩
/-- any list of data -/
theorem DwAll.of {E : List Addr} {H : Hp} {b : Nat} : ∀ {v : List V}, (∀ x ∈ v, ∃ d n, Dw E H x d n ∧ n ≤ b) → ∃ ds n, DwAll E H v ds n ∧ n ≤ b * v.length
  | [], _ => ⟨[], 0, .nil, by simp⟩
  | x :: r, h => by
    obtain ⟨d, n, h1, h2⟩ := h x List.mem_cons_self
    obtain ⟨ds, m, h3, h4⟩ := DwAll.of (v := r) fun y hy => h y (List.mem_cons_of_mem _ hy)
    refine ⟨d :: ds, n + m, .cons h1 h3, ?_⟩
    rw [List.length_cons, Nat.mul_add]
    omega
theorem DwAll.ints {E : List Addr} {H : Hp} : ∀ ns : List Int, DwAll E H (ns.map V.int) (ns.map PyData.int) ns.length
  | [] => .nil
  | n :: r => by
    have := DwAll.cons (E := E) (H := H) (Dw.lf (.int n)) (DwAll.ints r)
    rw [List.length_cons, Nat.add_comm]
    exact this
/-- the law's store at s, its list of cells at l -/
def Sto (s l : Addr) (H : Hp) : Prop := ∃ (ns : List Int) (i1 i2 i3 i4 i5 i6 : Int), H s = some (.lst [.ref l, .int i1, .int i2, .int i3, .int i4, .int i5, .int i6]) ∧ H l = some (.lst (ns.map V.int)) ∧ l ≠ s ∧ 0 ≤ i1
theorem Sto.put {s l : Addr} {H H' : Hp} {ns : List Int} {i1 i2 i3 i4 i5 i6 : Int} (hl : H l = some (.lst (ns.map V.int))) (ne : l ≠ s) (n : Put H s (.lst [.ref l, .int i1, .int i2, .int i3, .int i4, .int i5, .int i6]) H') (h1 : 0 ≤ i1) : Sto s l H' :=
  ⟨ns, i1, i2, i3, i4, i5, i6, n.at_, n.k ne hl, ne, h1⟩
theorem Sto.ne {s l p : Addr} {H : Hp} (h : Sto s l H) (hp : H p = none) : p ≠ s ∧ p ≠ l := by
  obtain ⟨ns, i1, i2, i3, i4, i5, i6, hs, hl, ne, h1⟩ := h
  exact ⟨(ne_of_none hs hp).symm, (ne_of_none hl hp).symm⟩
theorem Sto.keep {s l : Addr} {H H' : Hp} (h : Sto s l H) (a : ∀ o, H s = some o → H' s = some o) (b : ∀ o, H l = some o → H' l = some o) : Sto s l H' := by
  obtain ⟨ns, i1, i2, i3, i4, i5, i6, hs, hl, ne, h1⟩ := h
  exact ⟨ns, i1, i2, i3, i4, i5, i6, a _ hs, b _ hl, ne, h1⟩
theorem Sto.same {s l : Addr} {H H' : Hp} (h : Sto s l H) (a : Same H H') : Sto s l H' := h.keep (fun _ => a _ _) fun _ => a _ _
structure Ge (s l : Addr) (H H' : Hp) : Prop where
  kp : Kp s H H'
  st : Sto s l H'
section
variable {s l p : Addr} {H H1 H2 : Hp} {o : HO}
theorem Ge.refl (h : Sto s l H) : Ge s l H H := ⟨Kp.refl, h⟩
theorem Ge.trans (a : Ge s l H H1) (b : Ge s l H1 H2) : Ge s l H H2 := ⟨a.kp.trans b.kp, b.st⟩
theorem Ge.same (a : Ge s l H H1) (b : Same H1 H2) : Ge s l H H2 := ⟨a.kp.trans (Kp.same b), a.st.same b⟩
theorem Ge.new (a : Ge s l H H1) (n : New H1 p o H2) : Ge s l H H2 := a.same n.same
theorem Ge.fr (a : Ge s l H H1) (h : H1 p = none) : H p = none := a.kp.fresh (a.st.ne h).1 h
/-- a store to an object that is new since H -/
theorem Ge.put (a : Ge s l H H1) (h0 : Sto s l H) (hp : H p = none) (n : Put H1 p o H2) : Ge s l H H2 := by
  have e := h0.ne hp
  exact ⟨fun b u hb hu => n.k (ne_of_none hu hp) (a.kp b u hb hu), a.st.keep (fun _ h => n.k e.1.symm h) fun _ h => n.k e.2.symm h⟩
theorem Ge.at (a : Ge s l H1 H2) (h0 : Sto s l H) (hp : H p = none) (h : H1 p = some o) : H2 p = some o := a.kp.k (h0.ne hp).1 h
theorem Ge.k (a : Ge s l H1 H2) (ne : p ≠ s) (h : H1 p = some o) : H2 p = some o := a.kp.k ne h
end
theorem Kp.sq {s p : Addr} {H H' : Hp} {xs : List V} (a : Kp s H H') (ne : p ≠ s) (h : sq H p = some xs) : sq H' p = some xs := by
  rcases sq_or h with h | h
  · exact sq_l (a.k ne h)
  · exact sq_t (a.k ne h)
theorem cxK {CX : CXT} {P : Program} {w : World} {K : PySem.W.Frag} {mg : Str → Option Value} {base : Heap} {N : List Str} {q : Str} {sc : Scope} {f : Addr} {cd : Value} {A : Around} {outer : List Env} {s : Shared} {H : Hp} {E : XK} : (cxOf CX P w K mg base N q sc f cd A outer s H E).K = K := rfl
theorem Sto.ne' {s l p : Addr} {H : Hp} {o : HO} (h : Sto s l H) (hp : H p = some o) (hb : ∀ m i1 i2 i3 i4 i5 i6, o ≠ .lst [.ref m, .int i1, .int i2, .int i3, .int i4, .int i5, .int i6]) : p ≠ s := by
  obtain ⟨ns, i1, i2, i3, i4, i5, i6, hs, hl, ne, h1⟩ := h
  rintro rfl
  rw [hp] at hs
  exact hb _ _ _ _ _ _ _ (Option.some.inj hs)
section
variable {σ : L2.St} {H : Hp} {Q : VK}
theorem a_m1 {r : V → List V → Hp → VK → Prop} {a b : TE} : tM1 r a b σ H Q = a σ H fun x H1 => (∃ z, x = .str z) ∧ b σ H1 fun y H2 => r x [y] H2 Q := rfl
theorem b_ixS {z : Str} {i : Int} : rIxS (.str z) (.int i) H Q = (z.length ≤ sizeLine ∧ ∃ c, atI z.cps.toList i = some c ∧ Q (.str ⟨#[c]⟩) H) := by
  unfold rIxS; apply propext; constructor
  · rintro ⟨_, _, c, h1, h2, h3, h4, h⟩; cases h1; cases h2; exact ⟨h3, c, h4, h⟩
  · rintro ⟨h3, c, h4, h⟩; exact ⟨_, _, c, rfl, rfl, h3, h4, h⟩
theorem b_slS {z : Str} {lo hi : Option Int} : rSlS (.str z) lo hi H Q = (z.length ≤ sizeLine ∧ Q (.str (cutS z lo hi)) H) := by
  unfold rSlS; apply propext; constructor
  · rintro ⟨_, h1, h3, h⟩; cases h1; exact ⟨h3, h⟩
  · rintro ⟨h3, h⟩; exact ⟨_, rfl, h3, h⟩
end
theorem len_app (a b : Str) : (a ++ b).length = a.length + b.length := by
  show (Array.size (a.cps ++ b.cps)) = _
  rw [Array.size_append]
  rfl
theorem tl_app (a b : Str) : (a ++ b).cps.toList = a.cps.toList ++ b.cps.toList := by
  show (a.cps ++ b.cps).toList = _
  rw [Array.toList_append]
theorem len_tl (a : Str) : a.cps.toList.length = a.length := by simp [Str.length]
/-- signs from the space to the tilde and line feeds -/
def Vis (z : Str) : Prop := ∀ c ∈ z.cps.toList, c = 10 ∨ (32 ≤ c ∧ c < 127)
theorem Vis.app {a b : Str} (h : Vis a) (h' : Vis b) : Vis (a ++ b) := by
  intro c hc
  rw [tl_app] at hc
  rcases List.mem_append.mp hc with z | z
  · exact h c z
  · exact h' c z
theorem Vis.cut {a : Str} (h : Vis a) (lo hi : Option Int) : Vis (cutS a lo hi) := by
  intro c hc
  unfold cutS at hc
  exact h c (List.mem_of_mem_drop (List.mem_of_mem_take (by simpa using hc)))
theorem joinL_nil : ∀ ps : List (List Nat), TL.joinL [] ps = ps.flatten
  | [] => rfl
  | [p] => by simp [TL.joinL]
  | p :: q :: r => by
    have e := joinL_nil (q :: r)
    show p ++ ([] ++ TL.joinL [] (q :: r)) = _
    rw [e] <;> simp
theorem join_tl (ys : List Str) : (Txt.join ("" : Str) ys).cps.toList = (ys.map fun z => z.cps.toList).flatten := by
  have e := TL.tl_join ("" : Str) ys
  rw [← TL.join_eq] at e
  have e0 : TL.tl ("" : Str) = [] := by decide +kernel
  rw [e0, joinL_nil] at e
  exact e
mutual
theorem Dw.sub {E E' : List Addr} {H : Hp} (k : ∀ a, a ∈ E' → a ∈ E) : ∀ {v : V} {d : PyData} {n : Nat}, Dw E H v d n → Dw E' H v d n
  | _, _, _, .lf l => .lf l
  | _, _, _, .lst ne h a => .lst (fun z => ne (k _ z)) h (DwAll.sub k a)
  | _, _, _, .tup ne h a => .tup (fun z => ne (k _ z)) h (DwAll.sub k a)
theorem DwAll.sub {E E' : List Addr} {H : Hp} (k : ∀ a, a ∈ E' → a ∈ E) : ∀ {v : List V} {d : List PyData} {n : Nat}, DwAll E H v d n → DwAll E' H v d n
  | _, _, _, .nil => .nil
  | _, _, _, .cons a b => .cons (Dw.sub k a) (DwAll.sub k b)
end
/-- these addresses are taken -/
def Lv (E : List Addr) (H : Hp) : Prop := ∀ a ∈ E, H a ≠ none
section
variable {s l p : Addr} {E : List Addr} {H H1 H2 : Hp} {o : HO} {v : V} {d : PyData} {n : Nat}
theorem Lv.out (h : Lv E H) (hp : H p = none) : p ∉ E := fun z => h p z hp
theorem Lv.cons (h : Lv E H) (hp : H p = some o) : Lv (p :: E) H := fun a ha => by
  rcases List.mem_cons.mp ha with z | z
  · rw [z, hp]; exact fun q => by cases q
  · exact h a z
theorem Lv.ge (h : Lv E H) (g : Ge s l H H1) : Lv E H1 := fun a ha => by
  by_cases e : a = s
  · obtain ⟨ns, i1, i2, i3, i4, i5, i6, hs, _⟩ := g.st
    rw [e, hs]; exact fun q => by cases q
  · have := h a ha
    cases q : H a with
    | none => exact absurd q this
    | some o => rw [g.k e q]; exact fun z => by cases z
theorem Lv.same (h : Lv E H) (g : Same H H1) : Lv E H1 := fun a ha => by
  have := h a ha
  cases q : H a with
  | none => exact absurd q this
  | some o => rw [g _ _ q]; exact fun z => by cases z
theorem Dw.ge (h : Dw E H v d n) (g : Ge s l H H1) (hs : s ∈ E) : Dw E H1 v d n := h.kp fun a o ha e => g.k (fun z => ha (z ▸ hs)) e
theorem Dw.same (h : Dw E H v d n) (g : Same H H1) : Dw E H1 v d n := h.kp fun a o _ e => g a o e
theorem Dw.new (h : Dw E H v d n) (g : New H p o H1) : Dw E H1 v d n := h.same g.same
theorem Dw.put (h : Dw E H v d n) (g : Put H p o H1) (hp : p ∈ E) : Dw E H1 v d n := h.kp fun a o ha e => g.k (fun z => ha (z ▸ hp)) e
theorem DwAll.ge {vs : List V} {ds : List PyData} (h : DwAll E H vs ds n) (g : Ge s l H H1) (hs : s ∈ E) : DwAll E H1 vs ds n := h.kp fun a o ha e => g.k (fun z => ha (z ▸ hs)) e
theorem DwAll.same {vs : List V} {ds : List PyData} (h : DwAll E H vs ds n) (g : Same H H1) : DwAll E H1 vs ds n := h.kp fun a o _ e => g a o e
theorem DwAll.put {vs : List V} {ds : List PyData} (h : DwAll E H vs ds n) (g : Put H p o H1) (hp : p ∈ E) : DwAll E H1 vs ds n := h.kp fun a o ha e => g.k (fun z => ha (z ▸ hp)) e
end
/-- data of at most so much weight -/
def Db (E : List Addr) (H : Hp) (b : Nat) (v : V) : Prop := ∃ d n, Dw E H v d n ∧ n ≤ b
section
variable {s l p : Addr} {E E' : List Addr} {H H1 H2 : Hp} {o : HO} {v : V} {b b' : Nat} {xs : List V}
theorem Db.le (h : Db E H b v) (hb : b ≤ b') : Db E H b' v := by
  obtain ⟨d, n, h, hn⟩ := h
  exact ⟨d, n, h, Nat.le_trans hn hb⟩
theorem Db.sub (h : Db E H b v) (k : ∀ a, a ∈ E' → a ∈ E) : Db E' H b v := by
  obtain ⟨d, n, h, hn⟩ := h
  exact ⟨d, n, h.sub k, hn⟩
theorem Db.ge (h : Db E H b v) (g : Ge s l H H1) (hs : s ∈ E) : Db E H1 b v := by
  obtain ⟨d, n, h, hn⟩ := h
  exact ⟨d, n, h.ge g hs, hn⟩
theorem Db.same (h : Db E H b v) (g : Same H H1) : Db E H1 b v := by
  obtain ⟨d, n, h, hn⟩ := h
  exact ⟨d, n, h.same g, hn⟩
theorem Db.put (h : Db E H b v) (g : Put H p o H1) (hp : p ∈ E) : Db E H1 b v := by
  obtain ⟨d, n, h, hn⟩ := h
  exact ⟨d, n, h.put g hp, hn⟩
theorem Db.seq (h : ∀ x ∈ xs, Db E H b x) (hp : p ∉ E) (hq : H p = some (.tup xs) ∨ H p = some (.lst xs)) : Db E H (b * xs.length + 1) (.ref p) := by
  obtain ⟨ds, n, h1, h2⟩ := DwAll.of h
  rcases hq with q | q
  · exact ⟨_, _, .tup hp q h1, by omega⟩
  · exact ⟨_, _, .lst hp q h1, by omega⟩
end
theorem all_app {p : V → Prop} {xs : List V} {y : V} (h : ∀ x ∈ xs, p x) (hy : p y) : ∀ x ∈ xs ++ [y], p x := fun x hx => by
  rcases List.mem_append.mp hx with q | q
  · exact h x q
  · rw [List.mem_singleton.mp q]; exact hy
mutual
theorem Dw.fresh {E : List Addr} {C : Addr} {H : Hp} (k : H C = none) : ∀ {v : V} {d : PyData} {n : Nat}, Dw E H v d n → Dw (C :: E) H v d n
  | _, _, _, .lf l => .lf l
  | _, _, _, .lst ne h a => .lst (fun z => by
      rcases List.mem_cons.mp z with q | q
      · rw [q, k] at h; cases h
      · exact ne q) h (DwAll.fresh k a)
  | _, _, _, .tup ne h a => .tup (fun z => by
      rcases List.mem_cons.mp z with q | q
      · rw [q, k] at h; cases h
      · exact ne q) h (DwAll.fresh k a)
theorem DwAll.fresh {E : List Addr} {C : Addr} {H : Hp} (k : H C = none) : ∀ {v : List V} {d : List PyData} {n : Nat}, DwAll E H v d n → DwAll (C :: E) H v d n
  | _, _, _, .nil => .nil
  | _, _, _, .cons a b => .cons (Dw.fresh k a) (DwAll.fresh k b)
end
theorem kb_all : kitB "NoneType" "int" = some false ∧ kitB "bool" "int" = some true ∧ kitB "int" "int" = some true ∧ kitB "str" "int" = some false ∧ kitB "list" "int" = some false ∧ kitB "tuple" "int" = some false ∧ kitB "dict" "int" = some false ∧ kitB "NoneType" "bool" = some false ∧ kitB "bool" "bool" = some true ∧ kitB "int" "bool" = some false ∧ kitB "str" "bool" = some false ∧ kitB "list" "bool" = some false ∧ kitB "tuple" "bool" = some false ∧ kitB "dict" "bool" = some false ∧ kitB "NoneType" "str" = some false ∧ kitB "bool" "str" = some false ∧ kitB "int" "str" = some false ∧ kitB "str" "str" = some true ∧ kitB "list" "str" = some false ∧ kitB "tuple" "str" = some false ∧ kitB "dict" "str" = some false ∧ kitB "NoneType" "list" = some false ∧ kitB "bool" "list" = some false ∧ kitB "int" "list" = some false ∧ kitB "str" "list" = some false ∧ kitB "list" "list" = some true ∧ kitB "tuple" "list" = some false ∧ kitB "dict" "list" = some false ∧ kitB "NoneType" "tuple" = some false ∧ kitB "bool" "tuple" = some false ∧ kitB "int" "tuple" = some false ∧ kitB "str" "tuple" = some false ∧ kitB "list" "tuple" = some false ∧ kitB "tuple" "tuple" = some true ∧ kitB "dict" "tuple" = some false := by decide +kernel
theorem b_isi {x : V} {T : String} {H : Hp} {Q : VK} : rIsi1 [x, .ty T] H Q = ∃ t, tyN H x = some t ∧ ∃ b, kitB t T = some b ∧ Q (.bl b) H := by
  unfold rIsi1; apply propext; constructor
  · rintro ⟨_, _, t, b, h1, h2, h3, h⟩; cases h1; exact ⟨t, h2, b, h3, h⟩
  · rintro ⟨t, h2, b, h3, h⟩; exact ⟨_, _, t, b, rfl, h2, h3, h⟩
theorem ty_non {H : Hp} : tyN H .non = some "NoneType" := rfl
theorem ty_bl {H : Hp} {b : Bool} : tyN H (.bl b) = some "bool" := rfl
theorem ty_int {H : Hp} {b : Int} : tyN H (.int b) = some "int" := rfl
theorem ty_str {H : Hp} {b : Str} : tyN H (.str b) = some "str" := rfl
theorem ty_l {H : Hp} {p : Addr} {xs : List V} (h : H p = some (.lst xs)) : tyN H (.ref p) = some "list" := by unfold tyN; simp only [h]
theorem ty_t {H : Hp} {p : Addr} {xs : List V} (h : H p = some (.tup xs)) : tyN H (.ref p) = some "tuple" := by unfold tyN; simp only [h]
theorem cl_false {P : Program} {w : World} {K : PySem.W.Frag} {mg : Str → Option Value} {base : Heap} {x : Str} {st : Stmt} {ps : List Str} (D : Df K mg x st)
    (hb : ∀ (kV doc pm : Value) (an : Option Addr) (cdv ct : Value) (us : List Value), us.length = ps.length → bindArgs (PySem.W.fnOf x x (defArgs st) (defBody st) (defScope st) .none kV doc pm an cdv ct) ⟨us, []⟩ = pure (ps.zip us)) (k : Nat) {sp : Sp} (hf : ∀ vs H Q E, ¬ sp vs H Q E) : Cl P w K mg base k x ps sp := by
  obtain ⟨f, fd, F, g⟩ := D
  exact ⟨f, fd, g, F.kp, F.bindsA hb, fun vs H Q E h => (hf _ _ _ _ h).elim, fun A outer s H args us vs Q E _ _ _ _ h => (hf _ _ _ _ h).elim⟩
def isWh : V → Bool
  | .int _ => true
  | _ => false
theorem wh_i {i : Int} : isWh (.int i) = true := rfl
theorem wh_s {i : Str} : isWh (.str i) = false := rfl
theorem wh_b {i : Bool} : isWh (.bl i) = false := rfl
theorem wh_r {i : Addr} : isWh (.ref i) = false := rfl
theorem wh_n : isWh .non = false := rfl
theorem same_sq {p : Addr} {H H' : Hp} {xs : List V} (a : Same H H') (h : sq H p = some xs) : sq H' p = some xs := by
  rcases sq_or h with h | h
  · exact sq_l (a _ _ h)
  · exact sq_t (a _ _ h)
theorem Put.same {H H1 H2 : Hp} {p : Addr} {o : HO} (n : Put H1 p o H2) (a : Same H H1) (hp : H p = none) : Same H H2 := fun b u e => n.k (ne_of_none e hp) (a _ _ e)
def qIns : V → List V → Hp → VK → Prop := fun x vs H Q => match x, vs with
  | .ref l, [.int i, y] => ∃ xs, H l = some (.lst xs) ∧ xs.length < sizeLine ∧ 0 ≤ i ∧ i < 2 ^ 63 ∧ Wr H l (.lst (xs.take i.toNat ++ [y] ++ xs.drop i.toNat)) fun H' => Q .non H'
  | _, _ => False
theorem ins1 {X : Cx} : MtR X "list.insert" qIns := MtR_imp mt_insert fun x vs H Q h => by
  unfold qIns at h
  split at h
  · obtain ⟨xs, h1, h2, h3, h4, q⟩ := h
    refine ⟨_, xs, _, _, rfl, rfl, h1, h2, h3, h4, ?_⟩
    rw [wr_eq (Q := fun H' => Q .non H')]
    exact q
  · exact h.elim
section
variable {σ : L2.St} {H : Hp} {Q : VK} {K : PySem.W.Frag}
theorem b_ins {l : Addr} {i : Int} {y : V} : qIns (.ref l) [.int i, y] H Q = ∃ xs, H l = some (.lst xs) ∧ xs.length < sizeLine ∧ 0 ≤ i ∧ i < 2 ^ 63 ∧ Wr H l (.lst (xs.take i.toNat ++ [y] ++ xs.drop i.toNat)) fun H' => Q .non H' := rfl
theorem a_revL {te : TE} : tRevL K te σ H Q = te σ H fun x H1 => ∃ a xs, x = .ref a ∧ SqL K H1 a xs ∧ Nw H1 (.lst xs.reverse) fun q H' => Q (.ref q) H' := by
  unfold tRevL; simp only [nw_eq]
theorem idx_ints {p : Addr} {ns : List Int} {c : Int} (h : H p = some (.lst (ns.map V.int))) (hc : c ∈ ns) (hq : ∀ j : Nat, j < ns.length → ns[j]? = some c → Q (.int j) H) : rIndex K (.ref p) [.int c] H Q := by
  have hl := List.idxOf_lt_length_of_mem hc
  have hg : ns[ns.idxOf c]? = some c := by
    rw [List.getElem?_eq_getElem hl, List.getElem_idxOf hl]
  refine ⟨p, ns.map V.int, .int c, ns.idxOf c, .int c, rfl, rfl, SqL.of h, rfl, ?_, by rw [List.getElem?_map, hg]; rfl, ?_, fun m z hm hz => ?_, hq _ hl hg⟩
  · rw [List.all_map]; exact List.all_eq_true.mpr fun _ _ => rfl
  · simp [eqV]
  · rw [List.getElem?_map] at hz
    have hml : m < ns.length := by omega
    rw [List.getElem?_eq_getElem hml] at hz
    cases hz
    have : ns[m] ≠ c := fun e => by
      have := List.not_of_lt_findIdx (p := (· == c)) (xs := ns) (i := m) (by simpa [List.idxOf] using hm)
      simp [e] at this
    simp [eqV, this]
theorem cut_le (z : Str) (lo hi : Option Int) : (cutS z lo hi).length ≤ z.length := cutS_length z lo hi
end
theorem str_len10 {a : Int} {k : Nat} (hk : 0 < k) (h : a.natAbs < 10 ^ k) : (Str.ofString (toString a)).length ≤ k + 1 := by
  rw [PySem.ofString_length]; exact int_text_length_le10 hk h
def qIsT : List V → Hp → VK → Prop := fun vs H Q => match vs with
  | [x, .ref tp] => ∃ a b, H tp = some (.tup [.ty a, .ty b]) ∧ ∃ t, tyN H x = some t ∧ ∃ r1, kitB t a = some r1 ∧ ∃ r2, kitB t b = some r2 ∧ Q (.bl (r1 || r2)) H
  | _ => False
theorem isiT1 {X : Cx} : CallR X (.builtin "isinstance") qIsT := by
  intro pins s σ H xs us Q I r h
  unfold qIsT at h
  split at h
  · obtain ⟨a, b, hT, t, ht, r1, h1, r2, h2, q⟩ := h
    refine call_isiT pins s σ H _ us Q I r ⟨_, _, [.ty a, .ty b], .type t, [.type a, .type b], r1 || r2, rfl, hT, .cons (.ty a) (.cons (.ty b) .nil), tyN_ty ht, ?_, q⟩
    refine kitAny_cons (kit_ty h1) (fun e => ?_) (fun e => by rw [e]; rfl)
    refine kitAny_cons (kit_ty h2) (fun e' => by rw [e, e']; exact kitAny_nil) (fun e' => by rw [e, e']; rfl)
  · exact h.elim
theorem b_isT {x : V} {tp : Addr} {H : Hp} {Q : VK} : qIsT [x, .ref tp] H Q = ∃ a b, H tp = some (.tup [.ty a, .ty b]) ∧ ∃ t, tyN H x = some t ∧ ∃ r1, kitB t a = some r1 ∧ ∃ r2, kitB t b = some r2 ∧ Q (.bl (r1 || r2)) H := rfl
section
open PySem AutoSeq1 PyProof.Rows
variable {prog : Program} {w : World} {A : Around} {E : Value → Shared → Prop} {s : Shared}
theorem collect_seq2 {Q : List Value → Shared → Prop} (it : Addr) {T : String} {o : Obj} {items : Array Value} {n : Nat} (hT : T = "list" ∨ T = "tuple")
    (ho : s.heap.get? it = some o) (hc : o.cls = .type T) (hd : o.data = .seq items n)
    (hQ : ∀ h', (∀ b o', s.heap.get? b = some o' → h'.get? b = some o') → s.heap.objs.size < h'.objs.size → Q items.toList { s with heap := h' }) (hsz : items.size ≤ sizeLine := by size_fits) :
    wpAny (model prog w) A (collect (.ref it)) Q E s := by
  unfold collect
  refine wpAny_bind (wpAny_runValue (codeAny_builtin F.entry_proto_collect ?_))
  rw [Around.under_plainId F.plain_proto_collect _]
  show wpAny _ A.in1 (newList [] >>= fun l => again (.builtin "list.__iadd__" ⟨[l, .ref it], []⟩)) _ _ s
  refine wpAny_bind (wpAny_newObj_type ?_)
  refine wpAny_pure ⟨plainId_quiet F.plain_list_iadd _, codeAny_builtin F.entry_list_iadd ?_⟩
  rw [Around.under_plainId F.plain_list_iadd _]
  show wpAny _ A.in1 (Builtin.List.listExtendWith (.ref s.heap.objs.size) (.ref it) (.ref s.heap.objs.size)) _ _ _
  have hS : (s.heap.push { cls := .type "list", data := .seq ([] : List Value).toArray }).get? s.heap.objs.size = some { cls := .type "list", data := .seq #[] 0 } := Heap.get?_push_size _ rfl
  have hS₂ := Heap.get?_update_self (Obj.mapSeq (· ++ items)) hS rfl
  have fin' : wpAny (model prog w) A (match Value.ref s.heap.objs.size with
      | Value.ref a => do
        match (← load a).data with
          | Data.seq xs _ => pure xs.toList
          | _ => unsupported "internal:collect"
      | _ => unsupported "internal:collect") Q E { s with heap := (s.heap.push { cls := .type "list", data := .seq ([] : List Value).toArray }).update s.heap.objs.size (Obj.mapSeq (· ++ items)) } := by
    show wpAny _ A (load s.heap.objs.size >>= _) _ _ _
    refine wpAny_bind (wpAny_load hS₂ ?_)
    refine wpAny_pure ?_
    have e : ((#[] : Array Value) ++ items).toList = items.toList := by simp
    show Q ((#[] : Array Value) ++ items).toList _
    rw [e]
    refine hQ _ (fun b o' hb => ?_) (by rw [Heap.size_update, size_push']; exact Nat.lt_succ_self _)
    exact (Heap.get?_update_other _ _ (Nat.ne_of_gt (Heap.lt_size hb))).trans (Heap.get?_push_of_some _ hb)
  refine wpAny_mono (wpAny_extend_seq (hsz := hsz) (A := A) (R := fun r s' => r = .ok (.ret (.ref s.heap.objs.size)) ∧ s' = { s with heap := (s.heap.push { cls := .type "list", data := .seq ([] : List Value).toArray }).update s.heap.objs.size (Obj.mapSeq (· ++ items)) })
    (s := { s with heap := s.heap.push { cls := .type "list", data := .seq ([] : List Value).toArray } }) _ it _ 0 hT hS (Heap.get?_push_of_some _ ho) hc hd ⟨rfl, rfl⟩) (fun fin s' h => ?_) (fun e s' h => ?_)
  · cases fin with
    | done f =>
      obtain ⟨e, rfl⟩ := h
      cases e
      exact fin'
    | again c' => exact ⟨h.1, codeAny_mono h.2 fun r s'' hr => by obtain ⟨rfl, rfl⟩ := hr; exact fin'⟩
  · exact absurd h.1 (by simp)

end
open PySem PySem.Spec PyProof.Rows L2
section
variable {prog : Program} {w : World} {A : Around} {E : Value → Shared → Prop} {s : Shared}
/-- sorted of a list or a tuple of ints -/
theorem sorted_seq {a : Addr} {T : String} {o : Obj} {vs : List Value} {ns : List Int} {n : Nat} {Q : Value → Shared → Prop} (hT : T = "list" ∨ T = "tuple") (ho : s.heap.get? a = some o) (hc : o.cls = .type T) (hd : o.data = .seq vs.toArray n)
    (hI : IntsAre vs ns) (h64 : vs.length < 64)
    (h : ∀ (h' : Heap) (p : Addr) (out : Array Value) (ns' : List Int) (e : Nat), (∀ b u, s.heap.get? b = some u → h'.get? b = some u) → s.heap.objs.size ≤ p → h'.get? p = some (seqObj "list" out e) → IntsAre out.toList ns' → ns'.Perm ns → ns'.Pairwise (· ≤ ·) → Q (.ref p) { s with heap := h' }) :
    wpAny (model prog w) A (call (.builtin "sorted") [.ref a]) Q E s := by
  refine Calls.call_function_entry kind_sorted plain_sorted entry_sorted (args_sorted1 _) ?_
  unfold Builtin.«sorted»
  refine wpAny_bind (m := checkCount "sorted" 1 1 _) (wpAny_pure ?_)
  refine wpAny_bind (collect_seq2 a hT ho hc hd (fun h1 k1 big0 => ?_) (by rw [sizeLine_eq]; simp only [List.size_toArray]; omega))
  refine wpAny_bind (wpAny_newList ?_)
  have hoL : (h1.push (seqObj "list" vs.toArray 0)).get? h1.objs.size = some (seqObj "list" vs.toArray 0) := Heap.get?_push_size _ rfl
  have big : s.heap.objs.size ≤ h1.objs.size := Nat.le_of_lt big0
  refine wpAny_bind (wpAny_holding (wpAny_call_entry slot_list_sort ⟨_, hoL, rfl⟩ entry_list_sort (list_sort_tree hoL hI h64 fun out ns' a1 a2 a3 => ⟨_, rfl, ?_⟩) (args_list_sort _)))
  obtain ⟨e, he⟩ := sortedHeap_at (out := out) hoL
  refine wpAny_pure ⟨_, rfl, h _ _ out ns' e (fun b u hb => ?_) big he a1 a2 a3⟩
  have hlt := Heap.lt_size (k1 _ _ hb)
  rw [sortedHeap_old (Nat.ne_of_lt hlt) (by rw [size_push']; exact Nat.lt_succ_of_lt hlt)]
  exact Heap.get?_push_of_some _ (k1 _ _ hb)
end
def qSorted : List V → Hp → VK → Prop := fun vs H Q => ∃ (a : Addr) (ns : List Int), vs = [.ref a] ∧ sq H a = some (ns.map V.int) ∧ ns.length < 64 ∧ ∀ (ns' : List Int) (p : Addr) (H' : Hp), ns'.Perm ns → ns'.Pairwise (· ≤ ·) → New H p (.lst (ns'.map V.int)) H' → Q (.ref p) H'
theorem sorted1 {X : Cx} : CallR X (.builtin "sorted") qSorted := by
  intro pins s σ H vs us Q I r h
  obtain ⟨a, ns, rfl, hs, h64, q⟩ := h
  rw [Vals.ref1 r]
  have fin : ∀ (its : List Value), Vals (ns.map V.int) its → ∀ (T : String) (o : Obj) (n : Nat), (T = "list" ∨ T = "tuple") → s.heap.get? a = some o → o.cls = .type T → o.data = .seq its.toArray n → wpAny (model X.prog X.w) X.A (call (.builtin "sorted") [.ref a]) (EP X pins σ Q) X.xe s := by
    intro its rv T o n hT ho hc hd
    have hi := rv.ints
    refine sorted_seq hT ho hc hd hi (by rw [hi.length]; exact h64) fun h' p out ns' e kp hp he h1 h2 h3 => ?_
    have hlen : (ns'.map V.int).length ≤ sizeLine := by rw [List.length_map, h2.length_eq]; exact small64 h64
    exact ⟨.ref p, upd H p (.lst (ns'.map V.int)), I.laid (t' := s.toks) kp hp ⟨hlen, out.toList, e, vals_of_ints h1, he⟩, rfl, q ns' p _ h2 h3 (New.mk' (I.hok.fresh hp))⟩
  rcases sq_or hs with hq | hq
  · obtain ⟨its, rv, pl, _⟩ := I.list (SqL.of hq)
    obtain ⟨o, ho, hc, n, hd⟩ := pl.isList
    exact fin its rv _ o n (.inl rfl) ho hc hd
  · obtain ⟨its, rv, pl, _⟩ := I.tuple (SqT.of hq)
    obtain ⟨o, ho, hc, n, hd⟩ := pl
    exact fin its rv _ o n (.inr rfl) ho hc hd
theorem b_sorted {p : Addr} {H : Hp} {Q : VK} : qSorted [.ref p] H Q = ∃ ns : List Int, sq H p = some (ns.map V.int) ∧ ns.length < 64 ∧ ∀ (ns' : List Int) (p : Addr) (H' : Hp), ns'.Perm ns → ns'.Pairwise (· ≤ ·) → New H p (.lst (ns'.map V.int)) H' → Q (.ref p) H' := by
  unfold qSorted; apply propext; constructor
  · rintro ⟨_, ns, h1, h⟩; cases h1; exact ⟨ns, h⟩
  · rintro ⟨ns, h⟩; exact ⟨_, ns, rfl, h⟩
/-! ### tuple * int -/
theorem tuple_mul_self (l : Addr) (items : Array Value) (n : Nat) (dd : Option Addr) (sl : Array (Option Value)) (x : Int) (u : Tok) (c0 : (decide (x < -(2 ^ 63)) || decide (x ≥ 2 ^ 63)) = false) (c1 : (items.isEmpty || x == 1) = true) :
    Meets (Builtin.«tuple.__mul__» ⟨[.ref l, .int x u], []⟩) (fun _ R s => s.heap.get? l = some { cls := .type "tuple", dict := dd, data := .seq items n, slots := sl } ∧ R (.ok (.ret (Value.ref l))) s) :=
  .of_wp fun prog w A R s h => by
    obtain ⟨hp, g, d, tk, os⟩ := s
    obtain ⟨hl, h⟩ := h
    have f1 := AutoSeq1.idx_int
    have hex : Shared.TypeIs ⟨hp, g, d, tk, os⟩ (.ref l) "tuple" := ⟨_, hl, rfl⟩
    wp_walk using AutoSeq1.wpAny_loadPart' hl, wpAny_typeOf hex
    refine wpAny_ite_false (decide_eq_false (by rw [c0]; exact Bool.false_ne_true)) ?_
    wp_walk using AutoSeq1.wpAny_loadPart' hl, wpAny_typeOf hex
    exact ⟨_, rfl, h⟩
def qRepT : R2 := fun x y H Q => match x, y with
  | .ref l, .int k => ∃ xs, H l = some (.tup xs) ∧ 1 ≤ k ∧ (xs.length : Int) * k ≤ 4000000 ∧ k ≤ 4000000 ∧ (k = 1 ∨ xs = [] → Q (.ref l) H) ∧ (∀ p H', New H p (.tup (List.replicate k.toNat xs).flatten) H' → Q (.ref p) H')
  | _, _ => False
section
variable {X : Cx}
theorem op_repT1 : OpR X (binaryOp .Mult) qRepT := by
  intro pins s σ H x y v u Q I rx ry h
  unfold qRepT at h
  split at h
  · rename_i l k
    obtain ⟨xs, hT, h1, h2, hk, qs, q⟩ := h
    cases rx
    obtain ⟨t, rfl⟩ := ry
    obtain ⟨its, r, ⟨⟨cls, dd, data, sl⟩, ho, hc, n, hd⟩, hs⟩ := I.tuple (SqT.of hT)
    simp only at hc hd
    subst hc hd
    have hle : its.length = xs.length := r.length.symm
    have hsz0 : its.toArray.size = xs.length := by rw [List.size_toArray, hle]
    have c0 : (decide (k < -(2 ^ 63)) || decide (k ≥ 2 ^ 63)) = false := by
      rw [decide_eq_false (by omega), decide_eq_false (by omega)] <;> rfl
    by_cases hz : k = 1 ∨ xs = []
    · have c1 : (its.toArray.isEmpty || k == 1) = true := by
        rcases hz with e | e
        · rw [e]; simp
        · subst e
          have : its = [] := List.eq_nil_of_length_eq_zero hle
          rw [this]; rfl
      refine wpAny_binaryOp_repeat_ref (T := "tuple") (U := "int") (by decide) ⟨_, ho, rfl⟩ (fun s' => typeIs_int s' k t) noFill_tuple_mul F.fills_int_mul F.slot_int_rmul repeat_tuple F.slot_int_index.lookup
        (call_meets F.slot_int_rmul (typeIs_int s k t) F.entry_int_rmul (F.args_int_rmul_2 _ _) (int_rmul_tuple k t l its.toArray n dd sl)
          ⟨ho, rfl, ⟨_, ho, rfl⟩, call_meets F.slot_tuple_mul ⟨_, ho, rfl⟩ F.entry_tuple_mul (F.args_tuple_mul_2 _ _) (tuple_mul_self l its.toArray n dd sl k t c0 c1) ⟨ho, ?_⟩⟩)
      exact ⟨.ref l, H, I, rfl, qs hz⟩
    · have hk2 : 2 ≤ k := by
        rcases Int.lt_or_le k 2 with z | z
        · exact absurd (.inl (by omega)) hz
        · exact z
      have hne : xs ≠ [] := fun e => hz (.inr e)
      have hi : its.toArray.isEmpty = false := by
        cases its with
        | nil => exact absurd (List.eq_nil_of_length_eq_zero hle.symm) hne
        | cons a b => rfl
      have e2 : ((its.toArray.size : Nat) : Int) * k ≤ 4000000 := by rw [hsz0]; exact h2
      have flen : (List.replicate k.toNat its).flatten.length ≤ sizeLine := by
        rw [PyProof.Rows.lm_len_rep_flat, hle, sizeLine_eq]
        have : ((k.toNat * xs.length : Nat) : Int) ≤ 4000000 := by
          rw [Int.natCast_mul, Int.mul_comm, show ((k.toNat : Nat) : Int) = k by omega]; exact h2
        omega
      have c1 : (its.toArray.isEmpty || k == 1) = false := by
        rw [hi, Bool.false_or]
        exact beq_eq_false_iff_ne.mpr (by omega)
      have c2 : (decide (k ≤ 0) || its.toArray.isEmpty) = false := by
        rw [hi, Bool.or_false]
        exact decide_eq_false (by omega)
      have c4 : Builtin.Tuple.tupleTooMany (((its.toArray.size : Nat) : Int) * k) = false := by
        unfold Builtin.Tuple.tupleTooMany
        rw [sizeLine_eq]
        exact decide_eq_false (by omega)
      refine wpAny_binaryOp_repeat_ref (T := "tuple") (U := "int") (by decide) ⟨_, ho, rfl⟩ (fun s' => typeIs_int s' k t) noFill_tuple_mul F.fills_int_mul F.slot_int_rmul repeat_tuple F.slot_int_index.lookup
        (call_meets F.slot_int_rmul (typeIs_int s k t) F.entry_int_rmul (F.args_int_rmul_2 _ _) (int_rmul_tuple k t l its.toArray n dd sl)
          ⟨ho, rfl, ⟨_, ho, rfl⟩, call_meets F.slot_tuple_mul ⟨_, ho, rfl⟩ F.entry_tuple_mul (F.args_tuple_mul_2 _ _) (tuple_mulW l its.toArray n dd sl k t c0 c1 c2 (by omega) c4 (by rw [size_rep, List.size_toArray]; exact flen)) ⟨ho, ?_⟩⟩)
      rw [size_rep]
      refine ⟨.ref s.heap.objs.size, upd H s.heap.objs.size (.tup (List.replicate k.toNat xs).flatten), I.laid (t' := s.toks) (o := .tup (List.replicate k.toNat xs).flatten) (fun b ob q => Heap.get?_push_of_some _ q) (Nat.le_refl _) ?_, rfl, q _ _ (New.mk' (I.hok.fresh (Nat.le_refl _)))⟩
      refine ⟨?_, _, r.rep k.toNat, IsTup.new _ _⟩
      rw [(r.rep k.toNat).length]
      exact flen
  · exact h.elim
end
theorem b_repT {l : Addr} {k : Int} {H : Hp} {Q : VK} : qRepT (.ref l) (.int k) H Q = ∃ xs, H l = some (.tup xs) ∧ 1 ≤ k ∧ (xs.length : Int) * k ≤ 4000000 ∧ k ≤ 4000000 ∧ (k = 1 ∨ xs = [] → Q (.ref l) H) ∧ (∀ p H', New H p (.tup (List.replicate k.toNat xs).flatten) H' → Q (.ref p) H') := rfl

/-! ## HoM -/
/-- 0, 1, .. n - 1 -/
def rng (n : Nat) : List Int := (List.range n).map fun (i : Nat) => (i : Int)
theorem rng_len (n : Nat) : (rng n).length = n := by simp [rng]
theorem mem_rng {n : Nat} {x : Int} : x ∈ rng n ↔ 0 ≤ x ∧ x < n := by
  unfold rng
  rw [List.mem_map]
  constructor
  · rintro ⟨i, h, rfl⟩; have := List.mem_range.mp h; omega
  · intro h; exact ⟨x.toNat, List.mem_range.mpr (by omega), by omega⟩
theorem rng_nodup (n : Nat) : (rng n).Nodup := by
  unfold rng
  exact List.Pairwise.map _ (fun (a b : Nat) (h : a ≠ b) (e : (a : Int) = b) => h (by omega)) List.nodup_range
theorem rgV_rng {j : Int} (h : 0 ≤ j) : rgV 0 j = (rng j.toNat).map V.int := by
  unfold rgV rng
  rw [List.map_map]
  have : (j - 0).toNat = j.toNat := by omega
  rw [this]
  refine List.map_congr_left fun i _ => ?_
  simp
theorem rng_get {n i : Nat} (h : i < n) : (rng n)[i]? = some (i : Int) := by simp [rng, h]
def unV : V → Int
  | .int i => i
  | _ => 0
theorem perm_ints {xs : List V} {L : List Int} (h : xs.Perm (L.map V.int)) : ∃ L' : List Int, xs = L'.map V.int ∧ L'.Perm L := by
  refine ⟨xs.map unV, ?_, ?_⟩
  · rw [List.map_map]
    have : xs.map (V.int ∘ unV) = xs.map id := List.map_congr_left fun x hx => by
      have := h.mem_iff.mp hx
      obtain ⟨i, _, rfl⟩ := List.mem_map.mp this
      rfl
    rw [this, List.map_id]
  · have := h.map unV
    rw [List.map_map] at this
    have e : L.map (unV ∘ V.int) = L := by
      have : L.map (unV ∘ V.int) = L.map id := List.map_congr_left fun x _ => rfl
      rw [this, List.map_id]
    rwa [e] at this
theorem append_ints {xs ys : List V} {L : List Int} (h : xs ++ ys = L.map V.int) : ∃ a b, xs = a.map V.int ∧ ys = b.map V.int ∧ L = a ++ b := by
  obtain ⟨a, b, rfl, rfl, rfl⟩ := List.map_eq_append_iff.mp h.symm
  exact ⟨a, b, rfl, rfl, rfl⟩
/-- a ring of points, each carried to the next -/
theorem ring_perm {n : Nat} {r rest ns : List Int} (hp : (r ++ rest).Perm (rng n)) (hl : ns.length = n)
    (h1 : ∀ k, k < r.length → ∃ x y, r[k]? = some x ∧ r[(k + 1) % r.length]? = some y ∧ ns[x.toNat]? = some y) (h2 : ∀ p, p < n → (p : Int) ∉ r → ns[p]? = some (p : Int)) : ns.Perm (rng n) := by
  let f : Int → Int := fun x => (ns[x.toNat]?).getD 0
  have e : ns = (rng n).map f := by
    apply List.ext_getElem?
    intro i
    by_cases hi : i < n
    · rw [List.getElem?_map, rng_get hi]
      show _ = some ((ns[((i : Nat) : Int).toNat]?).getD 0)
      rw [Int.toNat_natCast, List.getElem?_eq_getElem (by omega)]
      rfl
    · rw [List.getElem?_eq_none (by omega), List.getElem?_eq_none (by simp [rng_len]; omega)]
  have nd : (r ++ rest).Nodup := (hp.nodup_iff).mpr (rng_nodup n)
  have er : rest.map f = rest := by
    have : rest.map f = rest.map id := List.map_congr_left fun x hx => by
      have hm := mem_rng.mp (hp.mem_iff.mp (List.mem_append_right r hx))
      have hr : x ∉ r := fun z => (List.nodup_append.mp nd).2.2 _ z _ hx rfl
      have := h2 x.toNat (by omega) (by rw [show ((x.toNat : Nat) : Int) = x by omega]; exact hr)
      show (ns[x.toNat]?).getD 0 = x
      rw [this]
      show ((x.toNat : Nat) : Int) = x
      omega
    rw [this, List.map_id]
  have err : (r.map f).Perm r := by
    cases r with
    | nil => exact .refl _
    | cons a t =>
      have : (a :: t).map f = t ++ [a] := by
        apply List.ext_getElem?
        intro k
        by_cases hk : k < t.length + 1
        · obtain ⟨x, y, e1, e2, e3⟩ := h1 k hk
          rw [List.getElem?_map, e1]
          show some ((ns[x.toNat]?).getD 0) = _
          rw [e3]
          show some y = _
          rw [← e2]
          by_cases hk2 : k < t.length
          · rw [List.getElem?_append_left hk2, List.length_cons, Nat.mod_eq_of_lt (by omega)]
            simp
          · have : k = t.length := by omega
            subst this
            rw [List.length_cons, Nat.mod_self]
            simp
        · rw [List.getElem?_eq_none (by simp; omega), List.getElem?_eq_none (by simp; omega)]
      rw [this]
      exact List.perm_append_singleton a t
  rw [e]
  refine (hp.symm.map f).trans ?_
  rw [List.map_append, er]
  exact (err.append_right rest).trans hp
theorem rev_perm {n : Nat} : ((rng n).map fun k => (n : Int) - 1 - k).Perm (rng n) := by
  have : ((rng n).map fun k => (n : Int) - 1 - k) = (rng n).reverse := by
    apply List.ext_getElem?
    intro i
    by_cases hi : i < n
    · rw [List.getElem?_map, rng_get hi, List.getElem?_reverse (by rw [rng_len]; exact hi), rng_len, rng_get (by omega)]
      simp only [Option.map_some]
      congr 1
      omega
    · rw [List.getElem?_eq_none (by simp [rng_len]; omega), List.getElem?_eq_none (by simp [rng_len]; omega)]
  rw [this]
  exact List.reverse_perm _
theorem rot_perm {n s : Nat} (hs : s ≤ n) : ((rng n).map fun k => (k + (s : Int)).fmod n).Perm (rng n) := by
  have : ((rng n).map fun k => (k + (s : Int)).fmod n) = (rng n).drop s ++ (rng n).take s := by
    apply List.ext_getElem?
    intro i
    by_cases hi : i < n
    · rw [List.getElem?_map, rng_get hi]
      simp only [Option.map_some]
      have ef : (((i : Nat) : Int) + s).fmod n = (((i + s) % n : Nat) : Int) := by
        rw [Int.fmod_eq_emod_of_nonneg _ (by omega)]
        push_cast
        rfl
      rw [ef]
      by_cases hk : i + s < n
      · rw [List.getElem?_append_left (by rw [List.length_drop, rng_len]; omega), List.getElem?_drop, rng_get (by omega), Nat.mod_eq_of_lt hk]
        congr 1
        omega
      · rw [List.getElem?_append_right (by rw [List.length_drop, rng_len]; omega), List.length_drop, rng_len, List.getElem?_take]
        rw [if_pos (by omega), rng_get (by omega)]
        congr 1
        have : (i + s) % n = i + s - n := by rw [Nat.mod_eq_sub_mod (by omega), Nat.mod_eq_of_lt (by omega)]
        omega
    · rw [List.getElem?_eq_none (by simp [rng_len]; omega), List.getElem?_eq_none (by simp [rng_len]; omega)]
  rw [this]
  exact List.perm_append_comm.trans (by rw [List.take_append_drop])
theorem sub_perm {α : Type} [DecidableEq α] : ∀ {R xs : List α}, R.Nodup → (∀ a ∈ R, a ∈ xs) → xs.length ≤ R.length → xs.Perm R
  | [], xs, _, _, hl => by
    have : xs = [] := List.eq_nil_of_length_eq_zero (by simpa using hl)
    rw [this]
  | a :: R, xs, nd, h, hl => by
    have ha := h a List.mem_cons_self
    have e := List.perm_cons_erase ha
    have nd' := List.nodup_cons.mp nd
    refine e.trans (.cons a (sub_perm nd'.2 (fun b hb => ?_) ?_))
    · have : b ≠ a := fun z => nd'.1 (z ▸ hb)
      exact (List.mem_erase_of_ne this).mpr (h b (List.mem_cons_of_mem _ hb))
    · have := e.length_eq
      simp only [List.length_cons] at this hl
      omega
theorem eqvAll_ints : ∀ a b : List Int, PyData.eqvAll (a.map .int) (b.map .int) = decide (a = b)
  | [], [] => rfl
  | [], _ :: _ => by simp [PyData.eqvAll]
  | _ :: _, [] => by simp [PyData.eqvAll]
  | x :: a, y :: b => by
    simp only [List.map_cons, PyData.eqvAll, PyData.eqv, eqvAll_ints a b]
    by_cases h : x = y <;> simp [h]
theorem eqv_ints (a b : List Int) : PyData.eqv (.list (a.map .int)) (.list (b.map .int)) = decide (a = b) := by
  simp only [PyData.eqv, eqvAll_ints]
theorem eqv_intsT (a b : List Int) : PyData.eqv (.tuple (a.map .int)) (.tuple (b.map .int)) = decide (a = b) := by
  simp only [PyData.eqv, eqvAll_ints]
theorem lay_ints : ∀ a : List Int, PyData.canLayAll0 (a.map .int) = true
  | [] => rfl
  | x :: a => by simp only [List.map_cons, PyData.canLayAll0, PyData.canLay0, lay_ints a, Bool.and_self]
theorem depth_ints : ∀ a : List Int, PyData.depthAll (a.map .int) ≤ 1
  | [] => by simp [PyData.depthAll]
  | x :: a => by
    have := depth_ints a
    simp only [List.map_cons, PyData.depthAll, PyData.depth]
    omega
theorem shaped_ints (a : List Int) : SeqAt.shaped (.list (a.map .int)) = true := by
  have := depth_ints a
  unfold SeqAt.shaped
  rw [Bool.and_eq_true, decide_eq_true_eq]
  refine ⟨lay_ints a, ?_⟩
  simp only [PyData.depth]
  omega
theorem shaped_intsT (a : List Int) : SeqAt.shaped (.tuple (a.map .int)) = true := by
  have := depth_ints a
  unfold SeqAt.shaped
  rw [Bool.and_eq_true, decide_eq_true_eq]
  refine ⟨lay_ints a, ?_⟩
  simp only [PyData.depth]
  omega
theorem dpAll_ints {K : PySem.W.Frag} {H : Hp} : ∀ a : List Int, DpAll K H (a.map V.int) (a.map .int)
  | [] => .nil
  | x :: a => .cons (.int x) (dpAll_ints a)
theorem perm_sorted_eq : ∀ {a b : List Int}, a.Perm b → a.Pairwise (· ≤ ·) → b.Pairwise (· ≤ ·) → a = b := by
  intro a b h ha hb
  exact h.eq_of_pairwise (fun x y _ _ h1 h2 => Int.le_antisymm h1 h2) ha hb
theorem rng_sorted (n : Nat) : (rng n).Pairwise (· ≤ ·) := by
  unfold rng
  rw [List.pairwise_map]
  exact List.pairwise_lt_range.imp fun h => by omega
theorem dw_ints {E : List Addr} {H : Hp} : ∀ {ns : List Int} {ds : List PyData} {n : Nat}, DwAll E H (ns.map V.int) ds n → ds = ns.map .int
  | [], _, _, .nil => rfl
  | x :: ns, _, _, .cons a b => by
    cases a with
    | lf l => cases l; rw [dw_ints (ns := ns) b]; rfl
theorem dw_ints' {E : List Addr} {H : Hp} : ∀ {ns : List Int} {xs : List V} {n : Nat}, DwAll E H xs (ns.map .int) n → xs = ns.map V.int
  | [], _, _, .nil => rfl
  | x :: ns, _, _, .cons a b => by
    cases a with
    | lf l => cases l; rw [dw_ints' (ns := ns) b]; rfl
/-- is such data a move -/
def IsMoveP (d : PyData) : Prop := ∃ ns : List Int, d = .tuple (ns.map .int) ∧ ns.length ≤ 12 ∧ ns.Perm (rng ns.length)
open Classical in
noncomputable def isMoveD (d : PyData) : Bool := decide (IsMoveP d)
theorem isMove_t {d : PyData} (h : IsMoveP d) : isMoveD d = true := by unfold isMoveD; exact @decide_eq_true _ (Classical.propDecidable _) h
theorem isMove_f {d : PyData} (h : ¬ IsMoveP d) : isMoveD d = false := by unfold isMoveD; exact @decide_eq_false _ (Classical.propDecidable _) h

/-! ## HoE -/
section
variable {M : Model} {prog : Program} {w : World} {A : Around} {E : Value → Shared → Prop} {h : Heap} {g : Array GenState} {d : Drawn} {t : Nat} {os : OsState}
/-- a bound ValueError.__init__ called -/
theorem call_mw {nm q : Str} {C N : Addr} {bs bm : List Value} {hdct : Bool} {sn : List Str} {sub : List Value} {ab : Bool} {col : Option Bool} {dd : Option Addr} {k0 k1 k2 k3 k5 : Option Value} {u e t0 : Addr} {rest : List Value} {Q : Value → Shared → Prop}
    (hC : h.get? C = some (excClassObj nm q C N bs bm hdct sn sub ab col dd k0 k1 k2 k3 k5 "ValueError.__new__")) (he : h.get? e = some (PySem.HandSPX.excO C t0)) (hu : h.get? u = some (PySem.W.kxs_mw "ValueError.__init__" e)) (hz : rest.length ≤ sizeLine)
    (hq : ∀ h' t1, (∀ b o, b ≠ e → h.get? b = some o → h'.get? b = some o) → h'.get? e = some (PySem.HandSPX.excO C t1) → Q .none ⟨h', g, d, t, os⟩) :
    wpAny (model prog w) A (call (.ref u) rest) Q E ⟨h, g, d, t, os⟩ := by
  refine wpAny_call (codeAny_of_tree ?_)
  show wpAny _ A.in1 (callAny (.ref u) ⟨rest, []⟩) _ _ _
  simp only [callAny]
  refine wpAny_bind (wpAny_load hu ?_)
  simp only [show (Value.type "method-wrapper" == Value.type "method" || Value.type "method-wrapper" == Value.type "builtin_function_or_method" || Value.type "method-wrapper" == Value.type "method-wrapper") = true by decide, if_true]
  refine PySem.W.KFB.if_so (by decide) ?_
  refine wpAny_bind (PySem.W.check_bound_init F.excBase_ValueError.toExcCallFacts hC he rfl ?_)
  refine wpAny_bind (wpAny_pure (wpAny_pure ?_))
  refine ⟨plainId_quiet F.excBase_ValueError.init.plain _, codeAny_builtin F.excBase_ValueError.initEntry ?_⟩
  exact PySem.W.exc_init_tree (cls := .ref C) (t0 := t0) (dv := none) (c2 := .none) (c3 := .none) (b4 := .bool false) he hz fun h' k e' _ => hq h' _ k e'
end

section
open NdefX
/-- what the written part says of an __init__ with super() in it -/
structure SupTxt (P : Program) (K : PySem.W.Frag) (mg : Str → Option Value) (C f c cda : Addr) (name qual : Str) (params : Arguments) (body : List Stmt) (scope : Scope) (fd : FuncData) : Prop where
  lk : ∃ (oc : Value) (od : Option Addr) (dV kV doc pm ct : Value) (an : Option Addr) (osl : Array (Option Value)), fd = PySem.W.ksFn name qual params body scope dV kV doc pm an (.ref cda) ct c ∧ K.lookup f = some ⟨oc, od, .func fd, osl⟩
  hcd : PySem.W.codeIn K (.ref cda) qual = true
  hco : ∃ (ccl : Value) (cdd : Option Addr) (vs : Array Value) (ccs : Array (Option Value)) (file : Str) (tf : Tok), K.lookup cda = some ⟨ccl, cdd, .fields vs, ccs⟩ ∧ vs[2]? = some (.str file tf) ∧ ((P.main.file : Str) == file) = true
  hcell : ∃ (cl : Value) (cld : Option Addr) (csl : Array (Option Value)), K.lookup c = some ⟨cl, cld, .cell (some (.ref C)), csl⟩
  hsu : mg "super" = none
  htop : (P.main.scope.names.lookup ("super" : Str)).isSome = false
  T : OexC K C
  hm : PySem.W.ks_superIn K C C "__init__" = some (some (.builtin "ValueError.__init__"))
  hB : PySem.W.subIn K (.ref C) (.type "ValueError") = some true
  hop : PySem.W.nsIn K cStatics "thirdparty.any" = some none
  hself : PySem.W.mroIn K C (.ref C) = some true

def sNF (name qual : Str) (params : Arguments) (body : List Stmt) (scope : Scope) (c cda : Addr) : NF := ⟨name, qual, params, body, scope, [("__class__", c)], cda⟩

theorem in_base {K : PySem.W.Frag} {mg : Str → Option Value} {base : Heap} {P : Program} {w : World} {A : Around} {outer : List Env} {s : Shared} {H : Hp} (e0 : Env0 P w K mg base A outer s H) {a : Addr} {o : Obj} (e : K.lookup a = some o) : s.heap.get? a = some o ∧ H a = none :=
  e0.bs a o (e0.mod.kin _ _ e)

theorem fn_super {CX : CXT} {P : Program} {w : World} {K : PySem.W.Frag} {mg : Str → Option Value} {base : Heap} {k : Nat} {C f c cda : Addr} {name qual : Str} {params : Arguments} {body rest : List Stmt} {scope : Scope} {fd : FuncData} {N ps : List Str} {sp : Sp} {ar : Arg} {e : Expr} {p0 p1 p2 p3 p4 : Pos}
    (D : SupTxt P K mg C f c cda name qual params body scope fd) (S : NScope N ps ["__class__"] scope) (hp : (params.posonlyargs ++ params.args).head? = some ar) (har : ∃ pr, ps = ar.arg :: pr) (hnd : ps.Nodup)
    (hbo : body = .Expr (.Call (.Attribute (.Call (.Name "super" p0) [] [] p1) "__init__" p2) [e] [] p3) p4 :: rest) (hks : scope.names.lookup ("super" : Str) = some .globalImplicit)
    (hev : ∀ env : Env, eval (.Call (.Attribute (.Call (.Name "super" p0) [] [] p1) "__init__" p2) [e] [] p3) env = (do
      let ov ← attributeBase (.Call (.Name "super" p0) [] [] p1) "__init__" env (eval (.Call (.Name "super" p0) [] [] p1) env)
      standAt p2.atName
      let (f, first) ← holding [ov] (getMethod ov "__init__" (pure false))
      callWith p3 f first (backTo p3 (starEach [e] env)) [])) (hse : ∀ env : Env, starEach [e] env = (false, eval e env) :: starEach [] env) (hsw : ∀ env : Env, swapsWith (.Call (.Attribute (.Call (.Name "super" p0) [] [] p1) "__init__" p2) [e] [] p3) none p4.line env = pure false)
    (len : ∀ vs H Q E, sp vs H Q E → vs.length = ps.length)
    (hbody : ∀ (A : Around) (outer : List Env) (s : Shared) (H : Hp) (vs : List V) (ws : List (Option V)) (Q : VK) (E : XK), Room k (A.deeper (envF (sNF name qual params body scope c cda) f s.heap.objs.size)) → ws.length = 1 → sp vs H Q E →
      ∃ (x : Addr) (us : List V) (ta : TA) (t : TS), vs = .ref x :: us ∧ H x = some (exo x C none) ∧ PA (ncx CX P w K mg base N (sNF name qual params body scope c cda) f A outer s H E) [e] ta ∧ PSs (ncx CX P w K mg base N (sNF name qual params body scope c cda) f A outer s H E) rest t ∧
        ta (startF N vs ws) H fun vs1 H1 => vs1.length ≤ 1000 ∧ H1 x = some (exo x C none) ∧ t { nx := fun _ H' => Q .non H', rt := Q } (startF N vs ws) H1) :
    FnOk P w K mg base CX (k + 1) f fd ps sp := by
  refine ⟨len, fun A outer s H args us vs Q E hr e0 hb r hsp => ?_⟩
  have hl := len _ _ _ _ hsp
  obtain ⟨oc, od, dV, kV, doc, pm, ct, an, osl, rfl, lk⟩ := D.lk
  obtain ⟨ccl, cdd, fvs, ccs, file, tf, hcode, hvs, hfile⟩ := D.hco
  obtain ⟨cl, cld, csl, hcell⟩ := D.hcell
  have KX : K.In s.heap := e0.mod.kin.keeps fun b o e => (e0.bs b o e).1
  have lim : s.heap.NoLimit := e0.mod.nolimit.keeps fun b o e => (e0.bs b o e).1
  have Cc : CellsAt [("__class__", c)] ["__class__"] [none] s.heap H := by
    have hlook : ∀ (y : Str) (b : Addr), List.lookup y [(("__class__" : Str), c)] = some b → y = "__class__" ∧ b = c := fun y b z => by
      by_cases hy : y = "__class__"
      · subst hy
        simp [List.lookup] at z
        exact ⟨rfl, z.symm⟩
      · have hy' : (y == ("__class__" : Str)) = false := by simpa using hy
        simp [List.lookup, hy'] at z
    refine ⟨rfl, fun y b z => ?_, fun y z b h1 h2 => ?_, fun i y hi => ?_⟩
    · obtain ⟨rfl, rfl⟩ := hlook y b z
      exact ⟨(in_base e0 hcell).2, _, _, (in_base e0 hcell).1, rfl⟩
    · exact (hlook _ _ h1).1.trans (hlook _ _ h2).1.symm
    · cases i with
      | succ i => simp at hi
      | zero =>
        simp at hi
        subst hi
        exact ⟨c, by simp [List.lookup], fun v z => by simp at z⟩
  refine PySem.ks_codeAny_call_defAt (body := body) (binds := ps.zip us) hr.depth (KX _ _ lk) rfl lim (PySem.W.codeRec_of KX D.hcd) rfl hb S.nocell (fun y hy => S.par y.1 (List.of_mem_zip hy).1) (fun h₁ hns kp => ?_) S.co S.gen S.kind
  obtain ⟨x, us', te, ts, ev, ex, he, ht, hq⟩ := hbody A outer s H vs [none] Q E (hr.deeper _) rfl hsp
  have I : Inv (ncx CX P w K mg base N (sNF name qual params body scope c cda) f A outer s H E) [] (startF N vs [none]) H { s with heap := h₁, toks := s.toks + (ps.zip us).length } := inv_startN (F := sNF name qual params body scope c cda) S hr.hd e0 hl r Cc hns kp
  subst ev
  subst hbo
  obtain ⟨pr, hps⟩ := har
  subst hps
  cases r with
  | @cons _ u0 _ ur ra rw' =>
  obtain rfl : u0 = Value.ref x := ra
  obtain ⟨nm, q, N', bs, bm, sn, sub, ab, col, dd, k0, k1, k2, k3, k5, hC, hbm⟩ := D.T.cls
  have hcl : PySem.W.clsIn K C = some { name := nm, bases := bs, mro := .ref C :: bm, ns := N', qualname := q, hasDict := true, slotNames := sn, subclasses := sub, abstract := ab, collection := col, hasDel := false } := by unfold PySem.W.clsIn; rw [hC] <;> rfl
  obtain ⟨t1, ho⟩ := exo_at I.hok ex
  have K1 : K.In h₁ := KX.keeps kp
  have hself : (((ar.arg :: pr).zip (Value.ref x :: ur)).reverse.lookup ar.arg) = some (.ref x) := zip_look (i := 0) hnd rfl rfl
  have hCo := K1 _ _ hC
  have II : PySem.W.InstAt h₁ x { cls := .ref C, dict := none, data := .fields #[.ref t1, .none, .none, .none, .bool false, .none] } C none := ⟨ho, rfl, rfl, True.intro⟩
  show _root_.PySem.wpAt _ _ _ (execs (_ :: rest) (PySem.W.envX qual scope s.heap.objs.size f (.ref cda) [("__class__", c)])) _ _ _
  refine PySem.ks_wpAt_execs_cons (PySem.ks_wpAt_Expr_any (PySem.ks_wpAt_MethodCall (pl := pure false) ?_ (hev _)) I.quiet ?_)
  · refine PySem.ks_wpAt_super_base (env := PySem.W.envX qual scope s.heap.objs.size f (.ref cda) [("__class__", c)]) hks (S.frk _ (by simp)) (by decide) rfl (K1 _ _ lk) rfl hp rfl (K1 _ _ hcode) rfl hvs hfile D.htop ?_
    obtain ⟨mb, m1, m2⟩ := e0.mod.blt
    refine PySem.W.ks_loadName_global S.kind hks (Calls.loadGlobal_builtin (mg := mg) (mb := mb) (v := .type "super") ?_ D.hsu ?_ ((m2 "super" (by decide)).trans rfl) ⟨rfl, ?_⟩)
    · exact I.ok.glob ▸ I.mod.glob.keeps I.bk
    · exact I.ok.blt ▸ m1.keeps I.bk
    refine wpAny_loadName_free S.kind (S.frk _ (by simp)) rfl ⟨_, K1 _ _ hcell, rfl⟩ ?_
    refine wpAny_loadName_local S.kind (S.par _ (by simp)) hns hself ?_
    refine PySem.ks_wpAny_isType_cls hCo rfl ⟨rfl, ?_⟩
    refine PySem.ks_wpAny_call_super hCo rfl ho rfl (fun _ z => by cases z) (PySem.W.looks_mroIn K1 D.hself) (fun h2 e2 k2 => ?_)
    have K2 : K.In h2 := K1.keeps k2
    have I2 := I.kept (t' := s.toks + (((ar.arg :: pr).zip (Value.ref x :: ur))).length) k2
    have hne : x ≠ C := fun z => by
      have q1 := (in_base e0 hC).2
      rw [← z, ex] at q1
      cases q1
    have II2 : PySem.W.InstAt h2 x { cls := .ref C, dict := none, data := .fields #[.ref t1, .none, .none, .none, .bool false, .none] } C none := ⟨k2 _ _ ho, rfl, rfl, True.intro⟩
    have hm' : PySem.W.alongIn K "__init__" (((Value.ref C :: bm).dropWhile (· != .ref C)).drop 1) = some (some (.builtin "ValueError.__init__")) := by
      have q := D.hm
      unfold PySem.W.ks_superIn at q
      rw [hcl] at q
      exact q
    refine PySem.W.kxs_getMethod PySem.W.kxs_ValueError e2 (PySem.W.looks_opaque K2 D.hop) (l₀ := .ref C :: bm) ((PySem.W.looks_clsIn K2 hcl).andThen .now) rfl K2 hm' (II2.type.andThen (PySem.W.looks_subIn K2 D.hB)) hne (by decide) ?_
    have I3 := I2.kept (h' := h2.push (PySem.W.kxs_mw "ValueError.__init__" x)) (t' := s.toks + (((ar.arg :: pr).zip (Value.ref x :: ur))).length + 1) (fun b u q => Heap.get?_push_of_some _ q)
    have hu3 : (h2.push (PySem.W.kxs_mw "ValueError.__init__" x)).get? h2.objs.size = some (PySem.W.kxs_mw "ValueError.__init__" x) := Heap.get?_push_at rfl rfl
    have I4 := I3.pins_of (pins' := [(h2.objs.size, PySem.W.kxs_mw "ValueError.__init__" x)]) (fun p hp => by
      obtain rfl := List.mem_singleton.mp hp
      exact ⟨hu3, I2.hok.fresh (Nat.le_refl _), Nat.ne_of_gt I2.lt, I2.nofs (Nat.le_refl _), fun v z => by cases z⟩)
    show wpAny _ _ (callWith p3 (.ref h2.objs.size) [] (backTo p3 (starEach [e] _)) []) _ _ _
    rw [hse]
    refine PySem.W.kxs_callWith (i := "ValueError.__init__") (x := x) rfl (Calls.evalArgs_plain ?_)
    have hrun := he.run p3 _ _ _ H _ I4 hq
    rw [hse] at hrun
    refine wpAny_mono hrun (fun us1 s1 hh => ?_) fun _ _ z => z
    obtain ⟨vs1, H1, J1, r1, hv1, ex1, q1⟩ := hh
    obtain ⟨hp1, g1, d1, tk1, os1⟩ := s1
    have hC1 := J1.kIn _ _ hC
    obtain ⟨t2, ho1⟩ := exo_at J1.hok ex1
    have hu1 := (J1.pin (h2.objs.size, PySem.W.kxs_mw "ValueError.__init__" x) (by simp)).1
    refine ⟨hu1, ?_⟩
    have hlen : us1.length ≤ sizeLine := by
      have e1 := Paired.length r1
      rw [← e1, sizeLine_eq]
      omega
    refine call_mw hC1 ho1 hu1 hlen (fun h4 t4 k4 hx4 => ?_)
    have J4 := J1.write (t' := tk1) (x := x) (e := x) (o := exo x C none) (by rw [ex1]; exact True.intro) (.inl rfl) k4 ⟨_, hx4⟩ (exo_ok hx4)
    have eu : upd H1 x (exo x C none) = H1 := by
      funext b
      by_cases hb : b = x
      · rw [hb, upd_same, ex1]
      · rw [upd_ne hb]
    rw [eu] at J4
    have J5 := J4.pins_of (pins' := []) (fun p hp => by cases hp)
    refine PySem.wpAt_of_wpAny ?_
    refine wpAny_mono (ht.run [] _ _ H1 _ J5 q1) (fun fl s' hs => ?_) fun _ _ z => z
    cases fl with
    | ret u =>
      obtain ⟨v, σ', H', J, rv, q⟩ := hs
      exact ⟨v, H', J.os, J.bare, J.base, J.hok, rv, q⟩
    | next =>
      obtain ⟨σ', H', J, q⟩ := hs
      exact ⟨.non, H', J.os, J.bare, J.base, J.hok, rfl, q⟩
    | brk =>
      obtain ⟨_, _, _, q⟩ := hs
      exact False.elim q
    | cont =>
      obtain ⟨_, _, _, q⟩ := hs
      exact False.elim q
  · exact hsw _
end

/-! ## HoX -/
section
open HotX
variable {prog : Program} {w : World} {A : Around} {E : Value → Shared → Prop} {s : Shared}
/-- the end of a list's walk, an exception being handled -/
theorem list_end_hot {it l x1 : Addr} {i : Nat} {items : Array Value} {Q : Option Value → Shared → Prop} (hot : HotAt A x1 s.heap) (hit : s.heap.IsListIter it l i) (hl : s.heap.IsList l items) (hx : items[i]? = none) (hne : x1 ≠ it)
    (hQ : ∀ h', (∀ b o, b ≠ it → s.heap.get? b = some o → h'.get? b = some o) → Q none { s with heap := h' }) : wpAny (model prog w) A (pyNext (.ref it)) Q E s := by
  obtain ⟨o, ho, hc, hd⟩ := id hit
  obtain ⟨ol, hol, _, nl, hdl⟩ := hl
  obtain ⟨hh, o1, vs1, h1, d1, c1⟩ := hot
  unfold pyNext
  refine wpAny_bind (wpAny_attempt (wpAny_callSpecial?_slot (name := Str.ofString "__next__") hit.typeIs slot_listiter_next (wpAny_call_entry slot_listiter_next hit.typeIs entry_listiter_next ?_ (args_listiter_next _))))
  show wpAny _ _ (field (.ref it) 0 >>= _) _ _ s
  refine wpAny_bind (wpAny_field ho hd (x := .ref l) rfl ?_)
  show wpAny _ _ (if (Value.ref l == Value.none) = true then _ else _) _ _ s
  rw [if_neg (show ¬ ((Value.ref l == Value.none) = true) from Bool.false_ne_true)]
  show wpAny _ _ (field (.ref it) 1 >>= _) _ _ s
  refine wpAny_bind (wpAny_field ho hd (x := .int i 0) rfl ?_)
  show wpAny _ _ (seqItems? (.ref l) >>= _) _ _ s
  refine wpAny_bind (wpAny_seqItems hol hdl ?_)
  simp only [Int.toNat_natCast, hx]
  refine wpAny_bind (wpAny_rule (wpAny_bind (wpAny_setField ho hd (by simp) ?_)))
  show wpAny _ _ (newExc (.type "StopIteration") [] >>= _) _ _ _
  refine wpAny_bind ?_
  simp only [newExc, newTuple]
  refine wpAny_bind (wpAny_newObj_type ?_ (by size_fits))
  refine wpAny_bind (m := firstArgMember _ _) (wpAny_of_eq (a := Value.none) (by first | rfl | (simp only [firstArgMember]; rfl)) ?_)
  refine wpAny_newObj_type ?_ (by size_fits)
  have h1' : (s.heap.update it (Obj.mapFields (·.setIfInBounds 0 .none))).get? x1 = some o1 := (Heap.get?_update_other _ _ (Ne.symm hne)).trans h1
  refine raiseNew_hot ⟨hh, o1, vs1, Heap.get?_push_of_some _ (Heap.get?_push_of_some _ h1'), d1, c1⟩ (Nat.ne_of_lt (Heap.lt_size (Heap.get?_push_of_some _ h1'))) (Heap.get?_push_size _ rfl) rfl (by first | (simp; done) | (simp; omega) | (simp only [Array.size_append]; simp; omega)) ?_
  refine wpAny_bind (wpAny_isInstance (T := "StopIteration") (b := true) ⟨_, Heap.get?_update_self _ (Heap.get?_push_size _ rfl) rfl, rfl⟩ isSubtype_stop ?_)
  refine wpAny_pure (hQ _ fun b o hb e => ?_)
  have e' : (s.heap.update it (Obj.mapFields (·.setIfInBounds 0 .none))).get? b = some o := (Heap.get?_update_other _ _ (Ne.symm hb)).trans e
  rw [Heap.get?_update_other _ _ (Nat.ne_of_gt (Heap.lt_size (Heap.get?_push_of_some _ e')))]
  exact Heap.get?_push_of_some _ (Heap.get?_push_of_some _ e')
end
section
open HotX L2H
theorem turn_listH {P : Program} {w : World} {K : PySem.W.Frag} {tg : Expr} (a it : Addr) : TurnH P w K tg (Itl K a) [it] it (fun i h => h.IsListIter it a i) where
  mem := List.mem_singleton.mpr rfl
  obj := fun i h st b hb => by
    obtain rfl := List.mem_singleton.mp hb
    obtain ⟨o, e, _, d⟩ := st
    exact ⟨o, e, fun v z => by rw [d] at z; cases z⟩
  keep := fun i h h' st k => st.at fun o e => k it (List.mem_singleton.mpr rfl) o e
  item := fun X hP hw hK hc i pins s σ H E I hf st hg => by
    subst hP hw hK
    obtain ⟨xs, x, hq, hx⟩ := hg
    obtain ⟨its, rv, p, hz⟩ := I.list hq
    obtain ⟨u, hu, ru⟩ := rv.get hx
    have F := hf it (List.mem_singleton.mpr rfl)
    refine wpAny_pyNext_list_item st p.isList (x := u) (by simpa using hu) fun h' st' sb => ?_
    have I1 : Inv X pins σ H { s with heap := h' } := I.turned (t' := s.toks) (fun b o hb e => (sb.2 b hb).trans e) F.1 F.2.1 F.2.2.2.1 F.2.2.2.2.1 F.2.2.2.2.2
    obtain ⟨o, e, c, d⟩ := id st'
    exact ⟨u, rfl, go_of (s := { s with heap := h' }) e c d (by decide) ⟨x, H, I1, ru, ⟨rfl, fun ys hy => (I.list_inj hy hq) ▸ hx⟩, st', fun b hb => (hf b hb).1⟩⟩
  done := fun X hP hw hK hc i pins s σ H E I hf st hg => by
    subst hP hw hK
    obtain ⟨xs, hq, hx⟩ := hg
    obtain ⟨its, rv, p, hz⟩ := I.list hq
    have F := hf it (List.mem_singleton.mpr rfl)
    have hl := rv.length
    obtain ⟨q, ⟨hh, v1, e1, c1⟩, hq1⟩ := hc
    have P1 := (I.pin q (List.mem_append_left _ hq1)).1
    exact list_end_hot ⟨hh, q.2, v1, P1, e1, c1⟩ st p.isList (by simp; omega) (F.2.2.2.2.2 q (List.mem_append_left _ hq1)) fun h' eb => ⟨rfl, I.turned (t' := s.toks) eb F.1 F.2.1 F.2.2.2.1 F.2.2.2.2.1 F.2.2.2.2.2⟩
  self := fun _ _ _ _ _ st h => wpAny_pyIter_listiter st h
end
section
open HotX L2H
variable {X : Cx}
theorem pi_listH {tg l : Expr} {tl : TE} (hl : PE X l tl) : PIH X tg l (iList X.K tl) := by
  refine ⟨fun pins s σ H R I h => thn (hl.run pins s σ H _ I h) fun v s1 ⟨x, H1, I1, r1, a, e, ⟨xs, hq⟩, q⟩ => ?_⟩
  subst e
  cases r1
  obtain ⟨its, rv, p, hz⟩ := I1.list hq
  refine wpAny_pyIter_list p.isList ⟨s1.heap.objs.size, [s1.heap.objs.size], _, _, H1, rfl, I1.kept (t' := s1.toks) fun b o e => Heap.get?_push_of_some _ e, turn_listH a _, ⟨_, Heap.get?_push_size _ rfl, rfl, rfl⟩, fun b hb => ?_, q⟩
  obtain rfl := List.mem_singleton.mp hb
  exact I1.fpOk (Nat.le_refl _) (I1.hok.fresh (Nat.le_refl _))
/-- the block of a comprehension, the pins of what is handled kept -/
abbrev Cx.blkH (X : Cx) (s : Shared) (H : Hp) (scope : Scope) (cl : List (Str × Addr)) (C : Addr) (fp : List Addr) (p : Addr × Obj) : Cx := (X.blk s H scope (compEnvC scope cl C X.env) fp).tr [p] (fun _ _ => False)
/-- [e for y in l if c], l a list; acc i: what is kept behind i turns -/
def tLcH (K : PySem.W.Frag) (tl : TE) (g : TG) (tt : TT) (te : TE) (vs : List Nat) : TE := fun σ H Q => tl σ H fun x H1 => ∃ (a : Addr) (xs : List V), x = .ref a ∧ SqL K H1 a xs ∧ ∀ D, H1 D = none → ∃ acc : Nat → List V, acc 0 = [] ∧
  (∀ i y, xs[i]? = some y → (acc i).length < sizeLine ∧ g y (wipe σ vs) (upd H1 D (.lst (acc i))) fun σ2 H2 => wipe σ2 vs = wipe σ vs ∧ tt σ2 H2 fun b H3 => if b = true then te σ2 H3 fun z H4 => H4 = upd H1 D (.lst (acc i)) ∧ acc (i + 1) = acc i ++ [z] else H3 = upd H1 D (.lst (acc i)) ∧ acc (i + 1) = acc i) ∧
  Q (.ref D) (upd H1 D (.lst (acc xs.length)))
theorem pe_lcH {elt tg l : Expr} {ifs : List Expr} {scope : Scope} {own : List (Str × Nat)} {pos : Pos} {tl : TE} {g : TG} {tt : TT} {te : TE} (hc : HotC X) (hN : X.N.Nodup) (hl : PE X l tl) (ok : BlkOk X.N X.env.scope scope own)
    (hg : ∀ s H C cl fp p, PG (Cx.blkH X s H scope cl C fp p) tg g) (ht : ∀ s H C cl fp p, PTs (Cx.blkH X s H scope cl C fp p) ifs tt) (he : ∀ s H C cl fp p, PE (Cx.blkH X s H scope cl C fp p) elt te)
    (hs : ∀ x, foldedSetIterable l X.env x = pure x := by intro _; rfl) : PE X (.ListComp elt [⟨tg, l, ifs, 0⟩] scope pos) (tLcH X.K tl g tt te (own.map (·.2))) := by
  refine ⟨fun pins s σ H Q I h => ?_⟩
  obtain ⟨p, hot, hpn⟩ := hc
  rw [eval_ListComp]
  have clo := closure_ok (env := X.env) (scope := scope) (fun y hy e => (ok.free y hy e).elim (fun k => I.ok.has _ (.inl k)) fun k => I.ok.has _ (.inr k))
  refine wpAny_comprehension_free (use := none) rfl hs clo ok.kind (fun y hy e => (ok.uniq y hy).trans (congrArg some e)) (thn (hl.run pins s σ H _ I h) fun v s1 ⟨x, H1, I1, r1, a, xs, ex, hq, q⟩ => ?_)
  subst ex
  cases r1
  obtain ⟨its, rv, pl, hz⟩ := I1.list hq
  refine wpAny_pyIter_list pl.isList ?_
  generalize hit : s1.heap.objs.size = it
  generalize hs2 : ({ s1 with heap := s1.heap.push { cls := .type "list_iterator", data := .fields #[.ref a, .int (0 : Nat) 0] } } : Shared) = s2
  have k2 : ∀ b o, s1.heap.get? b = some o → s2.heap.get? b = some o := fun b o e => by subst hs2; exact Heap.get?_push_of_some _ e
  have st2 : s2.heap.IsListIter it a 0 := by subst hs2 hit; exact ⟨_, Heap.get?_push_size _ rfl, rfl, rfl⟩
  have I2 : Inv X pins σ H1 s2 := by subst hs2; exact I1.kept (t' := s1.toks) fun b o e => Heap.get?_push_of_some _ e
  have fit : FpOk X pins H1 it := by subst hit; exact I1.fpOk (Nat.le_refl _) (I1.hok.fresh (Nat.le_refl _))
  refine wpAny_newObj_type (newEnv_comp ?_) (by show 0 ≤ sizeLine; decide)
  generalize hD : s2.heap.objs.size = D
  have hDn : H1 D = none := I2.hok.fresh (Nat.le_of_eq hD)
  have itD : it < D := by
    obtain ⟨o, e, _⟩ := st2
    rw [← hD]
    exact Heap.lt_size e
  obtain ⟨acc, a0, step, fin⟩ := q D hDn
  generalize hs3 : ({ s2 with heap := s2.heap.push { cls := .type "list", data := .seq ([] : List Value).toArray } } : Shared) = s3
  have k3 : ∀ b o, s2.heap.get? b = some o → s3.heap.get? b = some o := fun b o e => by subst hs3; exact Heap.get?_push_of_some _ e
  have I3 : Inv X pins σ (upd H1 D (.lst (acc 0))) s3 := by
    rw [a0]
    subst hs3 hD
    exact I2.laid (t' := s2.toks) (fun b o e => Heap.get?_push_of_some _ e) (Nat.le_refl _) ⟨Nat.zero_le _, [], 0, .nil, Heap.get?_push_size _ rfl⟩
  have n3 : ∀ acc : List V, (upd H1 D (.lst acc)) it = none := fun acc => by rw [upd_ne (Nat.ne_of_lt itD)]; exact fit.1
  have fit3 : FpOk X pins (upd H1 D (.lst (acc 0))) it := ⟨n3 _, fit.2⟩
  have it3 : it < s3.heap.objs.size := by
    obtain ⟨o, e, _⟩ := st2
    exact Heap.lt_size (k3 _ _ e)
  have qs : ∀ acc : List V, SqL X.K (upd H1 D (.lst acc)) a xs := fun acc => Same.seq (fun b o e => by rw [upd_ne (ne_of_none e hDn)]; exact e) hq
  have I4 := block_start I3 ok hN (fp := [it]) (fun b hb => by obtain rfl := List.mem_singleton.mp hb; exact ⟨fit3, it3⟩)
  have P3 := I3.pin p (List.mem_append_left _ hpn)
  have mo : ∀ {o : Obj}, s3.heap.get? p.1 = some o → (pushCells (s3.heap.push { cls := .type "dict", data := .dict #[] }) scope.names).get? p.1 = some o := fun e => pushCells_keeps _ _ _ _ (Heap.get?_push_of_some _ e)
  have I5 := (I4.pins_of (pins' := [p]) (fun b hb => by
    obtain rfl := List.mem_singleton.mp hb
    exact ⟨mo P3.1, P3.2.1, Nat.ne_of_lt (Heap.lt_size P3.1), fun hm => (List.mem_cons.mp (I3.stkSub _ hm)).elim P3.2.2.1 P3.2.2.2.1, P3.2.2.2.2⟩)).toTry (fun _ _ => False)
  have pg := hg s3 (upd H1 D (.lst (acc 0))) s3.heap.objs.size (cellsFrom (s3.heap.objs.size + 1) scope.names (cloFrom X.env.cells scope.names [])) [it] p
  have pt := ht s3 (upd H1 D (.lst (acc 0))) s3.heap.objs.size (cellsFrom (s3.heap.objs.size + 1) scope.names (cloFrom X.env.cells scope.names [])) [it] p
  have pe := he s3 (upd H1 D (.lst (acc 0))) s3.heap.objs.size (cellsFrom (s3.heap.objs.size + 1) scope.names (cloFrom X.env.cells scope.names [])) [it] p
  have I5' : Inv (Cx.blkH X s3 (upd H1 D (.lst (acc 0))) scope (cellsFrom (s3.heap.objs.size + 1) scope.names (cloFrom X.env.cells scope.names [])) s3.heap.objs.size [it] p) [] (wipe σ (own.map (·.2))) (upd H1 D (.lst (acc 0))) { s3 with heap := pushCells (s3.heap.push { cls := .type "dict", data := .dict #[] }) scope.names } := I5
  generalize hB : Cx.blkH X s3 (upd H1 D (.lst (acc 0))) scope (cellsFrom (s3.heap.objs.size + 1) scope.names (cloFrom X.env.cells scope.names [])) s3.heap.objs.size [it] p = B at pg pt pe I5'
  have hotB : HotC B := by subst hB; exact ⟨p, hot, List.mem_singleton.mpr rfl⟩
  have stB : ∀ {σ' : L2.St} {H' : Hp} {s' : Shared}, Inv B [] σ' H' s' → H' it = none → ∀ b ∈ [it], FpOk B [] H' b := fun {σ' H' s'} J hn b hb => by
    obtain rfl := List.mem_singleton.mp hb
    subst hB
    exact ⟨hn, (J.ok.exf b hb).1, J.ok.exfs b hb, .inl hb, (J.ok.exf b hb).2, fun r hr => by
      obtain rfl := List.mem_singleton.mp (by simpa using hr)
      exact fit3.2.2.2.2.2 r (List.mem_append_left _ hpn)⟩
  have st4 : (pushCells (s3.heap.push { cls := .type "dict", data := .dict #[] }) scope.names).IsListIter it a 0 := st2.at fun o e => pushCells_keeps _ _ _ _ (Heap.get?_push_of_some _ (k3 _ _ e))
  have T := turn_listH (P := X.prog) (w := X.w) (K := X.K) (tg := tg) a it
  have hpr : B.prog = X.prog := by subst hB; rfl
  have hw : B.w = X.w := by subst hB; rfl
  have hK : B.K = X.K := by subst hB; rfl
  have hA : B.A = X.A := by subst hB; rfl
  have hxe : B.xe = fun _ _ => False := by subst hB; rfl
  have hE : B.env = compEnvC scope (cellsFrom (s3.heap.objs.size + 1) scope.names (cloFrom X.env.cells scope.names [])) s3.heap.objs.size X.env := by subst hB; rfl
  have loop : codeAny (model X.prog X.w) X.A (.compLoop (.ListComp elt [⟨tg, l, ifs, 0⟩] scope pos) 0 (.ref it) (.ref D) (compEnvC scope (cellsFrom (s3.heap.objs.size + 1) scope.names (cloFrom X.env.cells scope.names [])) s3.heap.objs.size X.env)) (compPost (model X.prog X.w) X.A X.xe none (EP X pins σ Q) (.ref D) s3.heap.objs.size) { s3 with heap := pushCells (s3.heap.push { cls := .type "dict", data := .dict #[] }) scope.names } := by
    refine compLoop_any (fun n s' => ∃ i, i + n = xs.length ∧ Inv B [] (wipe σ (own.map (·.2))) (upd H1 D (.lst (acc i))) s' ∧ s'.heap.IsListIter it a i) ?_ xs.length ⟨0, by omega, I5', st4⟩
    rintro n s5 ⟨i, hi, J, st5⟩
    cases hx : xs[i]? with
    | none =>
      have td := T.done B hpr hw hK hotB i [] s5 _ _ (fun _ _ => False) J (stB J (n3 _)) st5 ⟨xs, hK ▸ qs _, List.getElem?_eq_none_iff.mp hx⟩
      rw [hA] at td
      refine thnF td fun r s6 ⟨hr, J6⟩ => ?_
      subst hr
      obtain rfl : i = xs.length := by have := List.getElem?_eq_none_iff.mp hx; omega
      subst hB
      have I7 : Inv X pins σ (upd H1 D (.lst (acc xs.length))) s6 := I3.call' (ch := [it]) J6.os J6.base J6.hok J6.bare fun b hb => by
        obtain rfl := List.mem_singleton.mp hb
        exact ⟨fit3.2.2.2.1, fit3.2.1, fit3.2.2.2.2.1, fit3.2.2.2.2.2⟩
      obtain ⟨m, hn, _⟩ := J6.loc
      have hC : (upd H1 D (.lst (acc xs.length))) s3.heap.objs.size = none := J6.free
      obtain ⟨f0, f1, f2, f3, f4, f5⟩ := I3.fpOk (Nat.le_refl _) hC
      exact ⟨m, hn, fun h'' sb => ⟨.ref D, _, I7.turned (t' := s6.toks) (fun b o hb e => (sb.2 b hb).trans e) f0 f1 f3 f4 f5, rfl, fin⟩⟩
    | some y =>
      have ti := T.item B hpr hw hK hotB i [] s5 _ _ (fun _ _ => False) J (stB J (n3 _)) st5 ⟨xs, y, hK ▸ qs _, hx⟩
      rw [hA] at ti
      refine thnF ti fun r s6 ⟨u, hr, h6⟩ => ?_
      subst hr
      refine thnF h6 fun _ s7 ⟨x, H7, J7, r7, ⟨e7, y7⟩, st7, n7⟩ => ?_
      subst e7
      obtain rfl : x = y := by
        have q1 := y7 xs (hK ▸ qs _)
        rw [hx] at q1
        exact (Option.some.inj q1).symm
      have J7' := J7.pinned (stB J7 (n3 _)) (T.obj _ _ st7)
      have back : ∀ {σ' : L2.St} {s' : Shared}, wipe σ' (own.map (·.2)) = wipe σ (own.map (·.2)) → Inv B ([] ++ pinsAt [it] s7.heap) σ' (upd H1 D (.lst (acc (i + 1)))) s' → ∃ m, m < n ∧ ∃ i, i + m = xs.length ∧ Inv B [] (wipe σ (own.map (·.2))) (upd H1 D (.lst (acc i))) s' ∧ s'.heap.IsListIter it a i := fun {σ' s'} hw' J' => by
        have hlt := (List.getElem?_eq_some_iff.mp hx).1
        refine ⟨n - 1, by omega, i + 1, by omega, ?_, T.keep _ _ _ st7 fun b hb o e => (J'.pin (b, o) (List.mem_append_right _ (List.mem_append_right _ (mem_pinsAt hb e)))).1⟩
        rw [← hw']
        exact (J'.unpinned (pins := [])).weak (wipe_length _ _) fun j v e => (wipe_some e).1
      obtain ⟨hz1, st1⟩ := step i x hx
      have rg := pg.run _ s7 _ _ x u _ J7' r7 st1
      rw [hpr, hw, hA, hxe, hE] at rg
      refine thnF rg fun _ s8 ⟨σ8, H8, J8, hw8, q8⟩ => ?_
      have rt := pt.run _ s8 σ8 H8 _ J8 q8
      rw [hpr, hw, hA, hxe, hE] at rt
      refine thnF rt fun b s9 ⟨H9, J9, q9⟩ => ?_
      cases b with
      | false =>
        obtain ⟨e9, ea⟩ := q9
        subst e9
        rw [← ea] at J9
        exact back hw8 J9
      | true =>
        have re := pe.run _ s9 σ8 H9 _ J9 q9
        rw [hpr, hw, hA, hxe, hE] at re
        refine thnF re fun z s10 ⟨yv, H10, J10, r10, e10, ea⟩ => ?_
        subst e10
        have ap := app_ok (X := B) (E := fun _ _ => False) J10 (D := D) (xs := acc i) upd_same hz1 r10 (Q := fun _ s' => ∃ m, m < n ∧ ∃ i, i + m = xs.length ∧ Inv B [] (wipe σ (own.map (·.2))) (upd H1 D (.lst (acc i))) s' ∧ s'.heap.IsListIter it a i) fun s11 J11 => back hw8 (by rw [ea]; rw [upd_upd] at J11; exact J11)
        rw [hpr, hw, hA] at ap
        exact thnF ap fun _ _ z => z
  exact codeAny_compStart_list loop (T.self X.A 0 _ _ _ st4 loop)
end

/-! ## HoY -/
section
open HotX L2H
/-- what a def promises where p is handled -/
abbrev HSp := Addr → Value → Option Addr → Sp
def ClH (P : Program) (w : World) (K : PySem.W.Frag) (mg : Str → Option Value) (base : Heap) (k : Nat) (x : Str) (ps : List Str) (sp : HSp) : Prop :=
  ∃ f fd, mg x = some (.ref f) ∧ PySem.W.keepIn K (.ref f) = true ∧ (∀ (s : Shared) (us : List Value), us.length = ps.length → BindsTo s fd ⟨us, []⟩ (ps.zip us)) ∧ (∀ a c d vs H Q E, sp a c d vs H Q E → vs.length = ps.length) ∧
    ∀ (A : Around) (outer : List Env) (s : Shared) (H : Hp) (us : List Value) (vs : List V) (Q : VK) (E : XK) (p : Addr × Obj) (cls : Value) (d : Option Addr), RoomH k A → Hot1 A p → PinOk outer H s p → Zc cls d p.2 → Env0 P w K mg base A outer s H → Vals vs us → sp p.1 cls d vs H Q E →
      codeAny (model P w) A (.call (.ref f) ⟨us, []⟩) (CR CX0 outer P w H s Q E) s
variable {P : Program} {w : World} {K : PySem.W.Frag} {mg : Str → Option Value} {base : Heap}
theorem ClH.mono {j k : Nat} {x : Str} {ps : List Str} {sp : HSp} (C : ClH P w K mg base j x ps sp) (h : j ≤ k) : ClH P w K mg base k x ps sp := by
  obtain ⟨f, fd, a, b, c, l, d⟩ := C
  exact ⟨f, fd, a, b, c, l, fun A outer s H us vs Q E p cls dd hr => d A outer s H us vs Q E p cls dd (hr.mono h)⟩
abbrev cxP (P : Program) (w : World) (K : PySem.W.Frag) (mg : Str → Option Value) (base : Heap) (N : List Str) (x : Str) (sc : Scope) (f : Addr) (cdv : Value) (A : Around) (outer : List Env) (s : Shared) (H : Hp) (E : XK) (p : Addr × Obj) : Cx := cxH CX0 P w K mg base N x sc f cdv A outer s H E p
theorem clH_of {x : Str} {st : Stmt} {N ps : List Str} {k : Nat} {sp : HSp} (D : Df K mg x st) (S : FnScope N ps (defScope st))
    (hb : ∀ (kV doc pm : Value) (an : Option Addr) (cdv ct : Value) (us : List Value), us.length = ps.length → bindArgs (PySem.W.fnOf x x (defArgs st) (defBody st) (defScope st) .none kV doc pm an cdv ct) ⟨us, []⟩ = pure (ps.zip us))
    (len : ∀ a c d vs H Q E, sp a c d vs H Q E → vs.length = ps.length)
    (hbody : ∀ (f : Addr) (cdv : Value) (A : Around) (outer : List Env) (s : Shared) (H : Hp) (vs : List V) (Q : VK) (E : XK) (p : Addr × Obj) (cls : Value) (d : Option Addr), Hot1 (A.deeper (envOfC x (defScope st) s.heap.objs.size f cdv)) p → Zc cls d p.2 → HotC (cxP P w K mg base N x (defScope st) f cdv A outer s H E p) → RoomH k (A.deeper (envOfC x (defScope st) s.heap.objs.size f cdv)) → sp p.1 cls d vs H Q E →
      ∃ t, PSs (cxP P w K mg base N x (defScope st) f cdv A outer s H E p).nox (defBody st) t ∧ t { nx := fun _ H' => Q .non H', rt := Q } (L2.start N vs) H) : ClH P w K mg base (k + 1) x ps sp := by
  obtain ⟨f, fd, F, g⟩ := D
  refine ⟨f, fd, g, F.kp, F.bindsA hb, len, fun A outer s H us vs Q E p cls dd hr hot hpin hz e0 r hsp => ?_⟩
  obtain ⟨oc, od, dV, kV, doc, pm, an, cdv, ct, osl, rfl, lk, hcd, _, _⟩ := F.ex
  have hl := len _ _ _ _ _ _ _ hsp
  have kp : ∀ b o, base.get? b = some o → s.heap.get? b = some o := fun b o e => (e0.bs b o e).1
  have hul : us.length = ps.length := by rw [← r.length]; exact hl
  refine codeAny_call_function hr.depth (kp _ _ (e0.mod.kin _ _ lk)) rfl S.co S.gen rfl (PySem.W.codeRec_of (e0.mod.kin.keeps kp) hcd) ?_
  refine F.bindsA hb s us hul _ _ _ _ (wpAny_newFunctionEnv_cells S.kind (fun ⟨n, v⟩ hy => (S.par n (List.of_mem_zip hy).1).imp id fun q => ⟨q, PySem.W.cellsFrom_some _ _ _ (.inl q)⟩) fun env he s1 x => ?_)
  subst he
  refine ⟨(e0.mod.nolimit.keeps kp).keeps x.toInCall.keep, codeAny_func ?_⟩
  obtain ⟨t, ht, hq⟩ := hbody f cdv A outer s H vs Q E p cls dd hot hz ⟨p, hot, List.mem_singleton.mpr rfl⟩ (hr.deeper _) hsp
  refine wpAny_mono (ht.nox.run [] s1 (L2.start N vs) H _ (inv_startH S hpin e0 hl r x) hq) (fun fl s' hs => ?_) fun e s' hs => hs
  rcases fl with _ | _ | _ | u
  · obtain ⟨σ', H', J, q⟩ := hs
    exact ⟨.non, H', J.os, J.bare, J.base, J.hok, rfl, q⟩
  · exact hs.elim fun _ z => z.elim fun _ z => False.elim z.2
  · exact hs.elim fun _ z => z.elim fun _ z => False.elim z.2
  · obtain ⟨v, σ', H', J, rv, q⟩ := hs
    exact ⟨v, H', J.os, J.bare, J.base, J.hok, rv, q⟩
/-- x(..) in a context that bears p, which is handled -/
theorem pe_clH {X : Cx} {j k : Nat} {x : Str} {ps : List Str} {sp : HSp} {p : Addr × Obj} {q pos : Pos} {e : Expr} {es : List Expr} {t : TA} (C : ClH X.prog X.w X.K X.mg X.base j x ps sp) (hot : Hot1 X.A p) (hp : p ∈ X.pn) {cls : Value} {dd : Option Addr} (hz : Zc cls dd p.2) (hr : RoomH k X.A) (hg : Gl X x) (ha : PA X (e :: es) t) (hjk : j ≤ k := by decide)
    (hdb : (x == ("__debug__" : Str)) = false := by decide) (he : starEach (e :: es) X.env = (false, eval e X.env) :: starEach es X.env := by rfl) (hpl : (backTo pos (starEach es X.env)).any (·.1) = false := by rfl) :
    PE X (.Call (.Name x q) (e :: es) [] pos) (fun σ H Q => t σ H fun vs H1 => sp p.1 cls dd vs H1 Q E0) := by
  obtain ⟨f, fd, a, b, c, l, d⟩ := C
  refine ⟨fun pins s σ H Q I h => wpAny_Call_Name_kw (ld_glob I hg a ?_ hdb)⟩
  refine PySem.W.callWith_K (h₀ := X.base) I.ok.mod.kin b (thn (ha.run pos pins s σ H _ I h) fun us s1 ⟨vs, H1, I1, r, q⟩ => ⟨I1.kIn, ?_⟩) he hpl
  have P1 := I1.pin p (List.mem_append_left _ hp)
  show wpAny _ _ (call (.ref f) us) _ _ _
  refine wpAny_call (codeAny_mono (d X.A X.stack s1 H1 us vs Q E0 p cls dd (hr.mono hjk) hot ⟨P1.1, P1.2.1, fun hm => (List.mem_cons.mp (I1.stkSub _ hm)).elim P1.2.2.1 P1.2.2.2.1, P1.2.2.2.2⟩ hz I1.env0 r q) fun rs s' hq => ?_)
  rcases rs with er | fl
  · exact False.elim hq
  · cases fl with
    | ret u => exact I1.after hq
    | next => exact False.elim hq
    | brk => exact False.elim hq
    | cont => exact False.elim hq
end
section
variable {X : Cx} {D : Addr} {d : Option Addr} {p : Addr × Obj}
/-- the dict of the handled exception, if it has one -/
def XdAt (d : Option Addr) (H : Hp) : Prop := match d with
  | none => True
  | some dd => ∃ fs, H dd = some (.xd fs)
theorem pin_inst {pins : List (Addr × Obj)} {σ : L2.St} {H : Hp} {s : Shared} (I : Inv X pins σ H s) (hp : p ∈ X.pn) (hz : Zc (.ref D) d p.2) (hf : ∃ vs, p.2.data = .fields vs) (hx : XdAt d H) : ∃ od, PySem.W.InstAt s.heap p.1 p.2 D od := by
  have P1 := (I.pin p (List.mem_append_left _ hp)).1
  obtain ⟨vs, hd⟩ := hf
  have nc : PySem.W.notCls p.2 = true := by unfold PySem.W.notCls; rw [hd] <;> rfl
  cases d with
  | none => exact ⟨none, P1, hz.1, nc, by rw [hz.2]; trivial⟩
  | some dd =>
    obtain ⟨fs, e⟩ := hx
    obtain ⟨mA, hns, hr⟩ := (I.hok dd _ e : ObjOk X.prog X.w H s.heap dd (.xd fs))
    obtain ⟨od, ho, hl⟩ := lookIn_ns hns
    exact ⟨some od, P1, hz.1, nc, by rw [hz.2]; exact ho⟩
/-- isinstance(e, c), e handled -/
def rIsP (K : PySem.W.Frag) (D a : Addr) (d : Option Addr) : List V → Hp → VK → Prop := fun xs H Q => ∃ (c : V) (cv : Value) (b : Bool), xs = [.ref a, c] ∧ (∀ u, RelV c u → u = cv) ∧ PySem.W.kitOne K (.ref D) cv = some b ∧ XdAt d H ∧ Q (.bl b) H
theorem call_isP (C : ExcC X.K D) (hp : p ∈ X.pn) (hz : Zc (.ref D) d p.2) (hf : ∃ vs, p.2.data = .fields vs) : CallR X (.builtin "isinstance") (rIsP X.K D p.1 d) := by
  intro pins s σ H xs us Q I r h
  obtain ⟨c, cv, b, rfl, hcv, e, hx, q⟩ := h
  obtain ⟨od, J⟩ := pin_inst I hp hz hf hx
  cases r with
  | cons rx rr =>
    cases rr with
    | cons rt rr =>
      cases rr
      cases rx
      obtain rfl := hcv _ rt
      obtain ⟨cd, hc, _⟩ := PySem.W.any_some C.hd
      exact PySem.W.kia_one (PySem.W.kitx_exc (by rw [hc]; rfl) C.hg C.hk C.hs C.ha C.hn C.ht C.hm) I.kIn J e (fun z => nomatch z) fun tk => ⟨.bl b, H, I.kept (t' := tk) fun _ _ z => z, rfl, q⟩
/-- e.n, e handled -/
def tXp (a : Addr) (d : Option Addr) (f : Str) (te : TE) : TE := fun σ H Q => te σ H fun x H1 => x = .ref a ∧ ∃ (dd : Addr) (fs : List (Str × V)) (v : V), d = some dd ∧ H1 dd = some (.xd fs) ∧ fs.lookup f = some v ∧ Q v H1
theorem pe_xP {e : Expr} {te : TE} {pos : Pos} {n : Str} (T : XfC X.K D) (hno : PySem.W.findIn X.K (.ref D) n = some none) (hp : p ∈ X.pn) (hz : Zc (.ref D) d p.2) (hf : ∃ vs, p.2.data = .fields vs) (he : PE X e te) (hb : attributeBase e n X.env (eval e X.env) = eval e X.env := by rfl) :
    PE X (.Attribute e n pos) (tXp p.1 d n te) := by
  refine ⟨fun pins s σ H Q I h => attr_of hb (thn (he.run pins s σ H _ I h) fun u s1 hh => ?_)⟩
  obtain ⟨x, H1, I1, rx, rfl, dd, fs, v, rfl, ea, l, q⟩ := hh
  obtain rfl : u = Value.ref p.1 := rx
  have P1 := (I1.pin p (List.mem_append_left _ hp)).1
  obtain ⟨vs, hd⟩ := hf
  obtain ⟨mA, hns, hr⟩ := (I1.hok dd _ ea : ObjOk X.prog X.w H1 s1.heap dd (.xd fs))
  obtain ⟨od, ho, hl⟩ := lookIn_ns hns
  obtain ⟨u, hu, ru⟩ := RelO.some_of (v := v) (o := mA n) (by rw [← l]; exact hr n)
  have J : PySem.W.InstAt s1.heap p.1 p.2 D (some od) := ⟨P1, hz.1, by unfold PySem.W.notCls; rw [hd] <;> rfl, by rw [hz.2]; exact ho⟩
  exact HandSPX.exc_get I1.kIn J T.ga T.gg T.exC (PySem.W.findObj_own T.hdC hno rfl (by rw [hl, hu])) (handed_of ru) ⟨v, H1, I1.tok _, ru, q⟩
end

/-! ## HoZ -/
/-- the exception at x, its dict at d with fs in it, new since H -/
structure InS (x C d : Addr) (H H' : Hp) (fs : List (Str × V)) : Prop where
  ax : H' x = some (exo x C (some d))
  ad : H' d = some (exd d fs)
  fr : H d = none
  ne : d ≠ x
  old : ∀ b, b ≠ x → b ≠ d → H' b = H b
theorem InS.first {x C d : Addr} {H : Hp} {f : Str} {y : V} (n : H d = none) (ne : d ≠ x) : InS x C d H (upd (upd H d (exd d [(f, y)])) x (exo x C (some d))) [(f, y)] :=
  ⟨upd_same, by rw [upd_ne ne]; exact upd_same, n, ne, fun b h1 h2 => by rw [upd_ne h1, upd_ne h2]⟩
theorem InS.more {x C d : Addr} {H H' : Hp} {fs : List (Str × V)} {f : Str} {y : V} (i : InS x C d H H' fs) : InS x C d H (upd H' d (exd d ((f, y) :: fs))) ((f, y) :: fs) :=
  ⟨by rw [upd_ne (Ne.symm i.ne)]; exact i.ax, upd_same, i.fr, i.ne, fun b h1 h2 => by rw [upd_ne h2]; exact i.old b h1 h2⟩
/-- an __init__ that stores its parameters -/
def sp_ini (C : Addr) (ok : List V → Hp → Prop) (fl : List Str) : Sp := fun vs H Q _ => ∃ (x : Addr) (us : List V), vs = .ref x :: us ∧ us.length = fl.length ∧ ok us H ∧ H x = some (exo x C none) ∧
  ∀ d H', InS x C d H H' ((fl.zip us).reverse) → Q .non H'
/-- an own error class at C with such an __init__ -/
structure ErrC (P : Program) (w : World) (K : PySem.W.Frag) (mg : Str → Option Value) (base : Heap) (k : Nat) (x : Str) (C : Addr) (ok : List V → Hp → Prop) (fl : List Str) : Prop where
  g : mg x = some (.ref C)
  T : OexC K C
  ini : ∃ (fI : Addr) (fd : FuncData) (ps : List Str), PySem.W.findIn K (.ref C) "__init__" = some (some (.ref fI)) ∧ PySem.W.typeIn K (.ref fI) = some (.type "function") ∧ Binds K fd ps [] ∧ FnOk P w K mg base CX0 k fI fd ps (sp_ini C ok fl)
  xf : XfC K C
  ec : ExcC K C
  no : ∀ f ∈ fl, PySem.W.findIn K (.ref C) f = some none
  sz : fl.length ≤ 900
  okm : ∀ us H H', Same H H' → ok us H → ok us H'
section
variable {X : Cx} {C : Addr} {ok : List V → Hp → Prop} {fl : List Str} {k : Nat} {x : Str}
def tErr (C : Addr) (ok : List V → Hp → Prop) (fl : List Str) (ta : TA) : L2.St → Hp → XK → Prop := fun σ H Q => ta σ H fun vs H1 => vs.length = fl.length ∧ ok vs H1 ∧ ∀ d H2, New H1 d (.xd ((fl.zip vs).reverse)) H2 → Q (.ref C) (some d) H2
theorem pmk_err {j : Nat} {e : Expr} {es : List Expr} {ta : TA} {p pos : Pos} (D : ErrC X.prog X.w X.K X.mg X.base j x C ok fl) (hr : Room k X.A) (hg : Gl X x) (ha : PA X (e :: es) ta) (hjk : j + 1 ≤ k := by decide)
    (hdb : (x == ("__debug__" : Str)) = false := by decide) (he : starEach (e :: es) X.env = (false, eval e X.env) :: starEach es X.env := by rfl) (hpl : (backTo pos (starEach es X.env)).any (·.1) = false := by rfl) :
    L2N.PMk X (.Call (.Name x p) (e :: es) [] pos) (tErr C ok fl ta) := by
  intro pins s σ H Q I h
  have T := D.T
  obtain ⟨fI, fd, ps, iC, tI, hb, F1⟩ := D.ini
  obtain ⟨nm, q, N, bs, bm, sn, sub, ab, col, dd, k0, k1, k2, k3, k5, hC, hbm⟩ := T.cls
  refine wpAny_Call_Name_kw (ld_glob I hg D.g ?_ hdb)
  refine PySem.W.callWith_K (h₀ := X.base) I.ok.mod.kin T.kC (thn (ha.run pos pins s σ H _ I h) fun us s1 ⟨vs, H1, I1, r1, hvl, hok, q1⟩ => ⟨I1.kIn, ?_⟩) he hpl
  show wpAny _ _ (call (.ref C) us) _ _ _
  obtain ⟨hp, g, dr, tk, os⟩ := s1
  generalize hx : hp.objs.size + 1 = a
  have hsz : hp.objs.size ≤ a := by omega
  have hn : H1 a = none := I1.hok.fresh hsz
  have kk : ∀ b o, hp.get? b = some o → ((hp.push (PySem.W.kdv_tup us)).push (PySem.HandSPX.excO C hp.objs.size)).get? b = some o := fun b o e => Heap.get?_push_of_some _ (Heap.get?_push_of_some _ e)
  have hget : ((hp.push (PySem.W.kdv_tup us)).push (PySem.HandSPX.excO C hp.objs.size)).get? a = some (PySem.HandSPX.excO C hp.objs.size) := by subst hx; heap_get
  have I2 : Inv X pins σ (upd H1 a (exo a C none)) ⟨(hp.push (PySem.W.kdv_tup us)).push (PySem.HandSPX.excO C hp.objs.size), g, dr, tk, os⟩ := I1.laid (t' := tk) kk hsz (exo_ok hget)
  have r2 : Vals (V.ref a :: vs) (Value.ref a :: us) := .cons rfl r1
  have hq : sp_ini C ok fl (V.ref a :: vs) (upd H1 a (exo a C none)) (fun v H2 => v = .non ∧ ∃ dx, InS a C dx (upd H1 a (exo a C none)) H2 ((fl.zip vs).reverse)) (fun _ _ _ => False) :=
    ⟨a, vs, rfl, hvl, D.okm _ _ _ (New.mk' (o := exo a C none) hn).same hok, upd_same, fun dx H' i => ⟨rfl, dx, i⟩⟩
  have hl : (Value.ref a :: us ++ []).length = ps.length := by
    have e := r2.length
    rw [F1.len _ _ _ _ hq] at e
    rw [List.append_nil]
    exact e.symm
  have hus : us.length ≤ sizeLine := by
    have := D.sz
    rw [← Paired.length r1, sizeLine_eq]
    omega
  have b2 := hb _ (Value.ref a :: us) I2.kIn hl
  rw [List.append_nil] at b2
  refine wpAny_call (PySem.HandSPX.call_own F.excBase_ValueError (fun Y => PySem.HandSPX.refsVE_contains Y bm hbm) (I1.kIn _ _ hC) (PySem.W.looks_findIn I1.kIn iC) (fun self => PySem.W.bind_fn I1.kIn self tI) hus ?_)
  rw [hx]
  refine codeAny_mono (F1.run _ X.stack _ _ ⟨Value.ref a :: us, []⟩ (Value.ref a :: us) _ _ (fun _ _ _ => False) ((hr.mono hjk).make C us []) (I2.env0.make C us []) b2 r2 hq) fun r s' hq' => ?_
  rcases r with er | fl'
  · exact False.elim hq'
  cases fl' with
  | ret u =>
    obtain ⟨v, H2, os2, bare2, un2, hok2, rv, ev, d, ins⟩ := hq'
    subst ev
    have hd1 : H1 d = none := by
      have := ins.fr
      rwa [upd_ne ins.ne] at this
    obtain ⟨h2, g2, d2, t2, os'⟩ := s'
    obtain ⟨t0, G, J, kG, ge, hoe, na⟩ := mk_end0 (d2 := d2) (t2 := t2) I1 hsz kk un2 hok2 os2 bare2 ins.ax ins.ad hd1
    refine ⟨rv, a, _, _, ⟨G, g2, d2, t2, os'⟩, _, .ref C, some d, rfl, J, kG, ge, hoe, ⟨rfl, rfl, fun vs hv => by cases hv; rfl⟩, rfl, rfl, na, rfl, bare2, raises_own T.exC T.tyC, q1 d _ ⟨hd1, upd_same, fun b hb => ?_⟩⟩
    rw [upd_ne hb]
    by_cases hba : b = a
    · rw [hba, del_same, hn]
    · rw [del_ne hba, ins.old b hba hb, upd_ne hba]
  | next => exact False.elim hq'
  | brk => exact False.elim hq'
  | cont => exact False.elim hq'
end
/-! ### defs that raise -/
def ClX (P : Program) (w : World) (K : PySem.W.Frag) (mg : Str → Option Value) (base : Heap) (k : Nat) (x : Str) (ps : List Str) (sp : Sp) : Prop :=
  ∃ f fd, mg x = some (.ref f) ∧ PySem.W.keepIn K (.ref f) = true ∧ Binds K fd ps [] ∧ FnOk P w K mg base (L2N.CX P w) k f fd ps sp ∧ ∃ oc od osl, K.lookup f = some ⟨oc, od, .func fd, osl⟩
section
variable {P : Program} {w : World} {K : PySem.W.Frag} {mg : Str → Option Value} {base : Heap}
theorem ClX.mono {j k : Nat} {x : Str} {ps : List Str} {sp : Sp} (C : ClX P w K mg base j x ps sp) (h : j ≤ k) : ClX P w K mg base k x ps sp := by
  obtain ⟨f, fd, a, b, c, d, e⟩ := C
  exact ⟨f, fd, a, b, c, d.mono h, e⟩
theorem clX_of {x : Str} {st : Stmt} {N ps : List Str} {k : Nat} {sp : Sp} (D : Df K mg x st) (S : FnScope N ps (defScope st))
    (hb : ∀ (kV doc pm : Value) (an : Option Addr) (cdv ct : Value) (us : List Value), us.length = ps.length → bindArgs (PySem.W.fnOf x x (defArgs st) (defBody st) (defScope st) .none kV doc pm an cdv ct) ⟨us, []⟩ = pure (ps.zip us))
    (len : ∀ vs H Q E, sp vs H Q E → vs.length = ps.length)
    (hbody : ∀ (f : Addr) (cdv : Value) (A : Around) (outer : List Env) (s : Shared) (H : Hp) (vs : List V) (Q : VK) (E : XK), Room k (A.deeper (envOfC x (defScope st) s.heap.objs.size f cdv)) → L2N.Takes (cxOf (L2N.CX P w) P w K mg base N x (defScope st) f cdv A outer s H E) (fun cls d _ H => E cls d H) → sp vs H Q E →
      ∃ t, PSs (cxOf (L2N.CX P w) P w K mg base N x (defScope st) f cdv A outer s H E) (defBody st) t ∧ t { nx := fun _ H' => Q .non H', rt := Q } (start N vs) H) : ClX P w K mg base (k + 1) x ps sp := by
  obtain ⟨f, fd, F, g⟩ := D
  refine ⟨f, fd, g, F.kp, fun s us _ hl => ?_, F.ok S len fun cdv A outer s H vs Q E hr hsp => hbody f cdv A outer s H vs Q E hr (L2N.takes_of rfl rfl rfl rfl) hsp, ?_⟩
  · rw [List.append_nil] at hl ⊢
    exact F.bindsA hb s us hl
  · obtain ⟨oc, od, dV, kV, doc, pm, an, cdv, ct, osl, e, lk, _⟩ := F.ex
    exact ⟨oc, od, osl, lk⟩
end
/-- the same def, called with keywords ks behind n values -/
def ClXK (P : Program) (w : World) (K : PySem.W.Frag) (mg : Str → Option Value) (base : Heap) (k : Nat) (x : Str) (ps : List Str) (n : Nat) (ks : List Str) (sp : Sp) : Prop :=
  ∃ f fd, mg x = some (.ref f) ∧ PySem.W.keepIn K (.ref f) = true ∧ KBn K fd ps n ks (fun us ws => us ++ ws) (fun us ws => us ++ ws) ∧ FnOk P w K mg base (L2N.CX P w) k f fd ps sp
theorem vals_app {vs : List V} {us : List Value} {zs : List V} {ws : List Value} (a : Vals vs us) (b : Vals zs ws) : Vals (vs ++ zs) (us ++ ws) := by
  induction a with
  | nil => exact b
  | cons h _ ih => exact .cons h ih
theorem clXK_of {P : Program} {w : World} {K : PySem.W.Frag} {mg : Str → Option Value} {base : Heap} {k : Nat} {x : Str} {st : Stmt} {ps : List Str} {sp : Sp} {n : Nat} {ks : List Str} (D : Df K mg x st) (C : ClX P w K mg base k x ps sp)
    (hb : ∀ (kV doc pm : Value) (an : Option Addr) (cdv ct : Value) (us ws : List Value), us.length = n → ws.length = ks.length → bindArgs (PySem.W.fnOf x x (defArgs st) (defBody st) (defScope st) .none kV doc pm an cdv ct) ⟨us, ks.zip ws⟩ = pure (ps.zip (us ++ ws))) : ClXK P w K mg base k x ps n ks sp := by
  obtain ⟨f, fd, F, g⟩ := D
  obtain ⟨f2, fd2, a, b, c, d, oc2, od2, osl2, lk2⟩ := C
  obtain ⟨oc, od, dV, kV, doc, pm, an, cdv, ct, osl, rfl, lk, hcd, hD, hK⟩ := F.ex
  rw [g] at a
  cases a
  rw [lk] at lk2
  cases lk2
  rcases hD with ⟨_, rfl⟩ | ⟨e, _⟩
  · exact ⟨f, _, g, b, ⟨fun s us ws _ l1 l2 => .of_eq (hb kV doc pm an cdv ct us ws l1 l2), fun a b => vals_app a b⟩, d⟩
  · exact absurd rfl e
section
variable {X : Cx}
theorem pe_clX {j k : Nat} {x : Str} {ps : List Str} {sp : Sp} {p pos : Pos} {e : Expr} {es : List Expr} {t : TA} {W : WX} (C : ClX X.prog X.w X.K X.mg X.base j x ps sp) (tk : L2N.Takes X W) (hr : Room k X.A) (hg : Gl X x) (ha : PA X (e :: es) t) (hjk : j ≤ k := by decide)
    (hdb : (x == ("__debug__" : Str)) = false := by decide) (he : starEach (e :: es) X.env = (false, eval e X.env) :: starEach es X.env := by rfl) (hpl : (backTo pos (starEach es X.env)).any (·.1) = false := by rfl) :
    PE X (.Call (.Name x p) (e :: es) [] pos) (tCallS sp (WE W) t) := by
  obtain ⟨f, fd, a, b, c, d, _⟩ := C
  exact pe_callS d (hr.mono hjk) hg a b c (fun σ => L2N.passAt tk σ) ha hdb he hpl
theorem a_err {C : Addr} {ok : List V → Hp → Prop} {fl : List Str} {ta : TA} {σ : L2.St} {H : Hp} {Q : XK} : tErr C ok fl ta σ H Q = ta σ H fun vs H1 => vs.length = fl.length ∧ ok vs H1 ∧ ∀ d H2, New H1 d (.xd ((fl.zip vs).reverse)) H2 → Q (.ref C) (some d) H2 := rfl
theorem a_callS {sp : Sp} {E : L2.St → XK} {t : TA} {σ : L2.St} {H : Hp} {Q : VK} : tCallS sp E t σ H Q = t σ H fun vs H1 => sp vs H1 Q (E σ) := rfl
theorem a_xp {a : Addr} {d : Option Addr} {f : Str} {te : TE} {σ : L2.St} {H : Hp} {Q : VK} : tXp a d f te σ H Q = te σ H fun x H1 => x = .ref a ∧ ∃ (dd : Addr) (fs : List (Str × V)) (v : V), d = some dd ∧ H1 dd = some (.xd fs) ∧ fs.lookup f = some v ∧ Q v H1 := rfl
theorem a_isP {K : PySem.W.Frag} {D a : Addr} {d : Option Addr} {xs : List V} {H : Hp} {Q : VK} : rIsP K D a d xs H Q = ∃ (c : V) (cv : Value) (b : Bool), xs = [.ref a, c] ∧ (∀ u, RelV c u → u = cv) ∧ PySem.W.kitOne K (.ref D) cv = some b ∧ XdAt d H ∧ Q (.bl b) H := rfl
theorem takesN0 : L2N.Takes X (fun _ _ _ _ => False) := fun _ _ ⟨_, _, _, _, _, _, _, _, _, _, _, _, _, _, _, _, z⟩ => z.elim
end
section
variable {X : Cx}
theorem pe_clXK {j k : Nat} {x : Str} {ps : List Str} {sp : Sp} {n : Nat} {ks : List Str} {p pos : Pos} {e : Expr} {es : List Expr} {kws : List Keyword} {t t2 : TA} (C : ClXK X.prog X.w X.K X.mg X.base j x ps n ks sp) (hr : Room k X.A) (hg : Gl X x) (ha : PA X (e :: es) t) (hkw : PK X kws t2) (hjk : j ≤ k := by decide)
    (hall : (backToKw pos (keywordEach kws X.env)).all (·.1.isSome) = true := by rfl) (hks : (backToKw pos (keywordEach kws X.env)).filterMap (·.1) = ks := by rfl)
    (hdb : (x == ("__debug__" : Str)) = false := by decide) (he : starEach (e :: es) X.env = (false, eval e X.env) :: starEach es X.env := by rfl)
    (hpl : ((backTo pos (starEach (e :: es) X.env)).any (·.1) || (backToKw pos (keywordEach kws X.env)).any (·.1.isNone)) = false := by rfl) :
    PE X (.Call (.Name x p) (e :: es) kws pos) (fun σ H Q => t σ H fun vs H1 => t2 σ H1 fun zs H2 => vs.length = n ∧ zs.length = ks.length ∧ sp (vs ++ zs) H2 Q (fun _ _ _ => False)) := by
  obtain ⟨f, fd, a, b, c, d⟩ := C
  exact pe_callN (d.mono hjk) hr hg a b c (fun pins σ H s e s' I c => L2N.passAt (W := fun _ _ _ _ => False) takesN0 σ pins H s e s' I c) ha hkw hall hks hdb he hpl
end

/-! ## HoN -/
set_option maxHeartbeats 4000000 in
theorem meets_enum1 {v : Value} {o : Obj} {H : Heap → Prop} (B : Begins v o H) :
    Meets (Builtin.«enumerate.__new__» ⟨[.type "enumerate", v], []⟩) (fun _ R s => H s.heap ∧
      R (.ok (.ret (.ref (s.heap.push o).objs.size))) { s with heap := (s.heap.push o).push { cls := .type "enumerate", data := .fields #[.none, .bool false, .ref s.heap.objs.size, rawInt 0, .none, .none] } }) :=
  .of_wp fun prog w A R s h => by
    obtain ⟨hp, g, d, tk, os⟩ := s
    obtain ⟨h1, h⟩ := h
    have hsub := sub_enumerate
    have st : ∀ {A' : Around} {E : Value → Shared → Prop} {Q : Value → Shared → Prop}, Q (.ref hp.objs.size) ⟨hp.push o, g, d, tk, os⟩ → wpAny (model prog w) A' (pyIter v) Q E ⟨hp, g, d, tk, os⟩ := fun q => B.iter prog w _ _ ⟨hp, g, d, tk, os⟩ _ h1 q
    wp_walk using st
    refine wpAny_stack_any fun stk => wpAny_pure ?_
    split
    · rename_i c _ _ _ _ _
      cases (c == Value.type "enumerate") <;> (wp_walk using st; exact ⟨_, rfl, h⟩)
    · wp_walk using st
      exact ⟨_, rfl, h⟩
section
variable {prog : Program} {w : World} {A : Around} {E : Value → Shared → Prop} {s : Shared}
theorem enum1_begins {v : Value} {o : Obj} {H : Heap → Prop} {Q : Value → Shared → Prop} (B : Begins v o H) (h1 : H s.heap)
    (h : ∀ h', IsEnum h' (s.heap.objs.size + 1) s.heap.objs.size 0 .none → h'.get? s.heap.objs.size = some o → (∀ b o, s.heap.get? b = some o → h'.get? b = some o) → Q (.ref (s.heap.objs.size + 1)) { s with heap := h' }) :
    wpAny (model prog w) A (call (.type "enumerate") [v]) Q E s := by
  refine callType_new F.called_enumerate (by decide) (F.typeCall_enumerate_1 _) (F.newCall_enumerate_1 _) (fun obj => F.args_object_init_2 obj _) F.entry_enumerate_new (meets_enum1 B) ⟨h1, ?_⟩
  have hz : (s.heap.push o).objs.size = s.heap.objs.size + 1 := Heap.size_push ..
  have he : IsEnum ((s.heap.push o).push { cls := .type "enumerate", data := .fields #[.none, .bool false, .ref s.heap.objs.size, rawInt 0, .none, .none] }) (s.heap.objs.size + 1) s.heap.objs.size 0 .none := hz ▸ Heap.get?_push_size _ rfl
  show _ ∧ _
  rw [hz]
  exact ⟨⟨_, he, rfl⟩, h _ he (Heap.get?_push_of_some _ (Heap.get?_push_size _ B.free)) fun b o x => Heap.get?_push_of_some _ (Heap.get?_push_of_some _ x)⟩
end
/-- the tuple at a, each item in a new pair -/
def IteT (K : PySem.W.Frag) (a : Addr) (xs : List V) : It :=
  ⟨fun i H => SqT K H a xs ∧ i < xs.length, fun i H v H' => ∃ T x, v = .ref T ∧ New H T (.tup [.int (i : Nat), x]) H' ∧ xs[i]? = some x, fun i H => SqT K H a xs ∧ i = xs.length⟩
theorem turn_enumT {P : Program} {w : World} {K : PySem.W.Frag} {elts : List Expr} {kk : Nat} {tpos : Pos} (a e it : Addr) (hae : a ≠ e) (hai : a ≠ it) (hei : e ≠ it) (xs : List V) :
    Turn P w K (.Tuple elts kk tpos) (IteT K a xs) [e, it] e (fun i h => (∃ old, IsEnum h e it ((i : Nat) : Int) old) ∧ h.IsTupleIter it a i) where
  mem := List.mem_cons_self
  obj := fun i h st b hb => by
    obtain ⟨⟨old, he⟩, o, ho, hc, hd⟩ := st
    rcases List.mem_cons.mp hb with rfl | hb
    · exact ⟨_, he, fun v q => nomatch q⟩
    · obtain rfl := List.mem_singleton.mp hb
      exact ⟨o, ho, fun v q => by rw [hd] at q; cases q⟩
  keep := fun i h h' st k => ⟨st.1.imp fun old he => k e List.mem_cons_self _ he, st.2.at fun o q => k it (by simp) o q⟩
  item := fun X hP hw hK hc i pins s σ H E I hf st hg => by
    subst hP hw hK
    obtain ⟨⟨old, he⟩, hit⟩ := st
    obtain ⟨hq, hlt⟩ := hg
    obtain ⟨its, rv, p, hz⟩ := I.tuple hq
    have hl := rv.length
    have D := Draws.tuple (prog := X.prog) (w := X.w) (A := X.A.in1) (I.ok.hd hc) it a hai its.toArray
    have ia : s.heap.IsTuple a its.toArray := p
    have hel : e < s.heap.objs.size := Heap.lt_size he
    have hil : it < s.heap.objs.size := by obtain ⟨_, q, _⟩ := hit; exact Heap.lt_size q
    refine wpAny_pyNext_enum_itemD D he ⟨hit, ia⟩ (by rw [List.size_toArray]; omega) hei (by simp [hei, Ne.symm hae]) fun u h' tk hu ho hst hT hsz hk => ?_
    refine ⟨_, rfl, wpAny_letOwnedTupleGo_enum (s := { s with heap := h', toks := tk + 1 }) ho fun h'' he' sb => ?_⟩
    have hx : ∃ x, xs[i]? = some x := ⟨xs[i], List.getElem?_eq_getElem hlt⟩
    obtain ⟨x, hx⟩ := hx
    obtain ⟨u', hu', ru⟩ := rv.get hx
    obtain rfl : u' = u := by
      have q : its[i]? = some u := by simpa using hu
      rw [hu'] at q
      exact Option.some.inj q
    have hT2 : h''.get? s.heap.objs.size = some { cls := .type "tuple", data := .seq #[.int i tk, u'] } := (sb.2 _ (Nat.ne_of_gt hel)).trans hT
    have new : ObjOk X.prog X.w (upd H s.heap.objs.size (.tup [.int (i : Nat), x])) h'' s.heap.objs.size (.tup [.int (i : Nat), x]) :=
      ⟨by show 2 ≤ sizeLine; decide, [.int i tk, u'], .cons ⟨_, rfl⟩ (.cons ru .nil), ⟨_, hT2, rfl, _, rfl⟩⟩
    have I1 : Inv X pins σ (upd H s.heap.objs.size (.tup [.int (i : Nat), x])) { s with heap := h'', toks := tk + 1 } :=
      I.turnedNew (ch := [e, it]) (fun b ob hb q => (sb.2 b (fun z => hb (by simp [z]))).trans (hk b ob (fun z => hb (by simp [z])) (fun z => hb (by simp [z])) q)) hf (Nat.le_refl _) new
    refine ⟨.ref s.heap.objs.size, _, I1, rfl, ⟨_, x, rfl, .mk' (I.hok.fresh (Nat.le_refl _)), hx⟩, ⟨⟨u', ?_⟩, hst.1.at fun o q => (sb.2 it (Ne.symm hei)).trans q⟩, fun b hb => ?_⟩
    · have e1 : ((i + 1 : Nat) : Int) = (i : Int) + 1 := by omega
      rw [e1]
      exact he'
    · have hb' : b < s.heap.objs.size := by
        rcases List.mem_cons.mp hb with rfl | hb
        · exact hel
        · obtain rfl := List.mem_singleton.mp hb
          exact hil
      rw [upd_ne (Nat.ne_of_lt hb')]
      exact (hf b hb).1
  done := fun X hP hw hK hc i pins s σ H E I hf st hg => by
    subst hP hw hK
    obtain ⟨⟨old, he⟩, hit⟩ := st
    obtain ⟨hq, hle⟩ := hg
    obtain ⟨its, rv, p, hz⟩ := I.tuple hq
    have hl := rv.length
    have D := Draws.tuple (prog := X.prog) (w := X.w) (A := X.A.in1) (I.ok.hd hc) it a hai its.toArray
    have F := hf it (by simp)
    have hn : i = its.toArray.size := by rw [List.size_toArray]; omega
    refine wpAny_pyNext_enum_endD D he (hn ▸ ⟨hit, p⟩) fun h' eb => ⟨rfl, I.turned (t' := s.toks) (fun b o hb q => eb b o hb q) F.1 F.2.1 F.2.2.2.1 F.2.2.2.2.1 F.2.2.2.2.2⟩
  self := fun A i s Q E st h => wpAny_pyIter_enum st.1.choose_spec h
def iEnumT (K : PySem.W.Frag) (ta : TA) : TI := fun σ H R => ta σ H fun vs H1 => ∃ a xs, vs = [.ref a] ∧ H1 a = some (.tup xs) ∧ R (IteT K a xs) H1
theorem pi_enumT {X : Cx} {e : Expr} {ta : TA} {p pos tpos : Pos} {elts : List Expr} {kk : Nat} (hg : Gl X "enumerate") (hm : X.mg "enumerate" = none) (ha : PA X [e] ta) (hs : starEach [e] X.env = [(false, eval e X.env)] := by rfl) :
    PI X (.Tuple elts kk tpos) (.Call (.Name "enumerate" p) [e] [] pos) (iEnumT X.K ta) := by
  refine ⟨fun pins s σ H R I h => Call_ (ld_blt I hg hm boot_enumerate (PyProof.Rows.callWith_type1 (thn (ha.run pos pins s σ H _ I h) fun us s1 ⟨vs, H1, I1, r1, a, xs, ex, hq, q⟩ => ?_) hs rfl))⟩
  subst ex
  cases r1 with
  | cons r rr =>
    cases rr
    cases r
    obtain ⟨its, rv, p', hz⟩ := I1.tuple (SqT.of hq)
    have ha : a < s1.heap.objs.size := by obtain ⟨o, e, _⟩ := (show s1.heap.IsTuple a its.toArray from p'); exact Heap.lt_size e
    refine enum1_begins (begins_tuple a its.toArray) p' fun h' he hit hk => wpAny_pyIter_enum he ?_
    have I2 : Inv X pins σ H1 { s1 with heap := h' } := I1.kept (t' := s1.toks) hk
    refine ⟨s1.heap.objs.size + 1, [s1.heap.objs.size + 1, s1.heap.objs.size], _, _, H1, rfl, I2, turn_enumT a (s1.heap.objs.size + 1) s1.heap.objs.size (Nat.ne_of_lt (Nat.lt_succ_of_lt ha)) (Nat.ne_of_lt ha) (Nat.succ_ne_self _) xs, ⟨⟨.none, he⟩, ⟨_, hit, rfl, rfl⟩⟩, fun b hb => ?_, q⟩
    have hle : s1.heap.objs.size ≤ b := by
      rcases List.mem_cons.mp hb with rfl | hb
      · omega
      · obtain rfl := List.mem_singleton.mp hb
        exact Nat.le_refl _
    exact I1.fpOk hle (I1.hok.fresh hle)
section
variable {K : PySem.W.Frag} {H : Hp} {Q : VK} {σ : L2.St} {D : Ends}
def CEn (K : PySem.W.Frag) (a : Addr) (xs : List V) (g : TG) (tt : TT) (te : TE) (vs : List Nat) (σ : L2.St) (H : Hp) (Q : VK) : Prop := tLc (fun _ H R => R (IteT K a xs) H) g tt te vs σ H Q
theorem a_lcE {ta : TA} {g : TG} {tt : TT} {te : TE} {vs : List Nat} : tLc (iEnumT K ta) g tt te vs σ H Q = ta σ H fun ws H1 => ∃ a xs, ws = [.ref a] ∧ H1 a = some (.tup xs) ∧ CEn K a xs g tt te vs σ H1 Q := rfl
def FEn (K : PySem.W.Frag) (a : Addr) (xs : List V) (g : TG) (tb : TS) (D : Ends) (σ : L2.St) (H : Hp) : Prop := tFor (fun _ H R => R (IteT K a xs) H) g tb D σ H
theorem a_forE {ta : TA} {g : TG} {tb : TS} : tFor (iEnumT K ta) g tb D σ H = ta σ H fun ws H1 => ∃ a xs, ws = [.ref a] ∧ H1 a = some (.tup xs) ∧ FEn K a xs g tb D σ H1 := rfl
abbrev g2 (K : PySem.W.Frag) (i1 i2 : Nat) : TG := gTup K 2 (gCons (gName i1) (gCons (gName i2) gNil))
theorem g2_at {i1 i2 : Nat} {T : Addr} {x y : V} {R : L2.St → Hp → Prop} (h : H T = some (.tup [x, y])) (r : R ((σ.set i1 (some x)).set i2 (some y)) H) : g2 K i1 i2 (.ref T) σ H R := ⟨T, [x, y], rfl, SqT.of h, rfl, x, [y], rfl, y, [], rfl, rfl, r⟩
theorem ce_by {a : Addr} {xs : List V} {i1 i2 : Nat} {tt : TT} {te : TE} {vs : List Nat} (Pv : Addr → Nat → List V → Hp → Prop) (h0 : ∀ C H0, New H C (.lst []) H0 → Pv C 0 [] H0) (hl : ∀ C i acc H', H C = none → Pv C i acc H' → H' a = some (.tup xs))
    (hs : ∀ C i x acc H1 N T H2, H C = none → xs[i]? = some x → H1 C = some (.lst acc) → Pv C i acc H1 → (∀ acc' H5, H5 C = some (.lst acc') → Pv C (i + 1) acc' H5 → N H5) → New H1 T (.tup [.int (i : Nat), x]) H2 →
      wipe (((wipe σ vs).set i1 (some (.int (i : Nat)))).set i2 (some x)) vs = wipe σ vs ∧ tt (((wipe σ vs).set i1 (some (.int (i : Nat)))).set i2 (some x)) H2 fun b H3 => if b = true then te (((wipe σ vs).set i1 (some (.int (i : Nat)))).set i2 (some x)) H3 fun y H4 => CSt C N y H4 else N H3)
    (hd : ∀ C acc H1, H C = none → H1 C = some (.lst acc) → Pv C xs.length acc H1 → Q (.ref C) H1) : CEn K a xs (g2 K i1 i2) tt te vs σ H Q := by
  intro C hC
  refine ⟨fun i m H1 => m + i = xs.length ∧ ∃ acc, H1 C = some (.lst acc) ∧ Pv C i acc H1, ⟨xs.length, by omega, [], upd_same, h0 C _ (New.mk' hC)⟩, fun i m H1 ⟨hm, acc, ha, p⟩ => ?_⟩
  by_cases hi : i = xs.length
  · subst hi
    exact .inl ⟨⟨SqT.of (hl C _ acc H1 hC p), rfl⟩, hd C acc H1 hC ha p⟩
  · refine .inr ⟨⟨SqT.of (hl C _ acc H1 hC p), by omega⟩, fun H5 => ∃ acc', H5 C = some (.lst acc') ∧ Pv C (i + 1) acc' H5, fun H5 ⟨acc', h5, p5⟩ => ⟨m - 1, by omega, by omega, acc', h5, p5⟩, fun v H2 ⟨T, x, ev, n2, hx⟩ => ?_⟩
    subst ev
    exact g2_at n2.at_ (hs C i x acc H1 _ T H2 hC hx ha p (fun acc' H5 h5 p5 => ⟨acc', h5, p5⟩) n2)
theorem fe_by {a : Addr} {xs : List V} {i1 i2 : Nat} {tb : TS} (Pv : Nat → L2.St → Hp → Prop) (h0 : Pv 0 σ H) (hl : ∀ i σ' H', Pv i σ' H' → H' a = some (.tup xs))
    (hs : ∀ i x σ H1 (N : L2.St → Hp → Prop) T H2, (∀ σ' H', Pv (i + 1) σ' H' → N σ' H') → xs[i]? = some x → Pv i σ H1 → New H1 T (.tup [.int (i : Nat), x]) H2 → tb { D with nx := N, ct := N, bk := D.nx } ((σ.set i1 (some (.int (i : Nat)))).set i2 (some x)) H2)
    (hd : ∀ σ H, Pv xs.length σ H → D.nx σ H) : FEn K a xs (g2 K i1 i2) tb D σ H := by
  refine ⟨fun i m σ1 H1 => m + i = xs.length ∧ Pv i σ1 H1, ⟨xs.length, by omega, h0⟩, fun i m σ1 H1 ⟨hm, p⟩ => ?_⟩
  by_cases hi : i = xs.length
  · subst hi
    exact .inl ⟨⟨SqT.of (hl _ _ _ p), rfl⟩, hd _ _ p⟩
  · refine .inr ⟨⟨SqT.of (hl _ _ _ p), by omega⟩, fun σ5 H5 => Pv (i + 1) σ5 H5, fun σ5 H5 p5 => ⟨m - 1, by omega, by omega, p5⟩, fun v H2 ⟨T, x, ev, n2, hx⟩ => ?_⟩
    subst ev
    exact g2_at n2.at_ (hs i x σ1 H1 _ T H2 (fun _ _ z => z) hx p n2)
end

/-! ## HoW -/
def errNames : List Str := ["BadNumber", "NotAPoint", "NotAMove", "TooMany", "UnlikeSizes", "RepeatedPoint", "BadText", "NotMade", "NotTight", "NotFull", "NotAFailing", "NotNeighbours", "NotShorter", "SameLength", "NoSuchLength", "NotAnOrder", "NotAChain", "NotABase", "NotInside", "OrderMatters", "FullLot", "NotAWord", "NotAColumn", "NotACount", "GameOver", "NotAllowed", "NothingToUndo", "NothingToRedo", "NothingKept", "BadEdit", "UnknownName", "NotAPaper"]
/-- the classes' names stand for them; the class D is none of the others -/
structure ErN (K : PySem.W.Frag) (mg : Str → Option Value) (D : Str) : Prop where
  g : ∀ x ∈ errNames, mg x = some (.ref (He.ga K x))
  gH : mg "HeldorderError" = some (.ref (He.ga K "HeldorderError"))
  gV : mg "ValueError" = none
  k : ∀ x ∈ errNames, PySem.W.kitOne K (.ref (He.ga K D)) (.ref (He.ga K x)) = some (decide (x = D))
  kH : PySem.W.kitOne K (.ref (He.ga K D)) (.ref (He.ga K "HeldorderError")) = some true
  kV : PySem.W.kitOne K (.ref (He.ga K D)) (.type "ValueError") = some true
  ec : ExcC K (He.ga K D)
/-- isinstance(e, x), e in slot i -/
def tIsV (i : Nat) (a : Addr) (d : Option Addr) (b : Bool) : TE := fun σ H Q => σ[i]? = some (some (.ref a)) ∧ XdAt d H ∧ Q (.bl b) H
section
variable {X : Cx} {D : Str} {d : Option Addr} {p : Addr × Obj} {i : Nat} {y x : Str} {py px pp pos : Pos}
theorem pe_isV {c : V} {cv : Value} {b : Bool} (N : ErN X.K X.mg D) (hp : p ∈ X.pn) (hz : Zc (.ref (He.ga X.K D)) d p.2) (hf : ∃ vs, p.2.data = .fields vs) (hm : X.mg "isinstance" = none) (hg : Gl X "isinstance") (hy : PE X (.Name y py) (tVar i)) (hx : PE X (.Name x px) (tC c))
    (hcv : ∀ u, RelV c u → u = cv) (hk : PySem.W.kitOne X.K (.ref (He.ga X.K D)) cv = some b) : PE X (.Call (.Name "isinstance" pp) [.Name y py, .Name x px] [] pos) (tIsV i p.1 d b) := by
  have P := pe_callB (x := "isinstance") (p := pp) (pos := pos) (call_isP N.ec hp hz hf) hg hm (by decide +kernel) (pa_cons hy (pa_cons hx pa_nil))
  refine ⟨fun pins s σ H Q I h => P.run pins s σ H Q I ?_⟩
  obtain ⟨h1, h2, h3⟩ := h
  exact ⟨_, h1, ⟨c, cv, b, rfl, hcv, hk, h2, h3⟩⟩
theorem pe_isE (N : ErN X.K X.mg D) (hp : p ∈ X.pn) (hz : Zc (.ref (He.ga X.K D)) d p.2) (hf : ∃ vs, p.2.data = .fields vs) (hm : X.mg "isinstance" = none) (hg : Gl X "isinstance") (hy : PE X (.Name y py) (tVar i)) (hgx : Gl X x) (hx : x ∈ errNames := by decide) (hd : (x == ("__debug__" : Str)) = false := by decide) :
    PE X (.Call (.Name "isinstance" pp) [.Name y py, .Name x px] [] pos) (tIsV i p.1 d (decide (x = D))) :=
  pe_isV (c := .ref (He.ga X.K x)) N hp hz hf hm hg hy (pe_glob hgx (N.g x hx) (show RelV (.ref (He.ga X.K x)) _ from rfl) hd) (fun _ r => r) (N.k x hx)
theorem pe_isH (N : ErN X.K X.mg D) (hp : p ∈ X.pn) (hz : Zc (.ref (He.ga X.K D)) d p.2) (hf : ∃ vs, p.2.data = .fields vs) (hm : X.mg "isinstance" = none) (hg : Gl X "isinstance") (hy : PE X (.Name y py) (tVar i)) (hgx : Gl X "HeldorderError") :
    PE X (.Call (.Name "isinstance" pp) [.Name y py, .Name "HeldorderError" px] [] pos) (tIsV i p.1 d true) :=
  pe_isV (c := .ref (He.ga X.K "HeldorderError")) N hp hz hf hm hg hy (pe_glob hgx N.gH (show RelV (.ref (He.ga X.K "HeldorderError")) _ from rfl)) (fun _ r => r) N.kH
theorem pe_isVE (N : ErN X.K X.mg D) (hp : p ∈ X.pn) (hz : Zc (.ref (He.ga X.K D)) d p.2) (hf : ∃ vs, p.2.data = .fields vs) (hm : X.mg "isinstance" = none) (hg : Gl X "isinstance") (hy : PE X (.Name y py) (tVar i)) (hgx : Gl X "ValueError") :
    PE X (.Call (.Name "isinstance" pp) [.Name y py, .Name "ValueError" px] [] pos) (tIsV i p.1 d true) :=
  pe_isV (c := .ty "ValueError") N hp hz hf hm hg hy (pe_bltn hgx N.gV (by decide +kernel) (show RelV (.ty "ValueError") _ from rfl)) (fun _ r => r) N.kV
end
theorem a_isV {i : Nat} {a : Addr} {d : Option Addr} {b : Bool} {σ : L2.St} {H : Hp} {Q : VK} : tIsV i a d b σ H Q = (σ[i]? = some (some (.ref a)) ∧ XdAt d H ∧ Q (.bl b) H) := rfl
theorem a_lcH {K : PySem.W.Frag} {tl : TE} {g : TG} {tt : TT} {te : TE} {vs : List Nat} {σ : L2.St} {H : Hp} {Q : VK} : tLcH K tl g tt te vs σ H Q = tl σ H fun x H1 => ∃ (a : Addr) (xs : List V), x = .ref a ∧ SqL K H1 a xs ∧ ∀ D, H1 D = none → ∃ acc : Nat → List V, acc 0 = [] ∧
  (∀ i y, xs[i]? = some y → (acc i).length < sizeLine ∧ g y (wipe σ vs) (upd H1 D (.lst (acc i))) fun σ2 H2 => wipe σ2 vs = wipe σ vs ∧ tt σ2 H2 fun b H3 => if b = true then te σ2 H3 fun z H4 => H4 = upd H1 D (.lst (acc i)) ∧ acc (i + 1) = acc i ++ [z] else H3 = upd H1 D (.lst (acc i)) ∧ acc (i + 1) = acc i) ∧
  Q (.ref D) (upd H1 D (.lst (acc xs.length))) := rfl

/-! ## HoH -/
def clsFn : Stmt → Nat → Stmt
  | .ClassDef (body := b) .., i => b.getD i (.Pass ⟨0, 0, 0, 0⟩)
  | s, _ => s
section
variable {K : PySem.W.Frag} {C : Addr}
theorem andB {a b : Bool} (h : (a && b) = true) : a = true ∧ b = true := Bool.and_eq_true_iff.mp h
def oexL (K : PySem.W.Frag) (C : Addr) : Bool := match K.lookup C with
  | some ⟨.type t, _, .cls cd, sl⟩ => (match cd.mro, sl.toList with
    | .ref C' :: bm, [_, _, _, _, some (.builtin n), _] => decide (t = "type") && (decide (C' = C) && (decide (n = "ValueError.__new__") && (!cd.hasDel && (cd.hasDict && PySem.HandSPX.refsVE bm))))
    | _, _ => false)
  | _ => false
theorem oexL_ok (q : oexL K C = true) : ∃ nm qn N bs bm sn sub ab col dd k0 k1 k2 k3 k5, K.lookup C = some (excClassObj nm qn C N bs bm true sn sub ab col dd k0 k1 k2 k3 k5 "ValueError.__new__") ∧ PySem.HandSPX.refsVE bm = true := by
  unfold oexL at q
  split at q
  · rename_i t dd cd sl ho
    split at q
    · rename_i C' bm k0 k1 k2 k3 n k5 hm hs
      obtain ⟨h0, q⟩ := andB q
      obtain ⟨h1, q⟩ := andB q
      obtain ⟨h2, q⟩ := andB q
      obtain ⟨hdel, q⟩ := andB q
      obtain ⟨hdi, ht⟩ := andB q
      obtain rfl := of_decide_eq_true h0
      obtain rfl := of_decide_eq_true h1
      obtain rfl := of_decide_eq_true h2
      rw [Bool.not_eq_true'] at hdel
      obtain ⟨nm, bs, mro, ns, qn, hd, sn, sub, ab, col, del⟩ := cd
      dsimp only at hm hdel hdi
      subst hm hdel hdi
      have hsl : sl = #[k0, k1, k2, k3, some (.builtin "ValueError.__new__"), k5] := by
        obtain ⟨l⟩ := sl
        simp only at hs
        rw [hs]
      subst hsl
      exact ⟨nm, qn, ns, bs, bm, sn, sub, ab, col, dd, k0, k1, k2, k3, k5, ho, ht⟩
    · cases q
  · cases q
def oexB (K : PySem.W.Frag) (C : Addr) : Bool := oexL K C && (He.eqO (PySem.W.findIn K (.ref C) "__setattr__") (some (some (.builtin "object.__setattr__"))) && (decide (PySem.W.subIn K (.ref C) (.type "BaseException") = some true) && (decide (PySem.W.typeIn K (.ref C) = some (.type "type")) && PySem.W.keepIn K (.ref C))))
theorem oexB_ok (q : oexB K C = true) : OexC K C := by
  obtain ⟨h0, q⟩ := andB q
  obtain ⟨h1, q⟩ := andB q
  obtain ⟨h2, q⟩ := andB q
  obtain ⟨h3, h4⟩ := andB q
  exact ⟨oexL_ok h0, He.eqO_ok h1, of_decide_eq_true h2, of_decide_eq_true h3, h4⟩
def excCB (K : PySem.W.Frag) (D : Addr) : Bool := He.eqO (PySem.W.findIn K (.ref D) "__getattribute__") (some (some (.builtin "BaseException.__getattribute__"))) && (He.eqO (PySem.W.findIn K (.ref D) "__getattr__") (some none) && (decide (PySem.W.subIn K (.ref D) (.type "BaseException") = some true) && (PySem.W.hasDictIn K D && (He.eqO (PySem.W.findIn K (.ref D) "__class__") (some (some (.builtin "object.__class__"))) &&
  (He.eqO (PySem.W.specialIn K (.builtin "object.__class__") "__get__") (some (some (.builtin "getset_descriptor.__get__"))) && (decide (PySem.W.takesIn K (.builtin "object.__class__") = some true) && decide (PySem.W.mroIn K D (.type "object") = some true)))))))
theorem excCB_ok (q : excCB K C = true) : ExcC K C := by
  obtain ⟨h0, q⟩ := andB q
  obtain ⟨h1, q⟩ := andB q
  obtain ⟨h2, q⟩ := andB q
  obtain ⟨h3, q⟩ := andB q
  obtain ⟨h4, q⟩ := andB q
  obtain ⟨h5, q⟩ := andB q
  obtain ⟨h6, h7⟩ := andB q
  exact ⟨He.eqO_ok h0, He.eqO_ok h1, of_decide_eq_true h2, h3, He.eqO_ok h4, He.eqO_ok h5, of_decide_eq_true h6, of_decide_eq_true h7⟩
end
/-- an own error class's __init__, as the text has it -/
structure IniD where
  cls : Str
  qual : Str
  params : Arguments
  body : List Stmt
  scope : Scope
  flds : List Str
abbrev IniW : Type := Option (Str × Str × Arguments × FuncBody × Scope × Addr × Addr)
def iniAd (K : PySem.W.Frag) (d : IniD) : Addr := He.ma K (He.ga K d.cls) "__init__"
def iniW (K : PySem.W.Frag) (d : IniD) : IniW := match K.lookup (iniAd K d) with
  | some ⟨_, _, .func fd, _⟩ => some (fd.name, fd.qualname, fd.params, fd.body, fd.scope, fd.globals, fd.builtins)
  | _ => none
def IniD.val (d : IniD) : IniW := some ("__init__", d.qual, d.params, .stmts d.body, d.scope, mainGlobals, builtinsNs)
def isNon : Value → Bool
  | .none => true
  | _ => false
def fileB (K : PySem.W.Frag) (file : Str) : Value → Bool
  | .ref c => (match K.lookup c with
    | some ⟨_, _, .fields vs, _⟩ => (match (vs[2]? : Option Value) with
      | some (Value.str f _) => decide (f = file)
      | _ => false)
    | _ => false)
  | _ => false
def closB (K : PySem.W.Frag) (C : Addr) : List (Str × Addr) → Bool
  | [(n, c)] => decide (n = "__class__") && (match K.lookup c with
    | some ⟨_, _, .cell (some (.ref D)), _⟩ => decide (D = C)
    | _ => false)
  | _ => false
def fnB (K : PySem.W.Frag) (file : Str) (d : IniD) : Bool := match K.lookup (iniAd K d) with
  | some ⟨_, _, .func fd, _⟩ => isNon fd.defaults && (PySem.W.codeIn K fd.code d.qual && (fileB K file fd.code && closB K (He.ga K d.cls) fd.closure))
  | _ => false
/-- all that is asked of a class that is made -/
def IniD.ok (K : PySem.W.Frag) (file : Str) (d : IniD) : Bool := fnB K file d && (oexB K (He.ga K d.cls) && (xfB K (He.ga K d.cls) && (excCB K (He.ga K d.cls) && (He.eqO (PySem.W.findIn K (.ref (He.ga K d.cls)) "__init__") (some (some (.ref (iniAd K d)))) && (decide (PySem.W.typeIn K (.ref (iniAd K d)) = some (.type "function")) &&
  (He.eqO (PySem.W.ks_superIn K (He.ga K d.cls) (He.ga K d.cls) "__init__") (some (some (.builtin "ValueError.__init__"))) && (decide (PySem.W.subIn K (.ref (He.ga K d.cls)) (.type "ValueError") = some true) && (decide (PySem.W.mroIn K (He.ga K d.cls) (.ref (He.ga K d.cls)) = some true) && d.flds.all fun f => He.eqO (PySem.W.findIn K (.ref (He.ga K d.cls)) f) (some none)))))))))
/-- the names -/
def namesB (K : PySem.W.Frag) : Bool := He.eqO (PySem.W.nsIn K cStatics "thirdparty.any") (some none) && (He.eqO (PySem.W.nsIn K mainGlobals "HeldorderError") (some (some (.ref (He.ga K "HeldorderError")))) && errNames.all fun x => He.eqO (PySem.W.nsIn K mainGlobals x) (some (some (.ref (He.ga K x)))))
/-- a class told from the others -/
def kitsB (K : PySem.W.Frag) (D : Str) : Bool := decide (PySem.W.kitOne K (.ref (He.ga K D)) (.ref (He.ga K "HeldorderError")) = some true) && (decide (PySem.W.kitOne K (.ref (He.ga K D)) (.type "ValueError") = some true) && (decide (PySem.W.exmOne K (.ref (He.ga K D)) (.ref (He.ga K "HeldorderError")) = some true) && errNames.all fun x => decide (PySem.W.kitOne K (.ref (He.ga K D)) (.ref (He.ga K x)) = some (decide (x = D)))))
/-! the Hook -/
abbrev AlE : Type := He.AlD × (Bool × List IniW)
def obsI (file : Str) (di : List IniD) (ks : List Str) (K : PySem.W.Frag) : Bool × List IniW := ((namesB K && ks.all fun x => kitsB K x) && di.all fun d => d.ok K file, di.map fun d => iniW K d)
def obsE (fa : List He.Fa) (fn : List He.DefD) (file : Str) (di : List IniD) (ks : List Str) (K : PySem.W.Frag) : AlE := (He.obsD fa fn K, obsI file di ks K)
def valE (fn : List He.DefD) (di : List IniD) : AlE := (He.valD fn, (true, di.map IniD.val))
def SaysE (fa : List He.Fa) (fn : List He.DefD) (file : Str) (di : List IniD) (ks : List Str) (K : PySem.W.Frag) : Prop := obsE fa fn file di ks K = valE fn di
/-- the addresses that are looked at: the names' objects, the functions' codes, the error classes with their namespaces and __init__ -/
def nsRef (g : Addr → Option Obj) (ns : Addr) (x : Str) : List Addr := match g ns with
  | some ⟨_, _, .dict es _, _⟩ => (match es.toList.find? (·.key.isStr x) with
    | some e => He.refV e.val
    | none => [])
  | _ => []
def fnRef (g : Addr → Option Obj) (a : Addr) : List Addr := match g a with
  | some ⟨_, _, .func fd, _⟩ => a :: (He.refV fd.code ++ fd.closure.map (·.2))
  | _ => [a]
def clsRef (g : Addr → Option Obj) (a : Addr) : List Addr := match g a with
  | some ⟨_, _, .cls cd, _⟩ => a :: cd.ns :: (nsRef g cd.ns "__init__").flatMap (fnRef g)
  | _ => [a]
def asE (g : Addr → Option Obj) (fn : List He.DefD) (ks : List Str) : List Addr := mainGlobals :: cStatics :: (fn.flatMap fun d => (nsRef g mainGlobals d.name).flatMap (fnRef g)) ++ ((("HeldorderError" : Str) :: ks).flatMap fun x => (nsRef g mainGlobals x).flatMap (clsRef g)) ++ errNames.flatMap (nsRef g mainGlobals)
def obsEG (fa : List He.Fa) (fn : List He.DefD) (file : Str) (di : List IniD) (ks : List Str) (g : Addr → Option Obj) : AlE := obsE fa fn file di ks (He.frG g (asE g fn ks))
def hookE (fa : List He.Fa) (fn : List He.DefD) (file : Str) (di : List IniD) (ks : List Str) : PySem.W.Hook where
  α := AlE
  obs := fun s => obsEG fa fn file di ks s.heap.get?
  val := fun _ => valE fn di
  says := fun _ h => ∃ K : PySem.W.Frag, K.In h ∧ SaysE fa fn file di ks K
  of := fun _ _ e => ⟨_, He.frG_in, e⟩
  keeps := fun _ _ _ ⟨K, hK, c⟩ k => ⟨K, PySem.W.Frag.In.keeps hK k, c⟩
theorem obsEG_eq {fa : List He.Fa} {fn : List He.DefD} {file : Str} {di : List IniD} {ks : List Str} {g : Addr → Option Obj} {s : Shared} (h : ∀ a, g a = s.heap.get? a) : obsEG fa fn file di ks g = (hookE fa fn file di ks).obs s := by
  have e : g = s.heap.get? := funext h
  rw [e] <;> rfl
section
variable {fa : List He.Fa} {fn : List He.DefD} {file : Str} {di : List IniD} {ks : List Str} {K : PySem.W.Frag} {h : Heap} {mg : Str → Option Value}
theorem SaysE.d (c : SaysE fa fn file di ks K) : He.SaysD fa fn K := congrArg (fun z : AlE => z.1) c
theorem SaysE.b (c : SaysE fa fn file di ks K) : (namesB K && ks.all fun x => kitsB K x) = true ∧ (di.all fun d => d.ok K file) = true := andB (show ((namesB K && ks.all fun x => kitsB K x) && di.all fun d => d.ok K file) = true from congrArg (fun z : AlE => z.2.1) c)
theorem SaysE.names (c : SaysE fa fn file di ks K) : namesB K = true := (andB c.b.1).1
theorem SaysE.kit (c : SaysE fa fn file di ks K) {x : Str} (hx : x ∈ ks) : kitsB K x = true := List.all_eq_true.mp (andB c.b.1).2 x hx
theorem SaysE.gH (c : SaysE fa fn file di ks K) (X : K.In h) (G : h.Ns mainGlobals mg) : mg "HeldorderError" = some (.ref (He.ga K "HeldorderError")) := PySem.W.mg_of X G (He.eqO_ok (andB (andB c.names).2).1)
theorem SaysE.g (c : SaysE fa fn file di ks K) (X : K.In h) (G : h.Ns mainGlobals mg) (x : Str) (hx : x ∈ errNames) : mg x = some (.ref (He.ga K x)) := PySem.W.mg_of X G (He.eqO_ok (List.all_eq_true.mp (andB (andB c.names).2).2 x hx))
theorem SaysE.exm (c : SaysE fa fn file di ks K) {x : Str} (hx : x ∈ ks) : PySem.W.exmOne K (.ref (He.ga K x)) (.ref (He.ga K "HeldorderError")) = some true := of_decide_eq_true (andB (andB (andB (c.kit hx)).2).2).1
theorem SaysE.ini (c : SaysE fa fn file di ks K) (i : Nat) {d : IniD} (hd : di[i]? = some d) : iniW K d = d.val ∧ d.ok K file = true := by
  have e : di.map (fun d => iniW K d) = di.map IniD.val := congrArg (fun z : AlE => z.2.2) c
  have e2 : (di.map fun d => iniW K d)[i]? = (di.map IniD.val)[i]? := by rw [e]
  rw [List.getElem?_map, List.getElem?_map, hd] at e2
  exact ⟨Option.some.inj e2, List.all_eq_true.mp c.b.2 d (List.mem_of_getElem? hd)⟩
theorem SaysE.erN (c : SaysE fa fn file di ks K) (X : K.In h) (G : h.Ns mainGlobals mg) (hV : mg "ValueError" = none) {i : Nat} {d : IniD} (hd : di[i]? = some d) (hx : d.cls ∈ ks) : ErN K mg d.cls := by
  have k := c.kit hx
  obtain ⟨k1, k⟩ := andB k
  obtain ⟨k2, k⟩ := andB k
  obtain ⟨k3, k4⟩ := andB k
  obtain ⟨_, o⟩ := c.ini i hd
  exact ⟨c.g X G, c.gH X G, hV, fun x hx => of_decide_eq_true (List.all_eq_true.mp k4 x hx), of_decide_eq_true k1, of_decide_eq_true k2, excCB_ok (andB (andB (andB (andB o).2).2).2).1⟩
/-- the class's __init__ stands as fn_super asks; it binds its parameters -/
theorem SaysE.sup {P : Program} (c : SaysE fa fn file di ks K) (hfile : P.main.file = file) (htop : (P.main.scope.names.lookup ("super" : Str)).isSome = false) (hsu : mg "super" = none) {i : Nat} {d : IniD} (hd : di[i]? = some d) {ps : List Str}
    (hb : ∀ (kV doc pm : Value) (an : Option Addr) (cdv ct : Value) (cc : Addr) (us : List Value), us.length = ps.length → bindArgs (PySem.W.ksFn "__init__" d.qual d.params d.body d.scope .none kV doc pm an cdv ct cc) ⟨us, []⟩ = pure (ps.zip us)) :
    ∃ cc cda fd, SupTxt P K mg (He.ga K d.cls) (iniAd K d) cc cda "__init__" d.qual d.params d.body d.scope fd ∧ Binds K fd ps [] ∧ PySem.W.findIn K (.ref (He.ga K d.cls)) "__init__" = some (some (.ref (iniAd K d))) ∧ PySem.W.typeIn K (.ref (iniAd K d)) = some (.type "function") ∧
      OexC K (He.ga K d.cls) ∧ XfC K (He.ga K d.cls) ∧ ExcC K (He.ga K d.cls) ∧ ∀ f ∈ d.flds, PySem.W.findIn K (.ref (He.ga K d.cls)) f = some none := by
  obtain ⟨e, o⟩ := c.ini i hd
  obtain ⟨b1, o⟩ := andB o
  obtain ⟨b2, o⟩ := andB o
  obtain ⟨b3, o⟩ := andB o
  obtain ⟨b4, o⟩ := andB o
  obtain ⟨b5, o⟩ := andB o
  obtain ⟨b6, o⟩ := andB o
  obtain ⟨b7, o⟩ := andB o
  obtain ⟨b8, o⟩ := andB o
  obtain ⟨b9, b10⟩ := andB o
  unfold fnB at b1
  unfold iniW at e
  cases q : K.lookup (iniAd K d) with
  | none =>
    rw [q] at b1
    cases b1
  | some ob =>
    obtain ⟨oc, od, dt, osl⟩ := ob
    rw [q] at b1 e
    cases dt with
    | func fd =>
      obtain ⟨n1, n2, n3, n4, n5, n6, n7, n8, n9, n10, n11, n12, n13, n14, n15⟩ := fd
      have e2 : (some (n1, n2, n3, n4, n5, n6, n15) : IniW) = some (("__init__" : Str), d.qual, d.params, FuncBody.stmts d.body, d.scope, mainGlobals, builtinsNs) := e
      simp only [Option.some.injEq, Prod.mk.injEq] at e2
      obtain ⟨h1, h2, h3, h4, h5, h6, h8⟩ := e2
      subst h1 h2 h3 h4 h5 h6 h8
      have b1' : (isNon n8 && (PySem.W.codeIn K n13 d.qual && (fileB K file n13 && closB K (He.ga K d.cls) n7))) = true := b1
      have c1 := (andB b1').1
      have c2 := (andB (andB b1').2).1
      have c3 := (andB (andB (andB b1').2).2).1
      have c4 := (andB (andB (andB b1').2).2).2
      clear b1' b1
      have e8 : n8 = .none := by
        cases n8 <;> first | rfl | cases c1
      subst e8
      have hcl : ∃ cc, n7 = [(("__class__" : Str), cc)] ∧ ∃ (cl : Value) (cld : Option Addr) (csl : Array (Option Value)), K.lookup cc = some ⟨cl, cld, .cell (some (.ref (He.ga K d.cls))), csl⟩ := by
        unfold closB at c4
        split at c4
        · rename_i n cc
          obtain ⟨a1, a2⟩ := andB c4
          obtain rfl := of_decide_eq_true a1
          split at a2
          · rename_i cl cld D csl lk
            obtain rfl := of_decide_eq_true a2
            exact ⟨cc, rfl, _, _, _, lk⟩
          · cases a2
        · cases c4
      obtain ⟨cc, rfl, hcell⟩ := hcl
      have hco : ∃ cda, n13 = .ref cda ∧ ∃ (ccl : Value) (cdd : Option Addr) (vs : Array Value) (ccs : Array (Option Value)) (file' : Str) (tf : Tok), K.lookup cda = some ⟨ccl, cdd, .fields vs, ccs⟩ ∧ vs[2]? = some (.str file' tf) ∧ ((P.main.file : Str) == file') = true := by
        unfold fileB at c3
        split at c3
        · rename_i cda
          split at c3
          · rename_i ccl cdd vs ccs lk
            split at c3
            · rename_i f tf hv
              have := of_decide_eq_true c3
              exact ⟨cda, rfl, _, _, _, _, f, tf, lk, hv, by rw [hfile, this]; exact beq_self_eq_true _⟩
            · cases c3
          · cases c3
        · cases c3
      obtain ⟨cda, rfl, hco⟩ := hco
      have hn := (andB c.names).1
      exact ⟨cc, cda, _, ⟨⟨oc, od, _, n9, n10, n11, n14, n12, osl, rfl, q⟩, c2, hco, hcell, hsu, htop, oexB_ok b2, He.eqO_ok b7, of_decide_eq_true b8, He.eqO_ok hn, of_decide_eq_true b9⟩, Binds.all fun us hl => hb _ _ _ _ _ _ _ us hl, He.eqO_ok b5, of_decide_eq_true b6, oexB_ok b2, xfB_ok b3, excCB_ok b4, fun f hf => He.eqO_ok (List.all_eq_true.mp b10 f hf)⟩
    | _ => cases b1
end

/-! ## T1 -/
def topS (i : Nat) : Stmt := PySem.Challenge.pw_heldorder_k01_moves_composed.main.body.getD i (.Pass ⟨0, 0, 0, 0⟩)
local macro_rules | `(tactic| walk_at "wp") => `(tactic| (try simp only [a_var, a_c, a_op, a_un, a_test, a_b, a_and, a_or, a_not, a_andV, a_orV, a_notV, a_if, a_next, a_seq, a_break, a_cont, a_drop, a_ret, a_retN, a_ifS, a_asg, a_name, a_sub, a_nil, a_cons, a_tup, a_lst, a_call, a_cb, a_bm0, a_bm, a_sl, a_nopart, a_part, a_aug, b_rI, b_rI0, b_rU, b_eq, b_ne, b_isTF, b_int, b_intb, b_list, b_tuple, b_ix, b_len, b_setL, b_app, b_pop, b_popAt, b_sl, b_rep, b_cat, b_lstRg, b_tupRg, b_rg1, b_rg2, a_forR, a_forR2, a_forS, b_fsq, a_lcR, a_lcR2, a_lcS, b_csq, wipe_nil, wipe_cons, a_yes, wh_i, wh_s, wh_b, wh_r, wh_n, Bool.not_eq_true, eq_self, not_true_eq_false, not_false_eq_true, b_isi, kb_all, ty_non, ty_bl, ty_int, ty_str, a_m1, b_ixS, b_slS, List.cons.injEq, and_assoc, exists_and_left, cxK, List.getElem?_cons_zero, List.getElem?_cons_succ, List.set_cons_zero, List.set_cons_succ, Option.some.injEq, exists_eq_left', exists_eq_left, V.bl.injEq, V.int.injEq, V.ref.injEq, V.str.injEq, HO.lst.injEq, HO.tup.injEq, decide_eq_true_eq, true_and, and_true, L2.start, List.map_cons, List.map_nil, List.length_cons, List.length_nil, Nat.zero_add, Nat.reduceAdd, Nat.reduceSub, List.replicate_succ, List.replicate_zero, List.cons_append, List.nil_append, if_true, if_false, Bool.false_eq_true, Bool.not_true, Bool.not_false, decide_not, Bool.not_eq_true', decide_eq_false_iff_not, scal_ii, scal_bb, scal_ss, scal_is, scal_si, reduceCtorEq, Bool.true_eq_false, decide_false, decide_true, if_pos, ne_eq, Int.reduceNeg, atI_0, atI_1, atI_2, atI_3, atI_4, atI_5, atI_6, ixN_7, b_ins, a_revL, b_isT, V.ty.injEq, Bool.true_or, Bool.or_true, Bool.false_or, Bool.or_false, Bool.or_self, b_sorted, b_repT]))
local macro_rules | `(tactic| walk_at "wps") => `(tactic| (try simp only [a_var, a_c, a_op, a_un, a_test, a_b, a_and, a_or, a_not, a_andV, a_orV, a_notV, a_if, a_next, a_seq, a_break, a_cont, a_drop, a_ret, a_retN, a_ifS, a_asg, a_name, a_sub, a_nil, a_cons, a_tup, a_lst, a_call, a_cb, a_bm0, a_bm, a_sl, a_nopart, a_part, a_aug, b_rI, b_rI0, b_rU, b_eq, b_ne, b_isTF, b_int, b_intb, b_list, b_tuple, b_ix, b_len, b_setL, b_app, b_pop, b_popAt, b_sl, b_rep, b_cat, b_lstRg, b_tupRg, b_rg1, b_rg2, a_forR, a_forR2, a_forS, b_fsq, a_lcR, a_lcR2, a_lcS, b_csq, wipe_nil, wipe_cons, a_yes, wh_i, wh_s, wh_b, wh_r, wh_n, Bool.not_eq_true, eq_self, not_true_eq_false, not_false_eq_true, b_isi, kb_all, ty_non, ty_bl, ty_int, ty_str, a_m1, b_ixS, b_slS, List.cons.injEq, and_assoc, exists_and_left, cxK, List.getElem?_cons_zero, List.getElem?_cons_succ, List.set_cons_zero, List.set_cons_succ, Option.some.injEq, exists_eq_left', exists_eq_left, V.bl.injEq, V.int.injEq, V.ref.injEq, V.str.injEq, HO.lst.injEq, HO.tup.injEq, decide_eq_true_eq, true_and, and_true, L2.start, List.map_cons, List.map_nil, List.length_cons, List.length_nil, Nat.zero_add, Nat.reduceAdd, Nat.reduceSub, List.replicate_succ, List.replicate_zero, List.cons_append, List.nil_append, if_true, if_false, Bool.false_eq_true, Bool.not_true, Bool.not_false, decide_not, Bool.not_eq_true', decide_eq_false_iff_not, scal_ii, scal_bb, scal_ss, scal_is, scal_si, reduceCtorEq, Bool.true_eq_false, decide_false, decide_true, if_pos, ne_eq, Int.reduceNeg, atI_0, atI_1, atI_2, atI_3, atI_4, atI_5, atI_6, ixN_7, b_ins, a_revL, b_isT, V.ty.injEq, Bool.true_or, Bool.or_true, Bool.false_or, Bool.or_false, Bool.or_self, b_sorted, b_repT, *]))
local macro_rules | `(tactic| walk_at "wq") => `(tactic| (try simp only [a_var, a_c, a_op, a_un, a_test, a_b, a_and, a_or, a_not, a_andV, a_orV, a_notV, a_if, a_next, a_break, a_cont, a_drop, a_ret, a_retN, a_ifS, a_asg, a_name, a_sub, a_nil, a_cons, a_tup, a_lst, a_call, a_cb, a_bm0, a_bm, a_sl, a_nopart, a_part, a_aug, b_rI, b_rI0, b_rU, b_eq, b_ne, b_isTF, b_int, b_intb, b_list, b_tuple, b_ix, b_len, b_setL, b_app, b_pop, b_popAt, b_sl, b_rep, b_cat, b_lstRg, b_tupRg, b_rg1, b_rg2, a_forR, a_forR2, a_forS, b_fsq, a_lcR, a_lcR2, a_lcS, b_csq, wipe_nil, wipe_cons, a_yes, wh_i, wh_s, wh_b, wh_r, wh_n, Bool.not_eq_true, eq_self, not_true_eq_false, not_false_eq_true, b_isi, kb_all, ty_non, ty_bl, ty_int, ty_str, a_m1, b_ixS, b_slS, List.cons.injEq, and_assoc, exists_and_left, cxK, List.getElem?_cons_zero, List.getElem?_cons_succ, List.set_cons_zero, List.set_cons_succ, Option.some.injEq, exists_eq_left', exists_eq_left, V.bl.injEq, V.int.injEq, V.ref.injEq, V.str.injEq, HO.lst.injEq, HO.tup.injEq, decide_eq_true_eq, true_and, and_true, L2.start, List.map_cons, List.map_nil, List.length_cons, List.length_nil, Nat.zero_add, Nat.reduceAdd, Nat.reduceSub, List.replicate_succ, List.replicate_zero, List.cons_append, List.nil_append, if_true, if_false, Bool.false_eq_true, Bool.not_true, Bool.not_false, decide_not, Bool.not_eq_true', decide_eq_false_iff_not, scal_ii, scal_bb, scal_ss, scal_is, scal_si, reduceCtorEq, Bool.true_eq_false, decide_false, decide_true, if_pos, ne_eq, Int.reduceNeg, atI_0, atI_1, atI_2, atI_3, atI_4, atI_5, atI_6, ixN_7, b_ins, a_revL, b_isT, V.ty.injEq, Bool.true_or, Bool.or_true, Bool.false_or, Bool.or_false, Bool.or_self, b_sorted, b_repT, *]))
local macro_rules | `(tactic| walk_at "wn") => `(tactic| (try simp only [a_var, a_c, a_op, a_un, a_test, a_b, a_and, a_or, a_not, a_andV, a_orV, a_notV, a_if, a_next, a_break, a_cont, a_drop, a_ret, a_retN, a_ifS, a_asg, a_name, a_sub, a_nil, a_cons, a_tup, a_lst, a_call, a_cb, a_bm0, a_bm, a_sl, a_nopart, a_part, a_aug, b_rI, b_rI0, b_rU, b_eq, b_ne, b_isTF, b_int, b_intb, b_list, b_tuple, b_ix, b_len, b_setL, b_app, b_pop, b_popAt, b_sl, b_rep, b_cat, b_lstRg, b_tupRg, b_rg1, b_rg2, a_forR, a_forR2, a_forS, b_fsq, a_lcR, a_lcR2, a_lcS, b_csq, wipe_nil, wipe_cons, a_yes, wh_i, wh_s, wh_b, wh_r, wh_n, Bool.not_eq_true, eq_self, not_true_eq_false, not_false_eq_true, b_isi, kb_all, ty_non, ty_bl, ty_int, ty_str, a_m1, b_ixS, b_slS, List.cons.injEq, and_assoc, exists_and_left, cxK, List.getElem?_cons_zero, List.getElem?_cons_succ, List.set_cons_zero, List.set_cons_succ, Option.some.injEq, exists_eq_left', exists_eq_left, V.bl.injEq, V.int.injEq, V.ref.injEq, V.str.injEq, HO.lst.injEq, HO.tup.injEq, decide_eq_true_eq, true_and, and_true, L2.start, List.map_cons, List.map_nil, List.length_cons, List.length_nil, Nat.zero_add, Nat.reduceAdd, Nat.reduceSub, List.replicate_succ, List.replicate_zero, List.cons_append, List.nil_append, if_true, if_false, Bool.false_eq_true, Bool.not_true, Bool.not_false, decide_not, Bool.not_eq_true', decide_eq_false_iff_not, scal_ii, scal_bb, scal_ss, scal_is, scal_si, reduceCtorEq, Bool.true_eq_false, decide_false, decide_true, if_pos, ne_eq, Int.reduceNeg, atI_0, atI_1, atI_2, atI_3, atI_4, atI_5, atI_6, ixN_7, b_ins, a_revL, b_isT, V.ty.injEq, Bool.true_or, Bool.or_true, Bool.false_or, Bool.or_false, Bool.or_self, b_sorted, b_repT]))
local macro_rules | `(tactic| walk_at "sq") => `(tactic| ((try dsimp only); rw [a_seq]; walk_at "wq"))

section
variable {P : Program} {w : World} {K : PySem.W.Frag} {mg : Str → Option Value} {base : Heap}

def sp_mixed : Sp := fun vs H Q _ => ∃ a b : Int, vs = [.int a, .int b] ∧ ∀ r, Q (.int r) H
abbrev st_law_mixed : Stmt := topS 46
theorem sc_law_mixed : FnScope ["seed", "turn", "first", "second"] ["seed", "turn"] (defScope st_law_mixed) := ⟨rfl, rfl, rfl, by decide +kernel, rfl, by decide +kernel, by decide +kernel⟩
theorem ok_law_mixed (D : Df K mg "_law_mixed" st_law_mixed) (T : NoB mg)  : Cl P w K mg base 1 "_law_mixed" ["seed", "turn"] sp_mixed := by
  refine cl_of D sc_law_mixed (fun _ _ _ _ _ _ us hl => match us, hl with | [_, _], _ => rfl) (fun vs H Q E h => ?_) (fun f cdv A outer sh H vs Q E hr h => ?_)
  · obtain ⟨_, _, rfl, _⟩ := h; rfl
  obtain ⟨a, b, rfl, k⟩ := h
  refine ⟨_, (pss_cons (ps_set (i := 2) sc_law_mixed.nd rfl (Or.inl rfl) (pe_op op_modN (pe_callTy int1 (by rfl) T.no_int (by decide +kernel) (pa_cons (pe_op op_add (pe_op op_add (pe_op op_mul (pv 0) pe_int) (pe_op op_mul (pv 1) pe_int)) pe_int) pa_nil)) pe_int))
    (pss_cons (ps_set (i := 3) sc_law_mixed.nd rfl (Or.inl rfl) (pe_op op_modN (pe_callTy int1 (by rfl) T.no_int (by decide +kernel) (pa_cons (pe_op op_add (pe_op op_add (pe_op op_mul (pv 2) (pv 2)) (pe_op op_mul (pv 0) pe_int)) (pv 1)) pa_nil)) pe_int))
    (pss_one (ps_ret (pe_op op_modN (pe_callTy int1 (by rfl) T.no_int (by decide +kernel) (pa_cons (pe_op op_add (pe_op op_mul (pv 3) (pv 3)) (pv 2)) pa_nil)) pe_int))))), ?_⟩
  walk_at "wp"
  exact ⟨cm_lit (by decide), cm_lit (by decide), by decide, cm_fm (by decide) (by decide), cm_lit (by decide), by decide, cm_fm (by decide) (by decide), by decide, k _⟩

def sp_take : Sp := fun vs H Q _ => ∃ (s l : Addr) (n : Int), vs = [.ref s, .int n] ∧ n < 2 ^ 62 ∧ Sto s l H ∧ ∀ r H', Ge s l H H' → 0 ≤ r → (2 ≤ n → r < n) → (n < 2 → r = 0) → Q (.int r) H'

abbrev st_law_take : Stmt := topS 47
theorem sc_law_take : FnScope ["store", "many", "cell", "digit"] ["store", "many"] (defScope st_law_take) := ⟨rfl, rfl, rfl, by decide +kernel, rfl, by decide +kernel, by decide +kernel⟩
theorem ok_law_take (D : Df K mg "_law_take" st_law_take) (T : NoB mg) (C_law_mixed : Cl P w K mg base 1 "_law_mixed" ["seed", "turn"] sp_mixed) : Cl P w K mg base 2 "_law_take" ["store", "many"] sp_take := by
  refine cl_of D sc_law_take (fun _ _ _ _ _ _ us hl => match us, hl with | [_, _], _ => rfl) (fun vs H Q E h => ?_) (fun f cdv A outer sh H vs Q E hr h => ?_)
  · obtain ⟨_, _, _, rfl, _⟩ := h; rfl
  obtain ⟨a, l, n, rfl, hn, ⟨ns, i1, i2, i3, i4, i5, i6, hs, hl, ne, h1⟩, k⟩ := h
  refine ⟨_, (pss_cons (ps_if (pt_cmpR op_lt (pv 1) pe_int (nomark _)) (pss_one (ps_ret pe_int)) pss_nil)
    (pss_cons (ps_if (PW.pt (pw_and (pt_cmpR op_lt (pe_ix ix1 (pv 0) pe_int (fun _ _ => rfl)) pe_int (nomark _)) (pw_and (pt_cmpR op_eq (pe_ix ix1 (pv 0) pe_int (fun _ _ => rfl)) pe_int (nomark _)) (pw_and1 (pt_cmpR op_lt (pe_ix ix1 (pv 0) pe_int (fun _ _ => rfl)) (pe_callB len1 (by rfl) T.no_len (by decide +kernel) (pa_cons (pe_ix ix1 (pv 0) pe_int (fun _ _ => rfl)) pa_nil)) (nomark _)))))) (pss_cons (ps_set (i := 2) sc_law_take.nd rfl (Or.inl rfl) (pe_ix ix1 (pe_ix ix1 (pv 0) pe_int (fun _ _ => rfl)) (pe_ix ix1 (pv 0) pe_int (fun _ _ => rfl)) (fun _ _ => rfl)))
    (pss_cons (ps_asg (pe_op op_add (pe_ix ix1 (pv 0) pe_int (fun _ _ => rfl)) pe_int) (pg_sub (pv 0) pe_int set_list))
    (pss_cons (ps_asg (pe_op op_modN (pe_callTy int1 (by rfl) T.no_int (by decide +kernel) (pa_cons (pe_op op_add (pe_op op_add (pe_op op_mul (pe_ix ix1 (pv 0) pe_int (fun _ _ => rfl)) pe_int) (pe_op op_modN (pe_callTy int1 (by rfl) T.no_int (by decide +kernel) (pa_cons (pv 2) pa_nil)) pe_int)) pe_int) pa_nil)) pe_int) (pg_sub (pv 0) pe_int set_list))
    (pss_one (ps_if (pt_cmpR op_ge (pv 2) (pe_op op_pow pe_int pe_int) (nomark _)) (pss_one (ps_asg (pv 2) (pg_sub (pv 0) pe_int set_list))) (pss_cons (ps_asg pe_int (pg_sub (pv 0) pe_int set_list))
    (pss_one (ps_asg (pe_op op_modN (pe_callTy int1 (by rfl) T.no_int (by decide +kernel) (pa_cons (pv 2) pa_nil)) pe_int) (pg_sub (pv 0) pe_int set_list))))))))) pss_nil)
    (pss_cons (ps_if (pt_cmpR op_ge (pe_ix ix1 (pv 0) pe_int (fun _ _ => rfl)) pe_int (nomark _)) (pss_cons (ps_set (i := 3) sc_law_take.nd rfl (Or.inl rfl) (pe_op op_modN (pe_callTy int1 (by rfl) T.no_int (by decide +kernel) (pa_cons (pe_ix ix1 (pv 0) pe_int (fun _ _ => rfl)) pa_nil)) (pv 1)))
    (pss_cons (ps_asg (pe_op op_fdivW (pe_ix ix1 (pv 0) pe_int (fun _ _ => rfl)) (pv 1)) (pg_sub (pv 0) pe_int set_list))
    (pss_one (ps_ret (pv 3))))) pss_nil)
    (pss_cons (ps_asg (pe_op op_add (pe_ix ix1 (pv 0) pe_int (fun _ _ => rfl)) pe_int) (pg_sub (pv 0) pe_int set_list))
    (pss_cons (ps_if (pt_cmpR op_gt (pe_ix ix1 (pv 0) pe_int (fun _ _ => rfl)) pe_int (nomark _)) (pss_cons (ps_asg (pe_op op_sub (pe_ix ix1 (pv 0) pe_int (fun _ _ => rfl)) pe_int) (pg_sub (pv 0) pe_int set_list))
    (pss_one (ps_ret (pe_op op_modN (pe_callTy int1 (by rfl) T.no_int (by decide +kernel) (pa_cons (pe_cl C_law_mixed hr (by rfl) (pa_cons (pe_ix ix1 (pv 0) pe_int (fun _ _ => rfl)) (pa_cons (pe_ix ix1 (pv 0) pe_int (fun _ _ => rfl)) pa_nil))) pa_nil)) (pv 1))))) pss_nil)
    (pss_one (ps_ret (pe_op op_modN (pe_callTy int1 (by rfl) T.no_int (by decide +kernel) (pa_cons (pe_cl C_law_mixed hr (by rfl) (pa_cons (pe_ix ix1 (pv 0) pe_int (fun _ _ => rfl)) (pa_cons (pe_ix ix1 (pv 0) pe_int (fun _ _ => rfl)) pa_nil))) pa_nil)) (pv 1))))))))), ?_⟩
  have hq := sq_l hs
  have hql := sq_l hl
  rw [a_seq]
  walk_at "wq"
  split
  · exact k 0 H ⟨Kp.refl, _, _, _, _, _, _, _, hs, hl, ne, h1⟩ (Int.le_refl _) (by omega) (fun _ => rfl)
  refine seq_join (fun σ H' => ∃ (v : Option V) (i1 i2 i3 i4 i5 i6 : Int), σ = [some (.ref a), some (.int n), v, none] ∧ Kp a H H' ∧ H' l = some (.lst (ns.map V.int)) ∧ 0 ≤ i1 ∧ H' a = some (.lst [.ref l, .int i1, .int i2, .int i3, .int i4, .int i5, .int i6])) (fun N hN => ?_) ?_
  · have out : N [some (V.ref a), some (V.int n), none, none] H := hN _ _ ⟨none, _, _, _, _, _, _, rfl, Kp.refl, hl, h1, hs⟩
    walk_at "wps"
    split
    · split
      · split
        · rename_i g1 g2 g3
          have g4 : i1.toNat < ns.length := by rw [List.length_map] at g3; omega
          refine ⟨.int ns[i1.toNat], atI_of h1 (by simp [g4]), fun H3 n3 => ?_⟩
          have hs3 := n3.at_
          have hq3 := sq_l n3.at_
          have hl3 := n3.k ne hl
          clear out
          walk_at "wps"
          refine ⟨cm_lit (by decide), by decide, by decide, fun H4 n4 => ?_⟩
          have hs4 := n4.at_
          have hl4 := n4.k ne hl3
          walk_at "wps"
          refine ⟨⟨by decide, by decide, by decide⟩, ?_⟩
          split
          · refine fun H5 n5 => hN _ _ ⟨_, _, _, _, _, _, _, rfl, ((Kp.put n3).trans (Kp.put n4)).trans (Kp.put n5), n5.k ne hl4, by omega, n5.at_⟩
          · refine fun H5 n5 => ?_
            have hs5 := n5.at_
            have hl5 := n5.k ne hl4
            walk_at "wps"
            refine ⟨by decide, fun H6 n6 => ?_⟩
            exact hN _ _ ⟨_, _, _, _, _, _, _, rfl, (((Kp.put n3).trans (Kp.put n4)).trans (Kp.put n5)).trans (Kp.put n6), n6.k ne hl5, by omega, n6.at_⟩
        · trivial
      · trivial
    · trivial
  · clear hs hq hql hl h1 i1 i2 i3 i4 i5 i6
    rintro _ H1 ⟨v, i1, i2, i3, i4, i5, i6, rfl, kp, hl, h1, hs⟩
    have hq := sq_l hs
    rw [a_seq]
    walk_at "wq"
    have hn2 : 0 < n := by omega
    split
    · rw [a_seq]
      walk_at "wps"
      refine ⟨by omega, ⟨hn2, ?_⟩, fun H2 n2 => ?_⟩
      · exact Nat.lt_trans (PySem.Flt.log2_lt_of (n := n.natAbs) (k := 62) (by decide) (by omega)) (by decide)
      · exact k _ H2 ⟨kp.trans (Kp.put n2), Sto.put hl ne n2 h1⟩ (fm_bound hn2).1 (fun _ => (fm_bound hn2).2) (fun z => by omega)
    · rw [a_seq]
      walk_at "wq"
      intro H2 n2
      try dsimp only
      have hs2 := n2.at_
      have hq2 := sq_l n2.at_
      have hl2 := n2.k ne hl
      rw [a_seq]
      walk_at "wq"
      split
      · rw [a_seq]
        walk_at "wq"
        intro H3 n3
        try dsimp only
        have hs3 := n3.at_
        have hq3 := sq_l n3.at_
        have hl3 := n3.k ne hl2
        walk_at "wq"
        refine ⟨_, _, rfl, fun r => ?_⟩
        walk_at "wq"
        exact ⟨by omega, k _ _ ⟨(kp.trans (Kp.put n2)).trans (Kp.put n3), _, _, _, _, _, _, _, hs3, hl3, ne, h1⟩ (fm_bound hn2).1 (fun _ => (fm_bound hn2).2) (fun z => by omega)⟩
      · refine ⟨_, _, rfl, fun r => ?_⟩
        walk_at "wq"
        exact ⟨by omega, k _ _ ⟨kp.trans (Kp.put n2), _, _, _, _, _, _, _, hs2, hl2, ne, h1⟩ (fm_bound hn2).1 (fun _ => (fm_bound hn2).2) (fun z => by omega)⟩
end

/-! ## HR -/
/-! ### the head -/
def d_shown : He.DefD := ⟨("shown", none), "shown", "shown", defArgs (topS 2), defBody (topS 2), defScope (topS 2), [], []⟩
def d_is_whole : He.DefD := ⟨("is_whole", none), "is_whole", "is_whole", defArgs (topS 37), defBody (topS 37), defScope (topS 37), [], []⟩
def d_is_move : He.DefD := ⟨("is_move", none), "is_move", "is_move", defArgs (topS 38), defBody (topS 38), defScope (topS 38), [], []⟩
def d_check_move : He.DefD := ⟨("check_move", none), "check_move", "check_move", defArgs (topS 39), defBody (topS 39), defScope (topS 39), [], []⟩
def d_check_two_moves : He.DefD := ⟨("check_two_moves", none), "check_two_moves", "check_two_moves", defArgs (topS 40), defBody (topS 40), defScope (topS 40), [], []⟩
def d_joined : He.DefD := ⟨("joined", none), "joined", "joined", defArgs (topS 41), defBody (topS 41), defScope (topS 41), [], []⟩
def d_compose : He.DefD := ⟨("compose", none), "compose", "compose", defArgs (topS 42), defBody (topS 42), defScope (topS 42), [], []⟩
def d_opposite : He.DefD := ⟨("opposite", none), "opposite", "opposite", defArgs (topS 43), defBody (topS 43), defScope (topS 43), [], []⟩
def d_law_store : He.DefD := ⟨("_law_store", none), "_law_store", "_law_store", defArgs (topS 45), defBody (topS 45), defScope (topS 45), [], []⟩
def d_law_mixed : He.DefD := ⟨("_law_mixed", none), "_law_mixed", "_law_mixed", defArgs (topS 46), defBody (topS 46), defScope (topS 46), [], []⟩
def d_law_take : He.DefD := ⟨("_law_take", none), "_law_take", "_law_take", defArgs (topS 47), defBody (topS 47), defScope (topS 47), [], []⟩
def d_law_pick : He.DefD := ⟨("_law_pick", none), "_law_pick", "_law_pick", defArgs (topS 48), defBody (topS 48), defScope (topS 48), [], []⟩
def d_law_place : He.DefD := ⟨("_law_place", none), "_law_place", "_law_place", defArgs (topS 49), defBody (topS 49), defScope (topS 49), [], []⟩
def d_law_drawn : He.DefD := ⟨("_law_drawn", none), "_law_drawn", "_law_drawn", defArgs (topS 50), defBody (topS 50), defScope (topS 50), [], []⟩
def d_law_either : He.DefD := ⟨("_law_either", none), "_law_either", "_law_either", defArgs (topS 51), defBody (topS 51), defScope (topS 51), [], []⟩
def d_law_whole : He.DefD := ⟨("_law_whole", none), "_law_whole", "_law_whole", defArgs (topS 52), defBody (topS 52), defScope (topS 52), [], []⟩
def d_law_sign : He.DefD := ⟨("_law_sign", none), "_law_sign", "_law_sign", defArgs (topS 53), defBody (topS 53), defScope (topS 53), [], []⟩
def d_law_text : He.DefD := ⟨("_law_text", none), "_law_text", "_law_text", defArgs (topS 54), defBody (topS 54), defScope (topS 54), [], []⟩
def d_law_leaf : He.DefD := ⟨("_law_leaf", none), "_law_leaf", "_law_leaf", defArgs (topS 55), defBody (topS 55), defScope (topS 55), [], []⟩
def d_law_value : He.DefD := ⟨("_law_value", none), "_law_value", "_law_value", defArgs (topS 56), defBody (topS 56), defScope (topS 56), [], []⟩
def d_law_is_whole : He.DefD := ⟨("_law_is_whole", none), "_law_is_whole", "_law_is_whole", defArgs (topS 57), defBody (topS 57), defScope (topS 57), [], []⟩
def d_law_same : He.DefD := ⟨("_law_same", none), "_law_same", "_law_same", defArgs (topS 58), defBody (topS 58), defScope (topS 58), [], []⟩
def d_law_frozen : He.DefD := ⟨("_law_frozen", none), "_law_frozen", "_law_frozen", defArgs (topS 59), defBody (topS 59), defScope (topS 59), [], []⟩
def d_law_after : He.DefD := ⟨("_law_after", none), "_law_after", "_law_after", defArgs (topS 60), defBody (topS 60), defScope (topS 60), [], []⟩
def d_law_move : He.DefD := ⟨("_law_move", none), "_law_move", "_law_move", defArgs (topS 61), defBody (topS 61), defScope (topS 61), [], []⟩
def d_law_move_fits : He.DefD := ⟨("_law_move_fits", none), "_law_move_fits", "_law_move_fits", defArgs (topS 62), defBody (topS 62), defScope (topS 62), [], []⟩
def d_law_bad_move : He.DefD := ⟨("_law_bad_move", none), "_law_bad_move", "_law_bad_move", defArgs (topS 63), defBody (topS 63), defScope (topS 63), [], []⟩
def d_law_alone : He.DefD := ⟨("_law_alone", none), "_law_alone", "_law_alone", defArgs (topS 64), defBody (topS 64), defScope (topS 64), [], []⟩
def d_law_refusal : He.DefD := ⟨("_law_refusal", none), "_law_refusal", "_law_refusal", defArgs (topS 65), defBody (topS 65), defScope (topS 65), [], []⟩
def d_law_argument : He.DefD := ⟨("_law_argument", none), "_law_argument", "_law_argument", defArgs (topS 66), defBody (topS 66), defScope (topS 66), [], []⟩
def d_law_fault : He.DefD := ⟨("_law_fault", none), "_law_fault", "_law_fault", defArgs (topS 67), defBody (topS 67), defScope (topS 67), [], []⟩
def d_law_composes : He.DefD := ⟨("_law_composes", none), "_law_composes", "_law_composes", defArgs (topS 68), defBody (topS 68), defScope (topS 68), [], []⟩
def d_law_undoes : He.DefD := ⟨("_law_undoes", none), "_law_undoes", "_law_undoes", defArgs (topS 69), defBody (topS 69), defScope (topS 69), [], []⟩
def d_law_errors_kept : He.DefD := ⟨("_law_errors_kept", none), "_law_errors_kept", "_law_errors_kept", defArgs (topS 70), defBody (topS 70), defScope (topS 70), [], []⟩
def d_law : He.DefD := ⟨("law", none), "law", "law", defArgs (topS 71), defBody (topS 71), defScope (topS 71), [], []⟩
def di_BadNumber : IniD := ⟨"BadNumber", "BadNumber.__init__", defArgs (clsFn (topS 4) 0), defBody (clsFn (topS 4) 0), defScope (clsFn (topS 4) 0), ["value", "low", "high"]⟩
def di_NotAPoint : IniD := ⟨"NotAPoint", "NotAPoint.__init__", defArgs (clsFn (topS 5) 0), defBody (clsFn (topS 5) 0), defScope (clsFn (topS 5) 0), ["value"]⟩
def di_NotAMove : IniD := ⟨"NotAMove", "NotAMove.__init__", defArgs (clsFn (topS 6) 0), defBody (clsFn (topS 6) 0), defScope (clsFn (topS 6) 0), ["index"]⟩
def di_TooMany : IniD := ⟨"TooMany", "TooMany.__init__", defArgs (clsFn (topS 7) 0), defBody (clsFn (topS 7) 0), defScope (clsFn (topS 7) 0), ["what", "limit"]⟩
def di_UnlikeSizes : IniD := ⟨"UnlikeSizes", "UnlikeSizes.__init__", defArgs (clsFn (topS 8) 0), defBody (clsFn (topS 8) 0), defScope (clsFn (topS 8) 0), ["first", "second"]⟩
def di_RepeatedPoint : IniD := ⟨"RepeatedPoint", "RepeatedPoint.__init__", defArgs (clsFn (topS 9) 0), defBody (clsFn (topS 9) 0), defScope (clsFn (topS 9) 0), ["value"]⟩
def di_BadText : IniD := ⟨"BadText", "BadText.__init__", defArgs (clsFn (topS 10) 0), defBody (clsFn (topS 10) 0), defScope (clsFn (topS 10) 0), ["line"]⟩
def di_NotMade : IniD := ⟨"NotMade", "NotMade.__init__", defArgs (clsFn (topS 11) 0), defBody (clsFn (topS 11) 0), defScope (clsFn (topS 11) 0), ["move"]⟩
def di_NotTight : IniD := ⟨"NotTight", "NotTight.__init__", defArgs (clsFn (topS 12) 0), defBody (clsFn (topS 12) 0), defScope (clsFn (topS 12) 0), ["index"]⟩
def di_NotFull : IniD := ⟨"NotFull", "NotFull.__init__", defArgs (clsFn (topS 13) 0), defBody (clsFn (topS 13) 0), defScope (clsFn (topS 13) 0), ["point"]⟩
def di_NotAFailing : IniD := ⟨"NotAFailing", "NotAFailing.__init__", defArgs (clsFn (topS 14) 0), defBody (clsFn (topS 14) 0), defScope (clsFn (topS 14) 0), ["condition"]⟩
def di_NotNeighbours : IniD := ⟨"NotNeighbours", "NotNeighbours.__init__", defArgs (clsFn (topS 15) 0), defBody (clsFn (topS 15) 0), defScope (clsFn (topS 15) 0), []⟩
def di_NotShorter : IniD := ⟨"NotShorter", "NotShorter.__init__", defArgs (clsFn (topS 16) 0), defBody (clsFn (topS 16) 0), defScope (clsFn (topS 16) 0), ["first", "second"]⟩
def di_SameLength : IniD := ⟨"SameLength", "SameLength.__init__", defArgs (clsFn (topS 17) 0), defBody (clsFn (topS 17) 0), defScope (clsFn (topS 17) 0), ["length"]⟩
def di_NoSuchLength : IniD := ⟨"NoSuchLength", "NoSuchLength.__init__", defArgs (clsFn (topS 18) 0), defBody (clsFn (topS 18) 0), defScope (clsFn (topS 18) 0), ["length", "least", "greatest"]⟩
def di_NotAnOrder : IniD := ⟨"NotAnOrder", "NotAnOrder.__init__", defArgs (clsFn (topS 19) 0), defBody (clsFn (topS 19) 0), defScope (clsFn (topS 19) 0), []⟩
def di_NotAChain : IniD := ⟨"NotAChain", "NotAChain.__init__", defArgs (clsFn (topS 20) 0), defBody (clsFn (topS 20) 0), defScope (clsFn (topS 20) 0), []⟩
def di_NotABase : IniD := ⟨"NotABase", "NotABase.__init__", defArgs (clsFn (topS 21) 0), defBody (clsFn (topS 21) 0), defScope (clsFn (topS 21) 0), ["place"]⟩
def di_NotInside : IniD := ⟨"NotInside", "NotInside.__init__", defArgs (clsFn (topS 22) 0), defBody (clsFn (topS 22) 0), defScope (clsFn (topS 22) 0), ["point"]⟩
def di_OrderMatters : IniD := ⟨"OrderMatters", "OrderMatters.__init__", defArgs (clsFn (topS 23) 0), defBody (clsFn (topS 23) 0), defScope (clsFn (topS 23) 0), ["failing"]⟩
def di_FullLot : IniD := ⟨"FullLot", "FullLot.__init__", defArgs (clsFn (topS 24) 0), defBody (clsFn (topS 24) 0), defScope (clsFn (topS 24) 0), ["lot"]⟩
def di_NotAWord : IniD := ⟨"NotAWord", "NotAWord.__init__", defArgs (clsFn (topS 25) 0), defBody (clsFn (topS 25) 0), defScope (clsFn (topS 25) 0), ["index"]⟩
def di_NotAColumn : IniD := ⟨"NotAColumn", "NotAColumn.__init__", defArgs (clsFn (topS 26) 0), defBody (clsFn (topS 26) 0), defScope (clsFn (topS 26) 0), ["value"]⟩
def di_NotACount : IniD := ⟨"NotACount", "NotACount.__init__", defArgs (clsFn (topS 27) 0), defBody (clsFn (topS 27) 0), defScope (clsFn (topS 27) 0), ["index"]⟩
def di_GameOver : IniD := ⟨"GameOver", "GameOver.__init__", defArgs (clsFn (topS 28) 0), defBody (clsFn (topS 28) 0), defScope (clsFn (topS 28) 0), ["locks"]⟩
def di_NotAllowed : IniD := ⟨"NotAllowed", "NotAllowed.__init__", defArgs (clsFn (topS 29) 0), defBody (clsFn (topS 29) 0), defScope (clsFn (topS 29) 0), ["point"]⟩
def di_NothingToUndo : IniD := ⟨"NothingToUndo", "NothingToUndo.__init__", defArgs (clsFn (topS 30) 0), defBody (clsFn (topS 30) 0), defScope (clsFn (topS 30) 0), []⟩
def di_NothingToRedo : IniD := ⟨"NothingToRedo", "NothingToRedo.__init__", defArgs (clsFn (topS 31) 0), defBody (clsFn (topS 31) 0), defScope (clsFn (topS 31) 0), []⟩
def di_NothingKept : IniD := ⟨"NothingKept", "NothingKept.__init__", defArgs (clsFn (topS 32) 0), defBody (clsFn (topS 32) 0), defScope (clsFn (topS 32) 0), []⟩
def di_BadEdit : IniD := ⟨"BadEdit", "BadEdit.__init__", defArgs (clsFn (topS 33) 0), defBody (clsFn (topS 33) 0), defScope (clsFn (topS 33) 0), ["index"]⟩
def di_UnknownName : IniD := ⟨"UnknownName", "UnknownName.__init__", defArgs (clsFn (topS 34) 0), defBody (clsFn (topS 34) 0), defScope (clsFn (topS 34) 0), ["name"]⟩
def di_NotAPaper : IniD := ⟨"NotAPaper", "NotAPaper.__init__", defArgs (clsFn (topS 35) 0), defBody (clsFn (topS 35) 0), defScope (clsFn (topS 35) 0), []⟩
def hfn : List He.DefD := [d_shown, d_is_whole, d_is_move, d_check_move, d_check_two_moves, d_joined, d_compose, d_opposite, d_law_store, d_law_mixed, d_law_take, d_law_pick, d_law_place, d_law_drawn, d_law_either, d_law_whole, d_law_sign, d_law_text, d_law_leaf, d_law_value, d_law_is_whole, d_law_same, d_law_frozen, d_law_after, d_law_move, d_law_move_fits, d_law_bad_move, d_law_alone, d_law_refusal, d_law_argument, d_law_fault, d_law_composes, d_law_undoes, d_law_errors_kept, d_law]
def hdi : List IniD := [di_BadNumber, di_NotAPoint, di_NotAMove, di_TooMany, di_UnlikeSizes, di_RepeatedPoint, di_BadText, di_NotMade, di_NotTight, di_NotFull, di_NotAFailing, di_NotNeighbours, di_NotShorter, di_SameLength, di_NoSuchLength, di_NotAnOrder, di_NotAChain, di_NotABase, di_NotInside, di_OrderMatters, di_FullLot, di_NotAWord, di_NotAColumn, di_NotACount, di_GameOver, di_NotAllowed, di_NothingToUndo, di_NothingToRedo, di_NothingKept, di_BadEdit, di_UnknownName, di_NotAPaper]
def hks : List Str := ["BadNumber", "NotAPoint", "NotAMove", "TooMany", "UnlikeSizes", "RepeatedPoint", "BadText", "NotMade", "NotTight", "NotFull", "NotAFailing", "NotNeighbours", "NotShorter", "SameLength", "NoSuchLength", "NotAnOrder", "NotAChain", "NotABase", "NotInside", "OrderMatters", "FullLot", "NotAWord", "NotAColumn", "NotACount", "GameOver", "NotAllowed", "NothingToUndo", "NothingToRedo", "NothingKept", "BadEdit", "UnknownName", "NotAPaper"]
def hfa : List He.Fa := [.glo "shown", .glo "is_whole", .glo "is_move", .glo "check_move", .glo "check_two_moves", .glo "joined", .glo "compose", .glo "opposite", .glo "_law_store", .glo "_law_mixed", .glo "_law_take", .glo "_law_pick", .glo "_law_place", .glo "_law_drawn", .glo "_law_either", .glo "_law_whole", .glo "_law_sign", .glo "_law_text", .glo "_law_leaf", .glo "_law_value", .glo "_law_is_whole", .glo "_law_same", .glo "_law_frozen", .glo "_law_after", .glo "_law_move", .glo "_law_move_fits", .glo "_law_bad_move", .glo "_law_alone", .glo "_law_refusal", .glo "_law_argument", .glo "_law_fault", .glo "_law_composes", .glo "_law_undoes", .glo "_law_errors_kept", .glo "law", .free "len", .free "int", .free "bool", .free "str", .free "range", .free "isinstance", .free "tuple", .free "list", .free "min", .free "max", .free "sorted", .free "enumerate", .free "sum", .free "any", .free "all", .free "zip", .free "reversed", .free "super", .free "set", .free "dict", .free "ValueError", .free "abs", .int "MOST_POINTS" 12]
abbrev hR : PySem.W.OpenRow := PySem.W.OpenLaw.row PySem.Challenge.rw_heldorder_k01_moves_composed
abbrev hfile : Str := "/claim/cut.py"
abbrev hhk : PySem.W.Hook := hookE hfa hfn hfile hdi hks
def hob (s : PySem.W.SharedT) : AlE := obsEG hfa hfn hfile hdi hks (HandSHeadRun.getT s)
theorem hob_eq (s : PySem.W.SharedT) : hob s = hhk.obs s.abs := obsEG_eq (HandSHeadRun.getT_eq s)
def hloose : List Str := (["MOST_POINTS", "shown", "HeldorderError", "BadNumber", "NotAPoint", "NotAMove", "TooMany", "UnlikeSizes", "RepeatedPoint", "BadText", "NotMade", "NotTight", "NotFull", "NotAFailing", "NotNeighbours", "NotShorter", "SameLength", "NoSuchLength", "NotAnOrder", "NotAChain", "NotABase", "NotInside", "OrderMatters", "FullLot", "NotAWord", "NotAColumn", "NotACount", "GameOver", "NotAllowed", "NothingToUndo"] : List Str) ++ (["NothingToRedo", "NothingKept", "BadEdit", "UnknownName", "NotAPaper", "is_whole", "is_move", "check_move", "check_two_moves", "joined", "compose", "opposite", "_law_store", "_law_mixed", "_law_take", "_law_pick", "_law_place", "_law_drawn", "_law_either", "_law_whole", "_law_sign", "_law_text", "_law_leaf", "_law_value", "_law_is_whole", "_law_same", "_law_frozen", "_law_after", "_law_move", "_law_move_fits"] : List Str) ++ (["_law_bad_move", "_law_alone", "_law_refusal", "_law_argument", "_law_fault", "_law_composes", "_law_undoes", "_law_errors_kept"] : List Str)
open PySem.W PySem.Calls PyProof.Rows HandSHeadRun in
theorem hrunA (w : World) (os : OsState) : (endF (stepQ (denQ tabQ) hR.prog w) 30000 hR.prog w os).map (fun s => (looksF hR.prog (boot_heap w.params) s.abs, seenQ (PySem.W.view hR.prog [71]) hloose (importedModules hR.prog.main.body) (fun s => xlAt (PySem.W.view hR.prog [71]) [] s && recOk hR.toRowW.records s) s.abs)) = some (true, openGood (PySem.W.view hR.prog [71]) hloose) := by kernel_rfl
open PySem.W PySem.Calls PyProof.Rows HandSHeadRun in
theorem hrunB (w : World) (os : OsState) : (endF (stepQ (denQ tabQ) hR.prog w) 30000 hR.prog w os).map (fun s => (hob s).1) = some (hhk.val w).1 := by kernel_rfl
open PySem.W PySem.Calls PyProof.Rows HandSHeadRun in
theorem hrunC (w : World) (os : OsState) : (endF (stepQ (denQ tabQ) hR.prog w) 30000 hR.prog w os).map (fun s => (hob s).2.1) = some (hhk.val w).2.1 := by kernel_rfl
open PySem.W PySem.Calls PyProof.Rows HandSHeadRun in
theorem hrunD (w : World) (os : OsState) : (endF (stepQ (denQ tabQ) hR.prog w) 30000 hR.prog w os).map (fun s => (hob s).2.2) = some (hhk.val w).2.2 := by kernel_rfl
theorem opt4 {α β γ δ ε : Type} {x : Option α} {f : α → β} {g : α → γ × (δ × ε)} {a : β} {b : γ} {c : δ} {d : ε} (h1 : x.map f = some a) (h2 : x.map (fun s => (g s).1) = some b) (h3 : x.map (fun s => (g s).2.1) = some c) (h4 : x.map (fun s => (g s).2.2) = some d) : x.map (fun s => (f s, g s)) = some (a, (b, (c, d))) := by
  cases x with
  | none => cases h1
  | some s =>
    have e1 := Option.some.inj h1
    have e2 := Option.some.inj h2
    have e3 := Option.some.inj h3
    have e4 := Option.some.inj h4
    show some (f s, g s) = _
    subst e1 e2 e3 e4
    rfl
theorem opt3 {α β γ δ : Type} {x : Option α} {f : α → β} {g : α → γ} {h : α → δ} {a : β} {b : γ} {c : δ} (k : x.map (fun s => ((f s, g s), h s)) = some ((a, b), c)) : x.map (fun s => (f s, g s, h s)) = some (a, b, c) := by
  cases x with
  | none => cases k
  | some s =>
    have e := Option.some.inj k
    show some (f s, g s, h s) = _
    simp only [Prod.mk.injEq] at e
    obtain ⟨⟨rfl, rfl⟩, rfl⟩ := e
    rfl
theorem hrun (w : World) : HandSHeadRun.RunEq hR (PySem.W.view hR.prog [71]) hhk hob 30000 hloose w := fun os => opt3 (opt4 (g := hob) (hrunA w os) (hrunB w os) (hrunC w os) (hrunD w os))

/-! ## HoK -/
section
variable {X : Cx}
def tCh (r1 r2 : R2) (ta tb tc : TE) : TE := fun σ H Q => ta σ H fun x H1 => tb σ H1 fun y H2 => r1 x y H2 fun z H3 => ∃ k, z = .bl k ∧ if k = true then tc σ H3 fun u H4 => r2 y u H4 Q else Q (.bl false) H3
theorem pe_chain {a b c : Expr} {o1 o2 : CmpOp} {r1 r2 : R2} {ta tb tc : TE} {pos : Pos} (h1 : OpR X (compareOp o1) r1) (h2 : OpR X (compareOp o2) r2) (ha : PE X a ta) (hb : PE X b tb) (hc : PE X c tc)
    (hm : lastMarks [o1, o2] [b, c] = false := by with_unfolding_all rfl) : PE X (.Compare a [o1, o2] [b, c] pos) (tCh r1 r2 ta tb tc) := by
  refine ⟨fun pins s σ H Q I h => ?_⟩
  refine Compare_chain (thn (ha.run pins s σ H _ I h) fun v s1 ⟨x, H1, I1, rx, q1⟩ => ?_) hm
  refine chain_link (thn (hb.run pins s1 σ H1 _ I1 q1) fun u s2 ⟨y, H2, I2, ry, q2⟩ => thn (h1 pins s2 σ H2 x y v u _ I2 rx ry q2) fun z s3 ⟨zz, H3, I3, rz, k, e, q3⟩ => ?_)
  subst e
  cases rz
  refine wpAny_truthy_bool ?_
  cases k with
  | true =>
    rw [if_pos rfl] at q3 ⊢
    have e0 : evalEach [] X.env = [] := by first | rfl | simp [evalEach]
    rw [e0]
    exact chain_last (thn (hc.run pins s3 σ H3 _ I3 q3) fun t s4 ⟨tt, H4, I4, rt, q4⟩ => h2 pins s4 σ H4 y tt u t _ I4 ry rt q4)
  | false =>
    rw [if_neg Bool.false_ne_true] at q3 ⊢
    exact ⟨.bl false, H3, I3, rfl, q3⟩
theorem a_ch {r1 r2 : R2} {ta tb tc : TE} {σ : L2.St} {H : Hp} {Q : VK} : tCh r1 r2 ta tb tc σ H Q = ta σ H fun x H1 => tb σ H1 fun y H2 => r1 x y H2 fun z H3 => ∃ k, z = .bl k ∧ if k = true then tc σ H3 fun u H4 => r2 y u H4 Q else Q (.bl false) H3 := rfl
/-- str(x), x an int or a bool -/
def qStr : List V → Hp → VK → Prop := fun xs H Q => match xs with
  | [.int i] => i.natAbs.log2 < 1920 ∧ Q (.str (toString i)) H
  | [.bl b] => Q (.str (if b then "True" else "False")) H
  | _ => False
theorem str2 : CallR X (.type "str") qStr := by
  intro pins s σ H xs us Q I r h
  unfold qStr at h
  split at h
  · exact call_str_int pins s σ H _ us Q I r ⟨_, rfl, h.1, h.2⟩
  · cases r with
    | cons r1 r2 =>
      cases r2
      cases r1
      exact PySem.P.str_of_bool ⟨.str _, H, I.tok _, ⟨_, rfl⟩, h⟩
  · exact h.elim
theorem b_stri {i : Int} {H : Hp} {Q : VK} : qStr [.int i] H Q = (i.natAbs.log2 < 1920 ∧ Q (.str (toString i)) H) := rfl
theorem b_strb {b : Bool} {H : Hp} {Q : VK} : qStr [.bl b] H Q = Q (.str (if b then "True" else "False")) H := rfl
end
/-! f-strings -/
def Prt (t : TE) (σ : L2.St) (H : Hp) : Prop := ∀ Q : VK, (∀ y : Str, y.length ≤ 2100 → Q (.str y) H) → t σ H Q
theorem js_parts {σ : L2.St} {H : Hp} {Q : Str → Hp → Prop} (k : ∀ out, Q out H) : ∀ {ts : List TE} {acc : Str}, (∀ t ∈ ts, Prt t σ H) → acc.length + 2100 * ts.length ≤ 100000 → tJs ts acc σ H Q
  | [], _, _, _ => k _
  | t :: ts, acc, h, hl => h t List.mem_cons_self _ fun y hy => ⟨y, rfl, by rw [Str.length_append, sizeLine_eq]; rw [List.length_cons] at hl; omega, js_parts k (fun t ht => h t (List.mem_cons_of_mem _ ht)) (by rw [Str.length_append]; rw [List.length_cons] at hl; omega)⟩
theorem prt_lit {s : Str} {σ : L2.St} {H : Hp} (h : s.length ≤ 2100 := by decide) : Prt (tC (.str s)) σ H := fun Q k => k s h
theorem prt_var {i : Nat} {z : Str} {σ : L2.St} {H : Hp} (h : σ[i]? = some (some (.str z))) (hz : z.length ≤ 2000) : Prt (tFmt (tVar i)) σ H := fun Q k => ⟨_, h, .inl ⟨z, rfl, by rw [sizeLine_eq]; omega, k z (by omega)⟩⟩
theorem js_cons {t : TE} {ts : List TE} {σ : L2.St} {H : Hp} (h : Prt t σ H) (r : ∀ t ∈ ts, Prt t σ H) : ∀ u ∈ t :: ts, Prt u σ H := fun u hu => by
  rcases List.mem_cons.mp hu with e | h'
  · rw [e]; exact h
  · exact r u h'
theorem js_nil {σ : L2.St} {H : Hp} : ∀ u ∈ ([] : List TE), Prt u σ H := fun u hu => by cases hu
/-! enumerate over a list or a tuple -/
def iEnumS (K : PySem.W.Frag) (ta : TA) : TI := fun σ H R => ta σ H fun vs H1 => ∃ a xs, vs = [.ref a] ∧ ((H1 a = some (.lst xs) ∧ R (Ite K a) H1) ∨ (H1 a = some (.tup xs) ∧ R (IteT K a xs) H1))
theorem pi_enumS {X : Cx} {e : Expr} {ta : TA} {p pos tpos : Pos} {elts : List Expr} {kk : Nat} (hg : Gl X "enumerate") (hm : X.mg "enumerate" = none) (ha : PA X [e] ta) (hs : starEach [e] X.env = [(false, eval e X.env)] := by rfl) :
    PI X (.Tuple elts kk tpos) (.Call (.Name "enumerate" p) [e] [] pos) (iEnumS X.K ta) := by
  refine ⟨fun pins s σ H R I h => Call_ (ld_blt I hg hm boot_enumerate (PyProof.Rows.callWith_type1 (thn (ha.run pos pins s σ H _ I h) fun us s1 ⟨vs, H1, I1, r1, a, xs, ex, hor⟩ => ?_) hs rfl))⟩
  subst ex
  cases r1 with
  | cons r rr =>
    cases rr
    cases r
    rcases hor with ⟨hq, q⟩ | ⟨hq, q⟩
    · obtain ⟨its, rv, p', hz⟩ := I1.list (SqL.of hq)
      refine call_enumerate_list p'.isList fun h' he hit hsz hk => wpAny_pyIter_enum he ?_
      have I2 : Inv X pins σ H1 { s1 with heap := h' } := I1.kept (t' := s1.toks) hk
      refine ⟨s1.heap.objs.size + 1, [s1.heap.objs.size + 1, s1.heap.objs.size], _, _, H1, rfl, I2, turn_enum a (s1.heap.objs.size + 1) s1.heap.objs.size, ⟨⟨.none, he⟩, hit, Nat.succ_ne_self _⟩, fun b hb => ?_, q⟩
      have e' : b = s1.heap.objs.size + 1 ∨ b = s1.heap.objs.size := by simpa using hb
      have hle : s1.heap.objs.size ≤ b := by
        rcases e' with z | z
        · rw [z]; exact Nat.le_add_right _ _
        · rw [z]; exact Nat.le_refl _
      exact I1.fpOk hle (I1.hok.fresh hle)
    · obtain ⟨its, rv, p', hz⟩ := I1.tuple (SqT.of hq)
      have ha : a < s1.heap.objs.size := by obtain ⟨o, e, _⟩ := (show s1.heap.IsTuple a its.toArray from p'); exact Heap.lt_size e
      refine enum1_begins (begins_tuple a its.toArray) p' fun h' he hit hk => wpAny_pyIter_enum he ?_
      have I2 : Inv X pins σ H1 { s1 with heap := h' } := I1.kept (t' := s1.toks) hk
      refine ⟨s1.heap.objs.size + 1, [s1.heap.objs.size + 1, s1.heap.objs.size], _, _, H1, rfl, I2, turn_enumT a (s1.heap.objs.size + 1) s1.heap.objs.size (Nat.ne_of_lt (Nat.lt_succ_of_lt ha)) (Nat.ne_of_lt ha) (Nat.succ_ne_self _) xs, ⟨⟨.none, he⟩, ⟨_, hit, rfl, rfl⟩⟩, fun b hb => ?_, q⟩
      have hle : s1.heap.objs.size ≤ b := by
        rcases List.mem_cons.mp hb with rfl | hb
        · omega
        · obtain rfl := List.mem_singleton.mp hb
          exact Nat.le_refl _
      exact I1.fpOk hle (I1.hok.fresh hle)
section
variable {K : PySem.W.Frag} {H : Hp} {Q : VK} {σ : L2.St} {D : Ends}
def FEnS (K : PySem.W.Frag) (a : Addr) (g : TG) (tb : TS) (D : Ends) (σ : L2.St) (H : Hp) : Prop := ∃ xs, (H a = some (.lst xs) ∧ tFor (fun _ H R => R (Ite K a) H) g tb D σ H) ∨ (H a = some (.tup xs) ∧ tFor (fun _ H R => R (IteT K a xs) H) g tb D σ H)
def FEnSV (K : PySem.W.Frag) (vs : List V) (g : TG) (tb : TS) (D : Ends) (σ : L2.St) (H : Hp) : Prop := ∃ a, vs = [.ref a] ∧ FEnS K a g tb D σ H
theorem a_forES {ta : TA} {g : TG} {tb : TS} : tFor (iEnumS K ta) g tb D σ H = ta σ H fun ws H1 => ∃ a xs, ws = [.ref a] ∧ ((H1 a = some (.lst xs) ∧ tFor (fun _ H R => R (Ite K a) H) g tb D σ H1) ∨ (H1 a = some (.tup xs) ∧ tFor (fun _ H R => R (IteT K a xs) H) g tb D σ H1)) := rfl
theorem fes_by {a : Addr} {xs : List V} {i1 i2 : Nat} {tb : TS} (hq : sq H a = some xs) (Pv : Nat → L2.St → Hp → Prop) (h0 : Pv 0 σ H) (hl : ∀ i σ' H', Pv i σ' H' → ∀ o, H a = some o → H' a = some o)
    (hs : ∀ i x σ H1 (N : L2.St → Hp → Prop) T H2, (∀ σ' H', Pv (i + 1) σ' H' → N σ' H') → xs[i]? = some x → Pv i σ H1 → New H1 T (.tup [.int (i : Nat), x]) H2 → tb { D with nx := N, ct := N, bk := D.nx } ((σ.set i1 (some (.int (i : Nat)))).set i2 (some x)) H2)
    (hd : ∀ σ H, Pv xs.length σ H → D.nx σ H) : ∃ ys, (H a = some (.lst ys) ∧ tFor (fun _ H R => R (Ite K a) H) (g2 K i1 i2) tb D σ H) ∨ (H a = some (.tup ys) ∧ tFor (fun _ H R => R (IteT K a ys) H) (g2 K i1 i2) tb D σ H) := by
  rcases sq_or hq with h | h
  · refine ⟨xs, .inl ⟨h, fun i m σ1 H1 => m + i = xs.length ∧ Pv i σ1 H1, ⟨xs.length, by omega, h0⟩, fun i m σ1 H1 ⟨hm, p⟩ => ?_⟩⟩
    have hL := SqL.of (K := K) (hl _ _ _ p _ h)
    by_cases hi : i = xs.length
    · subst hi
      exact .inl ⟨⟨xs, hL, Nat.le_refl _⟩, hd _ _ p⟩
    · have hlt : i < xs.length := by omega
      refine .inr ⟨⟨xs, _, hL, List.getElem?_eq_getElem hlt⟩, fun σ5 H5 => Pv (i + 1) σ5 H5, fun σ5 H5 p5 => ⟨m - 1, by omega, by omega, p5⟩, fun v H2 ⟨T, x, ev, hT, eH, hx⟩ => ?_⟩
      subst ev eH
      exact g2_at upd_same (hs i x σ1 H1 _ T _ (fun _ _ z => z) (hx _ hL) p (.mk' hT))
  · exact ⟨xs, .inr ⟨h, fe_by Pv h0 (fun i σ' H' p => hl i σ' H' p _ h) hs hd⟩⟩
end

/-! ## T2 -/

theorem perm_erase {α : Type} : ∀ {xs : List α} {i : Nat} (h : i < xs.length), xs.Perm (xs[i] :: xs.eraseIdx i)
  | _ :: _, 0, _ => .refl _
  | a :: r, i + 1, h => by
    have e := perm_erase (xs := r) (i := i) (by simpa using h)
    exact (List.Perm.cons a e).trans (.swap ..)
section
variable {P : Program} {w : World} {K : PySem.W.Frag} {mg : Str → Option Value} {base : Heap}
/-! pick -/
def sp_pick : Sp := fun vs H Q _ => ∃ (s l p : Addr) (xs : List V), vs = [.ref s, .ref p] ∧ Sto s l H ∧ p ≠ s ∧ sq H p = some xs ∧ xs ≠ [] ∧ xs.length < 2 ^ 62 ∧ ∀ x H', Ge s l H H' → x ∈ xs → Q x H'
abbrev st_law_pick : Stmt := topS 48
theorem sc_law_pick : FnScope ["store", "things"] ["store", "things"] (defScope st_law_pick) := ⟨rfl, rfl, rfl, by decide +kernel, rfl, by decide +kernel, by decide +kernel⟩
theorem ok_law_pick (D : Df K mg "_law_pick" st_law_pick) (T : NoB mg) (C_law_take : Cl P w K mg base 2 "_law_take" ["store", "many"] sp_take) : Cl P w K mg base 3 "_law_pick" ["store", "things"] sp_pick := by
  refine cl_of D sc_law_pick (fun _ _ _ _ _ _ us hl => match us, hl with | [_, _], _ => rfl) (fun vs H Q E h => ?_) (fun f cdv A outer sh H vs Q E hr h => ?_)
  · obtain ⟨_, _, _, _, rfl, _⟩ := h; rfl
  obtain ⟨s, l, p, xs, rfl, st, ne, hq, hne, hl, k⟩ := h
  refine ⟨_, (pss_one (ps_ret (pe_ix ix1 (pv 1) (pe_cl C_law_take hr (by rfl) (pa_cons (pv 0) (pa_cons (pe_callB len1 (by rfl) T.no_len (by decide +kernel) (pa_cons (pv 1) pa_nil)) pa_nil))) (fun _ _ => rfl)))), ?_⟩
  walk_at "wps"
  refine ⟨s, l, _, rfl, by omega, st, fun r H1 g r0 r1 r2 => ?_⟩
  have hq1 := g.kp.sq ne hq
  walk_at "wps"
  have hp : 0 < xs.length := List.length_pos_iff.mpr hne
  have hr : r.toNat < xs.length := by
    by_cases z : xs.length < 2
    · rw [r2 (by omega)]; exact hp
    · have := r1 (by omega); omega
  exact ⟨xs[r.toNat], atI_of r0 (by simp [hr]), k _ _ g (List.getElem_mem hr)⟩
/-! place -/
def sp_place : Sp := fun vs H Q _ => ∃ (s l : Addr) (n : Int), vs = [.ref s, .int n] ∧ Sto s l H ∧ 1 ≤ n ∧ n < 2 ^ 62 ∧ ∀ r H', Ge s l H H' → 0 ≤ r → r < n → Q (.int r) H'
abbrev st_law_place : Stmt := topS 49
theorem sc_law_place : FnScope ["store", "size", "pick"] ["store", "size"] (defScope st_law_place) := ⟨rfl, rfl, rfl, by decide +kernel, rfl, by decide +kernel, by decide +kernel⟩
theorem ok_law_place (D : Df K mg "_law_place" st_law_place) (T : NoB mg) (C_law_take : Cl P w K mg base 2 "_law_take" ["store", "many"] sp_take) : Cl P w K mg base 3 "_law_place" ["store", "size"] sp_place := by
  refine cl_of D sc_law_place (fun _ _ _ _ _ _ us hl => match us, hl with | [_, _], _ => rfl) (fun vs H Q E h => ?_) (fun f cdv A outer sh H vs Q E hr h => ?_)
  · obtain ⟨_, _, _, rfl, _⟩ := h; rfl
  obtain ⟨s, l, n, rfl, st, hn1, hn2, k⟩ := h
  refine ⟨_, (pss_cons (ps_set (i := 2) sc_law_place.nd rfl (Or.inl rfl) (pe_cl C_law_take hr (by rfl) (pa_cons (pv 0) (pa_cons pe_int pa_nil))))
    (pss_cons (ps_if (pt_cmpR op_eq (pv 2) pe_int (nomark _)) (pss_one (ps_ret pe_int)) pss_nil)
    (pss_cons (ps_if (pt_cmpR op_eq (pv 2) pe_int (nomark _)) (pss_one (ps_ret (pe_op op_sub (pv 1) pe_int))) pss_nil)
    (pss_one (ps_ret (pe_cl C_law_take hr (by rfl) (pa_cons (pv 0) (pa_cons (pv 1) pa_nil)))))))), ?_⟩
  walk_at "wps"
  refine ⟨s, l, _, rfl, by decide, st, fun r H1 g r0 r1 r2 => ?_⟩
  walk_at "wps"
  split
  · exact k _ _ g (by omega) (by omega)
  · split
    · exact k _ _ g (by omega) (by omega)
    · refine ⟨s, l, _, rfl, hn2, g.st, fun r' H2 g2 q0 q1 q2 => k _ _ (g.trans g2) q0 ?_⟩
      by_cases z : n < 2
      · rw [q2 z]; omega
      · exact q1 (by omega)
/-! drawn -/
def sp_drawn : Sp := fun vs H Q _ => ∃ (s l p : Addr) (xs : List V) (n : Int), vs = [.ref s, .ref p, .int n] ∧ Sto s l H ∧ sq H p = some xs ∧ xs.length ≤ 1000 ∧ -(2 ^ 62) ≤ n ∧
  ∀ q H' ys rest, Ge s l H H' → H q = none → H' q = some (.lst ys) → (ys ++ rest).Perm xs → ys.length = (if (xs.length : Int) < n then (xs.length : Int) else n).toNat → Q (.ref q) H'
abbrev st_law_drawn : Stmt := topS 50
theorem sc_law_drawn : FnScope ["store", "things", "many", "pool", "found", "k", "at"] ["store", "things", "many"] (defScope st_law_drawn) := ⟨rfl, rfl, rfl, by decide +kernel, rfl, by decide +kernel, by decide +kernel⟩
theorem ok_law_drawn (D : Df K mg "_law_drawn" st_law_drawn) (T : NoB mg) (C_law_take : Cl P w K mg base 2 "_law_take" ["store", "many"] sp_take) : Cl P w K mg base 3 "_law_drawn" ["store", "things", "many"] sp_drawn := by
  refine cl_of D sc_law_drawn (fun _ _ _ _ _ _ us hl => match us, hl with | [_, _, _], _ => rfl) (fun vs H Q E h => ?_) (fun f cdv A outer sh H vs Q E hr h => ?_)
  · obtain ⟨_, _, _, _, _, rfl, _⟩ := h; rfl
  obtain ⟨s, l, p, xs, n, rfl, st, hq, hx, hn0, k⟩ := h
  refine ⟨_, (pss_cons (ps_set (i := 3) sc_law_drawn.nd rfl (Or.inl rfl) (pe_callTy lst1 (by rfl) T.no_list (by decide +kernel) (pa_cons (pv 1) pa_nil)))
    (pss_cons (ps_set (i := 4) sc_law_drawn.nd rfl (Or.inl rfl) (pe_lst pa_nil))
    (pss_cons (ps_for PassesOwn.never rfl (pi_range1 (by rfl) T.no_range (pa_cons (pe_callB (call_min2 rfl) (by rfl) T.no_min (by decide +kernel) (pa_cons (pv 2) (pa_cons (pe_callB len1 (by rfl) T.no_len (by decide +kernel) (pa_cons (pv 3) pa_nil)) pa_nil))) pa_nil)) (pg_name (i := 5) sc_law_drawn.nd rfl (Or.inl rfl)) (pss_cons (ps_set (i := 6) sc_law_drawn.nd rfl (Or.inl rfl) (pe_cl C_law_take hr (by rfl) (pa_cons (pv 0) (pa_cons (pe_callB len1 (by rfl) T.no_len (by decide +kernel) (pa_cons (pv 3) pa_nil)) pa_nil))))
    (pss_one (ps_expr (pe_bm PySem.F.plainAttrs_list PySem.F.slot_list_append PySem.F.type_list_append mt_append (pv 4) (pa_cons (pe_bm PySem.F.plainAttrs_list PySem.F.slot_list_pop PySem.F.type_list_pop mt_popAt (pv 3) (pa_cons (pv 6) pa_nil)) pa_nil))))))
    (pss_one (ps_ret (pv 4)))))), ?_⟩
  walk_at "wps"
  intro po H1 n1
  have g1 := (Ge.refl st).new n1
  refine ⟨Nat.zero_le _, fun fo H2 n2 => ?_⟩
  have g2 := g1.new n2
  have hpo2 := n2.k n1.at_
  have hq2 := sq_l hpo2
  walk_at "wps"
  refine ⟨by split <;> omega, by split <;> omega, ?_⟩
  refine fr_by (fun i σ H' => Ge s l H H' ∧ ∃ pl fd v v', σ = [some (.ref s), some (.ref p), some (.int n), some (.ref po), some (.ref fo), v, v'] ∧ H' po = some (.lst pl) ∧ H' fo = some (.lst fd) ∧ fd.length = i ∧ (fd ++ pl).Perm xs)
    ⟨g2, xs, [], none, none, rfl, hpo2, n2.at_, rfl, .refl _⟩ ?_ ?_
  · rintro i _ H3 N hN hi ⟨g3, pl, fd, v, v', rfl, h1, h2, h3, h4⟩
    have hq3 := sq_l h1
    have hl3 := h4.length_eq
    rw [List.length_append] at hl3
    walk_at "wps"
    refine ⟨s, l, _, rfl, by omega, g3.st, fun r H4 g4 r0 r1 r2 => ?_⟩
    have e1 := g4.at st n1.fr h1
    have e2 := g4.at st (g1.fr n2.fr) h2
    have g5 := g3.trans g4
    have hr : r.toNat < pl.length := by
      by_cases z : pl.length < 2
      · rw [r2 (by omega)]; have : i < xs.length := by split at hi <;> omega
        show 0 < _; omega
      · have := r1 (by omega); omega
    have nef : fo ≠ po := n2.ne n1.at_ |>.symm
    walk_at "wps"
    refine ⟨tyl e2, tyl e1, by omega, by omega, _, seqIndex_of r0 (by omega), pl[r.toNat], by simp [hr], fun H5 n5 => ?_⟩
    have f2 := n5.k nef e2
    walk_at "wps"
    refine ⟨by rw [sizeLine_eq]; omega, fun H6 n6 => ?_⟩
    refine hN _ _ ⟨(g5.put st n1.fr n5).put st (g1.fr n2.fr) n6, _, _, _, _, rfl, n6.k nef.symm n5.at_, n6.at_, by simp [h3], ?_⟩
    refine .trans ?_ h4
    rw [List.append_assoc]
    refine List.Perm.append_left _ ?_
    exact (perm_erase hr).symm
  · rintro _ H3 ⟨g3, pl, fd, v, v', rfl, h1, h2, h3, h4⟩
    walk_at "wps"
    exact k fo H3 fd pl g3 (g1.fr n2.fr) h2 h4 h3
end

/-! ## T3 -/

theorem szl {n : Nat} (h : n ≤ 16777216) : n ≤ sizeLine := by rw [sizeLine_eq]; exact h
theorem szl' {n : Nat} (h : n < 16777216) : n < sizeLine := by rw [sizeLine_eq]; exact h
section
variable {P : Program} {w : World} {K : PySem.W.Frag} {mg : Str → Option Value} {base : Heap}
/-! either -/
def sp_either : Sp := fun vs H Q _ => ∃ (s l p : Addr) (xs : List V), vs = [.ref s, .ref p] ∧ Sto s l H ∧ p ≠ s ∧ H p = some (.lst xs) ∧ ∀ q H', Ge s l H H' → H q = none → (H' q = some (.tup xs) ∨ H' q = some (.lst xs)) → Q (.ref q) H'
abbrev st_law_either : Stmt := topS 51
theorem sc_law_either : FnScope ["store", "entries"] ["store", "entries"] (defScope st_law_either) := ⟨rfl, rfl, rfl, by decide +kernel, rfl, by decide +kernel, by decide +kernel⟩
theorem ok_law_either (D : Df K mg "_law_either" st_law_either) (T : NoB mg) (C_law_take : Cl P w K mg base 2 "_law_take" ["store", "many"] sp_take) : Cl P w K mg base 3 "_law_either" ["store", "entries"] sp_either := by
  refine cl_of D sc_law_either (fun _ _ _ _ _ _ us hl => match us, hl with | [_, _], _ => rfl) (fun vs H Q E h => ?_) (fun f cdv A outer sh H vs Q E hr h => ?_)
  · obtain ⟨_, _, _, _, rfl, _⟩ := h; rfl
  obtain ⟨s, l, p, xs, rfl, st, ne, hp, k⟩ := h
  refine ⟨_, (pss_cons (ps_if (pt_cmpR op_eq (pe_cl C_law_take hr (by rfl) (pa_cons (pv 0) (pa_cons pe_int pa_nil))) pe_int (nomark _)) (pss_one (ps_ret (pe_callTy tup1 (by rfl) T.no_tuple (by decide +kernel) (pa_cons (pv 1) pa_nil)))) pss_nil)
    (pss_one (ps_ret (pe_callTy lst1 (by rfl) T.no_list (by decide +kernel) (pa_cons (pv 1) pa_nil))))), ?_⟩
  walk_at "wps"
  refine ⟨s, l, _, rfl, by decide, st, fun r H1 g r0 r1 r2 => ?_⟩
  have hp1 := g.k ne hp
  have hq1 := sq_l hp1
  walk_at "wps"
  split
  · exact fun q H2 n2 => k q H2 (g.new n2) (g.fr n2.fr) (.inl n2.at_)
  · exact fun q H2 n2 => k q H2 (g.new n2) (g.fr n2.fr) (.inr n2.at_)
/-! whole -/
def sp_whole : Sp := fun vs H Q _ => ∃ (s l : Addr), vs = [.ref s] ∧ Sto s l H ∧ ∀ r H', Ge s l H H' → -(10 ^ 30) < r → r < 10 ^ 30 → Q (.int r) H'
abbrev st_law_whole : Stmt := topS 52
theorem sc_law_whole : FnScope ["store", "pick", "edges", "number", "k"] ["store"] (defScope st_law_whole) := ⟨rfl, rfl, rfl, by decide +kernel, rfl, by decide +kernel, by decide +kernel⟩
theorem ok_law_whole (D : Df K mg "_law_whole" st_law_whole) (T : NoB mg) (C_law_pick : Cl P w K mg base 3 "_law_pick" ["store", "things"] sp_pick) (C_law_take : Cl P w K mg base 2 "_law_take" ["store", "many"] sp_take) : Cl P w K mg base 4 "_law_whole" ["store"] sp_whole := by
  refine cl_of D sc_law_whole (fun _ _ _ _ _ _ us hl => match us, hl with | [_], _ => rfl) (fun vs H Q E h => ?_) (fun f cdv A outer sh H vs Q E hr h => ?_)
  · obtain ⟨_, _, rfl, _⟩ := h; rfl
  obtain ⟨s, l, rfl, st, k⟩ := h
  refine ⟨_, (pss_cons (ps_set (i := 1) sc_law_whole.nd rfl (Or.inl rfl) (pe_cl C_law_take hr (by rfl) (pa_cons (pv 0) (pa_cons pe_int pa_nil))))
    (pss_cons (ps_if (pt_cmpR op_lt (pv 1) pe_int (nomark _)) (pss_one (ps_ret (pe_op op_sub (pe_cl C_law_take hr (by rfl) (pa_cons (pv 0) (pa_cons pe_int pa_nil))) pe_int))) pss_nil)
    (pss_cons (ps_if (pt_cmpR op_eq (pv 1) pe_int (nomark _)) (pss_cons (ps_set (i := 2) sc_law_whole.nd rfl (Or.inl rfl) (pe_lst (pa_cons (pe_un un_neg pe_int) (pa_cons pe_int (pa_cons pe_int (pa_cons pe_int (pa_cons pe_int (pa_cons pe_int (pa_cons pe_int (pa_cons pe_int (pa_cons pe_int (pa_cons pe_int (pa_cons pe_int (pa_cons pe_int (pa_cons pe_int (pa_cons pe_int (pa_cons pe_int (pa_cons pe_int (pa_cons pe_int (pa_cons pe_int (pa_cons pe_int (pa_cons pe_int pa_nil))))))))))))))))))))))
    (pss_cons (ps_set (i := 2) sc_law_whole.nd rfl (Or.inl rfl) (pe_op op_cat (pv 2) (pe_lst (pa_cons (pe_un un_neg pe_int) (pa_cons (pe_un un_neg pe_int) (pa_cons pe_int (pa_cons pe_int (pa_cons pe_int (pa_cons pe_int pa_nil)))))))))
    (pss_one (ps_ret (pe_cl C_law_pick hr (by rfl) (pa_cons (pv 0) (pa_cons (pv 2) pa_nil))))))) pss_nil)
    (pss_cons (ps_if (pt_cmpR op_eq (pv 1) pe_int (nomark _)) (pss_one (ps_ret (pe_op op_sub (pe_cl C_law_take hr (by rfl) (pa_cons (pv 0) (pa_cons pe_int pa_nil))) pe_int))) pss_nil)
    (pss_cons (ps_set (i := 3) sc_law_whole.nd rfl (Or.inl rfl) pe_int)
    (pss_cons (ps_for PassesOwn.never rfl (pi_range1 (by rfl) T.no_range (pa_cons pe_int pa_nil)) (pg_name (i := 4) sc_law_whole.nd rfl (Or.inl rfl)) (pss_one (ps_set (i := 3) sc_law_whole.nd rfl (Or.inl rfl) (pe_op op_add (pe_op op_mul (pv 3) pe_int) (pe_cl C_law_take hr (by rfl) (pa_cons (pv 0) (pa_cons pe_int pa_nil)))))))
    (pss_cons (ps_if (pt_cmpR op_eq (pv 1) pe_int (nomark _)) (pss_one (ps_ret (pe_un un_neg (pv 3)))) pss_nil)
    (pss_one (ps_ret (pv 3)))))))))), ?_⟩
  rw [a_seq]
  walk_at "wq"
  refine ⟨s, l, _, rfl, by decide, st, fun r H1 g r0 r1 r2 => ?_⟩
  walk_at "wps"
  split
  · refine ⟨s, l, _, rfl, by decide, g.st, fun r H2 g2 q0 q1 q2 => ?_⟩
    walk_at "wps"
    have := q1 (by decide)
    exact k _ _ (g.trans g2) (by omega) (by omega)
  · split
    · refine ⟨szl (by decide), fun p H2 n2 => ?_⟩
      walk_at "wps"
      refine ⟨szl (by decide), fun p3 H3 n3 => ?_⟩
      have e3 := n3.k n2.at_
      have f3 := n3.at_
      walk_at "wps"
      refine ⟨szl (by decide), fun p4 H4 n4 => ?_⟩
      have g4 := ((g.new n2).new n3).new n4
      have e4 := sq_l n4.at_
      walk_at "wps"
      refine ⟨s, l, p4, _, rfl, g4.st, (g4.st.ne' n4.at_ (by simp)), e4, by simp, by decide, fun x H5 g5 hx => ?_⟩
      simp only [List.mem_cons, List.not_mem_nil, or_false] at hx
      rcases hx with h | h | h | h | h | h | h | h | h | h | h | h | h | h | h | h | h | h | h | h | h | h | h | h | h | h <;> (rw [h]; exact k _ _ (g4.trans g5) (by decide) (by decide))
    · split
      · refine ⟨s, l, _, rfl, by decide, g.st, fun r H2 g2 q0 q1 q2 => ?_⟩
        walk_at "wps"
        have := q1 (by decide)
        exact k _ _ (g.trans g2) (by omega) (by omega)
      · refine ⟨by decide, by decide, ?_⟩
        refine fr_by (fun i σ H' => Ge s l H H' ∧ ∃ num v, σ = [some (.ref s), some (.int r), none, some (.int num), v] ∧ 0 ≤ num ∧ num < 1000000 ^ i) ⟨g, 0, none, rfl, by decide, by decide⟩ ?_ ?_
        · rintro i _ H3 N hN hi ⟨g3, num, v, rfl, h1, h2⟩
          walk_at "wps"
          refine ⟨cm_lit (by decide), s, l, _, rfl, by decide, g3.st, fun r' H4 g4 q0 q1 q2 => ?_⟩
          walk_at "wps"
          have := q1 (by decide)
          refine hN _ _ ⟨g3.trans g4, _, _, rfl, by omega, ?_⟩
          rw [Int.pow_succ]
          omega
        · rintro _ H3 ⟨g3, num, v, rfl, h1, h2⟩
          walk_at "wps"
          have h2 : num < 1000000 ^ 5 := h2
          split
          · exact k _ _ g3 (by omega) (by omega)
          · exact k _ _ g3 (by omega) (by omega)
/-! sign -/
def sp_sign : Sp := fun vs H Q _ => ∃ (s l : Addr), vs = [.ref s] ∧ Sto s l H ∧ ∀ z H', Ge s l H H' → z.length = 1 → Vis z → Q (.str z) H'
theorem signs_all : ((PySem.Str.ofString " !\"#$&'()*+,-./0123456789:;<=>?@ABCDEFGHIJKLMNOPQRSTUVWXYZ[\\]^_`" ++ PySem.Str.ofString "abcdefghijklmnopqrstuvwxyz{|}~\n" : Str).cps.toList.all fun c => decide (c = 10 ∨ (32 ≤ c ∧ c < 127))) = true := by decide +kernel
abbrev st_law_sign : Stmt := topS 53
theorem sc_law_sign : FnScope ["store", "signs"] ["store"] (defScope st_law_sign) := ⟨rfl, rfl, rfl, by decide +kernel, rfl, by decide +kernel, by decide +kernel⟩
theorem ok_law_sign (D : Df K mg "_law_sign" st_law_sign) (T : NoB mg) (C_law_take : Cl P w K mg base 2 "_law_take" ["store", "many"] sp_take) : Cl P w K mg base 3 "_law_sign" ["store"] sp_sign := by
  refine cl_of D sc_law_sign (fun _ _ _ _ _ _ us hl => match us, hl with | [_], _ => rfl) (fun vs H Q E h => ?_) (fun f cdv A outer sh H vs Q E hr h => ?_)
  · obtain ⟨_, _, rfl, _⟩ := h; rfl
  obtain ⟨s, l, rfl, st, k⟩ := h
  refine ⟨_, (pss_cons (ps_set (i := 1) sc_law_sign.nd rfl (Or.inl rfl) pe_str)
    (pss_cons (ps_set (i := 1) sc_law_sign.nd rfl (Or.inl rfl) (pe_op op_add_str (pv 1) pe_str))
    (pss_one (ps_ret (pe_ix ix_str (pv 1) (pe_cl C_law_take hr (by rfl) (pa_cons (pv 0) (pa_cons (pe_callB call_len_str (by rfl) T.no_len (by decide +kernel) (pa_cons (pv 1) pa_nil)) pa_nil))) (fun _ _ => rfl)))))), ?_⟩
  walk_at "wps"
  have e := signs_all
  have e2 : 0 < (PySem.Str.ofString " !\"#$&'()*+,-./0123456789:;<=>?@ABCDEFGHIJKLMNOPQRSTUVWXYZ[\\]^_`" ++ PySem.Str.ofString "abcdefghijklmnopqrstuvwxyz{|}~\n" : Str).length ∧ (PySem.Str.ofString " !\"#$&'()*+,-./0123456789:;<=>?@ABCDEFGHIJKLMNOPQRSTUVWXYZ[\\]^_`" ++ PySem.Str.ofString "abcdefghijklmnopqrstuvwxyz{|}~\n" : Str).length < 1000 := by decide +kernel
  refine ⟨szl (by decide +kernel), ?_⟩
  generalize (PySem.Str.ofString " !\"#$&'()*+,-./0123456789:;<=>?@ABCDEFGHIJKLMNOPQRSTUVWXYZ[\\]^_`" ++ PySem.Str.ofString "abcdefghijklmnopqrstuvwxyz{|}~\n" : Str) = z at e e2
  refine ⟨szl (by omega), s, l, _, rfl, by omega, st, fun r H1 g r0 r1 r2 => ?_⟩
  walk_at "wps"
  have hr : r.toNat < z.cps.toList.length := by
    rw [len_tl]
    by_cases q : z.length < 2
    · rw [r2 (by omega)]; exact e2.1
    · have := r1 (by omega); omega
  refine ⟨szl (by omega), z.cps.toList[r.toNat], atI_of r0 (by simp [hr]), k _ _ g rfl fun c hc => ?_⟩
  have hm : c ∈ z.cps.toList := by
    have q : c = z.cps.toList[r.toNat] := by simpa using hc
    rw [q]; exact List.getElem_mem hr
  exact of_decide_eq_true (List.all_eq_true.mp e c hm)
/-! text -/
def sp_text : Sp := fun vs H Q _ => ∃ (s l : Addr) (n : Int), vs = [.ref s, .int n] ∧ Sto s l H ∧ 0 ≤ n ∧ n ≤ 1000 ∧ ∀ z H', Ge s l H H' → (z.length : Int) ≤ n → Vis z → Q (.str z) H'
abbrev st_law_text : Stmt := topS 54
theorem sc_law_text : FnScope ["store", "most", "size", "k"] ["store", "most"] (defScope st_law_text) := ⟨rfl, rfl, rfl, by decide +kernel, rfl, by decide +kernel, by decide +kernel⟩
theorem ok_law_text (D : Df K mg "_law_text" st_law_text) (T : NoB mg) (C_law_place : Cl P w K mg base 3 "_law_place" ["store", "size"] sp_place) (C_law_sign : Cl P w K mg base 3 "_law_sign" ["store"] sp_sign) : Cl P w K mg base 4 "_law_text" ["store", "most"] sp_text := by
  refine cl_of D sc_law_text (fun _ _ _ _ _ _ us hl => match us, hl with | [_, _], _ => rfl) (fun vs H Q E h => ?_) (fun f cdv A outer sh H vs Q E hr h => ?_)
  · obtain ⟨_, _, _, rfl, _⟩ := h; rfl
  obtain ⟨s, l, n, rfl, st, hn1, hn2, k⟩ := h
  refine ⟨_, (pss_cons (ps_set (i := 2) sc_law_text.nd rfl (Or.inl rfl) (pe_cl C_law_place hr (by rfl) (pa_cons (pv 0) (pa_cons (pe_op op_add (pv 1) pe_int) pa_nil))))
    (pss_one (ps_ret (pe_join pe_str (pe_lc (own := [("k", 3)]) (g := gName 3) (tt := tYes) rfl sc_law_text.nd (pi_range1 (by rfl) T.no_range (pa_cons (pv 2) pa_nil)) (blkOk_by (own := [("k", 3)]) (N := ["store", "most", "size", "k"]) (sc := defScope st_law_text) (by decide +kernel)) (fun _ _ _ _ _ => (pg_name (i := 3) sc_law_text.nd rfl (Or.inl rfl))) (fun _ _ _ _ _ => pts_nil) (fun _ _ _ _ _ => (pe_cl C_law_sign hr (by rfl) (pa_cons (pv 0) pa_nil)))))))), ?_⟩
  walk_at "wps"
  refine ⟨s, l, _, rfl, st, by omega, by omega, fun r H1 g r0 r1 => ?_⟩
  walk_at "wps"
  refine ⟨⟨_, rfl⟩, by omega, by omega, ?_⟩
  refine cr_by (fun C i acc H' => H1 C = none ∧ Ge s l H H' ∧ acc.length = i ∧ ∃ ys : List Str, acc = ys.map V.str ∧ ∀ y ∈ ys, y.length = 1 ∧ Vis y) (fun C H0 n0 => ⟨n0.fr, g.new n0, rfl, [], rfl, by simp⟩) ?_ ?_
  · rintro C i acc H2 N hC hi ha ⟨hC', g2, hl, ys, rfl, hy⟩ hN
    walk_at "wps"
    refine ⟨s, l, rfl, g2.st, fun z H3 g3 z1 z2 => ?_⟩
    have e := g3.at g.st hC ha
    have e3 := g2.trans g3
    refine cst e (szl' (by rw [hl]; omega)) fun H5 n5 => hN _ _ n5.at_ ⟨hC, e3.put st (g.fr hC) n5, by simp [hl], ys ++ [z], by simp, fun y hm => ?_⟩
    rcases List.mem_append.mp hm with q | q
    · exact hy y q
    · rw [List.mem_singleton.mp q]; exact ⟨z1, z2⟩
  · rintro C acc H2 hC ha ⟨hC', g2, hl, ys, rfl, hy⟩
    rw [List.length_map] at hl
    have hsum : (ys.map (·.length)).sum = ys.length := by
      clear hl ha
      induction ys with
      | nil => rfl
      | cons a r ih =>
        have e1 := (hy a List.mem_cons_self).1
        have e2 := ih fun y hm => hy y (List.mem_cons_of_mem _ hm)
        simp only [List.map_cons, List.sum_cons, List.length_cons, e1, e2]
        omega
    have hz : (("" : Str).length) = 0 := by decide +kernel
    walk_at "wps"
    refine ⟨ys, .inl (SqL.of ha), ?_, ?_⟩
    · rw [hsum, hl]
      omega
    · have ej := join_tl ys
      refine k _ _ g2 ?_ ?_
      · rw [← len_tl]
        have : ((ys.map fun z => z.cps.toList).flatten).length = ys.length := by
          rw [List.length_flatten, List.map_map]
          have : (List.length ∘ fun z : Str => z.cps.toList) = fun z : Str => z.length := by funext z; exact len_tl z
          rw [this]; exact hsum
        rw [show (Txt.join (Str.ofString "") ys).cps.toList = _ from ej, this]
        omega
      · intro c hc
        rw [show (Txt.join (Str.ofString "") ys).cps.toList = _ from ej] at hc
        obtain ⟨L, h1, h2⟩ := List.mem_flatten.mp hc
        obtain ⟨y, h3, rfl⟩ := List.mem_map.mp h1
        exact (hy y h3).2 c h2
/-! leaf -/
def sp_leaf : Sp := fun vs H Q _ => ∃ (s l : Addr), vs = [.ref s] ∧ Sto s l H ∧ ∀ v d n H', Ge s l H H' → Lf v d n → n ≤ 7 → (∀ i, v = .int i → -(10 ^ 30) < i ∧ i < 10 ^ 30) → Q v H'
abbrev st_law_leaf : Stmt := topS 55
theorem sc_law_leaf : FnScope ["store", "pick"] ["store"] (defScope st_law_leaf) := ⟨rfl, rfl, rfl, by decide +kernel, rfl, by decide +kernel, by decide +kernel⟩
theorem ok_law_leaf (D : Df K mg "_law_leaf" st_law_leaf) (T : NoB mg) (C_law_take : Cl P w K mg base 2 "_law_take" ["store", "many"] sp_take) (C_law_text : Cl P w K mg base 4 "_law_text" ["store", "most"] sp_text) (C_law_whole : Cl P w K mg base 4 "_law_whole" ["store"] sp_whole) : Cl P w K mg base 5 "_law_leaf" ["store"] sp_leaf := by
  refine cl_of D sc_law_leaf (fun _ _ _ _ _ _ us hl => match us, hl with | [_], _ => rfl) (fun vs H Q E h => ?_) (fun f cdv A outer sh H vs Q E hr h => ?_)
  · obtain ⟨_, _, rfl, _⟩ := h; rfl
  obtain ⟨s, l, rfl, st, k⟩ := h
  refine ⟨_, (pss_cons (ps_set (i := 1) sc_law_leaf.nd rfl (Or.inl rfl) (pe_cl C_law_take hr (by rfl) (pa_cons (pv 0) (pa_cons pe_int pa_nil))))
    (pss_cons (ps_if (pt_cmpR op_eq (pv 1) pe_int (nomark _)) (pss_one (ps_ret pe_non)) pss_nil)
    (pss_cons (ps_if (pt_cmpR op_eq (pv 1) pe_int (nomark _)) (pss_one (ps_ret pe_bl)) pss_nil)
    (pss_cons (ps_if (pt_cmpR op_eq (pv 1) pe_int (nomark _)) (pss_one (ps_ret pe_bl)) pss_nil)
    (pss_cons (ps_if (pt_cmpR op_eq (pv 1) pe_int (nomark _)) (pss_one (ps_ret (pe_cl C_law_text hr (by rfl) (pa_cons (pv 0) (pa_cons pe_int pa_nil))))) pss_nil)
    (pss_cons (ps_if (pt_cmpR op_eq (pv 1) pe_int (nomark _)) (pss_one (ps_ret (pe_callTy call_str_int (by rfl) T.no_str (by decide +kernel) (pa_cons (pe_cl C_law_take hr (by rfl) (pa_cons (pv 0) (pa_cons pe_int pa_nil))) pa_nil)))) pss_nil)
    (pss_one (ps_ret (pe_cl C_law_whole hr (by rfl) (pa_cons (pv 0) pa_nil)))))))))), ?_⟩
  rw [a_seq]
  walk_at "wq"
  refine ⟨s, l, _, rfl, by decide, st, fun r H1 g r0 r1 r2 => ?_⟩
  have := r1 (by decide)
  walk_at "wps"
  split
  · exact k _ _ _ _ g .non (by decide) (by simp)
  split
  · exact k _ _ _ _ g (.bl _) (by decide) (by simp)
  split
  · exact k _ _ _ _ g (.bl _) (by decide) (by simp)
  split
  · exact ⟨s, l, _, rfl, g.st, by decide, by decide, fun z H2 g2 z1 z2 => k _ _ _ _ (g.trans g2) (.str z) (by omega) (by simp)⟩
  split
  · refine ⟨s, l, _, rfl, by decide, g.st, fun r' H2 g2 q0 q1 q2 => ?_⟩
    have := q1 (by decide)
    walk_at "wps"
    have hs : r'.natAbs.log2 < 1920 := Nat.lt_trans (PySem.Flt.log2_lt_of (n := r'.natAbs) (k := 62) (by decide) (by omega)) (by decide)
    refine ⟨hs, k _ _ _ _ (g.trans g2) (.str _) ?_ (by simp)⟩
    have : ∀ m : Nat, m < 13 → (toString (m : Int) : Str).length + 1 ≤ 7 := by decide +kernel
    have q := this r'.toNat (by omega)
    rw [show ((r'.toNat : Nat) : Int) = r' by omega] at q
    exact q
  · exact ⟨s, l, rfl, g.st, fun r' H2 g2 q0 q1 => k _ _ _ _ (g.trans g2) (.int _) (by decide) (fun i e => by cases e; exact ⟨q0, q1⟩)⟩
end

/-! ## T4 -/

theorem Lf.db {v : V} {d : PyData} {n b : Nat} {E : List Addr} {H : Hp} (h : Lf v d n) (hn : n ≤ b) : Db E H b v := ⟨d, n, .lf h, hn⟩
section
variable {P : Program} {w : World} {K : PySem.W.Frag} {mg : Str → Option Value} {base : Heap}
/-! value -/
def sp_value : Sp := fun vs H Q _ => ∃ (s l : Addr) (E : List Addr) (deep : Int), vs = [.ref s, .int deep] ∧ Sto s l H ∧ Lv E H ∧ s ∈ E ∧ -(2 ^ 60) < deep ∧ deep ≤ 50 ∧ ∀ v H', Ge s l H H' → Db E H' 150 v → Q v H'
abbrev st_law_value : Stmt := topS 56
theorem sc_law_value : FnScope ["store", "deep", "pick", "entries", "k", "size", "value", "j"] ["store", "deep"] (defScope st_law_value) := ⟨rfl, rfl, rfl, by decide +kernel, rfl, by decide +kernel, by decide +kernel⟩
theorem ok_law_value (D : Df K mg "_law_value" st_law_value) (T : NoB mg) (C_law_either : Cl P w K mg base 3 "_law_either" ["store", "entries"] sp_either) (C_law_leaf : Cl P w K mg base 5 "_law_leaf" ["store"] sp_leaf) (C_law_take : Cl P w K mg base 2 "_law_take" ["store", "many"] sp_take) : Cl P w K mg base 6 "_law_value" ["store", "deep"] sp_value := by
  refine cl_of D sc_law_value (fun _ _ _ _ _ _ us hl => match us, hl with | [_, _], _ => rfl) (fun vs H Q E h => ?_) (fun f cdv A outer sh H vs Q E hr h => ?_)
  · obtain ⟨_, _, _, _, rfl, _⟩ := h; rfl
  obtain ⟨s, l, E, deep, rfl, st, lv, hsE, hd0, hd1, k⟩ := h
  refine ⟨_, (pss_cons (ps_set (i := 2) sc_law_value.nd rfl (Or.inl rfl) (pe_cl C_law_take hr (by rfl) (pa_cons (pv 0) (pa_cons pe_int pa_nil))))
    (pss_cons (ps_if (PW.pt (pw_or (pt_cmpR op_lt (pv 1) pe_int (nomark _)) (pw_or1 (pt_cmpR op_eq (pv 2) pe_int (nomark _))))) (pss_one (ps_ret (pe_cl C_law_leaf hr (by rfl) (pa_cons (pv 0) pa_nil)))) pss_nil)
    (pss_cons (ps_set (i := 3) sc_law_value.nd rfl (Or.inl rfl) (pe_lst pa_nil))
    (pss_cons (ps_for PassesOwn.never rfl (pi_range1 (by rfl) T.no_range (pa_cons (pe_cl C_law_take hr (by rfl) (pa_cons (pv 0) (pa_cons pe_int pa_nil))) pa_nil)) (pg_name (i := 4) sc_law_value.nd rfl (Or.inl rfl)) (pss_one (ps_if (PW.pt (pw_and (pt_cmpR op_gt (pv 1) pe_int (nomark _)) (pw_and1 (pt_cmpR op_eq (pe_cl C_law_take hr (by rfl) (pa_cons (pv 0) (pa_cons pe_int pa_nil))) pe_int (nomark _))))) (pss_cons (ps_set (i := 5) sc_law_value.nd rfl (Or.inl rfl) (pe_cl C_law_take hr (by rfl) (pa_cons (pv 0) (pa_cons pe_int pa_nil))))
    (pss_one (ps_expr (pe_bm PySem.F.plainAttrs_list PySem.F.slot_list_append PySem.F.type_list_append mt_append (pv 3) (pa_cons (pe_cl C_law_either hr (by rfl) (pa_cons (pv 0) (pa_cons (pe_lc (own := [("j", 7)]) (g := gName 7) (tt := tYes) rfl sc_law_value.nd (pi_range1 (by rfl) T.no_range (pa_cons (pv 5) pa_nil)) (blkOk_by (own := [("j", 7)]) (N := ["store", "deep", "pick", "entries", "k", "size", "value", "j"]) (sc := defScope st_law_value) (by decide +kernel)) (fun _ _ _ _ _ => (pg_name (i := 7) sc_law_value.nd rfl (Or.inl rfl))) (fun _ _ _ _ _ => pts_nil) (fun _ _ _ _ _ => (pe_cl C_law_leaf hr (by rfl) (pa_cons (pv 0) pa_nil)))) pa_nil))) pa_nil))))) (pss_one (ps_expr (pe_bm PySem.F.plainAttrs_list PySem.F.slot_list_append PySem.F.type_list_append mt_append (pv 3) (pa_cons (pe_cl C_law_leaf hr (by rfl) (pa_cons (pv 0) pa_nil)) pa_nil)))))))
    (pss_cons (ps_set (i := 6) sc_law_value.nd rfl (Or.inl rfl) (pe_cl C_law_either hr (by rfl) (pa_cons (pv 0) (pa_cons (pv 3) pa_nil))))
    (pss_cons (ps_if (pt_cmpR op_eq (pv 2) pe_int (nomark _)) (pss_one (ps_for PassesOwn.never rfl (pi_range1 (by rfl) T.no_range (pa_cons (pe_cl C_law_take hr (by rfl) (pa_cons (pv 0) (pa_cons (pe_op op_sub (pv 1) pe_int) pa_nil))) pa_nil)) (pg_name (i := 4) sc_law_value.nd rfl (Or.inl rfl)) (pss_one (ps_set (i := 6) sc_law_value.nd rfl (Or.inl rfl) (pe_cl C_law_either hr (by rfl) (pa_cons (pv 0) (pa_cons (pe_lst (pa_cons (pv 6) pa_nil)) pa_nil))))))) pss_nil)
    (pss_one (ps_ret (pv 6))))))))), ?_⟩
  walk_at "sq"
  refine ⟨s, l, _, rfl, by decide, st, fun pk H1 g1 r0 r1 r2 => ?_⟩
  walk_at "wq"
  have leaf : ∀ (Q : VK) (H1 : Hp), (∀ v H', Ge s l H1 H' → (∃ d n, Lf v d n ∧ n ≤ 7) → Q v H') → Sto s l H1 → sp_leaf [.ref s] H1 Q E0 := fun Q H1 q st1 => ⟨s, l, rfl, st1, fun v d n H' g h1 h2 _ => q v H' g ⟨d, n, h1, h2⟩⟩
  have leaf1 : sp_leaf [.ref s] H1 Q E0 := leaf _ _ (fun v H' g ⟨d, n, h1, h2⟩ => k v H' (g1.trans g) (h1.db (by omega))) g1.st
  walk_at "sq"
  split
  · trivial
  split
  · trivial
  walk_at "sq"
  refine ⟨szl (by decide), fun po H2 n2 => ?_⟩
  have g2 := g1.new n2
  have hpo := g1.fr n2.fr
  have lv2 := (lv.ge g2).cons n2.at_
  have hpE : po ∉ E := lv.out hpo
  walk_at "sq"
  refine ⟨s, l, _, rfl, by decide, g2.st, fun m H3 g3 m0 m1 m2 => ?_⟩
  have hm := m1 (by decide)
  have g3' := g2.trans g3
  walk_at "wq"
  refine ⟨by omega, by omega, ?_⟩
  refine fr_by (fun i σ H' => Ge s l H H' ∧ ∃ xs v4 v5, σ = [some (.ref s), some (.int deep), some (.int pk), some (.ref po), v4, v5, none, none] ∧ H' po = some (.lst xs) ∧ xs.length = i ∧ ∀ x ∈ xs, Db (po :: E) H' 22 x)
    ⟨g3', [], _, _, rfl, g3.at g1.st n2.fr n2.at_, rfl, by simp⟩ ?_ ?_
  · rintro i _ H4 N hN hi ⟨g4, xs, v4, v5, rfl, e4, hl, hx⟩
    have lv4 : Lv (po :: E) H4 := (lv.ge g4).cons e4
    have leafs : ∀ (v5 : Option V) (H4' : Hp), Ge s l H4 H4' → sp_leaf [.ref s] H4' (fun v H5 => ∃ ys, H5 po = some (.lst ys) ∧ ys.length < sizeLine ∧ Wr H5 po (.lst (ys ++ [v])) fun H6 => N [some (.ref s), some (.int deep), some (.int pk), some (.ref po), some (.int (0 + (i : Int))), v5, none, none] H6) E0 := by
      intro v5 H4' g44
      refine leaf _ _ (fun v H5 g5 ⟨d, n, h1, h2⟩ => ?_) g44.st
      have e5 := (g44.trans g5).at st hpo e4
      refine ⟨xs, e5, szl' (by omega), fun H6 n6 => ?_⟩
      have g5' := g44.trans g5
      refine hN _ _ ⟨(g4.trans g5').put st hpo n6, _, _, _, rfl, n6.at_, by simp [hl], all_app (fun x hm => ((hx x hm).ge g5' (by simp [hsE])).put n6 (by simp)) (h1.db (by omega))⟩
    walk_at "wq"
    split
    · refine ⟨s, l, _, rfl, by decide, g4.st, fun c H5 g5 c0 c1 c2 => ?_⟩
      walk_at "wq"
      split
      · walk_at "sq"
        refine ⟨s, l, _, rfl, by decide, g5.st, fun z H6 g6 z0 z1 z2 => ?_⟩
        have hz := z1 (by decide)
        have g46 := g5.trans g6
        have e6 := g46.at st hpo e4
        walk_at "wq"
        refine ⟨tyl e6, by omega, by omega, ?_⟩
        refine cr_by (fun C j acc H' => Ge s l H6 H' ∧ acc.length = j ∧ ∀ x ∈ acc, ∃ d n, Lf x d n ∧ n ≤ 7) (fun C H0 n0 => ⟨(Ge.refl g6.st).new n0, rfl, by simp⟩) ?_ ?_
        · rintro C j acc H7 N' hC hj ha ⟨g7, hl7, h7⟩ hN'
          walk_at "wq"
          refine leaf _ _ (fun v H8 g8 hv => ?_) g7.st
          have e8 := g8.at g6.st hC ha
          exact cst e8 (szl' (by omega)) fun H9 n9 => hN' _ _ n9.at_ ⟨(g7.trans g8).put g6.st hC n9, by simp [hl7], all_app h7 hv⟩
        · rintro C acc H7 hC ha ⟨g7, hl7, h7⟩
          walk_at "wq"
          refine ⟨s, l, C, acc, rfl, g7.st, (g6.st.ne hC).1, ha, fun q H8 g8 q0 q1 => ?_⟩
          have g48 := (g46.trans g7).trans g8
          have e8 := g48.at st hpo e4
          refine ⟨xs, e8, szl' (by omega), fun H9 n9 => ?_⟩
          have lv7 := lv4.ge (g46.trans g7)
          have hq : Db (po :: E) H8 22 (.ref q) := by
            have := Db.seq (E := po :: E) (H := H8) (b := 7) (xs := acc) (p := q) (fun x hx => by obtain ⟨d, n, h1, h2⟩ := h7 x hx; exact h1.db h2) (lv7.out q0) q1
            exact this.le (by omega)
          refine hN _ _ ⟨(g4.trans g48).put st hpo n9, _, _, _, rfl, n9.at_, by simp [hl], all_app (fun x hm => ((hx x hm).ge g48 (by simp [hsE])).put n9 (by simp)) (hq.put n9 (by simp))⟩
      · walk_at "wq"
        first | exact ⟨tyl (g5.at st hpo e4), leafs _ _ g5⟩ | exact tyl (g5.at st hpo e4)
    · walk_at "wq"
      first | exact ⟨tyl e4, leafs _ _ (Ge.refl g4.st)⟩ | exact tyl e4
  · rintro _ H4 ⟨g4, xs, v4, v5, rfl, e4, hl, hx⟩
    walk_at "sq"
    refine ⟨s, l, po, xs, rfl, g4.st, (st.ne hpo).1, e4, fun q H5 g5 q0 q1 => ?_⟩
    have g45 := g4.trans g5
    have lv4 := lv.ge g4
    have hq : Db E H5 89 (.ref q) := by
      have := Db.seq (E := E) (H := H5) (b := 22) (xs := xs) (p := q) (fun x hm => ((hx x hm).ge g5 (by simp [hsE])).sub (fun a z => by simp [z])) (lv4.out q0) q1
      exact this.le (by omega)
    walk_at "sq"
    split
    · refine ⟨s, l, _, rfl, by omega, g5.st, fun c H6 g6 c0 c1 c2 => ?_⟩
      walk_at "wq"
      have hc : c ≤ 50 := by
        by_cases z : deep - 1 < 2
        · rw [c2 z]; decide
        · have := c1 (by omega); omega
      refine ⟨by omega, by omega, ?_⟩
      have g46 := g45.trans g6
      refine fr_by (fun i σ H' => Ge s l H H' ∧ ∃ vp v4 v, σ = [some (.ref s), some (.int deep), some (.int vp), some (.ref po), v4, v5, some v, none] ∧ Db E H' (89 + i) v)
        ⟨g46, _, _, _, rfl, hq.ge g6 hsE⟩ ?_ ?_
      · rintro i _ H7 N hN hi ⟨g7, vp, v4, v, rfl, hv⟩
        walk_at "wq"
        refine ⟨szl (by decide), fun p8 H8 n8 => ?_⟩
        walk_at "wq"
        have g8 := g7.new n8
        refine ⟨s, l, p8, [v], rfl, g8.st, (g7.st.ne n8.fr).1, n8.at_, fun q H9 g9 q0 q1 => ?_⟩
        refine hN _ _ ⟨g8.trans g9, _, _, _, rfl, ?_⟩
        have := Db.seq (E := E) (H := H9) (b := 89 + i) (xs := [v]) (p := q) (fun x hx => by rw [List.mem_singleton.mp hx]; exact (hv.same n8.same).ge g9 hsE) ((lv.ge g8).out q0) q1
        exact this.le (by simp only [List.length_singleton]; omega)
      · rintro _ H7 ⟨g7, vp, v4, v, rfl, hv⟩
        walk_at "wq"
        exact k _ _ g7 (hv.le (by omega))
    · walk_at "wq"
      exact k _ _ g45 (hq.le (by omega))
end

/-! ## T5 -/

section
variable {P : Program} {w : World} {K : PySem.W.Frag} {mg : Str → Option Value} {base : Heap}
/-! is_whole -/
def sp_isw : Sp := fun vs H Q _ => ∃ (v : V) (d : PyData) (n : Nat) (E : List Addr), vs = [v] ∧ Dw E H v d n ∧ Q (.bl (isWh v)) H
abbrev st_law_is_whole : Stmt := topS 57
theorem sc_law_is_whole : FnScope ["value"] ["value"] (defScope st_law_is_whole) := ⟨rfl, rfl, rfl, by decide +kernel, rfl, by decide +kernel, by decide +kernel⟩
theorem ok_law_is_whole (D : Df K mg "_law_is_whole" st_law_is_whole) (T : NoB mg)  : Cl P w K mg base 1 "_law_is_whole" ["value"] sp_isw := by
  refine cl_of D sc_law_is_whole (fun _ _ _ _ _ _ us hl => match us, hl with | [_], _ => rfl) (fun vs H Q E h => ?_) (fun f cdv A outer sh H vs Q E hr h => ?_)
  · obtain ⟨_, _, _, _, rfl, _⟩ := h; rfl
  obtain ⟨v, d, n, E, rfl, hv, k⟩ := h
  refine ⟨_, (pss_one (ps_ret (pe_and (pe_callB isi1 (by rfl) T.no_isinstance (by decide +kernel) (pa_cons (pv 0) (pa_cons (pe_bltn (by rfl) T.no_int (by decide +kernel) (show RelV (.ty "int") _ from rfl)) pa_nil))) (pe_one (pe_not (pe_callB isi1 (by rfl) T.no_isinstance (by decide +kernel) (pa_cons (pv 0) (pa_cons (pe_bltn (by rfl) T.no_bool (by decide +kernel) (show RelV (.ty "bool") _ from rfl)) pa_nil)))))))), ?_⟩
  cases hv with
  | lf l => cases l <;> (walk_at "wps"; exact k)
  | lst ne h a =>
    have ht := ty_l h
    walk_at "wps"
    exact k
  | tup ne h a =>
    have ht := ty_t h
    walk_at "wps"
    exact k
/-! same -/
inductive Its (H H' : Hp) : List V → Nat → Prop
  | nil : Its H H' [] 0
  | snoc {xs : List V} {m n k : Nat} {t : Addr} {a b : V} {d : PyData} : Its H H' xs m → H' t = some (.tup [a, b]) → Dw [] H a d n → Dw [] H b d k → Its H H' (xs ++ [.ref t]) (m + n)
theorem Its.len {H H' : Hp} {xs : List V} {m : Nat} (h : Its H H' xs m) : xs.length ≤ m := by
  induction h with
  | nil => exact Nat.le_refl _
  | snoc h e a b ih => have := a.pos; rw [List.length_append, List.length_singleton]; omega
theorem Its.keep {H H1 H2 : Hp} {xs : List V} {m : Nat} (h : Its H H1 xs m) (k : ∀ t ys, H1 t = some (.tup ys) → H2 t = some (.tup ys)) : Its H H2 xs m := by
  induction h with
  | nil => exact .nil
  | snoc h e a b ih => exact .snoc ih (k _ _ e) a b
def sp_same : Sp := fun vs H Q _ => ∃ (x y : V) (d : PyData) (n m : Nat), vs = [x, y] ∧ Dw [] H x d n ∧ Dw [] H y d m ∧ n ≤ 4000000 ∧ ∀ H', Same H H' → Q (.bl true) H'
abbrev st_law_same : Stmt := topS 58
theorem sc_law_same : FnScope ["actual", "due", "left", "pair", "one", "two", "k"] ["actual", "due"] (defScope st_law_same) := ⟨rfl, rfl, rfl, by decide +kernel, rfl, by decide +kernel, by decide +kernel⟩
theorem ok_law_same (D : Df K mg "_law_same" st_law_same) (T : NoB mg) (C_law_is_whole : Cl P w K mg base 1 "_law_is_whole" ["value"] sp_isw) : Cl P w K mg base 2 "_law_same" ["actual", "due"] sp_same := by
  refine cl_of D sc_law_same (fun _ _ _ _ _ _ us hl => match us, hl with | [_, _], _ => rfl) (fun vs H Q E h => ?_) (fun f cdv A outer sh H vs Q E hr h => ?_)
  · obtain ⟨_, _, _, _, _, rfl, _⟩ := h; rfl
  obtain ⟨x, y, d, n, m, rfl, hx, hy, hn, k⟩ := h
  refine ⟨_, (pss_cons (ps_set (i := 2) sc_law_same.nd rfl (Or.inl rfl) (pe_lst (pa_cons (pe_tup (pa_cons (pv 0) (pa_cons (pv 1) pa_nil))) pa_nil)))
    (pss_cons (ps_while PassesOwn.never (pt_cmpR op_gt (pe_callB len1 (by rfl) T.no_len (by decide +kernel) (pa_cons (pv 2) pa_nil)) pe_int (nomark _)) (pss_cons (ps_set (i := 3) sc_law_same.nd rfl (Or.inl rfl) (pe_bm0 PySem.F.plainAttrs_list PySem.F.slot_list_pop PySem.F.type_list_pop mt_pop (pv 2)))
    (pss_cons (ps_set (i := 4) sc_law_same.nd rfl (Or.inl rfl) (pe_ix ix1 (pv 3) pe_int (fun _ _ => rfl)))
    (pss_cons (ps_set (i := 5) sc_law_same.nd rfl (Or.inl rfl) (pe_ix ix1 (pv 3) pe_int (fun _ _ => rfl)))
    (pss_one (ps_if (PW.pt (pw_or (pt_cmpR op_isN (pv 5) pe_non (nomark _)) (pw_or (pt_cmpR op_isTF (pv 5) pe_bl (nomark _)) (pw_or1 (pt_cmpR op_isTF (pv 5) pe_bl (nomark _)))))) (pss_one (ps_if (pt_not (PW.pt (pw_or (PW.pt (pw_and (pt_cmpR op_isN (pv 5) pe_non (nomark _)) (pw_and1 (pt_cmpR op_isN (pv 4) pe_non (nomark _))))) (pw_or (PW.pt (pw_and (pt_cmpR op_isTF (pv 5) pe_bl (nomark _)) (pw_and1 (pt_cmpR op_isTF (pv 4) pe_bl (nomark _))))) (pw_or1 (PW.pt (pw_and (pt_cmpR op_isTF (pv 5) pe_bl (nomark _)) (pw_and1 (pt_cmpR op_isTF (pv 4) pe_bl (nomark _)))))))))) (pss_one (ps_ret pe_bl)) pss_nil)) (pss_one (ps_if (pt_val (pe_callB isi1 (by rfl) T.no_isinstance (by decide +kernel) (pa_cons (pv 5) (pa_cons (pe_bltn (by rfl) T.no_int (by decide +kernel) (show RelV (.ty "int") _ from rfl)) pa_nil)))) (pss_one (ps_if (PW.pt (pw_or (pt_not (pt_val (pe_cl C_law_is_whole hr (by rfl) (pa_cons (pv 4) pa_nil)))) (pw_or1 (pt_cmpR op_ne (pv 4) (pv 5) (nomark _))))) (pss_one (ps_ret pe_bl)) pss_nil)) (pss_one (ps_if (pt_val (pe_callB isi1 (by rfl) T.no_isinstance (by decide +kernel) (pa_cons (pv 5) (pa_cons (pe_bltn (by rfl) T.no_str (by decide +kernel) (show RelV (.ty "str") _ from rfl)) pa_nil)))) (pss_one (ps_if (PW.pt (pw_or (pt_not (pt_val (pe_callB isi1 (by rfl) T.no_isinstance (by decide +kernel) (pa_cons (pv 4) (pa_cons (pe_bltn (by rfl) T.no_str (by decide +kernel) (show RelV (.ty "str") _ from rfl)) pa_nil))))) (pw_or1 (pt_cmpR op_ne (pv 4) (pv 5) (nomark _))))) (pss_one (ps_ret pe_bl)) pss_nil)) (pss_cons (ps_if (PW.pt (pw_and (pt_val (pe_callB isi1 (by rfl) T.no_isinstance (by decide +kernel) (pa_cons (pv 5) (pa_cons (pe_bltn (by rfl) T.no_tuple (by decide +kernel) (show RelV (.ty "tuple") _ from rfl)) pa_nil)))) (pw_and1 (pt_not (pt_val (pe_callB isi1 (by rfl) T.no_isinstance (by decide +kernel) (pa_cons (pv 4) (pa_cons (pe_bltn (by rfl) T.no_tuple (by decide +kernel) (show RelV (.ty "tuple") _ from rfl)) pa_nil)))))))) (pss_one (ps_ret pe_bl)) pss_nil)
    (pss_cons (ps_if (PW.pt (pw_and (pt_val (pe_callB isi1 (by rfl) T.no_isinstance (by decide +kernel) (pa_cons (pv 5) (pa_cons (pe_bltn (by rfl) T.no_list (by decide +kernel) (show RelV (.ty "list") _ from rfl)) pa_nil)))) (pw_and1 (pt_not (pt_val (pe_callB isi1 (by rfl) T.no_isinstance (by decide +kernel) (pa_cons (pv 4) (pa_cons (pe_bltn (by rfl) T.no_list (by decide +kernel) (show RelV (.ty "list") _ from rfl)) pa_nil)))))))) (pss_one (ps_ret pe_bl)) pss_nil)
    (pss_cons (ps_if (pt_cmpR op_ne (pe_callB len1 (by rfl) T.no_len (by decide +kernel) (pa_cons (pv 4) pa_nil)) (pe_callB len1 (by rfl) T.no_len (by decide +kernel) (pa_cons (pv 5) pa_nil)) (nomark _)) (pss_one (ps_ret pe_bl)) pss_nil)
    (pss_one (ps_for PassesOwn.never rfl (pi_range1 (by rfl) T.no_range (pa_cons (pe_callB len1 (by rfl) T.no_len (by decide +kernel) (pa_cons (pv 5) pa_nil)) pa_nil)) (pg_name (i := 6) sc_law_same.nd rfl (Or.inl rfl)) (pss_one (ps_expr (pe_bm PySem.F.plainAttrs_list PySem.F.slot_list_append PySem.F.type_list_append mt_append (pv 2) (pa_cons (pe_tup (pa_cons (pe_ix ix1 (pv 4) (pv 6) (fun _ _ => rfl)) (pa_cons (pe_ix ix1 (pv 5) (pv 6) (fun _ _ => rfl)) pa_nil))) pa_nil)))))))))))))))))))
    (pss_one (ps_ret pe_bl)))), ?_⟩
  walk_at "sq"
  refine ⟨szl (by decide), fun t0 H1 n1 => ?_⟩
  walk_at "wq"
  refine ⟨szl (by decide), fun L H2 n2 => ?_⟩
  have s2 : Same H H2 := n1.same.trans n2.same
  have hL : H L = none := n1.same.free n2.fr
  walk_at "sq"
  refine wh_by (fun m σ H' => m ≤ 4000000 ∧ Same H H' ∧ ∃ xs v3 v4 v5 v6, σ = [some x, some y, some (.ref L), v3, v4, v5, v6] ∧ H' L = some (.lst xs) ∧ Its H H' xs m) n
    ⟨hn, s2, [.ref t0], _, _, _, _, rfl, n2.at_, by have := Its.snoc (H := H) (H' := H2) .nil (n2.k n1.at_) hx hy; simpa using this⟩ ?_
  rintro m _ H3 N R hN hR ⟨hm, s3, xs, v3, v4, v5, v6, rfl, e3, it⟩
  have hq := sq_l e3
  walk_at "wq"
  refine hR _ _ (wst (fun hb => ?_) (fun hb => ?_))
  · have hb : 0 < xs.length := by simpa using hb
    cases it with
    | nil => exact absurd hb (by simp)
    | @snoc xs m n' k' t a b d it et wa wb =>
      have htL : t ≠ L := ne_of et e3 (by intro z; cases z)
      walk_at "sq"
      refine ⟨tyl e3, .ref t, by simp, fun H4 n4 => ?_⟩
      have n4' : Put H3 L (.lst xs) H4 := by
        have e := List.dropLast_concat (l₁ := xs) (b := V.ref t)
        rw [e] at n4; exact n4
      clear n4
      have e4 := n4'.at_
      have et4 := n4'.k htL et
      have hq4 := sq_t et4
      have s4 : Same H H4 := fun b o e => n4'.k (ne_of_none e hL) (s3 _ _ e)
      have it4 : Its H H4 xs m := it.keep fun t ys e => n4'.k (ne_of e e3 (by intro z; cases z)) e
      walk_at "sq"
      walk_at "sq"
      have fin : N [some x, some y, some (.ref L), some (.ref t), some a, some b, v6] H4 := hN m _ _ (by have := wa.pos; omega) ⟨by omega, s4, xs, _, _, _, _, rfl, e4, it4⟩
      have loop : ∀ (ap bp : Addr) (as bs : List V) (ds : List PyData) (n1 k1 : Nat), sq H ap = some as → sq H bp = some bs → DwAll [] H as ds n1 → DwAll [] H bs ds k1 → n1 + 1 = n' → as.length = bs.length → FRg 0 bs.length (gName 6) (tDrop
            (tBM K "list" rAppend (tVar 2)
              (tCons (tTup (tCons (tOp rIx1 (tVar 4) (tVar 6)) (tCons (tOp rIx1 (tVar 5) (tVar 6)) tNil))) tNil)))
          { nx := N, rt := Q, bk := tRet (tC (V.bl true)) { nx := fun x H' => Q V.non H', rt := Q }, ct := N }
          [some x, some y, some (V.ref L), some (V.ref t), some (V.ref ap), some (V.ref bp), v6] H4 := by
        intro ap bp as bs ds n1 k1 qa qb da db hn1 hl
        refine fr_by (fun i σ H' => Same H H' ∧ ∃ ys v6 w r r', σ = [some x, some y, some (V.ref L), some (V.ref t), some (V.ref ap), some (V.ref bp), v6] ∧ H' L = some (.lst ys) ∧ Its H H' ys (m + w) ∧ DwAll [] H (as.drop i) (ds.drop i) r ∧ DwAll [] H (bs.drop i) (ds.drop i) r' ∧ w + r = n1)
          ⟨s4, xs, v6, 0, n1, k1, rfl, e4, it4, da, db, by omega⟩ ?_ ?_
        · rintro i _ H5 N' hN' hi ⟨s5, ys, v6, w, r, r', rfl, e5, it5, d5, d5', hw⟩
          have qa5 := same_sq s5 qa
          have qb5 := same_sq s5 qb
          have hia : i < as.length := by omega
          rw [List.drop_eq_getElem_cons hia] at d5
          rw [List.drop_eq_getElem_cons hi] at d5'
          generalize hd : ds.drop i = dd at d5 d5'
          cases d5 with
          | @cons _ _ d0 ds0 c1 c2 p1 p2 =>
            cases d5' with
            | @cons _ _ _ _ c3 c4 p3 p4 =>
              have hd1 : ds.drop (i + 1) = ds0 := by rw [← List.drop_drop, hd] <;> rfl
              walk_at "wq"
              refine ⟨tyl e5, as[i], atI_of (by omega) (by simp [hia]), bs[i], atI_of (by omega) (by simp [hi]), szl (by decide), fun t6 H6 n6 => ?_⟩
              have e6 := n6.k e5
              walk_at "wq"
              have hlen := it5.len
              refine ⟨szl' (by omega), fun H7 n7 => ?_⟩
              have ht6 : t6 ≠ L := (n6.ne e5).symm
              refine hN' _ _ ⟨n7.same (s5.trans n6.same) hL, _, _, w + c1, c2, c4, rfl, n7.at_, ?_, by rw [hd1]; exact p2, by rw [hd1]; exact p4, by omega⟩
              have it7 : Its H H7 ys (m + w) := it5.keep fun t ys e => n7.k (ne_of (n6.k e) e6 (by intro z; cases z)) (n6.k e)
              have := Its.snoc it7 (n7.k ht6 n6.at_) p1 p3
              rw [← Nat.add_assoc]
              exact this
        · rintro _ H5 ⟨s5, ys, v6, w, r, r', rfl, e5, it5, d5, d5', hw⟩
          exact hN (m + w) _ _ (by omega) ⟨by omega, s5, ys, _, _, _, _, rfl, e5, it5⟩
      cases wb with
      | lf l =>
        cases l with
        | non => cases wa with | lf l' => cases l'; walk_at "wps"; first | done | exact fin
        | bl c => cases wa with | lf l' => cases l'; cases c <;> walk_at "wps" <;> first | done | exact fin
        | int c =>
          cases wa with
          | lf l' =>
            cases l'
            walk_at "wps"
            refine ⟨.int c, .int c, 1, [], rfl, .lf (.int c), ?_⟩
            walk_at "wps"
        | str c => cases wa with | lf l' => cases l'; walk_at "wps"; first | done | exact fin
      | @lst bp bs ds k'' bne eb db =>
        cases wa with
        | lf l' => cases l'
        | @lst ap as _ n'' ane ea da =>
          have eb4 := s4 _ _ eb
          have ea4 := s4 _ _ ea
          have tb := ty_l eb4
          have ta := ty_l ea4
          have qb := sq_l eb4
          have qa := sq_l ea4
          walk_at "wps"
          have hl := da.len.1.trans db.len.1.symm
          have hl2 := da.len.2
          rw [if_neg (by omega)]
          exact ⟨by omega, by omega, loop ap bp as bs ds _ _ (sq_l ea) (sq_l eb) da db rfl hl⟩
      | @tup bp bs ds k'' bne eb db =>
        cases wa with
        | lf l' => cases l'
        | @tup ap as _ n'' ane ea da =>
          have eb4 := s4 _ _ eb
          have ea4 := s4 _ _ ea
          have tb := ty_t eb4
          have ta := ty_t ea4
          have qb := sq_t eb4
          have qa := sq_t ea4
          walk_at "wps"
          have hl := da.len.1.trans db.len.1.symm
          have hl2 := da.len.2
          rw [if_neg (by omega)]
          exact ⟨by omega, by omega, loop ap bp as bs ds _ _ (sq_t ea) (sq_t eb) da db rfl hl⟩
  · (walk_at "wq") <;> exact k _ s3
/-! frozen -/
def frz : Nat → PyData → PyData
  | n + 1, .list xs => .tuple [.str "list", .tuple (xs.map (frz n))]
  | n + 1, .tuple xs => .tuple [.str "tuple", .tuple (xs.map (frz n))]
  | _, d => d
def sp_frozen (N : Nat) : Sp := fun vs H Q _ => ∃ (v : V) (deep : Int) (E : List Addr) (d : PyData) (n : Nat), vs = [v, .int deep] ∧ 0 ≤ deep ∧ deep < N ∧ Lv E H ∧ Dw E H v d n ∧ n ≤ 1000000 ∧ ∀ u m H', Same H H' → Dw E H' u (frz deep.toNat d) m → m ≤ 8 * n → Q u H'
abbrev st_law_frozen : Stmt := topS 59
theorem sc_law_frozen : FnScope ["value", "deep", "part"] ["value", "deep"] (defScope st_law_frozen) := ⟨rfl, rfl, rfl, by decide +kernel, rfl, by decide +kernel, by decide +kernel⟩
theorem ok_law_frozen (D : Df K mg "_law_frozen" st_law_frozen) (T : NoB mg)  {n : Nat} (C_law_frozen : Cl P w K mg base n "_law_frozen" ["value", "deep"] (sp_frozen n)): Cl P w K mg base (n+1) "_law_frozen" ["value", "deep"] (sp_frozen (n+1)) := by
  refine cl_of D sc_law_frozen (fun _ _ _ _ _ _ us hl => match us, hl with | [_, _], _ => rfl) (fun vs H Q E h => ?_) (fun f cdv A outer sh H vs Q E hr h => ?_)
  · obtain ⟨_, _, _, _, _, rfl, _⟩ := h; rfl
  obtain ⟨v, deep, E, d, n', rfl, h0, h1, lv, hd, hn, k⟩ := h
  refine ⟨_, (pss_cons (ps_if (PW.pt (pw_and (pt_cmpR op_gt (pv 1) pe_int (nomark _)) (pw_and1 (pt_val (pe_callB isi1 (by rfl) T.no_isinstance (by decide +kernel) (pa_cons (pv 0) (pa_cons (pe_bltn (by rfl) T.no_list (by decide +kernel) (show RelV (.ty "list") _ from rfl)) pa_nil))))))) (pss_one (ps_ret (pe_tup (pa_cons pe_str (pa_cons (pe_callTy tup1 (by rfl) T.no_tuple (by decide +kernel) (pa_cons (pe_lc (own := [("part", 2)]) (g := gName 2) (tt := tYes) rfl sc_law_frozen.nd (pi_sq (pv 0)) (blkOk_by (own := [("part", 2)]) (N := ["value", "deep", "part"]) (sc := defScope st_law_frozen) (by decide +kernel)) (fun _ _ _ _ _ => (pg_name (i := 2) sc_law_frozen.nd rfl (Or.inl rfl))) (fun _ _ _ _ _ => pts_nil) (fun _ _ _ _ _ => (pe_cl C_law_frozen hr (by rfl) (pa_cons (pv 2) (pa_cons (pe_op op_sub (pv 1) pe_int) pa_nil)) (Nat.le_refl _)))) pa_nil)) pa_nil))))) pss_nil)
    (pss_cons (ps_if (PW.pt (pw_and (pt_cmpR op_gt (pv 1) pe_int (nomark _)) (pw_and1 (pt_val (pe_callB isi1 (by rfl) T.no_isinstance (by decide +kernel) (pa_cons (pv 0) (pa_cons (pe_bltn (by rfl) T.no_tuple (by decide +kernel) (show RelV (.ty "tuple") _ from rfl)) pa_nil))))))) (pss_one (ps_ret (pe_tup (pa_cons pe_str (pa_cons (pe_callTy tup1 (by rfl) T.no_tuple (by decide +kernel) (pa_cons (pe_lc (own := [("part", 2)]) (g := gName 2) (tt := tYes) rfl sc_law_frozen.nd (pi_sq (pv 0)) (blkOk_by (own := [("part", 2)]) (N := ["value", "deep", "part"]) (sc := defScope st_law_frozen) (by decide +kernel)) (fun _ _ _ _ _ => (pg_name (i := 2) sc_law_frozen.nd rfl (Or.inl rfl))) (fun _ _ _ _ _ => pts_nil) (fun _ _ _ _ _ => (pe_cl C_law_frozen hr (by rfl) (pa_cons (pv 2) (pa_cons (pe_op op_sub (pv 1) pe_int) pa_nil)) (Nat.le_refl _)))) pa_nil)) pa_nil))))) pss_nil)
    (pss_one (ps_ret (pv 0))))), ?_⟩
  have comp : ∀ (p : Addr) (xs : List V) (ds : List PyData) (m : Nat) (R : VK), 0 < deep → m ≤ 1000000 → sq H p = some xs → DwAll E H xs ds m →
      (∀ C acc H1 m', H C = none → Same H H1 → H1 C = some (.lst acc) → DwAll (C :: E) H1 acc (ds.map (frz (deep.toNat - 1))) m' → m' ≤ 8 * m → R (.ref C) H1) →
      CSq K p (gName 2) tYes (tCall (sp_frozen n) [] E0 (tCons (tVar 2) (tCons (tOp (rI0 fun i j => V.int (i - j)) (tVar 1) (tC (V.int 1))) tNil))) [2] [some (V.ref p), some (V.int deep), none] H R := by
    intro p xs ds m R hpos hm hq hd hR
    refine cs_by hq (fun C i acc H' => Same H H' ∧ ∃ m' r w, DwAll (C :: E) H' acc ((ds.take i).map (frz (deep.toNat - 1))) m' ∧ DwAll E H (xs.drop i) (ds.drop i) r ∧ m' ≤ 8 * w ∧ w + r = m)
      (fun C H0 n0 => ⟨n0.same, 0, m, 0, .nil, hd, by omega, by omega⟩) (fun C i acc H' _ ⟨s', _⟩ o e => s' _ _ e) ?_ ?_
    · rintro C i x acc H1 N hC hi ha ⟨s1, m', r, w, d1, d2, hw, hr⟩ hN
      have hlt : i < xs.length := (List.getElem?_eq_some_iff.mp hi).1
      have hx : xs[i] = x := (List.getElem?_eq_some_iff.mp hi).2
      rw [List.drop_eq_getElem_cons hlt, hx] at d2
      generalize hdd : ds.drop i = dd at d2
      cases d2 with
      | @cons _ _ d0 ds0 c1 c2 p1 p2 =>
        have hd1 : ds.drop (i + 1) = ds0 := by rw [← List.drop_drop, hdd] <;> rfl
        have hd2 : ds.take (i + 1) = ds.take i ++ [d0] := by rw [List.take_add, hdd] <;> rfl
        have lvC : Lv (C :: E) H1 := (lv.same s1).cons ha
        walk_at "wq"
        refine ⟨x, deep - 1, C :: E, d0, c1, rfl, by omega, by omega, lvC, (p1.fresh hC).same s1, by omega, fun u mu H2 s2 hu hmu => ?_⟩
        refine cst (s2 _ _ ha) (szl' (by have := d1.len.2; omega)) fun H3 n3 => hN _ _ n3.at_ ⟨n3.same (s1.trans s2) hC, m' + mu, c2, w + c1, ?_, by rw [hd1]; exact p2, by omega, by omega⟩
        rw [hd2, List.map_append]
        have hk : (deep - 1).toNat = deep.toNat - 1 := by omega
        rw [hk] at hu
        exact ((d1.same s2).put n3 (by simp)).app (.one (hu.put n3 (by simp)))
    · rintro C acc H1 hC ha ⟨s1, m', r, w, d1, d2, hw, hr⟩
      have hl := hd.len.1
      have e : ds.take xs.length = ds := by rw [hl]; exact List.take_length
      rw [e] at d1
      exact hR C acc H1 m' hC s1 ha d1 (by omega)
  have last : ∀ (tag : Str) (ds : List PyData) (m : Nat), tag.length ≤ 5 → m + 1 = n' → frz deep.toNat d = .tuple [.str tag, .tuple (ds.map (frz (deep.toNat - 1)))] → ∀ (C : Addr) (acc : List V) (H1 : Hp) (m' : Nat), H C = none → Same H H1 → H1 C = some (.lst acc) → DwAll (C :: E) H1 acc (ds.map (frz (deep.toNat - 1))) m' → m' ≤ 8 * m →
      Nw H1 (HO.tup acc) fun q H2 => Nw H2 (.tup [.str tag, .ref q]) fun p H' => Q (V.ref p) H' := by
    intro tag ds m ht hm hf C acc H1 m' hC s1 ha d1 hm' q H2 n2 p H3 n3
    have hlv2 := (lv.same s1).same n2.same
    have dq : Dw E H2 (.ref q) (.tuple (ds.map (frz (deep.toNat - 1)))) (m' + 1) := .tup ((lv.same s1).out n2.fr) n2.at_ ((d1.sub fun a z => by simp [z]).same n2.same)
    refine k _ (tag.length + 1 + (m' + 1 + 0) + 1) _ ((s1.trans n2.same).trans n3.same) ?_ (by omega)
    rw [hf]
    exact .tup (hlv2.out n3.fr) n3.at_ (.cons (.lf (.str tag)) (.cons (dq.same n3.same) .nil))
  cases hd with
  | lf l =>
    have e : frz deep.toNat d = d := by cases l <;> (cases deep.toNat <;> rfl)
    have fin : Q v H := k v _ H (Same.refl _) (by rw [e]; exact .lf l) (by have := l.pos; omega)
    cases l <;> (walk_at "wps"; (try (split <;> trivial)))
  | @lst a xs ds m ne h da =>
    have ht := ty_l h
    have fin : deep = 0 → Q (.ref a) H := fun z => k _ _ H (Same.refl _) (by rw [z]; exact .lst ne h da) (by omega)
    walk_at "wps"
    split
    · rename_i hp
      refine comp a xs ds m _ hp (by omega) (sq_l h) da fun C acc H1 m' hC s1 ha d1 hm' => ?_
      have hk : deep.toNat = deep.toNat - 1 + 1 := by omega
      have L := last "list" ds m (by decide +kernel) rfl (by rw [hk]; rfl) C acc H1 m' hC s1 ha d1 hm'
      walk_at "wn"
      refine ⟨acc, ha, fun q H2 n2 => ⟨szl (by decide), ?_⟩⟩
      exact L q H2 n2
    · exact fin (by omega)
  | @tup a xs ds m ne h da =>
    have ht := ty_t h
    have fin : deep = 0 → Q (.ref a) H := fun z => k _ _ H (Same.refl _) (by rw [z]; exact .tup ne h da) (by omega)
    walk_at "wps"
    split
    · rename_i hp
      refine comp a xs ds m _ hp (by omega) (sq_t h) da fun C acc H1 m' hC s1 ha d1 hm' => ?_
      have hk : deep.toNat = deep.toNat - 1 + 1 := by omega
      have L := last "tuple" ds m (by decide +kernel) rfl (by rw [hk]; rfl) C acc H1 m' hC s1 ha d1 hm'
      walk_at "wn"
      refine ⟨acc, ha, fun q H2 n2 => ⟨szl (by decide), ?_⟩⟩
      exact L q H2 n2
    · exact fin (by omega)
theorem frozen_all (D : Df K mg "_law_frozen" st_law_frozen) (T : NoB mg) : ∀ n, Cl P w K mg base n "_law_frozen" ["value", "deep"] (sp_frozen n)
  | 0 => cl_false D (fun _ _ _ _ _ _ us hl => match us, hl with | [_, _], _ => rfl) 0 fun vs H Q E h => by
    obtain ⟨v, deep, E, d, n, _, h0, h1, _⟩ := h
    omega
  | n + 1 => ok_law_frozen D T (frozen_all D T n)

end

/-! ## T6 -/

section
variable {P : Program} {w : World} {K : PySem.W.Frag} {mg : Str → Option Value} {base : Heap}
/-! move -/
def sp_move : Sp := fun vs H Q _ => ∃ (s l : Addr) (n : Int), vs = [.ref s, .int n] ∧ Sto s l H ∧ 0 ≤ n ∧ n ≤ 40 ∧ ∀ (q : Addr) (ns : List Int) H', Ge s l H H' → H q = none → H' q = some (.tup (ns.map V.int)) → ns.Perm (rng n.toNat) → Q (.ref q) H'
abbrev st_law_move : Stmt := topS 61
theorem sc_law_move : FnScope ["store", "points", "pick", "image", "size", "ring_row", "k", "shift"] ["store", "points"] (defScope st_law_move) := ⟨rfl, rfl, rfl, by decide +kernel, rfl, by decide +kernel, by decide +kernel⟩
theorem ok_law_move (D : Df K mg "_law_move" st_law_move) (T : NoB mg) (C_law_drawn : Cl P w K mg base 3 "_law_drawn" ["store", "things", "many"] sp_drawn) (C_law_take : Cl P w K mg base 2 "_law_take" ["store", "many"] sp_take) : Cl P w K mg base 4 "_law_move" ["store", "points"] sp_move := by
  refine cl_of D sc_law_move (fun _ _ _ _ _ _ us hl => match us, hl with | [_, _], _ => rfl) (fun vs H Q E h => ?_) (fun f cdv A outer sh H vs Q E hr h => ?_)
  · obtain ⟨_, _, _, rfl, _⟩ := h; rfl
  obtain ⟨s, l, n, rfl, st, hn0, hn1, k⟩ := h
  refine ⟨_, (pss_cons (ps_set (i := 2) sc_law_move.nd rfl (Or.inl rfl) (pe_cl C_law_take hr (by rfl) (pa_cons (pv 0) (pa_cons pe_int pa_nil))))
    (pss_cons (ps_set (i := 3) sc_law_move.nd rfl (Or.inl rfl) (pe_listRg rfl (by rfl) T.no_list (prg_1 (by rfl) T.no_range (pv 1))))
    (pss_cons (ps_if (PW.pt (pw_or (pt_cmpR op_eq (pv 2) pe_int (nomark _)) (pw_or1 (pt_cmpR op_lt (pv 1) pe_int (nomark _))))) (pss_one (ps_ret (pe_callTy tup1 (by rfl) T.no_tuple (by decide +kernel) (pa_cons (pv 3) pa_nil)))) pss_nil)
    (pss_cons (ps_if (pt_cmpR op_lt (pv 2) pe_int (nomark _)) (pss_cons (ps_set (i := 4) sc_law_move.nd rfl (Or.inl rfl) pe_int)
    (pss_cons (ps_if (pt_cmpR op_gt (pv 2) pe_int (nomark _)) (pss_one (ps_set (i := 4) sc_law_move.nd rfl (Or.inl rfl) (pe_op op_add pe_int (pe_cl C_law_take hr (by rfl) (pa_cons (pv 0) (pa_cons (pe_op op_sub (pv 1) pe_int) pa_nil)))))) pss_nil)
    (pss_cons (ps_set (i := 5) sc_law_move.nd rfl (Or.inl rfl) (pe_cl C_law_drawn hr (by rfl) (pa_cons (pv 0) (pa_cons (pv 3) (pa_cons (pv 4) pa_nil)))))
    (pss_cons (ps_for PassesOwn.never rfl (pi_range1 (by rfl) T.no_range (pa_cons (pv 4) pa_nil)) (pg_name (i := 6) sc_law_move.nd rfl (Or.inl rfl)) (pss_one (ps_asg (pe_ix ix1 (pv 5) (pe_op op_modN (pe_callTy int1 (by rfl) T.no_int (by decide +kernel) (pa_cons (pe_op op_add (pv 6) pe_int) pa_nil)) (pv 4)) (fun _ _ => rfl)) (pg_sub (pv 3) (pe_ix ix1 (pv 5) (pv 6) (fun _ _ => rfl)) set_list))))
    (pss_one (ps_ret (pe_callTy tup1 (by rfl) T.no_tuple (by decide +kernel) (pa_cons (pv 3) pa_nil)))))))) pss_nil)
    (pss_cons (ps_if (pt_cmpR op_eq (pv 2) pe_int (nomark _)) (pss_cons (ps_set (i := 7) sc_law_move.nd rfl (Or.inr rfl) (pe_op op_add pe_int (pe_cl C_law_take hr (by rfl) (pa_cons (pv 0) (pa_cons (pe_op op_sub (pv 1) pe_int) pa_nil)))))
    (pss_one (ps_ret (pe_callTy tup1 (by rfl) T.no_tuple (by decide +kernel) (pa_cons (pe_lc (own := [("k", 6)]) (g := gName 6) (tt := tYes) rfl sc_law_move.nd (pi_range1 (by rfl) T.no_range (pa_cons (pv 1) pa_nil)) (blkOk_by (own := [("k", 6)]) (N := ["store", "points", "pick", "image", "size", "ring_row", "k", "shift"]) (sc := defScope st_law_move) (by decide +kernel)) (fun _ _ _ _ _ => (pg_name (i := 6) sc_law_move.nd rfl (Or.inl rfl))) (fun _ _ _ _ _ => pts_nil) (fun _ _ _ _ _ => (pe_op op_modN (pe_callTy int1 (by rfl) T.no_int (by decide +kernel) (pa_cons (pe_op op_add (pv 6) (pv 7)) pa_nil)) (pv 1)))) pa_nil))))) pss_nil)
    (pss_cons (ps_if (pt_cmpR op_eq (pv 2) pe_int (nomark _)) (pss_one (ps_ret (pe_callTy tup1 (by rfl) T.no_tuple (by decide +kernel) (pa_cons (pe_lc (own := [("k", 6)]) (g := gName 6) (tt := tYes) rfl sc_law_move.nd (pi_range1 (by rfl) T.no_range (pa_cons (pv 1) pa_nil)) (blkOk_by (own := [("k", 6)]) (N := ["store", "points", "pick", "image", "size", "ring_row", "k", "shift"]) (sc := defScope st_law_move) (by decide +kernel)) (fun _ _ _ _ _ => (pg_name (i := 6) sc_law_move.nd rfl (Or.inl rfl))) (fun _ _ _ _ _ => pts_nil) (fun _ _ _ _ _ => (pe_op op_sub (pe_op op_sub (pv 1) pe_int) (pv 6)))) pa_nil)))) pss_nil)
    (pss_one (ps_ret (pe_callTy tup1 (by rfl) T.no_tuple (by decide +kernel) (pa_cons (pe_cl C_law_drawn hr (by rfl) (pa_cons (pv 0) (pa_cons (pv 3) (pa_cons (pv 1) pa_nil)))) pa_nil)))))))))), ?_⟩
  walk_at "sq"
  refine ⟨s, l, _, rfl, by decide, st, fun pk H1 g1 r0 r1 r2 => ?_⟩
  have := r1 (by decide)
  walk_at "sq"
  refine ⟨.of_le (by decide) (by omega) (by decide) hn0, fun im H2 n2 => ?_⟩
  have g2 := g1.new n2
  have him := g1.fr n2.fr
  have e2 := n2.at_
  rw [rgV_rng hn0] at e2
  have q2 := sq_l e2
  have idt : ∀ q H3, New H2 q (.tup ((rng n.toNat).map V.int)) H3 → Q (.ref q) H3 := fun q H3 n3 => k q _ H3 (g2.new n3) (g2.fr n3.fr) n3.at_ (.refl _)
  walk_at "sq"
  split
  · exact fun q H3 n3 => idt q H3 n3
  split
  · exact fun q H3 n3 => idt q H3 n3
  rename_i hp0 hp1
  walk_at "sq"
  split
  · walk_at "sq"
    have hn2 : 2 ≤ n := by omega
    refine seq_join (fun σ H' => ∃ sz, σ = [some (.ref s), some (.int n), some (.int pk), some (.ref im), some (.int sz), none, none, none] ∧ Ge s l H2 H' ∧ 2 ≤ sz ∧ sz ≤ n) (fun N hN => ?_) ?_
    · walk_at "wq"
      split
      · refine ⟨s, l, _, rfl, by omega, g2.st, fun r H3 g3 q0 q1 q2 => ?_⟩
        walk_at "wn"
        refine hN _ _ ⟨_, rfl, g3, by omega, ?_⟩
        by_cases z : n - 1 < 2
        · rw [q2 z]; omega
        · have := q1 (by omega); omega
      · exact hN _ _ ⟨2, rfl, Ge.refl g2.st, by omega, hn2⟩
    · rintro _ H3 ⟨sz, rfl, g23, hz1, hz2⟩
      have g3 := g2.trans g23
      have e3 := g23.at st him e2
      have q3 := sq_l e3
      walk_at "sq"
      refine ⟨s, l, im, _, sz, rfl, g3.st, q3, by rw [List.length_map, rng_len]; omega, by omega, fun qr H4 ys rest g34 hqr e4 hp hl => ?_⟩
      have g4 := g3.trans g34
      have ei4 := g34.at st him e3
      have hqr0 := g3.fr hqr
      have hne : im ≠ qr := ne_of_none e3 hqr
      obtain ⟨L, h1, h2⟩ := perm_ints hp
      obtain ⟨r, rst, rfl, rfl, rfl⟩ := append_ints h1
      have hrl : r.length = sz.toNat := by
        rw [List.length_map] at hl
        rw [List.length_map, rng_len] at hl
        rw [hl]; split <;> omega
      have hnd : r.Nodup := (List.nodup_append.mp ((h2.nodup_iff).mpr (rng_nodup _))).1
      have hmem : ∀ x ∈ r, 0 ≤ x ∧ x < n := fun x hx => by
        have := mem_rng.mp (h2.mem_iff.mp (List.mem_append_left _ hx)); omega
      walk_at "sq"
      refine ⟨by omega, by omega, ?_⟩
      refine fr_by (fun i σ H' => Ge s l H H' ∧ ∃ v6 ns, σ = [some (.ref s), some (.int n), some (.int pk), some (.ref im), some (.int sz), some (.ref qr), v6, none] ∧ H' im = some (.lst (ns.map V.int)) ∧ H' qr = some (.lst (r.map V.int)) ∧ ns.length = n.toNat ∧
          (∀ k, k < i → ∃ x y, r[k]? = some x ∧ r[(k + 1) % r.length]? = some y ∧ ns[x.toNat]? = some y) ∧ (∀ p : Nat, p < n.toNat → (p : Int) ∉ r.take i → ns[p]? = some (p : Int)))
        ⟨g4, none, rng n.toNat, rfl, ei4, e4, rng_len _, fun k h => absurd h (Nat.not_lt_zero _), fun p hp _ => rng_get hp⟩ ?_ ?_
      · rintro i _ H5 N hN hi ⟨g5, v6, ns, rfl, e5, f5, hl5, h5, h5'⟩
        have qf5 := sq_l f5
        have hir : i < r.length := by omega
        have hjr : (i + 1) % r.length < r.length := Nat.mod_lt _ (by omega)
        have ej : ((0 : Int) + (i : Int) + 1).fmod sz = (((i + 1) % r.length : Nat) : Int) := by
          rw [Int.fmod_eq_emod_of_nonneg _ (by omega), hrl]
          have : ((sz.toNat : Nat) : Int) = sz := by omega
          push_cast
          rw [this]
          congr 1
          omega
        have hx := hmem r[i] (List.getElem_mem hir)
        walk_at "wq"
        refine ⟨by omega, .int r[(i + 1) % r.length], atI_of (by omega) ?_, .int r[i], atI_of (by omega) ?_, ?_⟩
        · rw [← hrl, Int.toNat_natCast, List.getElem?_map, List.getElem?_eq_getElem hjr]
          rfl
        · simp [hir]
        walk_at "wq"
        refine ⟨r[i].toNat, ixN_of hx.1 (by rw [List.length_map, hl5]; omega), fun H6 n6 => ?_⟩
        refine hN _ _ ⟨g5.put st him n6, _, ns.set r[i].toNat r[(i + 1) % r.length], rfl, ?_, n6.k hne.symm f5, by rw [List.length_set, hl5], fun k hk => ?_, fun p hp hm => ?_⟩
        · rw [n6.at_, List.map_set]
          simp only [hrl]
        · by_cases hki : k = i
          · subst hki
            exact ⟨r[k], r[(k + 1) % r.length], by simp [hir], by simp [hjr], by rw [List.getElem?_set_self (by rw [hl5]; omega)]⟩
          · obtain ⟨x, y, a1, a2, a3⟩ := h5 k (by omega)
            refine ⟨x, y, a1, a2, ?_⟩
            have hk2 : k < r.length := (List.getElem?_eq_some_iff.mp a1).1
            have hxx : r[k] = x := (List.getElem?_eq_some_iff.mp a1).2
            have hx2 := hmem x (List.mem_of_getElem? a1)
            have : r[i] ≠ x := by
              rw [← hxx]
              intro e
              exact hki ((List.getElem?_inj hk2 hnd).mp (by rw [List.getElem?_eq_getElem hk2, List.getElem?_eq_getElem hir, e]))
            rw [List.getElem?_set_ne (by omega)]
            exact a3
        · rw [List.take_succ, List.mem_append, not_or] at hm
          have : r[i] ≠ (p : Int) := fun e => hm.2 (by simp [hir, e])
          rw [List.getElem?_set_ne (by omega)]
          exact h5' p hp hm.1
      · rintro _ H5 ⟨g5, v6, ns, rfl, e5, f5, hl5, h5, h5'⟩
        walk_at "wq"
        refine fun q H6 n6 => k q ns H6 (g5.new n6) (g5.fr n6.fr) n6.at_ (ring_perm h2 hl5 (fun k hk => h5 k (by omega)) fun p hp hm => h5' p hp ?_)
        rw [List.take_of_length_le (by omega)]
        exact hm
  have hn2 : 2 ≤ n := by omega
  walk_at "sq"
  split
  · walk_at "sq"
    refine ⟨s, l, _, rfl, by omega, g2.st, fun r H3 g3 q0 q1 q2 => ?_⟩
    have hr : r < n := by
      by_cases z : n - 1 < 2
      · rw [q2 z]; omega
      · have := q1 (by omega); omega
    have g3' := g2.trans g3
    walk_at "wq"
    refine ⟨by omega, by omega, ?_⟩
    refine cr_by (fun C i acc H' => Ge s l H H' ∧ acc = (((rng n.toNat).take i).map fun k => (k + (1 + r)).fmod n).map V.int) (fun C H0 n0 => ⟨g3'.new n0, by simp⟩) ?_ ?_
    · rintro C i acc H4 N hC hi ha ⟨g4, rfl⟩ hN
      walk_at "wq"
      refine ⟨by omega, cst ha (szl' (by simp; omega)) fun H5 n5 => hN _ _ n5.at_ ⟨g4.put st (g3'.fr hC) n5, ?_⟩⟩
      rw [List.take_succ, rng_get hi]
      simp
    · rintro C acc H4 hC ha ⟨g4, rfl⟩
      rw [List.take_of_length_le (by rw [rng_len]; omega)] at ha
      walk_at "wq"
      refine fun q H5 n5 => k q _ H5 (g4.new n5) (g4.fr n5.fr) n5.at_ ?_
      have := rot_perm (n := n.toNat) (s := (1 + r).toNat) (by omega)
      rw [show (((1 + r).toNat : Nat) : Int) = 1 + r by omega, show ((n.toNat : Nat) : Int) = n by omega] at this
      exact this
  walk_at "sq"
  split
  · walk_at "wq"
    refine ⟨by omega, by omega, ?_⟩
    refine cr_by (fun C i acc H' => Ge s l H H' ∧ acc = (((rng n.toNat).take i).map fun k => n - 1 - k).map V.int) (fun C H0 n0 => ⟨g2.new n0, by simp⟩) ?_ ?_
    · rintro C i acc H4 N hC hi ha ⟨g4, rfl⟩ hN
      walk_at "wq"
      refine cst ha (szl' (by simp; omega)) fun H5 n5 => hN _ _ n5.at_ ⟨g4.put st (g2.fr hC) n5, ?_⟩
      rw [List.take_succ, rng_get hi]
      simp
    · rintro C acc H4 hC ha ⟨g4, rfl⟩
      rw [List.take_of_length_le (by rw [rng_len]; omega)] at ha
      walk_at "wq"
      refine fun q H5 n5 => k q _ H5 (g4.new n5) (g4.fr n5.fr) n5.at_ ?_
      have := rev_perm (n := n.toNat)
      rw [show ((n.toNat : Nat) : Int) = n by omega] at this
      exact this
  · walk_at "wq"
    refine ⟨s, l, im, _, n, rfl, g2.st, q2, by rw [List.length_map, rng_len]; omega, by omega, fun qr H4 ys rest g34 hqr e4 hp hl => ?_⟩
    walk_at "wq"
    refine fun q H5 n5 => ?_
    have g4 := g2.trans g34
    obtain ⟨L, h1, h2⟩ := perm_ints hp
    obtain ⟨r, rst, rfl, rfl, rfl⟩ := append_ints h1
    have hll := h2.length_eq
    rw [List.length_append, rng_len] at hll
    have hrl : rst = [] := by
      rw [List.length_map, List.length_map, rng_len] at hl
      have : r.length = n.toNat := by rw [hl]; split <;> omega
      exact List.eq_nil_of_length_eq_zero (by omega)
    rw [hrl, List.append_nil] at h2
    exact k q r H5 (g4.new n5) (g4.fr n5.fr) n5.at_ h2
end

/-! ## T7 -/

theorem Db.tup1 {E : List Addr} {H : Hp} {b : Nat} {v : V} {p : Addr} (h : Db E H b v) (hp : p ∉ E) (hq : H p = some (.tup [v])) : Db E H (b + 1) (.ref p) := by
  have := Db.seq (E := E) (H := H) (b := b) (xs := [v]) (p := p) (fun x hx => by rw [List.mem_singleton.mp hx]; exact h) hp (.inl hq)
  simpa using this
theorem Db.int {E : List Addr} {H : Hp} {b : Nat} (i : Int) (h : 1 ≤ b) : Db E H b (.int i) := ⟨_, 1, .lf (.int i), h⟩
theorem Db.bl {E : List Addr} {H : Hp} {b : Nat} (i : Bool) (h : 1 ≤ b) : Db E H b (.bl i) := ⟨_, 1, .lf (.bl i), h⟩
theorem Db.non {E : List Addr} {H : Hp} {b : Nat} (h : 1 ≤ b) : Db E H b .non := ⟨_, 1, .lf .non, h⟩
theorem Db.str {E : List Addr} {H : Hp} {b : Nat} {z : Str} (h : z.length + 1 ≤ b) : Db E H b (.str z) := ⟨_, _, .lf (.str z), h⟩
section
variable {P : Program} {w : World} {K : PySem.W.Frag} {mg : Str → Option Value} {base : Heap}
/-! pick of a text -/
def sp_pickS : Sp := fun vs H Q _ => ∃ (s l : Addr) (z : Str), vs = [.ref s, .str z] ∧ Sto s l H ∧ 0 < z.length ∧ z.length ≤ 1000 ∧ ∀ c H', Ge s l H H' → c ∈ z.cps.toList → Q (.str ⟨#[c]⟩) H'
theorem ok_law_pickS (D : Df K mg "_law_pick" st_law_pick) (T : NoB mg) (C_law_take : Cl P w K mg base 2 "_law_take" ["store", "many"] sp_take) : Cl P w K mg base 3 "_law_pick" ["store", "things"] sp_pickS := by
  refine cl_of D sc_law_pick (fun _ _ _ _ _ _ us hl => match us, hl with | [_, _], _ => rfl) (fun vs H Q E h => ?_) (fun f cdv A outer sh H vs Q E hr h => ?_)
  · obtain ⟨_, _, _, rfl, _⟩ := h; rfl
  obtain ⟨s, l, z, rfl, st, hz0, hz1, k⟩ := h
  refine ⟨_, (pss_one (ps_ret (pe_ix ix_str (pv 1) (pe_cl C_law_take hr (by rfl) (pa_cons (pv 0) (pa_cons (pe_callB call_len_str (by rfl) T.no_len (by decide +kernel) (pa_cons (pv 1) pa_nil)) pa_nil))) (fun _ _ => rfl)))), ?_⟩
  walk_at "wps"
  refine ⟨szl (by omega), s, l, _, rfl, by omega, st, fun r H1 g r0 r1 r2 => ?_⟩
  walk_at "wps"
  have hr : r.toNat < z.cps.toList.length := by
    rw [len_tl]
    by_cases q : z.length < 2
    · rw [r2 (by omega)]; exact hz0
    · have := r1 (by omega); omega
  exact ⟨szl (by omega), z.cps.toList[r.toNat], atI_of r0 (by simp [hr]), k _ _ g (List.getElem_mem hr)⟩
/-! bad_move -/
def sp_bad_move : Sp := fun vs H Q _ => ∃ (s l m : Addr) (E : List Addr) (n : Nat) (ns : List Int), vs = [.ref s, .ref m] ∧ Sto s l H ∧ Lv E H ∧ s ∈ E ∧ m ≠ s ∧ H m = some (.tup (ns.map V.int)) ∧ ns.Perm (rng n) ∧ n ≤ 40 ∧ ∀ v H', Ge s l H H' → Db E H' 60 v → Q v H'
abbrev st_law_bad_move : Stmt := topS 63
theorem sc_law_bad_move : FnScope ["store", "move", "pick", "size", "image", "at"] ["store", "move"] (defScope st_law_bad_move) := ⟨rfl, rfl, rfl, by decide +kernel, rfl, by decide +kernel, by decide +kernel⟩
theorem ok_law_bad_move (D : Df K mg "_law_bad_move" st_law_bad_move) (T : NoB mg) (C_law_leaf : Cl P w K mg base 5 "_law_leaf" ["store"] sp_leaf) (C_law_place : Cl P w K mg base 3 "_law_place" ["store", "size"] sp_place) (C_law_take : Cl P w K mg base 2 "_law_take" ["store", "many"] sp_take) : Cl P w K mg base 6 "_law_bad_move" ["store", "move"] sp_bad_move := by
  refine cl_of D sc_law_bad_move (fun _ _ _ _ _ _ us hl => match us, hl with | [_, _], _ => rfl) (fun vs H Q E h => ?_) (fun f cdv A outer sh H vs Q E hr h => ?_)
  · obtain ⟨_, _, _, _, _, _, rfl, _⟩ := h; rfl
  obtain ⟨s, l, m, E, n, ns, rfl, st, lv, hsE, hms, hm, hp, hn, k⟩ := h
  have hnl : n = ns.length := by rw [hp.length_eq, rng_len]
  subst hnl
  have hmm : (ns.map V.int).length = ns.length := by rw [List.length_map]
  refine ⟨_, (pss_cons (ps_set (i := 2) sc_law_bad_move.nd rfl (Or.inl rfl) (pe_cl C_law_take hr (by rfl) (pa_cons (pv 0) (pa_cons pe_int pa_nil))))
    (pss_cons (ps_set (i := 3) sc_law_bad_move.nd rfl (Or.inl rfl) (pe_callB len1 (by rfl) T.no_len (by decide +kernel) (pa_cons (pv 1) pa_nil)))
    (pss_cons (ps_set (i := 4) sc_law_bad_move.nd rfl (Or.inl rfl) (pe_callTy lst1 (by rfl) T.no_list (by decide +kernel) (pa_cons (pv 1) pa_nil)))
    (pss_cons (ps_if (pt_cmpR op_eq (pv 2) pe_int (nomark _)) (pss_one (ps_ret (pv 4))) pss_nil)
    (pss_cons (ps_if (pt_cmpR op_eq (pv 2) pe_int (nomark _)) (pss_one (ps_ret (pe_callTy tup1 (by rfl) T.no_tuple (by decide +kernel) (pa_cons (pe_op op_cat (pv 4) (pe_lst (pa_cons (pv 3) pa_nil))) pa_nil)))) pss_nil)
    (pss_cons (ps_if (pt_cmpR op_eq (pv 2) pe_int (nomark _)) (pss_one (ps_ret (pe_cl C_law_leaf hr (by rfl) (pa_cons (pv 0) pa_nil)))) pss_nil)
    (pss_cons (ps_if (pt_cmpR op_eq (pv 3) pe_int (nomark _)) (pss_one (ps_ret (pe_tup (pa_cons (pe_cl C_law_leaf hr (by rfl) (pa_cons (pv 0) pa_nil)) pa_nil)))) pss_nil)
    (pss_cons (ps_set (i := 5) sc_law_bad_move.nd rfl (Or.inl rfl) (pe_cl C_law_place hr (by rfl) (pa_cons (pv 0) (pa_cons (pv 3) pa_nil))))
    (pss_cons (ps_if (pt_cmpR op_eq (pv 2) pe_int (nomark _)) (pss_one (ps_expr (pe_bm PySem.F.plainAttrs_list PySem.F.slot_list_pop PySem.F.type_list_pop mt_popAt (pv 4) (pa_cons (pv 5) pa_nil)))) (pss_one (ps_if (pt_cmpR op_eq (pv 2) pe_int (nomark _)) (pss_one (ps_asg (pv 3) (pg_sub (pv 4) (pv 5) set_list))) (pss_one (ps_if (pt_cmpR op_eq (pv 2) pe_int (nomark _)) (pss_one (ps_asg (pe_op op_add (pe_ix ix1 (pv 4) (pe_op op_modN (pe_callTy int1 (by rfl) T.no_int (by decide +kernel) (pa_cons (pe_op op_add (pv 5) pe_int) pa_nil)) (pv 3)) (fun _ _ => rfl)) (pe_callTy int1 (by rfl) T.no_int (by decide +kernel) (pa_cons (pe_cmpR op_eq (pv 3) pe_int (nomark _)) pa_nil))) (pg_sub (pv 4) (pv 5) set_list))) (pss_one (ps_if (pt_cmpR op_eq (pv 2) pe_int (nomark _)) (pss_one (ps_asg (pe_op op_sub (pe_ix ix1 (pv 4) (pv 5) (fun _ _ => rfl)) (pv 3)) (pg_sub (pv 4) (pv 5) set_list))) (pss_one (ps_if (PW.pt (pw_and (pt_cmpR op_eq (pv 2) pe_int (nomark _)) (pw_and1 (pt_cmpR op_gt (pv 3) pe_int (nomark _))))) (pss_one (ps_asg pe_bl (pg_sub (pv 4) (pe_bm PySem.F.plainAttrs_list PySem.F.slot_list_index PySem.F.type_list_index mt_index (pv 4) (pa_cons pe_int pa_nil)) set_list))) (pss_one (ps_asg pe_bl (pg_sub (pv 4) (pe_bm PySem.F.plainAttrs_list PySem.F.slot_list_index PySem.F.type_list_index mt_index (pv 4) (pa_cons pe_int pa_nil)) set_list))))))))))))
    (pss_one (ps_ret (pe_callTy tup1 (by rfl) T.no_tuple (by decide +kernel) (pa_cons (pv 4) pa_nil))))))))))))), ?_⟩
  walk_at "sq"
  refine ⟨s, l, _, rfl, by decide, st, fun pk H1 g1 r0 r1 r2 => ?_⟩
  have := r1 (by decide)
  have hm1 := g1.k hms hm
  have qm1 := sq_t hm1
  walk_at "sq"
  walk_at "sq"
  refine fun im H2 n2 => ?_
  have g2 := g1.new n2
  have him := g1.fr n2.fr
  have e2 := n2.at_
  have q2 := sq_l e2
  -- the end: tuple(image)
  have fin : ∀ (H3 : Hp) (xs : List V), Ge s l H H3 → H3 im = some (.lst xs) → xs.length ≤ 41 → (∀ x ∈ xs, Db E H3 1 x) → Nw H3 (.tup xs) fun q H' => Q (.ref q) H' := by
    intro H3 xs g3 e3 hl hx q H4 n4
    refine k _ _ (g3.new n4) ?_
    have := Db.seq (E := E) (H := H4) (b := 1) (xs := xs) (p := q) (fun x hm => (hx x hm).same n4.same) ((lv.ge g3).out n4.fr) (.inl n4.at_)
    exact this.le (by omega)
  have dints : ∀ (H3 : Hp) (ms : List Int), ∀ x ∈ ms.map V.int, Db E H3 1 x := fun H3 ms x hx => by
    obtain ⟨i, _, rfl⟩ := List.mem_map.mp hx
    exact .int i (by decide)
  have hlm : (ns.map V.int).length ≤ 41 := by rw [List.length_map]; omega
  walk_at "sq"
  split
  · refine k _ _ g2 ?_
    have := Db.seq (E := E) (H := H2) (b := 1) (xs := ns.map V.int) (p := im) (dints H2 ns) ((lv.ge g1).out n2.fr) (.inr e2)
    exact this.le (by omega)
  walk_at "sq"
  split
  · refine ⟨szl (by decide), fun p3 H3 n3 => ?_⟩
    have e3 := n3.k e2
    have f3 := n3.at_
    walk_at "wq"
    refine ⟨szl (by omega), fun p4 H4 n4 => ?_⟩
    have f4 := n4.at_
    walk_at "wq"
    refine fun q H5 n5 => k _ _ (((g2.new n3).new n4).new n5) ?_
    have := Db.seq (E := E) (H := H5) (b := 1) (xs := ns.map V.int ++ [V.int (ns.length : Int)]) (p := q) (all_app (dints H5 ns) (.int _ (by decide))) ((lv.ge ((g2.new n3).new n4)).out n5.fr) (.inl n5.at_)
    exact this.le (by rw [List.length_append, List.length_singleton]; omega)
  walk_at "sq"
  split
  · exact ⟨s, l, rfl, g2.st, fun v d c H' g h1 h2 _ => k _ _ (g2.trans g) (h1.db (by omega))⟩
  walk_at "sq"
  split
  · refine ⟨s, l, rfl, g2.st, fun v d c H3 g h1 h2 _ => ?_⟩
    walk_at "wq"
    refine ⟨szl (by decide), fun q H4 n4 => k _ _ ((g2.trans g).new n4) ?_⟩
    exact ((h1.db h2).tup1 ((lv.ge (g2.trans g)).out n4.fr) n4.at_).le (by omega)
  rename_i hz
  have hz0 : 0 < ns.length := by
    rcases Nat.eq_zero_or_pos ns.length with z | z
    · exact absurd (by rw [z]; rfl) hz
    · exact z
  walk_at "sq"
  refine ⟨s, l, _, rfl, g2.st, by omega, by omega, fun at_ H3 g3 a0 a1 => ?_⟩
  have g3' := g2.trans g3
  have e3 := g3.at st him e2
  have q3 := sq_l e3
  refine seq_join (fun σ H' => ∃ xs, σ = [some (.ref s), some (.ref m), some (.int pk), some (.int ns.length), some (.ref im), some (.int at_)] ∧ Ge s l H H' ∧ H' im = some (.lst xs) ∧ xs.length ≤ 41 ∧ ∀ x ∈ xs, Db E H' 1 x) (fun N hN => ?_) ?_
  · have ne : N [some (.ref s), some (.ref m), some (.int pk), some (.int ns.length), some (.ref im), some (.int at_)] H3 → True := fun _ => trivial
    have setv : ∀ (j : Nat) (v : V) (H4 : Hp), Db E H4 1 v → Put H3 im (.lst ((ns.map V.int).set j v)) H4 → N [some (.ref s), some (.ref m), some (.int pk), some (.int ns.length), some (.ref im), some (.int at_)] H4 := by
      intro j v H4 hv n4
      refine hN _ _ ⟨_, rfl, g3'.put st him n4, n4.at_, by rw [List.length_set]; exact hlm, fun x hx => ?_⟩
      rcases List.mem_or_eq_of_mem_set hx with h | h
      · exact dints H4 ns x h
      · rw [h]; exact hv
    have hix : ixN (ns.map V.int).length at_ = some at_.toNat := ixN_of a0 (by rw [List.length_map]; exact a1)
    have hat : atI (ns.map V.int) at_ = some (.int (ns[at_.toNat]'(by omega))) := atI_of a0 (by simp [show at_.toNat < ns.length by omega])
    walk_at "wn"
    split
    · refine ⟨tyl e3, _, e3, by omega, by omega, _, seqIndex_of a0 (by rw [List.length_map]; exact a1), .int (ns[at_.toNat]'(by omega)), by simp [show at_.toNat < ns.length by omega], fun H4 n4 => ?_⟩
      refine hN _ _ ⟨_, rfl, g3'.put st him n4, n4.at_, by rw [List.length_eraseIdx]; split <;> omega, fun x hx => dints H4 ns x (List.mem_of_mem_eraseIdx hx)⟩
    split
    · refine ⟨_, e3, _, hix, fun H4 n4 => setv _ _ H4 (.int _ (by decide)) n4⟩
    split
    · refine ⟨by omega, ?_⟩
      have hb := fm_bound (x := at_ + 1) (m := (ns.length : Int)) (by omega)
      refine ⟨_, q3, .int (ns[((at_ + 1).fmod ns.length).toNat]'(by omega)), atI_of hb.1 (by simp [show ((at_ + 1).fmod ns.length).toNat < ns.length by omega]), ?_⟩
      walk_at "wn"
      refine ⟨_, e3, _, hix, fun H4 n4 => setv _ _ H4 (.int _ (by decide)) n4⟩
    split
    · refine ⟨_, q3, _, hat, ?_⟩
      walk_at "wn"
      refine ⟨_, e3, _, hix, fun H4 n4 => setv _ _ H4 (.int _ (by decide)) n4⟩
    have m0 : (0 : Int) ∈ ns := hp.mem_iff.mpr (mem_rng.mpr (by omega))
    have last : ∃ xs, True := ⟨1, trivial⟩
    split
    · split
      · have m1 : (1 : Int) ∈ ns := hp.mem_iff.mpr (mem_rng.mpr (by omega))
        refine ⟨tyl e3, idx_ints e3 m1 fun j hj _ => ?_⟩
        walk_at "wn"
        refine ⟨_, e3, _, ixN_of (by omega) (by rw [List.length_map]; omega), fun H4 n4 => setv _ _ H4 (.bl _ (by decide)) n4⟩
      · refine ⟨tyl e3, idx_ints e3 m0 fun j hj _ => ?_⟩
        walk_at "wn"
        refine ⟨_, e3, _, ixN_of (by omega) (by rw [List.length_map]; omega), fun H4 n4 => setv _ _ H4 (.bl _ (by decide)) n4⟩
    · refine ⟨tyl e3, idx_ints e3 m0 fun j hj _ => ?_⟩
      walk_at "wn"
      refine ⟨_, e3, _, ixN_of (by omega) (by rw [List.length_map]; omega), fun H4 n4 => setv _ _ H4 (.bl _ (by decide)) n4⟩
  · rintro _ H4 ⟨xs, rfl, g4, e4, hl, hx⟩
    walk_at "wq"
    exact fin H4 xs g4 e4 hl hx
end

/-! ## T8 -/

/-- a list of data of at most so much weight -/
def Dl (E : List Addr) (H : Hp) (b : Nat) (xs : List V) : Prop := ∃ ds n, DwAll E H xs ds n ∧ n ≤ b
section
variable {s l p : Addr} {E E' : List Addr} {H H1 : Hp} {o : HO} {b b' c : Nat} {xs ys : List V} {v : V}
theorem DwAll.sublist : ∀ {xs ys : List V} {ds : List PyData} {n : Nat}, ys.Sublist xs → DwAll E H xs ds n → Dl E H n ys
  | _, _, _, _, .slnil, h => by cases h; exact ⟨[], 0, .nil, by omega⟩
  | _, _, _, _, .cons x s, h => by
    cases h with
    | cons a r =>
      obtain ⟨ds, m, h1, h2⟩ := DwAll.sublist s r
      exact ⟨ds, m, h1, by omega⟩
  | _, _, _, _, .cons₂ x s, h => by
    cases h with
    | cons a r =>
      obtain ⟨ds, m, h1, h2⟩ := DwAll.sublist s r
      exact ⟨_, _, .cons a h1, by omega⟩
theorem Dl.sl (h : Dl E H b xs) (s : ys.Sublist xs) : Dl E H b ys := by
  obtain ⟨ds, n, h1, h2⟩ := h
  obtain ⟨es, m, h3, h4⟩ := h1.sublist s
  exact ⟨es, m, h3, by omega⟩
theorem Dl.le (h : Dl E H b xs) (hb : b ≤ b') : Dl E H b' xs := by
  obtain ⟨ds, n, h1, h2⟩ := h
  exact ⟨ds, n, h1, by omega⟩
theorem Dl.app (h : Dl E H b xs) (h' : Dl E H c ys) : Dl E H (b + c) (xs ++ ys) := by
  obtain ⟨ds, n, h1, h2⟩ := h
  obtain ⟨es, m, h3, h4⟩ := h'
  exact ⟨_, _, h1.app h3, by omega⟩
theorem Dl.one (h : Db E H b v) : Dl E H b [v] := by
  obtain ⟨d, n, h1, h2⟩ := h
  exact ⟨_, _, .one h1, by omega⟩
theorem Dl.nil : Dl E H b [] := ⟨[], 0, .nil, by omega⟩
theorem Dl.len (h : Dl E H b xs) : xs.length ≤ b := by
  obtain ⟨d, n, h1, h2⟩ := h
  exact Nat.le_trans h1.len.2 h2
theorem Dl.rev (h : Dl E H b xs) : Dl E H b xs.reverse := by
  obtain ⟨ds, n, h1, h2⟩ := h
  suffices ∀ {xs : List V} {ds : List PyData} {n : Nat}, DwAll E H xs ds n → Dl E H n xs.reverse from (this h1).le h2
  intro xs ds n h
  clear h1 h2
  induction xs generalizing ds n with
  | nil => exact .nil
  | cons x r ih =>
    cases h with
    | @cons _ _ d _ a b w q =>
      rw [List.reverse_cons]
      have := (ih q).app (Dl.one ⟨d, a, w, Nat.le_refl _⟩)
      exact this.le (by omega)
theorem Dl.ge (h : Dl E H b xs) (g : Ge s l H H1) (hs : s ∈ E) : Dl E H1 b xs := by
  obtain ⟨ds, n, h1, h2⟩ := h
  exact ⟨ds, n, h1.ge g hs, h2⟩
theorem Dl.same (h : Dl E H b xs) (g : Same H H1) : Dl E H1 b xs := by
  obtain ⟨ds, n, h1, h2⟩ := h
  exact ⟨ds, n, h1.same g, h2⟩
theorem Dl.put (h : Dl E H b xs) (g : Put H p o H1) (hp : p ∈ E) : Dl E H1 b xs := by
  obtain ⟨ds, n, h1, h2⟩ := h
  exact ⟨ds, n, h1.put g hp, h2⟩
theorem Dl.fresh (h : Dl E H b xs) (hp : H p = none) : Dl (p :: E) H b xs := by
  obtain ⟨ds, n, h1, h2⟩ := h
  exact ⟨ds, n, h1.fresh hp, h2⟩
theorem Dl.sub (h : Dl E H b xs) (k : ∀ a, a ∈ E' → a ∈ E) : Dl E' H b xs := by
  obtain ⟨ds, n, h1, h2⟩ := h
  exact ⟨ds, n, h1.sub k, h2⟩
theorem Db.fresh (h : Db E H b v) (hp : H p = none) : Db (p :: E) H b v := by
  obtain ⟨ds, n, h1, h2⟩ := h
  exact ⟨ds, n, h1.fresh hp, h2⟩
theorem Dl.db (h : Dl E H b xs) (hp : p ∉ E) (hq : H p = some (.tup xs) ∨ H p = some (.lst xs)) : Db E H (b + 1) (.ref p) := by
  obtain ⟨ds, n, h1, h2⟩ := h
  rcases hq with q | q
  · exact ⟨_, _, .tup hp q h1, by omega⟩
  · exact ⟨_, _, .lst hp q h1, by omega⟩
theorem Dl.mem (h : Dl E H b xs) (hv : v ∈ xs) : Db E H b v := by
  obtain ⟨ds, n, h1, h2⟩ := h
  obtain ⟨e, m, _, h3, h4⟩ := h1.mem hv
  exact ⟨e, m, h3, by omega⟩
theorem Dl.set (h : Dl E H b xs) (hv : Db E H c v) (i : Nat) : Dl E H (b + c) (xs.set i v) := by
  by_cases hi : i < xs.length
  · rw [List.set_eq_take_append_cons_drop, if_pos hi]
    obtain ⟨ds, n, h1, h2⟩ := h
    have e : xs = xs.take i ++ xs.drop i := (List.take_append_drop i xs).symm
    suffices ∀ {as bs : List V} {ds : List PyData} {n : Nat}, DwAll E H (as ++ bs) ds n → ∃ a b, Dl E H a as ∧ Dl E H b bs ∧ a + b ≤ n by
      rw [e] at h1
      obtain ⟨a, b', q1, q2, q3⟩ := this h1
      have z : (xs.drop (i + 1)).Sublist (xs.drop i) := by rw [← List.drop_drop]; exact List.drop_sublist _ _
      have := q1.app ((Dl.one hv).app (q2.sl z))
      exact this.le (by omega)
    intro as bs ds n h
    clear h1 h2 e
    induction as generalizing ds n with
    | nil => exact ⟨0, n, .nil, ⟨ds, n, h, Nat.le_refl _⟩, by omega⟩
    | cons x r ih =>
      cases h with
      | @cons _ _ d _ a b w q =>
        obtain ⟨a', b', q1, q2, q3⟩ := ih q
        exact ⟨a + a', b', (Dl.one ⟨d, a, w, Nat.le_refl _⟩).app q1, q2, by omega⟩
  · rw [List.set_eq_of_length_le (by omega)]
    exact h.le (by omega)
theorem cutV_sub (xs : List V) (lo hi : Option Int) : (cutV xs lo hi).Sublist xs := (List.take_sublist _ _).trans (List.drop_sublist _ _)
/-- what data is -/
theorem Db.cases (h : Db E H b v) : (∃ d n, Lf v d n ∧ n ≤ b) ∨ ∃ a xs, v = .ref a ∧ a ∉ E ∧ (H a = some (.tup xs) ∨ H a = some (.lst xs)) ∧ Dl E H (b - 1) xs ∧ 1 ≤ b := by
  obtain ⟨d, n, h, hn⟩ := h
  cases h with
  | lf l => exact .inl ⟨d, n, l, hn⟩
  | lst ne e a => exact .inr ⟨_, _, rfl, ne, .inr e, ⟨_, _, a, by omega⟩, by omega⟩
  | tup ne e a => exact .inr ⟨_, _, rfl, ne, .inl e, ⟨_, _, a, by omega⟩, by omega⟩
end
section
variable {P : Program} {w : World} {K : PySem.W.Frag} {mg : Str → Option Value} {base : Heap}
/-! bent_text -/
def sp_bent_text : Sp := fun vs H Q _ => ∃ (s l : Addr) (t : Str), vs = [.ref s, .str t] ∧ Sto s l H ∧ t.length ≤ 1000000 ∧ ∀ z H', Ge s l H H' → z.length ≤ 4 * t.length + 2 → (Vis t → Vis z) → Q (.str z) H'
theorem one_vis {c : Nat} {z : Str} (h : c ∈ z.cps.toList) (v : Vis z) : Vis ⟨#[c]⟩ := fun x hx => by
  have : x = c := by simpa using hx
  rw [this]; exact v c h
theorem picked_vis : ((PySem.Str.ofString "() 0123456789-+,\nae" : Str).cps.toList.all fun c => decide (c = 10 ∨ (32 ≤ c ∧ c < 127))) = true ∧ 0 < (PySem.Str.ofString "() 0123456789-+,\nae" : Str).length ∧ (PySem.Str.ofString "() 0123456789-+,\nae" : Str).length ≤ 1000 := by decide +kernel
/-! bent_leaf -/
def sp_bent_leaf : Sp := fun vs H Q _ => ∃ (s l : Addr) (E : List Addr) (v : V) (d : PyData) (n : Nat), vs = [.ref s, v] ∧ Sto s l H ∧ Lv E H ∧ s ∈ E ∧ Lf v d n ∧ n ≤ 1000000 ∧ ∀ u H', Ge s l H H' → Db E H' (4 * n + 40) u → Q u H'
end

/-! ## T9 -/

theorem seq_ty {s l a : Addr} {H : Hp} {xs : List V} (hs : a ≠ s) (h : H a = some (.tup xs) ∨ H a = some (.lst xs)) : ∃ t r, kitB t "tuple" = some r ∧ kitB t "list" = some (!r) ∧ ∀ H', Ge s l H H' → tyN H' (.ref a) = some t := by
  rcases h with h | h
  · exact ⟨"tuple", true, by decide +kernel, by decide +kernel, fun H' g => ty_t (g.k hs h)⟩
  · exact ⟨"list", false, by decide +kernel, by decide +kernel, fun H' g => ty_l (g.k hs h)⟩
theorem sq_of {a : Addr} {H : Hp} {xs : List V} (h : H a = some (.tup xs) ∨ H a = some (.lst xs)) : sq H a = some xs := by
  rcases h with h | h
  · exact sq_t h
  · exact sq_l h
theorem or_ge {s l a : Addr} {H H' : Hp} {xs : List V} (hs : a ≠ s) (g : Ge s l H H') (h : H a = some (.tup xs) ∨ H a = some (.lst xs)) : H' a = some (.tup xs) ∨ H' a = some (.lst xs) := by
  rcases h with h | h
  · exact .inl (g.k hs h)
  · exact .inr (g.k hs h)
section
variable {P : Program} {w : World} {K : PySem.W.Frag} {mg : Str → Option Value} {base : Heap}
/-! bent_part -/
def sp_bent_part : Sp := fun vs H Q _ => ∃ (s l a : Addr) (E : List Addr) (xs : List V) (n : Nat), vs = [.ref s, .ref a] ∧ Sto s l H ∧ Lv E H ∧ s ∈ E ∧ a ∉ E ∧ (H a = some (.tup xs) ∨ H a = some (.lst xs)) ∧ Dl E H n xs ∧ n ≤ 1000000 ∧ ∀ u H', Ge s l H H' → Db E H' (4 * n + 8) u → Q u H'
/-! bent -/
/-- the way down: at each step a seq and a place in it -/
def PathOk (E : List Addr) (H : Hp) (n : Nat) (x : V) : Prop := ∃ t h xs, ∃ i : Nat, x = .ref t ∧ H t = some (.tup [.ref h, .int i]) ∧ h ∉ E ∧ (H h = some (.tup xs) ∨ H h = some (.lst xs)) ∧ Dl E H n xs ∧ i < xs.length
theorem PathOk.keep {E : List Addr} {H H' : Hp} {n : Nat} {x : V} (p : PathOk E H n x) (k : ∀ a xs, H a = some (.tup xs) → H' a = some (.tup xs)) (k2 : ∀ a o, a ∉ E → H a = some o → H' a = some o) : PathOk E H' n x := by
  obtain ⟨t, h, xs, i, rfl, e, hE, q, d, hi⟩ := p
  obtain ⟨ds, m, h1, h2⟩ := d
  refine ⟨t, h, xs, i, rfl, k _ _ e, hE, ?_, ⟨ds, m, h1.kp k2, h2⟩, hi⟩
  rcases q with q | q
  · exact .inl (k2 _ _ hE q)
  · exact .inr (k2 _ _ hE q)
theorem PathOk.ge {E : List Addr} {H H' : Hp} {n : Nat} {x : V} {s l : Addr} (p : PathOk E H n x) (st : Sto s l H) (g : Ge s l H H') (hs : s ∈ E) : PathOk E H' n x := by
  obtain ⟨ns, i1, i2, i3, i4, i5, i6, h1, _⟩ := st
  exact p.keep (fun a xs e => g.k (ne_of e h1 (by intro z; cases z)) e) fun a o ha e => g.k (fun z => ha (z ▸ hs)) e
theorem PathOk.same {E : List Addr} {H H' : Hp} {n : Nat} {x : V} (p : PathOk E H n x) (g : Same H H') : PathOk E H' n x := p.keep (fun a xs e => g _ _ e) fun a o _ e => g _ _ e
theorem PathOk.put {E : List Addr} {H H' : Hp} {n : Nat} {x : V} {q : Addr} {ys : List V} {o : HO} (p : PathOk E H n x) (hq : H q = some (.lst ys)) (g : Put H q o H') (hs : q ∈ E) : PathOk E H' n x :=
  p.keep (fun a xs e => g.k (ne_of e hq (by intro z; cases z)) e) fun a o ha e => g.k (fun z => ha (z ▸ hs)) e
def sp_bent : Sp := fun vs H Q _ => ∃ (s l : Addr) (E : List Addr) (v : V) (n : Nat), vs = [.ref s, v] ∧ Sto s l H ∧ Lv E H ∧ s ∈ E ∧ Db E H n v ∧ n ≤ 100000 ∧ ∀ u H', Ge s l H H' → Db E H' (9 * n + 50) u → Q u H'
/-! judged -/
def sp_judged : Sp := fun vs H Q _ => ∃ (s l : Addr) (E : List Addr) (v : V) (n : Nat), vs = [.ref s, v] ∧ Sto s l H ∧ Lv E H ∧ s ∈ E ∧ Db E H n v ∧ n ≤ 1000 ∧ ∀ u H', Ge s l H H' → Db E H' (81 * n + 500) u → Q u H'
end

/-! ## T10 -/

section
variable {P : Program} {w : World} {K : PySem.W.Frag} {mg : Str → Option Value} {base : Heap}
/-! the program's is_whole -/
abbrev stis_whole : Stmt := topS 37
theorem scis_whole : FnScope ["value"] ["value"] (defScope stis_whole) := ⟨rfl, rfl, rfl, by decide +kernel, rfl, by decide +kernel, by decide +kernel⟩
theorem okis_whole (D : Df K mg "is_whole" stis_whole) (T : NoB mg)  : Cl P w K mg base 1 "is_whole" ["value"] sp_isw := by
  refine cl_of D scis_whole (fun _ _ _ _ _ _ us hl => match us, hl with | [_], _ => rfl) (fun vs H Q E h => ?_) (fun f cdv A outer sh H vs Q E hr h => ?_)
  · obtain ⟨_, _, _, _, rfl, _⟩ := h; rfl
  obtain ⟨v, d, n, E, rfl, hv, k⟩ := h
  refine ⟨_, (pss_one (ps_ret (pe_and (pe_callB isi1 (by rfl) T.no_isinstance (by decide +kernel) (pa_cons (pv 0) (pa_cons (pe_bltn (by rfl) T.no_int (by decide +kernel) (show RelV (.ty "int") _ from rfl)) pa_nil))) (pe_one (pe_not (pe_callB isi1 (by rfl) T.no_isinstance (by decide +kernel) (pa_cons (pv 0) (pa_cons (pe_bltn (by rfl) T.no_bool (by decide +kernel) (show RelV (.ty "bool") _ from rfl)) pa_nil)))))))), ?_⟩
  cases hv with
  | lf l => cases l <;> (walk_at "wps"; exact k)
  | lst ne h a =>
    have ht := ty_l h
    walk_at "wps"
    exact k
  | tup ne h a =>
    have ht := ty_t h
    walk_at "wps"
    exact k
/-! is_move -/
def sp_is_move : Sp := fun vs H Q _ => ∃ (v : V) (E : List Addr) (d : PyData) (n : Nat), vs = [v] ∧ Dw E H v d n ∧ ∀ H', Same H H' → Q (.bl (isMoveD d)) H'
theorem isWh_int {v : V} (h : isWh v = true) : ∃ i, v = .int i := by
  cases v <;> first | exact ⟨_, rfl⟩ | cases h
theorem ints_of : ∀ {xs : List V}, (∀ x ∈ xs, isWh x = true) → ∃ ns : List Int, xs = ns.map V.int
  | [], _ => ⟨[], rfl⟩
  | x :: r, h => by
    obtain ⟨i, rfl⟩ := isWh_int (h x List.mem_cons_self)
    obtain ⟨ns, rfl⟩ := ints_of fun y hy => h y (List.mem_cons_of_mem _ hy)
    exact ⟨i :: ns, rfl⟩
theorem not_move_leaf {v : V} {d : PyData} {n : Nat} (l : Lf v d n) : isMoveD d = false := isMove_f fun ⟨ns, e, _⟩ => by cases l <;> cases e
theorem not_move_list {ds : List PyData} : isMoveD (.list ds) = false := isMove_f fun ⟨ns, e, _⟩ => by cases e
abbrev stis_move : Stmt := topS 38
theorem scis_move : FnScope ["value", "entry"] ["value"] (defScope stis_move) := ⟨rfl, rfl, rfl, by decide +kernel, rfl, by decide +kernel, by decide +kernel⟩
theorem okis_move (D : Df K mg "is_move" stis_move) (T : NoB mg) (Cis_whole : Cl P w K mg base 1 "is_whole" ["value"] sp_isw) {tk : Tok} (G_MOST_POINTS : mg "MOST_POINTS" = some (.int 12 tk)): Cl P w K mg base 2 "is_move" ["value"] sp_is_move := by
  refine cl_of D scis_move (fun _ _ _ _ _ _ us hl => match us, hl with | [_], _ => rfl) (fun vs H Q E h => ?_) (fun f cdv A outer sh H vs Q E hr h => ?_)
  · obtain ⟨_, _, _, _, rfl, _⟩ := h; rfl
  obtain ⟨v, E, d, n, rfl, hv, k⟩ := h
  refine ⟨_, (pss_cons (ps_if (PW.pt (pw_or (pt_not (pt_val (pe_callB isi1 (by rfl) T.no_isinstance (by decide +kernel) (pa_cons (pv 0) (pa_cons (pe_bltn (by rfl) T.no_tuple (by decide +kernel) (show RelV (.ty "tuple") _ from rfl)) pa_nil))))) (pw_or1 (pt_cmpR op_gt (pe_callB len1 (by rfl) T.no_len (by decide +kernel) (pa_cons (pv 0) pa_nil)) (pe_glob (by rfl) G_MOST_POINTS (show RelV (.int 12) _ from ⟨_, rfl⟩)) (nomark _))))) (pss_one (ps_ret pe_bl)) pss_nil)
    (pss_cons (ps_for PassesOwn.never rfl (pi_sq (pv 0)) (pg_name (i := 1) scis_move.nd rfl (Or.inl rfl)) (pss_one (ps_if (pt_not (pt_val (pe_cl Cis_whole hr (by rfl) (pa_cons (pv 1) pa_nil)))) (pss_one (ps_ret pe_bl)) pss_nil)))
    (pss_one (ps_ret (pe_cmpR (op_eqD hr.units) (pe_callB sorted1 (by rfl) T.no_sorted (by decide +kernel) (pa_cons (pv 0) pa_nil)) (pe_listRg rfl (by rfl) T.no_list (prg_1 (by rfl) T.no_range (pe_callB len1 (by rfl) T.no_len (by decide +kernel) (pa_cons (pv 0) pa_nil)))) (nomark _)))))), ?_⟩
  cases hv with
  | lf l =>
    have fin : Q (.bl false) H := by have := k H (Same.refl _); rw [not_move_leaf l] at this; exact this
    cases l <;> walk_at "wps"
  | lst ne h a =>
    have ht := ty_l h
    have fin : Q (.bl false) H := by have := k H (Same.refl _); rw [not_move_list] at this; exact this
    walk_at "wps"
  | @tup a xs ds m ne h da =>
    have ht := ty_t h
    have qa := sq_t h
    have hl := da.len.1
    walk_at "sq"
    split
    · rename_i hlt
      have := k H (Same.refl _)
      rw [isMove_f fun ⟨ns, e, h1, _⟩ => by have h5 := congrArg List.length (PyData.tuple.inj e); rw [List.length_map] at h5; omega] at this
      exact this
    rename_i hlt
    have hlt : xs.length ≤ 12 := by omega
    walk_at "sq"
    refine fs_by qa (fun i σ H' => ∃ v1, σ = [some (.ref a), v1] ∧ H = H' ∧ ∀ x ∈ xs.take i, isWh x = true) ⟨none, rfl, rfl, by simp⟩ (fun i σ' H' p o ho => by obtain ⟨_, _, e, _⟩ := p; rw [← e]; exact ho) ?_ ?_
    · rintro i x _ _ N hN hi ⟨v1, rfl, rfl, hx⟩
      obtain ⟨e, c, h1, h2, h3⟩ := da.get hi
      walk_at "wn"
      refine ⟨x, e, c, E, rfl, h2, ?_⟩
      walk_at "wn"
      split
      · rename_i hw
        have := k H (Same.refl _)
        rw [isMove_f fun ⟨ns, ed, _⟩ => by
          cases ed
          have := dw_ints' da
          rw [this] at hi
          have hm := List.mem_of_getElem? hi
          obtain ⟨z, _, rfl⟩ := List.mem_map.mp hm
          cases hw] at this
        exact this
      · rename_i hw
        have hw : isWh x = true := by simpa using hw
        refine hN _ _ ⟨_, rfl, rfl, fun y hy => ?_⟩
        rw [List.take_succ, hi] at hy
        rcases List.mem_append.mp hy with z | z
        · exact hx y z
        · have : y = x := by simpa using z
          rw [this]; exact hw
    · rintro _ _ ⟨v1, rfl, rfl, hx⟩
      rw [List.take_length] at hx
      obtain ⟨ns, rfl⟩ := ints_of hx
      have hds := dw_ints da
      subst hds
      rw [List.length_map] at hlt
      have hlt12 : ns.length ≤ 12 := by omega
      walk_at "wq"
      refine ⟨ns, rfl, by omega, fun ns' p H2 hp hs n2 => ?_⟩
      have q2 := same_sq n2.same qa
      have e2 := n2.at_
      walk_at "wn"
      refine ⟨_, q2, .of_le (by decide) (by rw [List.length_map]; omega) (by decide) (by omega), fun q H3 n3 => ?_⟩
      have e3 := n3.at_
      rw [rgV_rng (by omega)] at e3
      refine ⟨.list (ns'.map .int), .list ((rng ns.length).map .int), .lst (SqL.of (n3.k e2)) (dpAll_ints _), ?_, shaped_ints _, shaped_ints _, ?_⟩
      · refine .lst (SqL.of (e3.trans ?_)) (dpAll_ints _)
        rw [List.length_map] <;> rfl
      · have kk := k H3 (n2.same.trans n3.same)
        rw [eqv_ints]
        by_cases hm : ns.Perm (rng ns.length)
        · rw [isMove_t ⟨ns, rfl, hlt12, hm⟩] at kk
          have : ns' = rng ns.length := perm_sorted_eq (hp.trans hm) hs (rng_sorted _)
          rw [decide_eq_true this]; exact kk
        · rw [isMove_f fun ⟨ms, e, _, h2⟩ => by
            have : ms = ns := by
              have e' := (PyData.tuple.inj e)
              exact ((List.map_inj_right fun _ _ h => PyData.int.inj h).mp e').symm
            rw [this] at h2; exact hm h2] at kk
          have : ¬ ns' = rng ns.length := fun e => hm (hp.symm.trans (by rw [e]))
          rw [decide_eq_false this]; exact kk
/-! counted -/
theorem move_counts {E : List Addr} {H : Hp} {xs : List V} {ds : List PyData} {n : Nat} (da : DwAll E H xs ds n) (hl : xs.length ≤ 12) : IsMoveP (.tuple ds) ↔ ∀ k, k < xs.length → xs.count (V.int (k : Int)) = 1 := by
  constructor
  · rintro ⟨ns, e, h1, h2⟩ k hk
    have e' := PyData.tuple.inj e
    subst e'
    have := dw_ints' da
    subst this
    rw [List.length_map] at hk
    have hp : (ns.map V.int).Perm ((rng ns.length).map V.int) := h2.map _
    rw [hp.count_eq]
    have nd : ((rng ns.length).map V.int).Nodup := List.Pairwise.map _ (fun a b (h : a ≠ b) z => h (V.int.inj z)) (rng_nodup _)
    rw [List.Nodup.count nd, if_pos (List.mem_map.mpr ⟨_, mem_rng.mpr ⟨by omega, by omega⟩, rfl⟩)]
  · intro h
    have hp : xs.Perm ((rng xs.length).map V.int) := by
      refine sub_perm (List.Pairwise.map _ (fun a b (h : a ≠ b) z => h (V.int.inj z)) (rng_nodup _)) (fun a ha => ?_) (by rw [List.length_map, rng_len]; exact Nat.le_refl _)
      obtain ⟨i, hi, rfl⟩ := List.mem_map.mp ha
      have := mem_rng.mp hi
      have c := h i.toNat (by omega)
      rw [show ((i.toNat : Nat) : Int) = i by omega] at c
      exact List.count_pos_iff.mp (by omega)
    obtain ⟨ns, rfl, hp2⟩ := perm_ints hp
    refine ⟨ns, by rw [dw_ints da], by rw [List.length_map] at hl; exact hl, ?_⟩
    rw [List.length_map] at hp2
    exact hp2
end

/-! ## T11 -/

def AllI (xs : List V) : Prop := ∀ x ∈ xs, ∃ i, x = V.int i
theorem AllI.dl {E : List Addr} {H : Hp} : ∀ {xs : List V}, AllI xs → Dl E H xs.length xs
  | [], _ => .nil
  | x :: r, h => by
    obtain ⟨i, rfl⟩ := h x List.mem_cons_self
    have := (Dl.one (Db.int (E := E) (H := H) i (Nat.le_refl 1))).app (AllI.dl (xs := r) fun y hy => h y (List.mem_cons_of_mem _ hy))
    exact this.le (by simp only [List.length_cons]; omega)
theorem AllI.map (ns : List Int) : AllI (ns.map V.int) := fun x hx => by
  obtain ⟨i, _, rfl⟩ := List.mem_map.mp hx
  exact ⟨i, rfl⟩
theorem AllI.db {E : List Addr} {H : Hp} {xs : List V} {p : Addr} {b : Nat} (h : AllI xs) (hp : p ∉ E) (hq : H p = some (.tup xs) ∨ H p = some (.lst xs)) (hb : xs.length + 1 ≤ b) : Db E H b (.ref p) := (h.dl.db hp hq).le hb
theorem AllI.rep {xs : List V} {k : Nat} (h : AllI xs) : AllI (List.replicate k xs).flatten := fun x hx => by
  obtain ⟨l, hl, hx⟩ := List.mem_flatten.mp hx
  rw [(List.mem_replicate.mp hl).2] at hx
  exact h x hx
theorem rep_len (k : Nat) (xs : List V) : (List.replicate k xs).flatten.length = k * xs.length := by simp
section
variable {P : Program} {w : World} {K : PySem.W.Frag} {mg : Str → Option Value} {base : Heap}
/-! store -/
def sp_store (K : PySem.W.Frag) : Sp := fun vs H Q _ => ∃ (a : Addr) (ns : List Int), vs = [.ref a] ∧ SqL K H a (ns.map V.int) ∧ ns.length ≤ 1000 ∧ ∀ s l H', Same H H' → H s = none → Sto s l H' → Q (.ref s) H'
abbrev st_law_store : Stmt := topS 45
theorem sc_law_store : FnScope ["script", "cell"] ["script"] (defScope st_law_store) := ⟨rfl, rfl, rfl, by decide +kernel, rfl, by decide +kernel, by decide +kernel⟩
theorem ok_law_store (D : Df K mg "_law_store" st_law_store) (T : NoB mg)  : Cl P w K mg base 1 "_law_store" ["script"] (sp_store K) := by
  refine cl_of D sc_law_store (fun _ _ _ _ _ _ us hl => match us, hl with | [_], _ => rfl) (fun vs H Q E h => ?_) (fun f cdv A outer sh H vs Q E hr h => ?_)
  · obtain ⟨_, _, rfl, _⟩ := h; rfl
  obtain ⟨a, ns, rfl, hs, hn, k⟩ := h
  refine ⟨_, (pss_one (ps_ret (pe_lst (pa_cons (pe_lc (own := [("cell", 1)]) (g := gName 1) (tt := tYes) rfl sc_law_store.nd (pi_sq (pe_slice sl_list (pv 0) po_none (po_some pe_int))) (blkOk_by (own := [("cell", 1)]) (N := ["script", "cell"]) (sc := defScope st_law_store) (by decide +kernel)) (fun _ _ _ _ _ => (pg_name (i := 1) sc_law_store.nd rfl (Or.inl rfl))) (fun _ _ _ _ _ => pts_nil) (fun _ _ _ _ _ => (pe_callTy int1 (by rfl) T.no_int (by decide +kernel) (pa_cons (pv 1) pa_nil)))) (pa_cons pe_int (pa_cons pe_int (pa_cons pe_int (pa_cons pe_int (pa_cons pe_int (pa_cons pe_int pa_nil)))))))))), ?_⟩
  walk_at "wn"
  refine ⟨ns.map V.int, hs, fun p H1 n1 => ?_⟩
  have e1 := n1.at_
  have hc : ∃ ms : List Int, cutV (ns.map V.int) none (some 63) = ms.map V.int ∧ ms.length ≤ ns.length := by
    unfold cutV
    refine ⟨(ns.drop _).take _, by rw [← List.map_drop, ← List.map_take], ?_⟩
    rw [List.length_take, List.length_drop]
    omega
  obtain ⟨ms, em, hm⟩ := hc
  rw [em] at e1
  walk_at "wn"
  refine cs_by (sq_l e1) (fun C i acc H' => Same H1 H' ∧ acc = (ms.take i).map V.int) (fun C H0 n0 => ⟨n0.same, by simp⟩) (fun C i acc H' _ p o ho => p.1 _ _ ho) ?_ ?_
  · rintro C i x acc H2 N hC hi ha ⟨s2, rfl⟩ hN
    rw [List.getElem?_map] at hi
    cases e : ms[i]? with
    | none => rw [e] at hi; cases hi
    | some z =>
      rw [e] at hi
      cases hi
      walk_at "wn"
      refine cst ha (szl' (by rw [List.length_map, List.length_take]; omega)) fun H5 n5 => hN _ _ n5.at_ ⟨n5.same s2 hC, ?_⟩
      rw [List.take_succ, e]
      simp
  · rintro C acc H2 hC ha ⟨s2, rfl⟩
    rw [List.length_map, List.take_length] at ha
    walk_at "wn"
    refine ⟨szl (by decide), fun s H3 n3 => ?_⟩
    have sm := (n1.same.trans s2).trans n3.same
    exact k s C H3 sm ((n1.same.trans s2).free n3.fr) ⟨ms, 0, 0, 0, 0, 0, 0, n3.at_, n3.k ha, n3.ne ha, by decide⟩
/-! near -/
def sp_near : Sp := fun vs H Q _ => ∃ (s l : Addr) (E : List Addr), vs = [.ref s] ∧ Sto s l H ∧ Lv E H ∧ s ∈ E ∧ ∀ u H', Ge s l H H' → Db E H' 250000 u → Q u H'
end

/-! ## HoV -/
/-- an own error of the class at C, at a, its dict -/
def XoAt (a C : Addr) (d : Option Addr) (H : Hp) : Prop := H a = some (exo a C d) ∧ match d with
  | none => True
  | some dd => ∃ fs, H dd = some (exd dd fs)
theorem XoAt.same {a C : Addr} {d : Option Addr} {H H' : Hp} (h : XoAt a C d H) (s : Same H H') : XoAt a C d H' := ⟨s _ _ h.1, by
  have h2 := h.2
  cases d with
  | none => trivial
  | some dd => exact h2.imp fun fs e => s _ _ e⟩
/-- an __init__ without parameters -/
def sp_ini0 (C : Addr) : Sp := fun vs H Q _ => ∃ x : Addr, vs = [.ref x] ∧ H x = some (exo x C none) ∧ Q .non H
structure ErrC0 (P : Program) (w : World) (K : PySem.W.Frag) (mg : Str → Option Value) (base : Heap) (k : Nat) (x : Str) (C : Addr) : Prop where
  g : mg x = some (.ref C)
  T : OexC K C
  ini : ∃ (fI : Addr) (fd : FuncData) (ps : List Str), PySem.W.findIn K (.ref C) "__init__" = some (some (.ref fI)) ∧ PySem.W.typeIn K (.ref fI) = some (.type "function") ∧ Binds K fd ps [] ∧ FnOk P w K mg base CX0 k fI fd ps (sp_ini0 C)
  xf : XfC K C
  ec : ExcC K C
section
variable {X : Cx} {C : Addr} {ok : List V → Hp → Prop} {fl : List Str} {k : Nat} {x : Str}
theorem run_err {pins : List (Addr × Obj)} {σ : L2.St} {H1 : Hp} {s1 : Shared} {us : List Value} {vs : List V} {Q : VK} {sp : Sp} {j : Nat} {fI : Addr} {fd : FuncData} {ps : List Str} (T : OexC X.K C) (iC : PySem.W.findIn X.K (.ref C) "__init__" = some (some (.ref fI))) (tI : PySem.W.typeIn X.K (.ref fI) = some (.type "function"))
    (hb : Binds X.K fd ps []) (F1 : FnOk X.prog X.w X.K X.mg X.base CX0 j fI fd ps sp) (hr : Room (j + 1) X.A) (I1 : Inv X pins σ H1 s1) (r1 : Vals vs us) (hs : vs.length ≤ 1000) (h : ∀ a, H1 a = none → sp (.ref a :: vs) (upd H1 a (exo a C none)) (fun v H2 => v = .non ∧ Q (.ref a) H2) fun _ _ _ => False) :
    wpAny (model X.prog X.w) X.A (call (.ref C) us) (EP X pins σ Q) X.xe s1 := by
  obtain ⟨nm, q, N, bs, bm, sn, sub, ab, col, dd, k0, k1, k2, k3, k5, hC, hbm⟩ := T.cls
  obtain ⟨hp, g, dr, tk, os⟩ := s1
  generalize hx : hp.objs.size + 1 = a
  have hsz : hp.objs.size ≤ a := by omega
  have hn : H1 a = none := I1.hok.fresh hsz
  have kk : ∀ b o, hp.get? b = some o → ((hp.push (PySem.W.kdv_tup us)).push (PySem.HandSPX.excO C hp.objs.size)).get? b = some o := fun b o e => Heap.get?_push_of_some _ (Heap.get?_push_of_some _ e)
  have hget : ((hp.push (PySem.W.kdv_tup us)).push (PySem.HandSPX.excO C hp.objs.size)).get? a = some (PySem.HandSPX.excO C hp.objs.size) := by subst hx; heap_get
  have I2 : Inv X pins σ (upd H1 a (exo a C none)) ⟨(hp.push (PySem.W.kdv_tup us)).push (PySem.HandSPX.excO C hp.objs.size), g, dr, tk, os⟩ := I1.laid (t' := tk) kk hsz (exo_ok hget)
  have r2 : Vals (V.ref a :: vs) (Value.ref a :: us) := .cons rfl r1
  have hq := h a hn
  have hl : (Value.ref a :: us ++ []).length = ps.length := by
    have e := r2.length
    rw [F1.len _ _ _ _ hq] at e
    rw [List.append_nil]
    exact e.symm
  have hus : us.length ≤ sizeLine := by
    rw [← Paired.length r1, sizeLine_eq]
    omega
  have b2 := hb _ (Value.ref a :: us) I2.kIn hl
  rw [List.append_nil] at b2
  refine wpAny_call (PySem.HandSPX.call_own F.excBase_ValueError (fun Y => PySem.HandSPX.refsVE_contains Y bm hbm) (I1.kIn _ _ hC) (PySem.W.looks_findIn I1.kIn iC) (fun self => PySem.W.bind_fn I1.kIn self tI) hus ?_)
  rw [hx]
  refine codeAny_mono (F1.run _ X.stack _ _ ⟨Value.ref a :: us, []⟩ (Value.ref a :: us) _ _ (fun _ _ _ => False) (hr.make C us []) (I2.env0.make C us []) b2 r2 hq) fun r s' hq' => ?_
  rcases r with er | fl'
  · exact False.elim hq'
  cases fl' with
  | ret u =>
    obtain ⟨v, H', I3, rv, ev, q3⟩ := I2.after hq'
    subst ev
    exact ⟨rv, ⟨V.ref a, H', I3, rfl, q3⟩⟩
  | next => exact False.elim hq'
  | brk => exact False.elim hq'
  | cont => exact False.elim hq'
/-- C(e, ..) as a value -/
def tErrV (C : Addr) (ok : List V → Hp → Prop) (fl : List Str) (ta : TA) : TE := fun σ H Q => ta σ H fun vs H1 => vs.length = fl.length ∧ ok vs H1 ∧ ∀ a d Hm H2, New H1 a (exo a C (some d)) Hm → New Hm d (exd d ((fl.zip vs).reverse)) H2 → Q (.ref a) H2
theorem pe_errV {j : Nat} {e : Expr} {es : List Expr} {ta : TA} {p pos : Pos} (D : ErrC X.prog X.w X.K X.mg X.base j x C ok fl) (hr : Room k X.A) (hg : Gl X x) (ha : PA X (e :: es) ta) (hjk : j + 1 ≤ k := by decide)
    (hdb : (x == ("__debug__" : Str)) = false := by decide) (he : starEach (e :: es) X.env = (false, eval e X.env) :: starEach es X.env := by rfl) (hpl : (backTo pos (starEach es X.env)).any (·.1) = false := by rfl) :
    PE X (.Call (.Name x p) (e :: es) [] pos) (tErrV C ok fl ta) := by
  refine ⟨fun pins s σ H Q I h => ?_⟩
  obtain ⟨fI, fd, ps, iC, tI, hb, F1⟩ := D.ini
  refine wpAny_Call_Name_kw (ld_glob I hg D.g ?_ hdb)
  refine PySem.W.callWith_K (h₀ := X.base) I.ok.mod.kin D.T.kC (thn (ha.run pos pins s σ H _ I h) fun us s1 ⟨vs, H1, I1, r1, hvl, hok, q1⟩ => ⟨I1.kIn, ?_⟩) he hpl
  refine run_err D.T iC tI hb F1 (hr.mono hjk) I1 r1 (by rw [hvl]; have := D.sz; omega) fun a hn => ?_
  refine ⟨a, vs, rfl, hvl, D.okm _ _ _ (New.mk' (o := exo a C none) hn).same hok, upd_same, fun d H' i => ⟨rfl, q1 a d (upd H1 a (exo a C (some d))) H' (New.mk' hn) ⟨?_, i.ad, fun b hb => ?_⟩⟩⟩
  · rw [upd_ne i.ne]
    have := i.fr
    rwa [upd_ne i.ne] at this
  · by_cases hba : b = a
    · rw [hba, upd_same, i.ax]
    · rw [upd_ne hba, i.old b hba hb, upd_ne hba]
/-- C() as a value -/
def tErrV0 (C : Addr) : TE := fun _ H Q => ∀ a H', New H a (exo a C none) H' → Q (.ref a) H'
theorem pe_errV0 {j : Nat} {p pos : Pos} (D : ErrC0 X.prog X.w X.K X.mg X.base j x C) (hr : Room k X.A) (hg : Gl X x) (hjk : j + 1 ≤ k := by decide) (hdb : (x == ("__debug__" : Str)) = false := by decide) :
    PE X (.Call (.Name x p) [] [] pos) (tErrV0 C) := by
  refine ⟨fun pins s σ H Q I h => ?_⟩
  obtain ⟨fI, fd, ps, iC, tI, hb, F1⟩ := D.ini
  refine wpAny_Call_Name_kw (ld_glob I hg D.g ?_ hdb)
  refine PySem.W.callWith_K0 I.kIn D.T.kC ?_
  exact run_err (us := []) D.T iC tI hb F1 (hr.mono hjk) I .nil (by simp) fun a hn => ⟨a, rfl, upd_same, rfl, h a _ (New.mk' hn)⟩
/-- v.n, v an error held as a value -/
def tXo (K : PySem.W.Frag) (n : Str) (te : TE) : TE := fun σ H Q => te σ H fun x H1 => ∃ (a : Addr) (C d : Addr) (fs : List (Str × V)) (v : V), x = .ref a ∧ H1 a = some (exo a C (some d)) ∧ H1 d = some (exd d fs) ∧ fs.lookup n = some v ∧ XfC K C ∧ PySem.W.findIn K (.ref C) n = some none ∧ Q v H1
theorem xo_inst {pins : List (Addr × Obj)} {σ : L2.St} {H : Hp} {s : Shared} {a C : Addr} {d : Option Addr} (I : Inv X pins σ H s) (h : XoAt a C d H) : ∃ o od, PySem.W.InstAt s.heap a o C od := by
  obtain ⟨t1, ho⟩ := exo_at I.hok h.1
  have h2 := h.2
  cases d with
  | none => exact ⟨_, none, ho, rfl, rfl, trivial⟩
  | some dd =>
    obtain ⟨fs, e⟩ := h2
    obtain ⟨mA, hns, hr⟩ := exd_at I.hok e
    obtain ⟨oD, es, ep, hoD, _⟩ := hns
    exact ⟨_, some oD, ho, rfl, rfl, hoD⟩
theorem pe_xO {e : Expr} {te : TE} {pos : Pos} {n : Str} (he : PE X e te) (hb : attributeBase e n X.env (eval e X.env) = eval e X.env := by rfl) : PE X (.Attribute e n pos) (tXo X.K n te) := by
  refine ⟨fun pins s σ H Q I h => attr_of hb (thn (he.run pins s σ H _ I h) fun u s1 hh => ?_)⟩
  obtain ⟨x, H1, I1, rx, a, C, d, fs, v, rfl, ea, ed, l, T, hno, q⟩ := hh
  obtain rfl : u = Value.ref a := rx
  obtain ⟨t1, ho⟩ := exo_at I1.hok ea
  obtain ⟨mA, hns, hr⟩ := exd_at I1.hok ed
  obtain ⟨od, hod, hl⟩ := lookIn_ns hns
  obtain ⟨u, hu, ru⟩ := RelO.some_of (v := v) (o := mA n) (by rw [← l]; exact hr n)
  have J : PySem.W.InstAt s1.heap a _ C (some od) := ⟨ho, rfl, rfl, hod⟩
  exact HandSPX.exc_get I1.kIn J T.ga T.gg T.exC (PySem.W.findObj_own T.hdC hno rfl (by rw [hl, hu])) (handed_of ru) ⟨v, H1, I1.tok _, ru, q⟩
/-- isinstance(v, c), v an error held as a value -/
def rIsO (K : PySem.W.Frag) (a C : Addr) (d : Option Addr) : List V → Hp → VK → Prop := fun xs H Q => ∃ (c : V) (cv : Value) (b : Bool), xs = [.ref a, c] ∧ (∀ u, RelV c u → u = cv) ∧ PySem.W.kitOne K (.ref C) cv = some b ∧ XoAt a C d H ∧ Q (.bl b) H
theorem call_isO {a C : Addr} {d : Option Addr} (E : ExcC X.K C) : CallR X (.builtin "isinstance") (rIsO X.K a C d) := by
  intro pins s σ H xs us Q I r h
  obtain ⟨c, cv, b, rfl, hcv, e, hx, q⟩ := h
  obtain ⟨o, od, J⟩ := xo_inst I hx
  cases r with
  | cons rx rr =>
    cases rr with
    | cons rt rr =>
      cases rr
      cases rx
      obtain rfl := hcv _ rt
      obtain ⟨cd, hc, _⟩ := PySem.W.any_some E.hd
      exact PySem.W.kia_one (PySem.W.kitx_exc (by rw [hc]; rfl) E.hg E.hk E.hs E.ha E.hn E.ht E.hm) I.kIn J e (fun z => nomatch z) fun tk => ⟨.bl b, H, I.kept (t' := tk) fun _ _ z => z, rfl, q⟩
def tIsO (i : Nat) (a C : Addr) (d : Option Addr) (b : Bool) : TE := fun σ H Q => σ[i]? = some (some (.ref a)) ∧ XoAt a C d H ∧ Q (.bl b) H
variable {D : Str} {d : Option Addr} {a : Addr} {i : Nat} {y : Str} {py px pp pos : Pos}
theorem pe_isOV {c : V} {cv : Value} {b : Bool} (N : ErN X.K X.mg D) (hm : X.mg "isinstance" = none) (hg : Gl X "isinstance") (hy : PE X (.Name y py) (tVar i)) (hx : PE X (.Name x px) (tC c))
    (hcv : ∀ u, RelV c u → u = cv) (hk : PySem.W.kitOne X.K (.ref (He.ga X.K D)) cv = some b) : PE X (.Call (.Name "isinstance" pp) [.Name y py, .Name x px] [] pos) (tIsO i a (He.ga X.K D) d b) := by
  have P := pe_callB (x := "isinstance") (p := pp) (pos := pos) (call_isO (a := a) (d := d) N.ec) hg hm (by decide +kernel) (pa_cons hy (pa_cons hx pa_nil))
  refine ⟨fun pins s σ H Q I h => P.run pins s σ H Q I ?_⟩
  obtain ⟨h1, h2, h3⟩ := h
  exact ⟨_, h1, ⟨c, cv, b, rfl, hcv, hk, h2, h3⟩⟩
theorem pe_isOE (N : ErN X.K X.mg D) (a : Addr) (d : Option Addr) (hm : X.mg "isinstance" = none) (hg : Gl X "isinstance") (hy : PE X (.Name y py) (tVar i)) (hgx : Gl X x) (hx : x ∈ errNames := by decide) (hd : (x == ("__debug__" : Str)) = false := by decide) :
    PE X (.Call (.Name "isinstance" pp) [.Name y py, .Name x px] [] pos) (tIsO i a (He.ga X.K D) d (decide (x = D))) :=
  pe_isOV (c := .ref (He.ga X.K x)) N hm hg hy (pe_glob hgx (N.g x hx) (show RelV (.ref (He.ga X.K x)) _ from rfl) hd) (fun _ r => r) (N.k x hx)
theorem pe_isOH (N : ErN X.K X.mg D) (a : Addr) (d : Option Addr) (hm : X.mg "isinstance" = none) (hg : Gl X "isinstance") (hy : PE X (.Name y py) (tVar i)) (hgx : Gl X "HeldorderError") :
    PE X (.Call (.Name "isinstance" pp) [.Name y py, .Name "HeldorderError" px] [] pos) (tIsO i a (He.ga X.K D) d true) :=
  pe_isOV (c := .ref (He.ga X.K "HeldorderError")) N hm hg hy (pe_glob hgx N.gH (show RelV (.ref (He.ga X.K "HeldorderError")) _ from rfl)) (fun _ r => r) N.kH
theorem pe_isOVE (N : ErN X.K X.mg D) (a : Addr) (d : Option Addr) (hm : X.mg "isinstance" = none) (hg : Gl X "isinstance") (hy : PE X (.Name y py) (tVar i)) (hgx : Gl X "ValueError") :
    PE X (.Call (.Name "isinstance" pp) [.Name y py, .Name "ValueError" px] [] pos) (tIsO i a (He.ga X.K D) d true) :=
  pe_isOV (c := .ty "ValueError") N hm hg hy (pe_bltn hgx N.gV (by decide +kernel) (show RelV (.ty "ValueError") _ from rfl)) (fun _ r => r) N.kV
end
theorem a_isO {i : Nat} {a C : Addr} {d : Option Addr} {b : Bool} {σ : L2.St} {H : Hp} {Q : VK} : tIsO i a C d b σ H Q = (σ[i]? = some (some (.ref a)) ∧ XoAt a C d H ∧ Q (.bl b) H) := rfl
theorem a_errV {C : Addr} {ok : List V → Hp → Prop} {fl : List Str} {ta : TA} {σ : L2.St} {H : Hp} {Q : VK} : tErrV C ok fl ta σ H Q = ta σ H fun vs H1 => vs.length = fl.length ∧ ok vs H1 ∧ ∀ a d Hm H2, New H1 a (exo a C (some d)) Hm → New Hm d (exd d ((fl.zip vs).reverse)) H2 → Q (.ref a) H2 := rfl
theorem a_errV0 {C : Addr} {σ : L2.St} {H : Hp} {Q : VK} : tErrV0 C σ H Q = ∀ a H', New H a (exo a C none) H' → Q (.ref a) H' := rfl
theorem a_xo {K : PySem.W.Frag} {n : Str} {te : TE} {σ : L2.St} {H : Hp} {Q : VK} : tXo K n te σ H Q = te σ H fun x H1 => ∃ (a : Addr) (C d : Addr) (fs : List (Str × V)) (v : V), x = .ref a ∧ H1 a = some (exo a C (some d)) ∧ H1 d = some (exd d fs) ∧ fs.lookup n = some v ∧ XfC K C ∧ PySem.W.findIn K (.ref C) n = some none ∧ Q v H1 := rfl

/-! ## E1 -/

section
variable {P : Program} {w : World} {K : PySem.W.Frag} {mg : Str → Option Value} {base : Heap}
/-- what shown can show -/
def ShOk (v : V) (H : Hp) : Prop := (∃ i : Int, v = .int i ∧ i.natAbs.log2 < 1920) ∨ (∃ b, v = .bl b) ∨ ∃ t, tyN H v = some t ∧ kitB t "int" = some false
theorem tyN_same {H H' : Hp} {v : V} {t : String} (s : Same H H') (h : tyN H v = some t) : tyN H' v = some t := by
  cases v with
  | ref p =>
    unfold tyN at h ⊢
    simp only at h ⊢
    cases e : H p with
    | none => rw [e] at h; cases h
    | some o => rw [s _ _ e]; rw [e] at h; exact h
  | _ => exact h
theorem ShOk.same {v : V} {H H' : Hp} (s : Same H H') (h : ShOk v H) : ShOk v H' := by
  rcases h with h | h | ⟨t, h, k⟩
  · exact .inl h
  · exact .inr (.inl h)
  · exact .inr (.inr ⟨t, tyN_same s h, k⟩)
def sp_shown : Sp := fun vs H Q _ => ∃ v, vs = [v] ∧ ShOk v H ∧ ∀ y : Str, y.length ≤ 2000 → Q (.str y) H
theorem shown_len {i : Int} (h : i.natAbs.log2 < 1920) : (Str.ofString (toString i)).length ≤ 2000 := by
  have e := int_text_length_le (k := 1920) (by decide) h
  rw [PySem.ofString_length]
  omega
abbrev stshown : Stmt := topS 2
theorem scshown : FnScope ["value"] ["value"] (defScope stshown) := ⟨rfl, rfl, rfl, by decide +kernel, rfl, by decide +kernel, by decide +kernel⟩
theorem okshown (D : Df K mg "shown" stshown) (T : NoB mg)  : Cl P w K mg base 1 "shown" ["value"] sp_shown := by
  refine cl_of D scshown (fun _ _ _ _ _ _ us hl => match us, hl with | [_], _ => rfl) (fun vs H Q E h => ?_) (fun f cdv A outer sh H vs Q E hr h => ?_)
  · obtain ⟨_, rfl, _⟩ := h; rfl
  obtain ⟨v, rfl, hs, k⟩ := h
  refine ⟨_, (pss_one (ps_ret (pe_ifExp (pt_val (pe_callB isi1 (by rfl) T.no_isinstance (by decide +kernel) (pa_cons (pv 0) (pa_cons (pe_bltn (by rfl) T.no_int (by decide +kernel) (show RelV (.ty "int") _ from rfl)) pa_nil)))) (pe_callTy str2 (by rfl) T.no_str (by decide +kernel) (pa_cons (pv 0) pa_nil)) pe_str))), ?_⟩
  rcases hs with ⟨i, rfl, hi⟩ | ⟨b, rfl⟩ | ⟨t, ht, hk⟩
  · walk_at "wps"
    rw [b_stri]
    exact ⟨hi, k _ (shown_len hi)⟩
  · walk_at "wps"
    rw [b_strb]
    exact k _ (by cases b <;> decide)
  · walk_at "wn"
    refine ⟨t, ht, false, hk, ?_⟩
    rw [if_neg Bool.false_ne_true]
    exact k _ (by decide)
theorem prt_shn {i : Nat} {v : V} {σ : L2.St} {H : Hp} (h : σ[i]? = some (some v)) (o : ShOk v H) : Prt (tFmt (tCall sp_shown [] E0 (tCons (tVar i) tNil))) σ H :=
  fun Q k => ⟨v, h, v, rfl, o, fun y hy => .inl ⟨y, rfl, by rw [sizeLine_eq]; omega, k y (by omega)⟩⟩
/-- what an __init__ wants: 0: shown can show it; 1: a short text; 2: any -/
def okV : Nat → V → Hp → Prop
  | 0, v, H => ShOk v H
  | 1, v, _ => ∃ z : Str, v = .str z ∧ z.length ≤ 2000
  | _, _, _ => True
def okP : List Nat → List V → Hp → Prop
  | k :: ks, v :: vs, H => okV k v H ∧ okP ks vs H
  | _, _, _ => True
theorem okP_mono : ∀ (ks : List Nat) (us : List V) (H H' : Hp), Same H H' → okP ks us H → okP ks us H'
  | [], [], _, _, _, _ => trivial
  | [], _ :: _, _, _, _, _ => trivial
  | _ :: _, [], _, _, _, _ => trivial
  | k :: ks, v :: vs, H, H', s, h => ⟨by
      have h1 := h.1
      unfold okV at h1 ⊢
      split at h1
      · exact h1.same s
      · exact h1
      · trivial, okP_mono ks vs H H' s h.2⟩
abbrev stini_BadNumber : Stmt := clsFn (topS 4) 0
theorem scini_BadNumber : NdefX.NScope ["self", "value", "low", "high", "__class__"] ["self", "value", "low", "high"] ["__class__"] (defScope stini_BadNumber) := NdefX.nscope_by (by decide +kernel)
abbrev ErT_BadNumber (P : Program) (w : World) (K : PySem.W.Frag) (mg : Str → Option Value) (base : Heap) : Prop := ErrC P w K mg base 2 "BadNumber" (He.ga K "BadNumber") (okP [0, 0, 0]) ["value", "low", "high"]
theorem okini_BadNumber {f c cda C : Addr} {fd : FuncData} (D : SupTxt P K mg C f c cda "__init__" "BadNumber.__init__" (defArgs stini_BadNumber) (defBody stini_BadNumber) (defScope stini_BadNumber) fd) (hno1 : PySem.W.findIn K (.ref C) "value" = some none) (hno2 : PySem.W.findIn K (.ref C) "low" = some none) (hno3 : PySem.W.findIn K (.ref C) "high" = some none) (Cshown : Cl P w K mg base 1 "shown" ["value"] sp_shown) :
    FnOk P w K mg base CX0 2 f fd ["self", "value", "low", "high"] (sp_ini C (okP [0, 0, 0]) ["value", "low", "high"]) := by
  refine fn_super D scini_BadNumber (by rfl) ⟨_, rfl⟩ (by decide) rfl (by decide +kernel) (fun _ => rfl) (fun _ => rfl) (fun _ => rfl) (fun vs H Q E h => ?_) (fun A outer s H vs ws Q E hr hw h => ?_)
  · obtain ⟨x, us, rfl, hl, _⟩ := h
    simp [hl]
  obtain ⟨x, us, rfl, hl, hok, hx, k⟩ := h
  obtain ⟨v1, v2, v3, rfl⟩ : ∃ (v1 : V) (v2 : V) (v3 : V), us = [v1, v2, v3] := match us, hl with | [v1, v2, v3], _ => ⟨v1, v2, v3, rfl⟩
  obtain ⟨o1, o2, o3, _⟩ := hok
  obtain ⟨w0, rfl⟩ : ∃ w0, ws = [w0] := match ws, hw with | [a], _ => ⟨a, rfl⟩
  refine ⟨x, _, _, _, rfl, hx, pa_cons (pe_joined (.cons (pe_fmt (pe_cl Cshown hr (by rfl) (pa_cons (pv 1) pa_nil))) (.cons pe_str (.cons (pe_fmt (pe_cl Cshown hr (by rfl) (pa_cons (pv 2) pa_nil))) (.cons pe_str (.cons (pe_fmt (pe_cl Cshown hr (by rfl) (pa_cons (pv 3) pa_nil))) .nil)))))) pa_nil, (pss_cons (ps_ost (pv 0) (pv 1)) (pss_cons (ps_ost (pv 0) (pv 2)) (pss_one (ps_ost (pv 0) (pv 3))))), ?_⟩
  have hst : NdefX.startF ["self", "value", "low", "high", "__class__"] [V.ref x, v1, v2, v3] [w0] = [some (V.ref x), some v1, some v2, some v3, w0] := rfl
  rw [hst]
  refine js_parts (fun out => ?_) (js_cons (prt_shn rfl o1) (js_cons prt_lit (js_cons (prt_shn rfl o2) (js_cons prt_lit (js_cons (prt_shn rfl o3) js_nil))))) (by decide)
  refine ⟨by show 1 ≤ 1000; decide, hx, ?_⟩
  refine ⟨_, rfl, _, rfl, x, C, rfl, D.T, hno1, .inl ⟨hx, fun dx n ne => ?_⟩⟩
  have i1 := InS.first (C := C) (f := "value") (y := v1) n ne
  refine ⟨_, rfl, _, rfl, x, C, rfl, D.T, hno2, .inr ⟨dx, _, i1.ax, i1.ad, Nat.le_of_ble_eq_true rfl, ?_⟩⟩
  have i2 := i1.more (f := "low") (y := v2)
  refine ⟨_, rfl, _, rfl, x, C, rfl, D.T, hno3, .inr ⟨dx, _, i2.ax, i2.ad, Nat.le_of_ble_eq_true rfl, ?_⟩⟩
  have i3 := i2.more (f := "high") (y := v3)
  exact k dx _ i3
abbrev stini_NotAPoint : Stmt := clsFn (topS 5) 0
theorem scini_NotAPoint : NdefX.NScope ["self", "value", "__class__"] ["self", "value"] ["__class__"] (defScope stini_NotAPoint) := NdefX.nscope_by (by decide +kernel)
abbrev ErT_NotAPoint (P : Program) (w : World) (K : PySem.W.Frag) (mg : Str → Option Value) (base : Heap) : Prop := ErrC P w K mg base 2 "NotAPoint" (He.ga K "NotAPoint") (okP [0]) ["value"]
theorem okini_NotAPoint {f c cda C : Addr} {fd : FuncData} (D : SupTxt P K mg C f c cda "__init__" "NotAPoint.__init__" (defArgs stini_NotAPoint) (defBody stini_NotAPoint) (defScope stini_NotAPoint) fd) (hno1 : PySem.W.findIn K (.ref C) "value" = some none) (Cshown : Cl P w K mg base 1 "shown" ["value"] sp_shown) :
    FnOk P w K mg base CX0 2 f fd ["self", "value"] (sp_ini C (okP [0]) ["value"]) := by
  refine fn_super D scini_NotAPoint (by rfl) ⟨_, rfl⟩ (by decide) rfl (by decide +kernel) (fun _ => rfl) (fun _ => rfl) (fun _ => rfl) (fun vs H Q E h => ?_) (fun A outer s H vs ws Q E hr hw h => ?_)
  · obtain ⟨x, us, rfl, hl, _⟩ := h
    simp [hl]
  obtain ⟨x, us, rfl, hl, hok, hx, k⟩ := h
  obtain ⟨v1, rfl⟩ : ∃ (v1 : V), us = [v1] := match us, hl with | [v1], _ => ⟨v1, rfl⟩
  obtain ⟨o1, _⟩ := hok
  obtain ⟨w0, rfl⟩ : ∃ w0, ws = [w0] := match ws, hw with | [a], _ => ⟨a, rfl⟩
  refine ⟨x, _, _, _, rfl, hx, pa_cons (pe_joined (.cons (pe_fmt (pe_cl Cshown hr (by rfl) (pa_cons (pv 1) pa_nil))) (.cons pe_str .nil))) pa_nil, (pss_one (ps_ost (pv 0) (pv 1))), ?_⟩
  have hst : NdefX.startF ["self", "value", "__class__"] [V.ref x, v1] [w0] = [some (V.ref x), some v1, w0] := rfl
  rw [hst]
  refine js_parts (fun out => ?_) (js_cons (prt_shn rfl o1) (js_cons prt_lit js_nil)) (by decide)
  refine ⟨by show 1 ≤ 1000; decide, hx, ?_⟩
  refine ⟨_, rfl, _, rfl, x, C, rfl, D.T, hno1, .inl ⟨hx, fun dx n ne => ?_⟩⟩
  have i1 := InS.first (C := C) (f := "value") (y := v1) n ne
  exact k dx _ i1
abbrev stini_NotAMove : Stmt := clsFn (topS 6) 0
theorem scini_NotAMove : NdefX.NScope ["self", "index", "__class__"] ["self", "index"] ["__class__"] (defScope stini_NotAMove) := NdefX.nscope_by (by decide +kernel)
abbrev ErT_NotAMove (P : Program) (w : World) (K : PySem.W.Frag) (mg : Str → Option Value) (base : Heap) : Prop := ErrC P w K mg base 2 "NotAMove" (He.ga K "NotAMove") (okP [0]) ["index"]
theorem okini_NotAMove {f c cda C : Addr} {fd : FuncData} (D : SupTxt P K mg C f c cda "__init__" "NotAMove.__init__" (defArgs stini_NotAMove) (defBody stini_NotAMove) (defScope stini_NotAMove) fd) (hno1 : PySem.W.findIn K (.ref C) "index" = some none) (Cshown : Cl P w K mg base 1 "shown" ["value"] sp_shown) :
    FnOk P w K mg base CX0 2 f fd ["self", "index"] (sp_ini C (okP [0]) ["index"]) := by
  refine fn_super D scini_NotAMove (by rfl) ⟨_, rfl⟩ (by decide) rfl (by decide +kernel) (fun _ => rfl) (fun _ => rfl) (fun _ => rfl) (fun vs H Q E h => ?_) (fun A outer s H vs ws Q E hr hw h => ?_)
  · obtain ⟨x, us, rfl, hl, _⟩ := h
    simp [hl]
  obtain ⟨x, us, rfl, hl, hok, hx, k⟩ := h
  obtain ⟨v1, rfl⟩ : ∃ (v1 : V), us = [v1] := match us, hl with | [v1], _ => ⟨v1, rfl⟩
  obtain ⟨o1, _⟩ := hok
  obtain ⟨w0, rfl⟩ : ∃ w0, ws = [w0] := match ws, hw with | [a], _ => ⟨a, rfl⟩
  refine ⟨x, _, _, _, rfl, hx, pa_cons (pe_joined (.cons pe_str (.cons (pe_fmt (pe_cl Cshown hr (by rfl) (pa_cons (pv 1) pa_nil))) (.cons pe_str .nil)))) pa_nil, (pss_one (ps_ost (pv 0) (pv 1))), ?_⟩
  have hst : NdefX.startF ["self", "index", "__class__"] [V.ref x, v1] [w0] = [some (V.ref x), some v1, w0] := rfl
  rw [hst]
  refine js_parts (fun out => ?_) (js_cons prt_lit (js_cons (prt_shn rfl o1) (js_cons prt_lit js_nil))) (by decide)
  refine ⟨by show 1 ≤ 1000; decide, hx, ?_⟩
  refine ⟨_, rfl, _, rfl, x, C, rfl, D.T, hno1, .inl ⟨hx, fun dx n ne => ?_⟩⟩
  have i1 := InS.first (C := C) (f := "index") (y := v1) n ne
  exact k dx _ i1
abbrev stini_TooMany : Stmt := clsFn (topS 7) 0
theorem scini_TooMany : NdefX.NScope ["self", "what", "limit", "__class__"] ["self", "what", "limit"] ["__class__"] (defScope stini_TooMany) := NdefX.nscope_by (by decide +kernel)
abbrev ErT_TooMany (P : Program) (w : World) (K : PySem.W.Frag) (mg : Str → Option Value) (base : Heap) : Prop := ErrC P w K mg base 2 "TooMany" (He.ga K "TooMany") (okP [1, 0]) ["what", "limit"]
theorem okini_TooMany {f c cda C : Addr} {fd : FuncData} (D : SupTxt P K mg C f c cda "__init__" "TooMany.__init__" (defArgs stini_TooMany) (defBody stini_TooMany) (defScope stini_TooMany) fd) (hno1 : PySem.W.findIn K (.ref C) "what" = some none) (hno2 : PySem.W.findIn K (.ref C) "limit" = some none) (Cshown : Cl P w K mg base 1 "shown" ["value"] sp_shown) :
    FnOk P w K mg base CX0 2 f fd ["self", "what", "limit"] (sp_ini C (okP [1, 0]) ["what", "limit"]) := by
  refine fn_super D scini_TooMany (by rfl) ⟨_, rfl⟩ (by decide) rfl (by decide +kernel) (fun _ => rfl) (fun _ => rfl) (fun _ => rfl) (fun vs H Q E h => ?_) (fun A outer s H vs ws Q E hr hw h => ?_)
  · obtain ⟨x, us, rfl, hl, _⟩ := h
    simp [hl]
  obtain ⟨x, us, rfl, hl, hok, hx, k⟩ := h
  obtain ⟨v1, v2, rfl⟩ : ∃ (v1 : V) (v2 : V), us = [v1, v2] := match us, hl with | [v1, v2], _ => ⟨v1, v2, rfl⟩
  obtain ⟨o1, o2, _⟩ := hok
  obtain ⟨t1, rfl, z1⟩ := o1
  obtain ⟨w0, rfl⟩ : ∃ w0, ws = [w0] := match ws, hw with | [a], _ => ⟨a, rfl⟩
  refine ⟨x, _, _, _, rfl, hx, pa_cons (pe_joined (.cons pe_str (.cons (pe_fmt (pv 1)) (.cons pe_str (.cons (pe_fmt (pe_cl Cshown hr (by rfl) (pa_cons (pv 2) pa_nil))) .nil))))) pa_nil, (pss_cons (ps_ost (pv 0) (pv 1)) (pss_one (ps_ost (pv 0) (pv 2)))), ?_⟩
  have hst : NdefX.startF ["self", "what", "limit", "__class__"] [V.ref x, (V.str t1), v2] [w0] = [some (V.ref x), some (V.str t1), some v2, w0] := rfl
  rw [hst]
  refine js_parts (fun out => ?_) (js_cons prt_lit (js_cons (prt_var rfl z1) (js_cons prt_lit (js_cons (prt_shn rfl o2) js_nil)))) (by decide)
  refine ⟨by show 1 ≤ 1000; decide, hx, ?_⟩
  refine ⟨_, rfl, _, rfl, x, C, rfl, D.T, hno1, .inl ⟨hx, fun dx n ne => ?_⟩⟩
  have i1 := InS.first (C := C) (f := "what") (y := (V.str t1)) n ne
  refine ⟨_, rfl, _, rfl, x, C, rfl, D.T, hno2, .inr ⟨dx, _, i1.ax, i1.ad, Nat.le_of_ble_eq_true rfl, ?_⟩⟩
  have i2 := i1.more (f := "limit") (y := v2)
  exact k dx _ i2
abbrev stini_UnlikeSizes : Stmt := clsFn (topS 8) 0
theorem scini_UnlikeSizes : NdefX.NScope ["self", "first", "second", "__class__"] ["self", "first", "second"] ["__class__"] (defScope stini_UnlikeSizes) := NdefX.nscope_by (by decide +kernel)
abbrev ErT_UnlikeSizes (P : Program) (w : World) (K : PySem.W.Frag) (mg : Str → Option Value) (base : Heap) : Prop := ErrC P w K mg base 2 "UnlikeSizes" (He.ga K "UnlikeSizes") (okP [0, 0]) ["first", "second"]
theorem okini_UnlikeSizes {f c cda C : Addr} {fd : FuncData} (D : SupTxt P K mg C f c cda "__init__" "UnlikeSizes.__init__" (defArgs stini_UnlikeSizes) (defBody stini_UnlikeSizes) (defScope stini_UnlikeSizes) fd) (hno1 : PySem.W.findIn K (.ref C) "first" = some none) (hno2 : PySem.W.findIn K (.ref C) "second" = some none) (Cshown : Cl P w K mg base 1 "shown" ["value"] sp_shown) :
    FnOk P w K mg base CX0 2 f fd ["self", "first", "second"] (sp_ini C (okP [0, 0]) ["first", "second"]) := by
  refine fn_super D scini_UnlikeSizes (by rfl) ⟨_, rfl⟩ (by decide) rfl (by decide +kernel) (fun _ => rfl) (fun _ => rfl) (fun _ => rfl) (fun vs H Q E h => ?_) (fun A outer s H vs ws Q E hr hw h => ?_)
  · obtain ⟨x, us, rfl, hl, _⟩ := h
    simp [hl]
  obtain ⟨x, us, rfl, hl, hok, hx, k⟩ := h
  obtain ⟨v1, v2, rfl⟩ : ∃ (v1 : V) (v2 : V), us = [v1, v2] := match us, hl with | [v1, v2], _ => ⟨v1, v2, rfl⟩
  obtain ⟨o1, o2, _⟩ := hok
  obtain ⟨w0, rfl⟩ : ∃ w0, ws = [w0] := match ws, hw with | [a], _ => ⟨a, rfl⟩
  refine ⟨x, _, _, _, rfl, hx, pa_cons (pe_joined (.cons pe_str (.cons (pe_fmt (pe_cl Cshown hr (by rfl) (pa_cons (pv 1) pa_nil))) (.cons pe_str (.cons (pe_fmt (pe_cl Cshown hr (by rfl) (pa_cons (pv 2) pa_nil))) .nil))))) pa_nil, (pss_cons (ps_ost (pv 0) (pv 1)) (pss_one (ps_ost (pv 0) (pv 2)))), ?_⟩
  have hst : NdefX.startF ["self", "first", "second", "__class__"] [V.ref x, v1, v2] [w0] = [some (V.ref x), some v1, some v2, w0] := rfl
  rw [hst]
  refine js_parts (fun out => ?_) (js_cons prt_lit (js_cons (prt_shn rfl o1) (js_cons prt_lit (js_cons (prt_shn rfl o2) js_nil)))) (by decide)
  refine ⟨by show 1 ≤ 1000; decide, hx, ?_⟩
  refine ⟨_, rfl, _, rfl, x, C, rfl, D.T, hno1, .inl ⟨hx, fun dx n ne => ?_⟩⟩
  have i1 := InS.first (C := C) (f := "first") (y := v1) n ne
  refine ⟨_, rfl, _, rfl, x, C, rfl, D.T, hno2, .inr ⟨dx, _, i1.ax, i1.ad, Nat.le_of_ble_eq_true rfl, ?_⟩⟩
  have i2 := i1.more (f := "second") (y := v2)
  exact k dx _ i2
abbrev stini_RepeatedPoint : Stmt := clsFn (topS 9) 0
theorem scini_RepeatedPoint : NdefX.NScope ["self", "value", "__class__"] ["self", "value"] ["__class__"] (defScope stini_RepeatedPoint) := NdefX.nscope_by (by decide +kernel)
abbrev ErT_RepeatedPoint (P : Program) (w : World) (K : PySem.W.Frag) (mg : Str → Option Value) (base : Heap) : Prop := ErrC P w K mg base 2 "RepeatedPoint" (He.ga K "RepeatedPoint") (okP [0]) ["value"]
theorem okini_RepeatedPoint {f c cda C : Addr} {fd : FuncData} (D : SupTxt P K mg C f c cda "__init__" "RepeatedPoint.__init__" (defArgs stini_RepeatedPoint) (defBody stini_RepeatedPoint) (defScope stini_RepeatedPoint) fd) (hno1 : PySem.W.findIn K (.ref C) "value" = some none) (Cshown : Cl P w K mg base 1 "shown" ["value"] sp_shown) :
    FnOk P w K mg base CX0 2 f fd ["self", "value"] (sp_ini C (okP [0]) ["value"]) := by
  refine fn_super D scini_RepeatedPoint (by rfl) ⟨_, rfl⟩ (by decide) rfl (by decide +kernel) (fun _ => rfl) (fun _ => rfl) (fun _ => rfl) (fun vs H Q E h => ?_) (fun A outer s H vs ws Q E hr hw h => ?_)
  · obtain ⟨x, us, rfl, hl, _⟩ := h
    simp [hl]
  obtain ⟨x, us, rfl, hl, hok, hx, k⟩ := h
  obtain ⟨v1, rfl⟩ : ∃ (v1 : V), us = [v1] := match us, hl with | [v1], _ => ⟨v1, rfl⟩
  obtain ⟨o1, _⟩ := hok
  obtain ⟨w0, rfl⟩ : ∃ w0, ws = [w0] := match ws, hw with | [a], _ => ⟨a, rfl⟩
  refine ⟨x, _, _, _, rfl, hx, pa_cons (pe_joined (.cons pe_str (.cons (pe_fmt (pe_cl Cshown hr (by rfl) (pa_cons (pv 1) pa_nil))) (.cons pe_str .nil)))) pa_nil, (pss_one (ps_ost (pv 0) (pv 1))), ?_⟩
  have hst : NdefX.startF ["self", "value", "__class__"] [V.ref x, v1] [w0] = [some (V.ref x), some v1, w0] := rfl
  rw [hst]
  refine js_parts (fun out => ?_) (js_cons prt_lit (js_cons (prt_shn rfl o1) (js_cons prt_lit js_nil))) (by decide)
  refine ⟨by show 1 ≤ 1000; decide, hx, ?_⟩
  refine ⟨_, rfl, _, rfl, x, C, rfl, D.T, hno1, .inl ⟨hx, fun dx n ne => ?_⟩⟩
  have i1 := InS.first (C := C) (f := "value") (y := v1) n ne
  exact k dx _ i1
abbrev stini_BadText : Stmt := clsFn (topS 10) 0
theorem scini_BadText : NdefX.NScope ["self", "line", "__class__"] ["self", "line"] ["__class__"] (defScope stini_BadText) := NdefX.nscope_by (by decide +kernel)
abbrev ErT_BadText (P : Program) (w : World) (K : PySem.W.Frag) (mg : Str → Option Value) (base : Heap) : Prop := ErrC P w K mg base 2 "BadText" (He.ga K "BadText") (okP [0]) ["line"]
theorem okini_BadText {f c cda C : Addr} {fd : FuncData} (D : SupTxt P K mg C f c cda "__init__" "BadText.__init__" (defArgs stini_BadText) (defBody stini_BadText) (defScope stini_BadText) fd) (hno1 : PySem.W.findIn K (.ref C) "line" = some none) (Cshown : Cl P w K mg base 1 "shown" ["value"] sp_shown) :
    FnOk P w K mg base CX0 2 f fd ["self", "line"] (sp_ini C (okP [0]) ["line"]) := by
  refine fn_super D scini_BadText (by rfl) ⟨_, rfl⟩ (by decide) rfl (by decide +kernel) (fun _ => rfl) (fun _ => rfl) (fun _ => rfl) (fun vs H Q E h => ?_) (fun A outer s H vs ws Q E hr hw h => ?_)
  · obtain ⟨x, us, rfl, hl, _⟩ := h
    simp [hl]
  obtain ⟨x, us, rfl, hl, hok, hx, k⟩ := h
  obtain ⟨v1, rfl⟩ : ∃ (v1 : V), us = [v1] := match us, hl with | [v1], _ => ⟨v1, rfl⟩
  obtain ⟨o1, _⟩ := hok
  obtain ⟨w0, rfl⟩ : ∃ w0, ws = [w0] := match ws, hw with | [a], _ => ⟨a, rfl⟩
  refine ⟨x, _, _, _, rfl, hx, pa_cons (pe_joined (.cons pe_str (.cons (pe_fmt (pe_cl Cshown hr (by rfl) (pa_cons (pv 1) pa_nil))) (.cons pe_str .nil)))) pa_nil, (pss_one (ps_ost (pv 0) (pv 1))), ?_⟩
  have hst : NdefX.startF ["self", "line", "__class__"] [V.ref x, v1] [w0] = [some (V.ref x), some v1, w0] := rfl
  rw [hst]
  refine js_parts (fun out => ?_) (js_cons prt_lit (js_cons (prt_shn rfl o1) (js_cons prt_lit js_nil))) (by decide)
  refine ⟨by show 1 ≤ 1000; decide, hx, ?_⟩
  refine ⟨_, rfl, _, rfl, x, C, rfl, D.T, hno1, .inl ⟨hx, fun dx n ne => ?_⟩⟩
  have i1 := InS.first (C := C) (f := "line") (y := v1) n ne
  exact k dx _ i1
abbrev stini_NotMade : Stmt := clsFn (topS 11) 0
theorem scini_NotMade : NdefX.NScope ["self", "move", "__class__"] ["self", "move"] ["__class__"] (defScope stini_NotMade) := NdefX.nscope_by (by decide +kernel)
abbrev ErT_NotMade (P : Program) (w : World) (K : PySem.W.Frag) (mg : Str → Option Value) (base : Heap) : Prop := ErrC P w K mg base 2 "NotMade" (He.ga K "NotMade") (okP [2]) ["move"]
theorem okini_NotMade {f c cda C : Addr} {fd : FuncData} (D : SupTxt P K mg C f c cda "__init__" "NotMade.__init__" (defArgs stini_NotMade) (defBody stini_NotMade) (defScope stini_NotMade) fd) (hno1 : PySem.W.findIn K (.ref C) "move" = some none) (Cshown : Cl P w K mg base 1 "shown" ["value"] sp_shown) :
    FnOk P w K mg base CX0 2 f fd ["self", "move"] (sp_ini C (okP [2]) ["move"]) := by
  refine fn_super D scini_NotMade (by rfl) ⟨_, rfl⟩ (by decide) rfl (by decide +kernel) (fun _ => rfl) (fun _ => rfl) (fun _ => rfl) (fun vs H Q E h => ?_) (fun A outer s H vs ws Q E hr hw h => ?_)
  · obtain ⟨x, us, rfl, hl, _⟩ := h
    simp [hl]
  obtain ⟨x, us, rfl, hl, hok, hx, k⟩ := h
  obtain ⟨v1, rfl⟩ : ∃ (v1 : V), us = [v1] := match us, hl with | [v1], _ => ⟨v1, rfl⟩
  obtain ⟨o1, _⟩ := hok
  obtain ⟨w0, rfl⟩ : ∃ w0, ws = [w0] := match ws, hw with | [a], _ => ⟨a, rfl⟩
  refine ⟨x, _, _, _, rfl, hx, pa_cons pe_str pa_nil, (pss_one (ps_ost (pv 0) (pv 1))), ?_⟩
  have hst : NdefX.startF ["self", "move", "__class__"] [V.ref x, v1] [w0] = [some (V.ref x), some v1, w0] := rfl
  rw [hst]
  refine ⟨by show 1 ≤ 1000; decide, hx, ?_⟩
  refine ⟨_, rfl, _, rfl, x, C, rfl, D.T, hno1, .inl ⟨hx, fun dx n ne => ?_⟩⟩
  have i1 := InS.first (C := C) (f := "move") (y := v1) n ne
  exact k dx _ i1
abbrev stini_NotTight : Stmt := clsFn (topS 12) 0
theorem scini_NotTight : NdefX.NScope ["self", "index", "__class__"] ["self", "index"] ["__class__"] (defScope stini_NotTight) := NdefX.nscope_by (by decide +kernel)
abbrev ErT_NotTight (P : Program) (w : World) (K : PySem.W.Frag) (mg : Str → Option Value) (base : Heap) : Prop := ErrC P w K mg base 2 "NotTight" (He.ga K "NotTight") (okP [0]) ["index"]
theorem okini_NotTight {f c cda C : Addr} {fd : FuncData} (D : SupTxt P K mg C f c cda "__init__" "NotTight.__init__" (defArgs stini_NotTight) (defBody stini_NotTight) (defScope stini_NotTight) fd) (hno1 : PySem.W.findIn K (.ref C) "index" = some none) (Cshown : Cl P w K mg base 1 "shown" ["value"] sp_shown) :
    FnOk P w K mg base CX0 2 f fd ["self", "index"] (sp_ini C (okP [0]) ["index"]) := by
  refine fn_super D scini_NotTight (by rfl) ⟨_, rfl⟩ (by decide) rfl (by decide +kernel) (fun _ => rfl) (fun _ => rfl) (fun _ => rfl) (fun vs H Q E h => ?_) (fun A outer s H vs ws Q E hr hw h => ?_)
  · obtain ⟨x, us, rfl, hl, _⟩ := h
    simp [hl]
  obtain ⟨x, us, rfl, hl, hok, hx, k⟩ := h
  obtain ⟨v1, rfl⟩ : ∃ (v1 : V), us = [v1] := match us, hl with | [v1], _ => ⟨v1, rfl⟩
  obtain ⟨o1, _⟩ := hok
  obtain ⟨w0, rfl⟩ : ∃ w0, ws = [w0] := match ws, hw with | [a], _ => ⟨a, rfl⟩
  refine ⟨x, _, _, _, rfl, hx, pa_cons (pe_joined (.cons pe_str (.cons (pe_fmt (pe_cl Cshown hr (by rfl) (pa_cons (pv 1) pa_nil))) .nil))) pa_nil, (pss_one (ps_ost (pv 0) (pv 1))), ?_⟩
  have hst : NdefX.startF ["self", "index", "__class__"] [V.ref x, v1] [w0] = [some (V.ref x), some v1, w0] := rfl
  rw [hst]
  refine js_parts (fun out => ?_) (js_cons prt_lit (js_cons (prt_shn rfl o1) js_nil)) (by decide)
  refine ⟨by show 1 ≤ 1000; decide, hx, ?_⟩
  refine ⟨_, rfl, _, rfl, x, C, rfl, D.T, hno1, .inl ⟨hx, fun dx n ne => ?_⟩⟩
  have i1 := InS.first (C := C) (f := "index") (y := v1) n ne
  exact k dx _ i1
abbrev stini_NotFull : Stmt := clsFn (topS 13) 0
theorem scini_NotFull : NdefX.NScope ["self", "point", "__class__"] ["self", "point"] ["__class__"] (defScope stini_NotFull) := NdefX.nscope_by (by decide +kernel)
abbrev ErT_NotFull (P : Program) (w : World) (K : PySem.W.Frag) (mg : Str → Option Value) (base : Heap) : Prop := ErrC P w K mg base 2 "NotFull" (He.ga K "NotFull") (okP [0]) ["point"]
theorem okini_NotFull {f c cda C : Addr} {fd : FuncData} (D : SupTxt P K mg C f c cda "__init__" "NotFull.__init__" (defArgs stini_NotFull) (defBody stini_NotFull) (defScope stini_NotFull) fd) (hno1 : PySem.W.findIn K (.ref C) "point" = some none) (Cshown : Cl P w K mg base 1 "shown" ["value"] sp_shown) :
    FnOk P w K mg base CX0 2 f fd ["self", "point"] (sp_ini C (okP [0]) ["point"]) := by
  refine fn_super D scini_NotFull (by rfl) ⟨_, rfl⟩ (by decide) rfl (by decide +kernel) (fun _ => rfl) (fun _ => rfl) (fun _ => rfl) (fun vs H Q E h => ?_) (fun A outer s H vs ws Q E hr hw h => ?_)
  · obtain ⟨x, us, rfl, hl, _⟩ := h
    simp [hl]
  obtain ⟨x, us, rfl, hl, hok, hx, k⟩ := h
  obtain ⟨v1, rfl⟩ : ∃ (v1 : V), us = [v1] := match us, hl with | [v1], _ => ⟨v1, rfl⟩
  obtain ⟨o1, _⟩ := hok
  obtain ⟨w0, rfl⟩ : ∃ w0, ws = [w0] := match ws, hw with | [a], _ => ⟨a, rfl⟩
  refine ⟨x, _, _, _, rfl, hx, pa_cons (pe_joined (.cons pe_str (.cons (pe_fmt (pe_cl Cshown hr (by rfl) (pa_cons (pv 1) pa_nil))) .nil))) pa_nil, (pss_one (ps_ost (pv 0) (pv 1))), ?_⟩
  have hst : NdefX.startF ["self", "point", "__class__"] [V.ref x, v1] [w0] = [some (V.ref x), some v1, w0] := rfl
  rw [hst]
  refine js_parts (fun out => ?_) (js_cons prt_lit (js_cons (prt_shn rfl o1) js_nil)) (by decide)
  refine ⟨by show 1 ≤ 1000; decide, hx, ?_⟩
  refine ⟨_, rfl, _, rfl, x, C, rfl, D.T, hno1, .inl ⟨hx, fun dx n ne => ?_⟩⟩
  have i1 := InS.first (C := C) (f := "point") (y := v1) n ne
  exact k dx _ i1
abbrev stini_NotAFailing : Stmt := clsFn (topS 14) 0
theorem scini_NotAFailing : NdefX.NScope ["self", "condition", "__class__"] ["self", "condition"] ["__class__"] (defScope stini_NotAFailing) := NdefX.nscope_by (by decide +kernel)
abbrev ErT_NotAFailing (P : Program) (w : World) (K : PySem.W.Frag) (mg : Str → Option Value) (base : Heap) : Prop := ErrC P w K mg base 2 "NotAFailing" (He.ga K "NotAFailing") (okP [0]) ["condition"]
theorem okini_NotAFailing {f c cda C : Addr} {fd : FuncData} (D : SupTxt P K mg C f c cda "__init__" "NotAFailing.__init__" (defArgs stini_NotAFailing) (defBody stini_NotAFailing) (defScope stini_NotAFailing) fd) (hno1 : PySem.W.findIn K (.ref C) "condition" = some none) (Cshown : Cl P w K mg base 1 "shown" ["value"] sp_shown) :
    FnOk P w K mg base CX0 2 f fd ["self", "condition"] (sp_ini C (okP [0]) ["condition"]) := by
  refine fn_super D scini_NotAFailing (by rfl) ⟨_, rfl⟩ (by decide) rfl (by decide +kernel) (fun _ => rfl) (fun _ => rfl) (fun _ => rfl) (fun vs H Q E h => ?_) (fun A outer s H vs ws Q E hr hw h => ?_)
  · obtain ⟨x, us, rfl, hl, _⟩ := h
    simp [hl]
  obtain ⟨x, us, rfl, hl, hok, hx, k⟩ := h
  obtain ⟨v1, rfl⟩ : ∃ (v1 : V), us = [v1] := match us, hl with | [v1], _ => ⟨v1, rfl⟩
  obtain ⟨o1, _⟩ := hok
  obtain ⟨w0, rfl⟩ : ∃ w0, ws = [w0] := match ws, hw with | [a], _ => ⟨a, rfl⟩
  refine ⟨x, _, _, _, rfl, hx, pa_cons (pe_joined (.cons pe_str (.cons (pe_fmt (pe_cl Cshown hr (by rfl) (pa_cons (pv 1) pa_nil))) .nil))) pa_nil, (pss_one (ps_ost (pv 0) (pv 1))), ?_⟩
  have hst : NdefX.startF ["self", "condition", "__class__"] [V.ref x, v1] [w0] = [some (V.ref x), some v1, w0] := rfl
  rw [hst]
  refine js_parts (fun out => ?_) (js_cons prt_lit (js_cons (prt_shn rfl o1) js_nil)) (by decide)
  refine ⟨by show 1 ≤ 1000; decide, hx, ?_⟩
  refine ⟨_, rfl, _, rfl, x, C, rfl, D.T, hno1, .inl ⟨hx, fun dx n ne => ?_⟩⟩
  have i1 := InS.first (C := C) (f := "condition") (y := v1) n ne
  exact k dx _ i1
abbrev stini_NotNeighbours : Stmt := clsFn (topS 15) 0
theorem scini_NotNeighbours : NdefX.NScope ["self", "__class__"] ["self"] ["__class__"] (defScope stini_NotNeighbours) := NdefX.nscope_by (by decide +kernel)
abbrev ErT_NotNeighbours (P : Program) (w : World) (K : PySem.W.Frag) (mg : Str → Option Value) (base : Heap) : Prop := ErrC0 P w K mg base 2 "NotNeighbours" (He.ga K "NotNeighbours")
theorem okini_NotNeighbours {f c cda C : Addr} {fd : FuncData} (D : SupTxt P K mg C f c cda "__init__" "NotNeighbours.__init__" (defArgs stini_NotNeighbours) (defBody stini_NotNeighbours) (defScope stini_NotNeighbours) fd) :
    FnOk P w K mg base CX0 2 f fd ["self"] (sp_ini0 C) := by
  refine fn_super D scini_NotNeighbours (by rfl) ⟨_, rfl⟩ (by decide) rfl (by decide +kernel) (fun _ => rfl) (fun _ => rfl) (fun _ => rfl) (fun vs H Q E h => ?_) (fun A outer s H vs ws Q E hr hw h => ?_)
  · obtain ⟨x, rfl, _⟩ := h
    rfl
  obtain ⟨x, rfl, hx, k⟩ := h
  obtain ⟨w0, rfl⟩ : ∃ w0, ws = [w0] := match ws, hw with | [a], _ => ⟨a, rfl⟩
  refine ⟨x, _, _, _, rfl, hx, pa_cons pe_str pa_nil, pss_nil, ?_⟩
  refine ⟨by show 1 ≤ 1000; decide, hx, ?_⟩
  exact k
abbrev stini_NotShorter : Stmt := clsFn (topS 16) 0
theorem scini_NotShorter : NdefX.NScope ["self", "first", "second", "__class__"] ["self", "first", "second"] ["__class__"] (defScope stini_NotShorter) := NdefX.nscope_by (by decide +kernel)
abbrev ErT_NotShorter (P : Program) (w : World) (K : PySem.W.Frag) (mg : Str → Option Value) (base : Heap) : Prop := ErrC P w K mg base 2 "NotShorter" (He.ga K "NotShorter") (okP [0, 0]) ["first", "second"]
theorem okini_NotShorter {f c cda C : Addr} {fd : FuncData} (D : SupTxt P K mg C f c cda "__init__" "NotShorter.__init__" (defArgs stini_NotShorter) (defBody stini_NotShorter) (defScope stini_NotShorter) fd) (hno1 : PySem.W.findIn K (.ref C) "first" = some none) (hno2 : PySem.W.findIn K (.ref C) "second" = some none) (Cshown : Cl P w K mg base 1 "shown" ["value"] sp_shown) :
    FnOk P w K mg base CX0 2 f fd ["self", "first", "second"] (sp_ini C (okP [0, 0]) ["first", "second"]) := by
  refine fn_super D scini_NotShorter (by rfl) ⟨_, rfl⟩ (by decide) rfl (by decide +kernel) (fun _ => rfl) (fun _ => rfl) (fun _ => rfl) (fun vs H Q E h => ?_) (fun A outer s H vs ws Q E hr hw h => ?_)
  · obtain ⟨x, us, rfl, hl, _⟩ := h
    simp [hl]
  obtain ⟨x, us, rfl, hl, hok, hx, k⟩ := h
  obtain ⟨v1, v2, rfl⟩ : ∃ (v1 : V) (v2 : V), us = [v1, v2] := match us, hl with | [v1, v2], _ => ⟨v1, v2, rfl⟩
  obtain ⟨o1, o2, _⟩ := hok
  obtain ⟨w0, rfl⟩ : ∃ w0, ws = [w0] := match ws, hw with | [a], _ => ⟨a, rfl⟩
  refine ⟨x, _, _, _, rfl, hx, pa_cons (pe_joined (.cons (pe_fmt (pe_cl Cshown hr (by rfl) (pa_cons (pv 1) pa_nil))) (.cons pe_str (.cons (pe_fmt (pe_cl Cshown hr (by rfl) (pa_cons (pv 2) pa_nil))) .nil)))) pa_nil, (pss_cons (ps_ost (pv 0) (pv 1)) (pss_one (ps_ost (pv 0) (pv 2)))), ?_⟩
  have hst : NdefX.startF ["self", "first", "second", "__class__"] [V.ref x, v1, v2] [w0] = [some (V.ref x), some v1, some v2, w0] := rfl
  rw [hst]
  refine js_parts (fun out => ?_) (js_cons (prt_shn rfl o1) (js_cons prt_lit (js_cons (prt_shn rfl o2) js_nil))) (by decide)
  refine ⟨by show 1 ≤ 1000; decide, hx, ?_⟩
  refine ⟨_, rfl, _, rfl, x, C, rfl, D.T, hno1, .inl ⟨hx, fun dx n ne => ?_⟩⟩
  have i1 := InS.first (C := C) (f := "first") (y := v1) n ne
  refine ⟨_, rfl, _, rfl, x, C, rfl, D.T, hno2, .inr ⟨dx, _, i1.ax, i1.ad, Nat.le_of_ble_eq_true rfl, ?_⟩⟩
  have i2 := i1.more (f := "second") (y := v2)
  exact k dx _ i2
abbrev stini_SameLength : Stmt := clsFn (topS 17) 0
theorem scini_SameLength : NdefX.NScope ["self", "length", "__class__"] ["self", "length"] ["__class__"] (defScope stini_SameLength) := NdefX.nscope_by (by decide +kernel)
abbrev ErT_SameLength (P : Program) (w : World) (K : PySem.W.Frag) (mg : Str → Option Value) (base : Heap) : Prop := ErrC P w K mg base 2 "SameLength" (He.ga K "SameLength") (okP [0]) ["length"]
theorem okini_SameLength {f c cda C : Addr} {fd : FuncData} (D : SupTxt P K mg C f c cda "__init__" "SameLength.__init__" (defArgs stini_SameLength) (defBody stini_SameLength) (defScope stini_SameLength) fd) (hno1 : PySem.W.findIn K (.ref C) "length" = some none) (Cshown : Cl P w K mg base 1 "shown" ["value"] sp_shown) :
    FnOk P w K mg base CX0 2 f fd ["self", "length"] (sp_ini C (okP [0]) ["length"]) := by
  refine fn_super D scini_SameLength (by rfl) ⟨_, rfl⟩ (by decide) rfl (by decide +kernel) (fun _ => rfl) (fun _ => rfl) (fun _ => rfl) (fun vs H Q E h => ?_) (fun A outer s H vs ws Q E hr hw h => ?_)
  · obtain ⟨x, us, rfl, hl, _⟩ := h
    simp [hl]
  obtain ⟨x, us, rfl, hl, hok, hx, k⟩ := h
  obtain ⟨v1, rfl⟩ : ∃ (v1 : V), us = [v1] := match us, hl with | [v1], _ => ⟨v1, rfl⟩
  obtain ⟨o1, _⟩ := hok
  obtain ⟨w0, rfl⟩ : ∃ w0, ws = [w0] := match ws, hw with | [a], _ => ⟨a, rfl⟩
  refine ⟨x, _, _, _, rfl, hx, pa_cons (pe_joined (.cons pe_str (.cons (pe_fmt (pe_cl Cshown hr (by rfl) (pa_cons (pv 1) pa_nil))) (.cons pe_str .nil)))) pa_nil, (pss_one (ps_ost (pv 0) (pv 1))), ?_⟩
  have hst : NdefX.startF ["self", "length", "__class__"] [V.ref x, v1] [w0] = [some (V.ref x), some v1, w0] := rfl
  rw [hst]
  refine js_parts (fun out => ?_) (js_cons prt_lit (js_cons (prt_shn rfl o1) (js_cons prt_lit js_nil))) (by decide)
  refine ⟨by show 1 ≤ 1000; decide, hx, ?_⟩
  refine ⟨_, rfl, _, rfl, x, C, rfl, D.T, hno1, .inl ⟨hx, fun dx n ne => ?_⟩⟩
  have i1 := InS.first (C := C) (f := "length") (y := v1) n ne
  exact k dx _ i1
abbrev stini_NoSuchLength : Stmt := clsFn (topS 18) 0
theorem scini_NoSuchLength : NdefX.NScope ["self", "length", "least", "greatest", "__class__"] ["self", "length", "least", "greatest"] ["__class__"] (defScope stini_NoSuchLength) := NdefX.nscope_by (by decide +kernel)
abbrev ErT_NoSuchLength (P : Program) (w : World) (K : PySem.W.Frag) (mg : Str → Option Value) (base : Heap) : Prop := ErrC P w K mg base 2 "NoSuchLength" (He.ga K "NoSuchLength") (okP [0, 0, 0]) ["length", "least", "greatest"]
theorem okini_NoSuchLength {f c cda C : Addr} {fd : FuncData} (D : SupTxt P K mg C f c cda "__init__" "NoSuchLength.__init__" (defArgs stini_NoSuchLength) (defBody stini_NoSuchLength) (defScope stini_NoSuchLength) fd) (hno1 : PySem.W.findIn K (.ref C) "length" = some none) (hno2 : PySem.W.findIn K (.ref C) "least" = some none) (hno3 : PySem.W.findIn K (.ref C) "greatest" = some none) (Cshown : Cl P w K mg base 1 "shown" ["value"] sp_shown) :
    FnOk P w K mg base CX0 2 f fd ["self", "length", "least", "greatest"] (sp_ini C (okP [0, 0, 0]) ["length", "least", "greatest"]) := by
  refine fn_super D scini_NoSuchLength (by rfl) ⟨_, rfl⟩ (by decide) rfl (by decide +kernel) (fun _ => rfl) (fun _ => rfl) (fun _ => rfl) (fun vs H Q E h => ?_) (fun A outer s H vs ws Q E hr hw h => ?_)
  · obtain ⟨x, us, rfl, hl, _⟩ := h
    simp [hl]
  obtain ⟨x, us, rfl, hl, hok, hx, k⟩ := h
  obtain ⟨v1, v2, v3, rfl⟩ : ∃ (v1 : V) (v2 : V) (v3 : V), us = [v1, v2, v3] := match us, hl with | [v1, v2, v3], _ => ⟨v1, v2, v3, rfl⟩
  obtain ⟨o1, o2, o3, _⟩ := hok
  obtain ⟨w0, rfl⟩ : ∃ w0, ws = [w0] := match ws, hw with | [a], _ => ⟨a, rfl⟩
  refine ⟨x, _, _, _, rfl, hx, pa_cons (pe_joined (.cons pe_str (.cons (pe_fmt (pe_cl Cshown hr (by rfl) (pa_cons (pv 1) pa_nil))) (.cons pe_str (.cons (pe_fmt (pe_cl Cshown hr (by rfl) (pa_cons (pv 2) pa_nil))) (.cons pe_str (.cons (pe_fmt (pe_cl Cshown hr (by rfl) (pa_cons (pv 3) pa_nil))) .nil))))))) pa_nil, (pss_cons (ps_ost (pv 0) (pv 1)) (pss_cons (ps_ost (pv 0) (pv 2)) (pss_one (ps_ost (pv 0) (pv 3))))), ?_⟩
  have hst : NdefX.startF ["self", "length", "least", "greatest", "__class__"] [V.ref x, v1, v2, v3] [w0] = [some (V.ref x), some v1, some v2, some v3, w0] := rfl
  rw [hst]
  refine js_parts (fun out => ?_) (js_cons prt_lit (js_cons (prt_shn rfl o1) (js_cons prt_lit (js_cons (prt_shn rfl o2) (js_cons prt_lit (js_cons (prt_shn rfl o3) js_nil)))))) (by decide)
  refine ⟨by show 1 ≤ 1000; decide, hx, ?_⟩
  refine ⟨_, rfl, _, rfl, x, C, rfl, D.T, hno1, .inl ⟨hx, fun dx n ne => ?_⟩⟩
  have i1 := InS.first (C := C) (f := "length") (y := v1) n ne
  refine ⟨_, rfl, _, rfl, x, C, rfl, D.T, hno2, .inr ⟨dx, _, i1.ax, i1.ad, Nat.le_of_ble_eq_true rfl, ?_⟩⟩
  have i2 := i1.more (f := "least") (y := v2)
  refine ⟨_, rfl, _, rfl, x, C, rfl, D.T, hno3, .inr ⟨dx, _, i2.ax, i2.ad, Nat.le_of_ble_eq_true rfl, ?_⟩⟩
  have i3 := i2.more (f := "greatest") (y := v3)
  exact k dx _ i3
abbrev stini_NotAnOrder : Stmt := clsFn (topS 19) 0
theorem scini_NotAnOrder : NdefX.NScope ["self", "__class__"] ["self"] ["__class__"] (defScope stini_NotAnOrder) := NdefX.nscope_by (by decide +kernel)
abbrev ErT_NotAnOrder (P : Program) (w : World) (K : PySem.W.Frag) (mg : Str → Option Value) (base : Heap) : Prop := ErrC0 P w K mg base 2 "NotAnOrder" (He.ga K "NotAnOrder")
theorem okini_NotAnOrder {f c cda C : Addr} {fd : FuncData} (D : SupTxt P K mg C f c cda "__init__" "NotAnOrder.__init__" (defArgs stini_NotAnOrder) (defBody stini_NotAnOrder) (defScope stini_NotAnOrder) fd) :
    FnOk P w K mg base CX0 2 f fd ["self"] (sp_ini0 C) := by
  refine fn_super D scini_NotAnOrder (by rfl) ⟨_, rfl⟩ (by decide) rfl (by decide +kernel) (fun _ => rfl) (fun _ => rfl) (fun _ => rfl) (fun vs H Q E h => ?_) (fun A outer s H vs ws Q E hr hw h => ?_)
  · obtain ⟨x, rfl, _⟩ := h
    rfl
  obtain ⟨x, rfl, hx, k⟩ := h
  obtain ⟨w0, rfl⟩ : ∃ w0, ws = [w0] := match ws, hw with | [a], _ => ⟨a, rfl⟩
  refine ⟨x, _, _, _, rfl, hx, pa_cons pe_str pa_nil, pss_nil, ?_⟩
  refine ⟨by show 1 ≤ 1000; decide, hx, ?_⟩
  exact k
abbrev stini_NotAChain : Stmt := clsFn (topS 20) 0
theorem scini_NotAChain : NdefX.NScope ["self", "__class__"] ["self"] ["__class__"] (defScope stini_NotAChain) := NdefX.nscope_by (by decide +kernel)
abbrev ErT_NotAChain (P : Program) (w : World) (K : PySem.W.Frag) (mg : Str → Option Value) (base : Heap) : Prop := ErrC0 P w K mg base 2 "NotAChain" (He.ga K "NotAChain")
theorem okini_NotAChain {f c cda C : Addr} {fd : FuncData} (D : SupTxt P K mg C f c cda "__init__" "NotAChain.__init__" (defArgs stini_NotAChain) (defBody stini_NotAChain) (defScope stini_NotAChain) fd) :
    FnOk P w K mg base CX0 2 f fd ["self"] (sp_ini0 C) := by
  refine fn_super D scini_NotAChain (by rfl) ⟨_, rfl⟩ (by decide) rfl (by decide +kernel) (fun _ => rfl) (fun _ => rfl) (fun _ => rfl) (fun vs H Q E h => ?_) (fun A outer s H vs ws Q E hr hw h => ?_)
  · obtain ⟨x, rfl, _⟩ := h
    rfl
  obtain ⟨x, rfl, hx, k⟩ := h
  obtain ⟨w0, rfl⟩ : ∃ w0, ws = [w0] := match ws, hw with | [a], _ => ⟨a, rfl⟩
  refine ⟨x, _, _, _, rfl, hx, pa_cons pe_str pa_nil, pss_nil, ?_⟩
  refine ⟨by show 1 ≤ 1000; decide, hx, ?_⟩
  exact k
abbrev stini_NotABase : Stmt := clsFn (topS 21) 0
theorem scini_NotABase : NdefX.NScope ["self", "place", "__class__"] ["self", "place"] ["__class__"] (defScope stini_NotABase) := NdefX.nscope_by (by decide +kernel)
abbrev ErT_NotABase (P : Program) (w : World) (K : PySem.W.Frag) (mg : Str → Option Value) (base : Heap) : Prop := ErrC P w K mg base 2 "NotABase" (He.ga K "NotABase") (okP [0]) ["place"]
theorem okini_NotABase {f c cda C : Addr} {fd : FuncData} (D : SupTxt P K mg C f c cda "__init__" "NotABase.__init__" (defArgs stini_NotABase) (defBody stini_NotABase) (defScope stini_NotABase) fd) (hno1 : PySem.W.findIn K (.ref C) "place" = some none) (Cshown : Cl P w K mg base 1 "shown" ["value"] sp_shown) :
    FnOk P w K mg base CX0 2 f fd ["self", "place"] (sp_ini C (okP [0]) ["place"]) := by
  refine fn_super D scini_NotABase (by rfl) ⟨_, rfl⟩ (by decide) rfl (by decide +kernel) (fun _ => rfl) (fun _ => rfl) (fun _ => rfl) (fun vs H Q E h => ?_) (fun A outer s H vs ws Q E hr hw h => ?_)
  · obtain ⟨x, us, rfl, hl, _⟩ := h
    simp [hl]
  obtain ⟨x, us, rfl, hl, hok, hx, k⟩ := h
  obtain ⟨v1, rfl⟩ : ∃ (v1 : V), us = [v1] := match us, hl with | [v1], _ => ⟨v1, rfl⟩
  obtain ⟨o1, _⟩ := hok
  obtain ⟨w0, rfl⟩ : ∃ w0, ws = [w0] := match ws, hw with | [a], _ => ⟨a, rfl⟩
  refine ⟨x, _, _, _, rfl, hx, pa_cons (pe_joined (.cons pe_str (.cons (pe_fmt (pe_cl Cshown hr (by rfl) (pa_cons (pv 1) pa_nil))) (.cons pe_str .nil)))) pa_nil, (pss_one (ps_ost (pv 0) (pv 1))), ?_⟩
  have hst : NdefX.startF ["self", "place", "__class__"] [V.ref x, v1] [w0] = [some (V.ref x), some v1, w0] := rfl
  rw [hst]
  refine js_parts (fun out => ?_) (js_cons prt_lit (js_cons (prt_shn rfl o1) (js_cons prt_lit js_nil))) (by decide)
  refine ⟨by show 1 ≤ 1000; decide, hx, ?_⟩
  refine ⟨_, rfl, _, rfl, x, C, rfl, D.T, hno1, .inl ⟨hx, fun dx n ne => ?_⟩⟩
  have i1 := InS.first (C := C) (f := "place") (y := v1) n ne
  exact k dx _ i1
abbrev stini_NotInside : Stmt := clsFn (topS 22) 0
theorem scini_NotInside : NdefX.NScope ["self", "point", "__class__"] ["self", "point"] ["__class__"] (defScope stini_NotInside) := NdefX.nscope_by (by decide +kernel)
abbrev ErT_NotInside (P : Program) (w : World) (K : PySem.W.Frag) (mg : Str → Option Value) (base : Heap) : Prop := ErrC P w K mg base 2 "NotInside" (He.ga K "NotInside") (okP [0]) ["point"]
theorem okini_NotInside {f c cda C : Addr} {fd : FuncData} (D : SupTxt P K mg C f c cda "__init__" "NotInside.__init__" (defArgs stini_NotInside) (defBody stini_NotInside) (defScope stini_NotInside) fd) (hno1 : PySem.W.findIn K (.ref C) "point" = some none) (Cshown : Cl P w K mg base 1 "shown" ["value"] sp_shown) :
    FnOk P w K mg base CX0 2 f fd ["self", "point"] (sp_ini C (okP [0]) ["point"]) := by
  refine fn_super D scini_NotInside (by rfl) ⟨_, rfl⟩ (by decide) rfl (by decide +kernel) (fun _ => rfl) (fun _ => rfl) (fun _ => rfl) (fun vs H Q E h => ?_) (fun A outer s H vs ws Q E hr hw h => ?_)
  · obtain ⟨x, us, rfl, hl, _⟩ := h
    simp [hl]
  obtain ⟨x, us, rfl, hl, hok, hx, k⟩ := h
  obtain ⟨v1, rfl⟩ : ∃ (v1 : V), us = [v1] := match us, hl with | [v1], _ => ⟨v1, rfl⟩
  obtain ⟨o1, _⟩ := hok
  obtain ⟨w0, rfl⟩ : ∃ w0, ws = [w0] := match ws, hw with | [a], _ => ⟨a, rfl⟩
  refine ⟨x, _, _, _, rfl, hx, pa_cons (pe_joined (.cons pe_str (.cons (pe_fmt (pe_cl Cshown hr (by rfl) (pa_cons (pv 1) pa_nil))) (.cons pe_str .nil)))) pa_nil, (pss_one (ps_ost (pv 0) (pv 1))), ?_⟩
  have hst : NdefX.startF ["self", "point", "__class__"] [V.ref x, v1] [w0] = [some (V.ref x), some v1, w0] := rfl
  rw [hst]
  refine js_parts (fun out => ?_) (js_cons prt_lit (js_cons (prt_shn rfl o1) (js_cons prt_lit js_nil))) (by decide)
  refine ⟨by show 1 ≤ 1000; decide, hx, ?_⟩
  refine ⟨_, rfl, _, rfl, x, C, rfl, D.T, hno1, .inl ⟨hx, fun dx n ne => ?_⟩⟩
  have i1 := InS.first (C := C) (f := "point") (y := v1) n ne
  exact k dx _ i1
abbrev stini_OrderMatters : Stmt := clsFn (topS 23) 0
theorem scini_OrderMatters : NdefX.NScope ["self", "failing", "__class__"] ["self", "failing"] ["__class__"] (defScope stini_OrderMatters) := NdefX.nscope_by (by decide +kernel)
abbrev ErT_OrderMatters (P : Program) (w : World) (K : PySem.W.Frag) (mg : Str → Option Value) (base : Heap) : Prop := ErrC P w K mg base 2 "OrderMatters" (He.ga K "OrderMatters") (okP [2]) ["failing"]
theorem okini_OrderMatters {f c cda C : Addr} {fd : FuncData} (D : SupTxt P K mg C f c cda "__init__" "OrderMatters.__init__" (defArgs stini_OrderMatters) (defBody stini_OrderMatters) (defScope stini_OrderMatters) fd) (hno1 : PySem.W.findIn K (.ref C) "failing" = some none) (Cshown : Cl P w K mg base 1 "shown" ["value"] sp_shown) :
    FnOk P w K mg base CX0 2 f fd ["self", "failing"] (sp_ini C (okP [2]) ["failing"]) := by
  refine fn_super D scini_OrderMatters (by rfl) ⟨_, rfl⟩ (by decide) rfl (by decide +kernel) (fun _ => rfl) (fun _ => rfl) (fun _ => rfl) (fun vs H Q E h => ?_) (fun A outer s H vs ws Q E hr hw h => ?_)
  · obtain ⟨x, us, rfl, hl, _⟩ := h
    simp [hl]
  obtain ⟨x, us, rfl, hl, hok, hx, k⟩ := h
  obtain ⟨v1, rfl⟩ : ∃ (v1 : V), us = [v1] := match us, hl with | [v1], _ => ⟨v1, rfl⟩
  obtain ⟨o1, _⟩ := hok
  obtain ⟨w0, rfl⟩ : ∃ w0, ws = [w0] := match ws, hw with | [a], _ => ⟨a, rfl⟩
  refine ⟨x, _, _, _, rfl, hx, pa_cons pe_str pa_nil, (pss_one (ps_ost (pv 0) (pv 1))), ?_⟩
  have hst : NdefX.startF ["self", "failing", "__class__"] [V.ref x, v1] [w0] = [some (V.ref x), some v1, w0] := rfl
  rw [hst]
  refine ⟨by show 1 ≤ 1000; decide, hx, ?_⟩
  refine ⟨_, rfl, _, rfl, x, C, rfl, D.T, hno1, .inl ⟨hx, fun dx n ne => ?_⟩⟩
  have i1 := InS.first (C := C) (f := "failing") (y := v1) n ne
  exact k dx _ i1
abbrev stini_FullLot : Stmt := clsFn (topS 24) 0
theorem scini_FullLot : NdefX.NScope ["self", "lot", "__class__"] ["self", "lot"] ["__class__"] (defScope stini_FullLot) := NdefX.nscope_by (by decide +kernel)
abbrev ErT_FullLot (P : Program) (w : World) (K : PySem.W.Frag) (mg : Str → Option Value) (base : Heap) : Prop := ErrC P w K mg base 2 "FullLot" (He.ga K "FullLot") (okP [2]) ["lot"]
theorem okini_FullLot {f c cda C : Addr} {fd : FuncData} (D : SupTxt P K mg C f c cda "__init__" "FullLot.__init__" (defArgs stini_FullLot) (defBody stini_FullLot) (defScope stini_FullLot) fd) (hno1 : PySem.W.findIn K (.ref C) "lot" = some none) (Cshown : Cl P w K mg base 1 "shown" ["value"] sp_shown) :
    FnOk P w K mg base CX0 2 f fd ["self", "lot"] (sp_ini C (okP [2]) ["lot"]) := by
  refine fn_super D scini_FullLot (by rfl) ⟨_, rfl⟩ (by decide) rfl (by decide +kernel) (fun _ => rfl) (fun _ => rfl) (fun _ => rfl) (fun vs H Q E h => ?_) (fun A outer s H vs ws Q E hr hw h => ?_)
  · obtain ⟨x, us, rfl, hl, _⟩ := h
    simp [hl]
  obtain ⟨x, us, rfl, hl, hok, hx, k⟩ := h
  obtain ⟨v1, rfl⟩ : ∃ (v1 : V), us = [v1] := match us, hl with | [v1], _ => ⟨v1, rfl⟩
  obtain ⟨o1, _⟩ := hok
  obtain ⟨w0, rfl⟩ : ∃ w0, ws = [w0] := match ws, hw with | [a], _ => ⟨a, rfl⟩
  refine ⟨x, _, _, _, rfl, hx, pa_cons pe_str pa_nil, (pss_one (ps_ost (pv 0) (pv 1))), ?_⟩
  have hst : NdefX.startF ["self", "lot", "__class__"] [V.ref x, v1] [w0] = [some (V.ref x), some v1, w0] := rfl
  rw [hst]
  refine ⟨by show 1 ≤ 1000; decide, hx, ?_⟩
  refine ⟨_, rfl, _, rfl, x, C, rfl, D.T, hno1, .inl ⟨hx, fun dx n ne => ?_⟩⟩
  have i1 := InS.first (C := C) (f := "lot") (y := v1) n ne
  exact k dx _ i1
abbrev stini_NotAWord : Stmt := clsFn (topS 25) 0
theorem scini_NotAWord : NdefX.NScope ["self", "index", "__class__"] ["self", "index"] ["__class__"] (defScope stini_NotAWord) := NdefX.nscope_by (by decide +kernel)
abbrev ErT_NotAWord (P : Program) (w : World) (K : PySem.W.Frag) (mg : Str → Option Value) (base : Heap) : Prop := ErrC P w K mg base 2 "NotAWord" (He.ga K "NotAWord") (okP [0]) ["index"]
theorem okini_NotAWord {f c cda C : Addr} {fd : FuncData} (D : SupTxt P K mg C f c cda "__init__" "NotAWord.__init__" (defArgs stini_NotAWord) (defBody stini_NotAWord) (defScope stini_NotAWord) fd) (hno1 : PySem.W.findIn K (.ref C) "index" = some none) (Cshown : Cl P w K mg base 1 "shown" ["value"] sp_shown) :
    FnOk P w K mg base CX0 2 f fd ["self", "index"] (sp_ini C (okP [0]) ["index"]) := by
  refine fn_super D scini_NotAWord (by rfl) ⟨_, rfl⟩ (by decide) rfl (by decide +kernel) (fun _ => rfl) (fun _ => rfl) (fun _ => rfl) (fun vs H Q E h => ?_) (fun A outer s H vs ws Q E hr hw h => ?_)
  · obtain ⟨x, us, rfl, hl, _⟩ := h
    simp [hl]
  obtain ⟨x, us, rfl, hl, hok, hx, k⟩ := h
  obtain ⟨v1, rfl⟩ : ∃ (v1 : V), us = [v1] := match us, hl with | [v1], _ => ⟨v1, rfl⟩
  obtain ⟨o1, _⟩ := hok
  obtain ⟨w0, rfl⟩ : ∃ w0, ws = [w0] := match ws, hw with | [a], _ => ⟨a, rfl⟩
  refine ⟨x, _, _, _, rfl, hx, pa_cons (pe_joined (.cons pe_str (.cons (pe_fmt (pe_cl Cshown hr (by rfl) (pa_cons (pv 1) pa_nil))) (.cons pe_str .nil)))) pa_nil, (pss_one (ps_ost (pv 0) (pv 1))), ?_⟩
  have hst : NdefX.startF ["self", "index", "__class__"] [V.ref x, v1] [w0] = [some (V.ref x), some v1, w0] := rfl
  rw [hst]
  refine js_parts (fun out => ?_) (js_cons prt_lit (js_cons (prt_shn rfl o1) (js_cons prt_lit js_nil))) (by decide)
  refine ⟨by show 1 ≤ 1000; decide, hx, ?_⟩
  refine ⟨_, rfl, _, rfl, x, C, rfl, D.T, hno1, .inl ⟨hx, fun dx n ne => ?_⟩⟩
  have i1 := InS.first (C := C) (f := "index") (y := v1) n ne
  exact k dx _ i1
abbrev stini_NotAColumn : Stmt := clsFn (topS 26) 0
theorem scini_NotAColumn : NdefX.NScope ["self", "value", "__class__"] ["self", "value"] ["__class__"] (defScope stini_NotAColumn) := NdefX.nscope_by (by decide +kernel)
abbrev ErT_NotAColumn (P : Program) (w : World) (K : PySem.W.Frag) (mg : Str → Option Value) (base : Heap) : Prop := ErrC P w K mg base 2 "NotAColumn" (He.ga K "NotAColumn") (okP [0]) ["value"]
theorem okini_NotAColumn {f c cda C : Addr} {fd : FuncData} (D : SupTxt P K mg C f c cda "__init__" "NotAColumn.__init__" (defArgs stini_NotAColumn) (defBody stini_NotAColumn) (defScope stini_NotAColumn) fd) (hno1 : PySem.W.findIn K (.ref C) "value" = some none) (Cshown : Cl P w K mg base 1 "shown" ["value"] sp_shown) :
    FnOk P w K mg base CX0 2 f fd ["self", "value"] (sp_ini C (okP [0]) ["value"]) := by
  refine fn_super D scini_NotAColumn (by rfl) ⟨_, rfl⟩ (by decide) rfl (by decide +kernel) (fun _ => rfl) (fun _ => rfl) (fun _ => rfl) (fun vs H Q E h => ?_) (fun A outer s H vs ws Q E hr hw h => ?_)
  · obtain ⟨x, us, rfl, hl, _⟩ := h
    simp [hl]
  obtain ⟨x, us, rfl, hl, hok, hx, k⟩ := h
  obtain ⟨v1, rfl⟩ : ∃ (v1 : V), us = [v1] := match us, hl with | [v1], _ => ⟨v1, rfl⟩
  obtain ⟨o1, _⟩ := hok
  obtain ⟨w0, rfl⟩ : ∃ w0, ws = [w0] := match ws, hw with | [a], _ => ⟨a, rfl⟩
  refine ⟨x, _, _, _, rfl, hx, pa_cons (pe_joined (.cons (pe_fmt (pe_cl Cshown hr (by rfl) (pa_cons (pv 1) pa_nil))) (.cons pe_str .nil))) pa_nil, (pss_one (ps_ost (pv 0) (pv 1))), ?_⟩
  have hst : NdefX.startF ["self", "value", "__class__"] [V.ref x, v1] [w0] = [some (V.ref x), some v1, w0] := rfl
  rw [hst]
  refine js_parts (fun out => ?_) (js_cons (prt_shn rfl o1) (js_cons prt_lit js_nil)) (by decide)
  refine ⟨by show 1 ≤ 1000; decide, hx, ?_⟩
  refine ⟨_, rfl, _, rfl, x, C, rfl, D.T, hno1, .inl ⟨hx, fun dx n ne => ?_⟩⟩
  have i1 := InS.first (C := C) (f := "value") (y := v1) n ne
  exact k dx _ i1
abbrev stini_NotACount : Stmt := clsFn (topS 27) 0
theorem scini_NotACount : NdefX.NScope ["self", "index", "__class__"] ["self", "index"] ["__class__"] (defScope stini_NotACount) := NdefX.nscope_by (by decide +kernel)
abbrev ErT_NotACount (P : Program) (w : World) (K : PySem.W.Frag) (mg : Str → Option Value) (base : Heap) : Prop := ErrC P w K mg base 2 "NotACount" (He.ga K "NotACount") (okP [0]) ["index"]
theorem okini_NotACount {f c cda C : Addr} {fd : FuncData} (D : SupTxt P K mg C f c cda "__init__" "NotACount.__init__" (defArgs stini_NotACount) (defBody stini_NotACount) (defScope stini_NotACount) fd) (hno1 : PySem.W.findIn K (.ref C) "index" = some none) (Cshown : Cl P w K mg base 1 "shown" ["value"] sp_shown) :
    FnOk P w K mg base CX0 2 f fd ["self", "index"] (sp_ini C (okP [0]) ["index"]) := by
  refine fn_super D scini_NotACount (by rfl) ⟨_, rfl⟩ (by decide) rfl (by decide +kernel) (fun _ => rfl) (fun _ => rfl) (fun _ => rfl) (fun vs H Q E h => ?_) (fun A outer s H vs ws Q E hr hw h => ?_)
  · obtain ⟨x, us, rfl, hl, _⟩ := h
    simp [hl]
  obtain ⟨x, us, rfl, hl, hok, hx, k⟩ := h
  obtain ⟨v1, rfl⟩ : ∃ (v1 : V), us = [v1] := match us, hl with | [v1], _ => ⟨v1, rfl⟩
  obtain ⟨o1, _⟩ := hok
  obtain ⟨w0, rfl⟩ : ∃ w0, ws = [w0] := match ws, hw with | [a], _ => ⟨a, rfl⟩
  refine ⟨x, _, _, _, rfl, hx, pa_cons (pe_joined (.cons pe_str (.cons (pe_fmt (pe_cl Cshown hr (by rfl) (pa_cons (pv 1) pa_nil))) (.cons pe_str .nil)))) pa_nil, (pss_one (ps_ost (pv 0) (pv 1))), ?_⟩
  have hst : NdefX.startF ["self", "index", "__class__"] [V.ref x, v1] [w0] = [some (V.ref x), some v1, w0] := rfl
  rw [hst]
  refine js_parts (fun out => ?_) (js_cons prt_lit (js_cons (prt_shn rfl o1) (js_cons prt_lit js_nil))) (by decide)
  refine ⟨by show 1 ≤ 1000; decide, hx, ?_⟩
  refine ⟨_, rfl, _, rfl, x, C, rfl, D.T, hno1, .inl ⟨hx, fun dx n ne => ?_⟩⟩
  have i1 := InS.first (C := C) (f := "index") (y := v1) n ne
  exact k dx _ i1
abbrev stini_GameOver : Stmt := clsFn (topS 28) 0
theorem scini_GameOver : NdefX.NScope ["self", "locks", "__class__"] ["self", "locks"] ["__class__"] (defScope stini_GameOver) := NdefX.nscope_by (by decide +kernel)
abbrev ErT_GameOver (P : Program) (w : World) (K : PySem.W.Frag) (mg : Str → Option Value) (base : Heap) : Prop := ErrC P w K mg base 2 "GameOver" (He.ga K "GameOver") (okP [0]) ["locks"]
theorem okini_GameOver {f c cda C : Addr} {fd : FuncData} (D : SupTxt P K mg C f c cda "__init__" "GameOver.__init__" (defArgs stini_GameOver) (defBody stini_GameOver) (defScope stini_GameOver) fd) (hno1 : PySem.W.findIn K (.ref C) "locks" = some none) (Cshown : Cl P w K mg base 1 "shown" ["value"] sp_shown) :
    FnOk P w K mg base CX0 2 f fd ["self", "locks"] (sp_ini C (okP [0]) ["locks"]) := by
  refine fn_super D scini_GameOver (by rfl) ⟨_, rfl⟩ (by decide) rfl (by decide +kernel) (fun _ => rfl) (fun _ => rfl) (fun _ => rfl) (fun vs H Q E h => ?_) (fun A outer s H vs ws Q E hr hw h => ?_)
  · obtain ⟨x, us, rfl, hl, _⟩ := h
    simp [hl]
  obtain ⟨x, us, rfl, hl, hok, hx, k⟩ := h
  obtain ⟨v1, rfl⟩ : ∃ (v1 : V), us = [v1] := match us, hl with | [v1], _ => ⟨v1, rfl⟩
  obtain ⟨o1, _⟩ := hok
  obtain ⟨w0, rfl⟩ : ∃ w0, ws = [w0] := match ws, hw with | [a], _ => ⟨a, rfl⟩
  refine ⟨x, _, _, _, rfl, hx, pa_cons (pe_joined (.cons pe_str (.cons (pe_fmt (pe_cl Cshown hr (by rfl) (pa_cons (pv 1) pa_nil))) (.cons pe_str .nil)))) pa_nil, (pss_one (ps_ost (pv 0) (pv 1))), ?_⟩
  have hst : NdefX.startF ["self", "locks", "__class__"] [V.ref x, v1] [w0] = [some (V.ref x), some v1, w0] := rfl
  rw [hst]
  refine js_parts (fun out => ?_) (js_cons prt_lit (js_cons (prt_shn rfl o1) (js_cons prt_lit js_nil))) (by decide)
  refine ⟨by show 1 ≤ 1000; decide, hx, ?_⟩
  refine ⟨_, rfl, _, rfl, x, C, rfl, D.T, hno1, .inl ⟨hx, fun dx n ne => ?_⟩⟩
  have i1 := InS.first (C := C) (f := "locks") (y := v1) n ne
  exact k dx _ i1
abbrev stini_NotAllowed : Stmt := clsFn (topS 29) 0
theorem scini_NotAllowed : NdefX.NScope ["self", "point", "__class__"] ["self", "point"] ["__class__"] (defScope stini_NotAllowed) := NdefX.nscope_by (by decide +kernel)
abbrev ErT_NotAllowed (P : Program) (w : World) (K : PySem.W.Frag) (mg : Str → Option Value) (base : Heap) : Prop := ErrC P w K mg base 2 "NotAllowed" (He.ga K "NotAllowed") (okP [0]) ["point"]
theorem okini_NotAllowed {f c cda C : Addr} {fd : FuncData} (D : SupTxt P K mg C f c cda "__init__" "NotAllowed.__init__" (defArgs stini_NotAllowed) (defBody stini_NotAllowed) (defScope stini_NotAllowed) fd) (hno1 : PySem.W.findIn K (.ref C) "point" = some none) (Cshown : Cl P w K mg base 1 "shown" ["value"] sp_shown) :
    FnOk P w K mg base CX0 2 f fd ["self", "point"] (sp_ini C (okP [0]) ["point"]) := by
  refine fn_super D scini_NotAllowed (by rfl) ⟨_, rfl⟩ (by decide) rfl (by decide +kernel) (fun _ => rfl) (fun _ => rfl) (fun _ => rfl) (fun vs H Q E h => ?_) (fun A outer s H vs ws Q E hr hw h => ?_)
  · obtain ⟨x, us, rfl, hl, _⟩ := h
    simp [hl]
  obtain ⟨x, us, rfl, hl, hok, hx, k⟩ := h
  obtain ⟨v1, rfl⟩ : ∃ (v1 : V), us = [v1] := match us, hl with | [v1], _ => ⟨v1, rfl⟩
  obtain ⟨o1, _⟩ := hok
  obtain ⟨w0, rfl⟩ : ∃ w0, ws = [w0] := match ws, hw with | [a], _ => ⟨a, rfl⟩
  refine ⟨x, _, _, _, rfl, hx, pa_cons (pe_joined (.cons pe_str (.cons (pe_fmt (pe_cl Cshown hr (by rfl) (pa_cons (pv 1) pa_nil))) (.cons pe_str .nil)))) pa_nil, (pss_one (ps_ost (pv 0) (pv 1))), ?_⟩
  have hst : NdefX.startF ["self", "point", "__class__"] [V.ref x, v1] [w0] = [some (V.ref x), some v1, w0] := rfl
  rw [hst]
  refine js_parts (fun out => ?_) (js_cons prt_lit (js_cons (prt_shn rfl o1) (js_cons prt_lit js_nil))) (by decide)
  refine ⟨by show 1 ≤ 1000; decide, hx, ?_⟩
  refine ⟨_, rfl, _, rfl, x, C, rfl, D.T, hno1, .inl ⟨hx, fun dx n ne => ?_⟩⟩
  have i1 := InS.first (C := C) (f := "point") (y := v1) n ne
  exact k dx _ i1
abbrev stini_NothingToUndo : Stmt := clsFn (topS 30) 0
theorem scini_NothingToUndo : NdefX.NScope ["self", "__class__"] ["self"] ["__class__"] (defScope stini_NothingToUndo) := NdefX.nscope_by (by decide +kernel)
abbrev ErT_NothingToUndo (P : Program) (w : World) (K : PySem.W.Frag) (mg : Str → Option Value) (base : Heap) : Prop := ErrC0 P w K mg base 2 "NothingToUndo" (He.ga K "NothingToUndo")
theorem okini_NothingToUndo {f c cda C : Addr} {fd : FuncData} (D : SupTxt P K mg C f c cda "__init__" "NothingToUndo.__init__" (defArgs stini_NothingToUndo) (defBody stini_NothingToUndo) (defScope stini_NothingToUndo) fd) :
    FnOk P w K mg base CX0 2 f fd ["self"] (sp_ini0 C) := by
  refine fn_super D scini_NothingToUndo (by rfl) ⟨_, rfl⟩ (by decide) rfl (by decide +kernel) (fun _ => rfl) (fun _ => rfl) (fun _ => rfl) (fun vs H Q E h => ?_) (fun A outer s H vs ws Q E hr hw h => ?_)
  · obtain ⟨x, rfl, _⟩ := h
    rfl
  obtain ⟨x, rfl, hx, k⟩ := h
  obtain ⟨w0, rfl⟩ : ∃ w0, ws = [w0] := match ws, hw with | [a], _ => ⟨a, rfl⟩
  refine ⟨x, _, _, _, rfl, hx, pa_cons pe_str pa_nil, pss_nil, ?_⟩
  refine ⟨by show 1 ≤ 1000; decide, hx, ?_⟩
  exact k
abbrev stini_NothingToRedo : Stmt := clsFn (topS 31) 0
theorem scini_NothingToRedo : NdefX.NScope ["self", "__class__"] ["self"] ["__class__"] (defScope stini_NothingToRedo) := NdefX.nscope_by (by decide +kernel)
abbrev ErT_NothingToRedo (P : Program) (w : World) (K : PySem.W.Frag) (mg : Str → Option Value) (base : Heap) : Prop := ErrC0 P w K mg base 2 "NothingToRedo" (He.ga K "NothingToRedo")
theorem okini_NothingToRedo {f c cda C : Addr} {fd : FuncData} (D : SupTxt P K mg C f c cda "__init__" "NothingToRedo.__init__" (defArgs stini_NothingToRedo) (defBody stini_NothingToRedo) (defScope stini_NothingToRedo) fd) :
    FnOk P w K mg base CX0 2 f fd ["self"] (sp_ini0 C) := by
  refine fn_super D scini_NothingToRedo (by rfl) ⟨_, rfl⟩ (by decide) rfl (by decide +kernel) (fun _ => rfl) (fun _ => rfl) (fun _ => rfl) (fun vs H Q E h => ?_) (fun A outer s H vs ws Q E hr hw h => ?_)
  · obtain ⟨x, rfl, _⟩ := h
    rfl
  obtain ⟨x, rfl, hx, k⟩ := h
  obtain ⟨w0, rfl⟩ : ∃ w0, ws = [w0] := match ws, hw with | [a], _ => ⟨a, rfl⟩
  refine ⟨x, _, _, _, rfl, hx, pa_cons pe_str pa_nil, pss_nil, ?_⟩
  refine ⟨by show 1 ≤ 1000; decide, hx, ?_⟩
  exact k
abbrev stini_NothingKept : Stmt := clsFn (topS 32) 0
theorem scini_NothingKept : NdefX.NScope ["self", "__class__"] ["self"] ["__class__"] (defScope stini_NothingKept) := NdefX.nscope_by (by decide +kernel)
abbrev ErT_NothingKept (P : Program) (w : World) (K : PySem.W.Frag) (mg : Str → Option Value) (base : Heap) : Prop := ErrC0 P w K mg base 2 "NothingKept" (He.ga K "NothingKept")
theorem okini_NothingKept {f c cda C : Addr} {fd : FuncData} (D : SupTxt P K mg C f c cda "__init__" "NothingKept.__init__" (defArgs stini_NothingKept) (defBody stini_NothingKept) (defScope stini_NothingKept) fd) :
    FnOk P w K mg base CX0 2 f fd ["self"] (sp_ini0 C) := by
  refine fn_super D scini_NothingKept (by rfl) ⟨_, rfl⟩ (by decide) rfl (by decide +kernel) (fun _ => rfl) (fun _ => rfl) (fun _ => rfl) (fun vs H Q E h => ?_) (fun A outer s H vs ws Q E hr hw h => ?_)
  · obtain ⟨x, rfl, _⟩ := h
    rfl
  obtain ⟨x, rfl, hx, k⟩ := h
  obtain ⟨w0, rfl⟩ : ∃ w0, ws = [w0] := match ws, hw with | [a], _ => ⟨a, rfl⟩
  refine ⟨x, _, _, _, rfl, hx, pa_cons pe_str pa_nil, pss_nil, ?_⟩
  refine ⟨by show 1 ≤ 1000; decide, hx, ?_⟩
  exact k
abbrev stini_BadEdit : Stmt := clsFn (topS 33) 0
theorem scini_BadEdit : NdefX.NScope ["self", "index", "__class__"] ["self", "index"] ["__class__"] (defScope stini_BadEdit) := NdefX.nscope_by (by decide +kernel)
abbrev ErT_BadEdit (P : Program) (w : World) (K : PySem.W.Frag) (mg : Str → Option Value) (base : Heap) : Prop := ErrC P w K mg base 2 "BadEdit" (He.ga K "BadEdit") (okP [0]) ["index"]
theorem okini_BadEdit {f c cda C : Addr} {fd : FuncData} (D : SupTxt P K mg C f c cda "__init__" "BadEdit.__init__" (defArgs stini_BadEdit) (defBody stini_BadEdit) (defScope stini_BadEdit) fd) (hno1 : PySem.W.findIn K (.ref C) "index" = some none) (Cshown : Cl P w K mg base 1 "shown" ["value"] sp_shown) :
    FnOk P w K mg base CX0 2 f fd ["self", "index"] (sp_ini C (okP [0]) ["index"]) := by
  refine fn_super D scini_BadEdit (by rfl) ⟨_, rfl⟩ (by decide) rfl (by decide +kernel) (fun _ => rfl) (fun _ => rfl) (fun _ => rfl) (fun vs H Q E h => ?_) (fun A outer s H vs ws Q E hr hw h => ?_)
  · obtain ⟨x, us, rfl, hl, _⟩ := h
    simp [hl]
  obtain ⟨x, us, rfl, hl, hok, hx, k⟩ := h
  obtain ⟨v1, rfl⟩ : ∃ (v1 : V), us = [v1] := match us, hl with | [v1], _ => ⟨v1, rfl⟩
  obtain ⟨o1, _⟩ := hok
  obtain ⟨w0, rfl⟩ : ∃ w0, ws = [w0] := match ws, hw with | [a], _ => ⟨a, rfl⟩
  refine ⟨x, _, _, _, rfl, hx, pa_cons (pe_joined (.cons pe_str (.cons (pe_fmt (pe_cl Cshown hr (by rfl) (pa_cons (pv 1) pa_nil))) (.cons pe_str .nil)))) pa_nil, (pss_one (ps_ost (pv 0) (pv 1))), ?_⟩
  have hst : NdefX.startF ["self", "index", "__class__"] [V.ref x, v1] [w0] = [some (V.ref x), some v1, w0] := rfl
  rw [hst]
  refine js_parts (fun out => ?_) (js_cons prt_lit (js_cons (prt_shn rfl o1) (js_cons prt_lit js_nil))) (by decide)
  refine ⟨by show 1 ≤ 1000; decide, hx, ?_⟩
  refine ⟨_, rfl, _, rfl, x, C, rfl, D.T, hno1, .inl ⟨hx, fun dx n ne => ?_⟩⟩
  have i1 := InS.first (C := C) (f := "index") (y := v1) n ne
  exact k dx _ i1
abbrev stini_UnknownName : Stmt := clsFn (topS 34) 0
theorem scini_UnknownName : NdefX.NScope ["self", "name", "__class__"] ["self", "name"] ["__class__"] (defScope stini_UnknownName) := NdefX.nscope_by (by decide +kernel)
abbrev ErT_UnknownName (P : Program) (w : World) (K : PySem.W.Frag) (mg : Str → Option Value) (base : Heap) : Prop := ErrC P w K mg base 2 "UnknownName" (He.ga K "UnknownName") (okP [2]) ["name"]
theorem okini_UnknownName {f c cda C : Addr} {fd : FuncData} (D : SupTxt P K mg C f c cda "__init__" "UnknownName.__init__" (defArgs stini_UnknownName) (defBody stini_UnknownName) (defScope stini_UnknownName) fd) (hno1 : PySem.W.findIn K (.ref C) "name" = some none) (Cshown : Cl P w K mg base 1 "shown" ["value"] sp_shown) :
    FnOk P w K mg base CX0 2 f fd ["self", "name"] (sp_ini C (okP [2]) ["name"]) := by
  refine fn_super D scini_UnknownName (by rfl) ⟨_, rfl⟩ (by decide) rfl (by decide +kernel) (fun _ => rfl) (fun _ => rfl) (fun _ => rfl) (fun vs H Q E h => ?_) (fun A outer s H vs ws Q E hr hw h => ?_)
  · obtain ⟨x, us, rfl, hl, _⟩ := h
    simp [hl]
  obtain ⟨x, us, rfl, hl, hok, hx, k⟩ := h
  obtain ⟨v1, rfl⟩ : ∃ (v1 : V), us = [v1] := match us, hl with | [v1], _ => ⟨v1, rfl⟩
  obtain ⟨o1, _⟩ := hok
  obtain ⟨w0, rfl⟩ : ∃ w0, ws = [w0] := match ws, hw with | [a], _ => ⟨a, rfl⟩
  refine ⟨x, _, _, _, rfl, hx, pa_cons pe_str pa_nil, (pss_one (ps_ost (pv 0) (pv 1))), ?_⟩
  have hst : NdefX.startF ["self", "name", "__class__"] [V.ref x, v1] [w0] = [some (V.ref x), some v1, w0] := rfl
  rw [hst]
  refine ⟨by show 1 ≤ 1000; decide, hx, ?_⟩
  refine ⟨_, rfl, _, rfl, x, C, rfl, D.T, hno1, .inl ⟨hx, fun dx n ne => ?_⟩⟩
  have i1 := InS.first (C := C) (f := "name") (y := v1) n ne
  exact k dx _ i1
abbrev stini_NotAPaper : Stmt := clsFn (topS 35) 0
theorem scini_NotAPaper : NdefX.NScope ["self", "__class__"] ["self"] ["__class__"] (defScope stini_NotAPaper) := NdefX.nscope_by (by decide +kernel)
abbrev ErT_NotAPaper (P : Program) (w : World) (K : PySem.W.Frag) (mg : Str → Option Value) (base : Heap) : Prop := ErrC0 P w K mg base 2 "NotAPaper" (He.ga K "NotAPaper")
theorem okini_NotAPaper {f c cda C : Addr} {fd : FuncData} (D : SupTxt P K mg C f c cda "__init__" "NotAPaper.__init__" (defArgs stini_NotAPaper) (defBody stini_NotAPaper) (defScope stini_NotAPaper) fd) :
    FnOk P w K mg base CX0 2 f fd ["self"] (sp_ini0 C) := by
  refine fn_super D scini_NotAPaper (by rfl) ⟨_, rfl⟩ (by decide) rfl (by decide +kernel) (fun _ => rfl) (fun _ => rfl) (fun _ => rfl) (fun vs H Q E h => ?_) (fun A outer s H vs ws Q E hr hw h => ?_)
  · obtain ⟨x, rfl, _⟩ := h
    rfl
  obtain ⟨x, rfl, hx, k⟩ := h
  obtain ⟨w0, rfl⟩ : ∃ w0, ws = [w0] := match ws, hw with | [a], _ => ⟨a, rfl⟩
  refine ⟨x, _, _, _, rfl, hx, pa_cons pe_str pa_nil, pss_nil, ?_⟩
  refine ⟨by show 1 ≤ 1000; decide, hx, ?_⟩
  exact k
end

/-! ## E4 -/
local macro_rules | `(tactic| walk_at "wp") => `(tactic| (try simp only [a_var, a_c, a_op, a_un, a_test, a_b, a_and, a_or, a_not, a_andV, a_orV, a_notV, a_if, a_next, a_seq, a_break, a_cont, a_drop, a_ret, a_retN, a_ifS, a_asg, a_name, a_sub, a_nil, a_cons, a_tup, a_lst, a_call, a_cb, a_bm0, a_bm, a_sl, a_nopart, a_part, a_aug, b_rI, b_rI0, b_rU, b_eq, b_ne, b_isTF, b_int, b_intb, b_list, b_tuple, b_ix, b_len, b_setL, b_app, b_pop, b_popAt, b_sl, b_rep, b_cat, b_lstRg, b_tupRg, b_rg1, b_rg2, a_forR, a_forR2, a_forS, b_fsq, a_lcR, a_lcR2, a_lcS, b_csq, wipe_nil, wipe_cons, a_yes, wh_i, wh_s, wh_b, wh_r, wh_n, Bool.not_eq_true, eq_self, not_true_eq_false, not_false_eq_true, b_isi, kb_all, ty_non, ty_bl, ty_int, ty_str, a_m1, b_ixS, b_slS, List.cons.injEq, and_assoc, exists_and_left, cxK, List.getElem?_cons_zero, List.getElem?_cons_succ, List.set_cons_zero, List.set_cons_succ, Option.some.injEq, exists_eq_left', exists_eq_left, V.bl.injEq, V.int.injEq, V.ref.injEq, V.str.injEq, HO.lst.injEq, HO.tup.injEq, decide_eq_true_eq, true_and, and_true, L2.start, List.map_cons, List.map_nil, List.length_cons, List.length_nil, Nat.zero_add, Nat.reduceAdd, Nat.reduceSub, List.replicate_succ, List.replicate_zero, List.cons_append, List.nil_append, if_true, if_false, Bool.false_eq_true, Bool.not_true, Bool.not_false, decide_not, Bool.not_eq_true', decide_eq_false_iff_not, scal_ii, scal_bb, scal_ss, scal_is, scal_si, reduceCtorEq, Bool.true_eq_false, decide_false, decide_true, if_pos, ne_eq, Int.reduceNeg, atI_0, atI_1, atI_2, atI_3, atI_4, atI_5, atI_6, ixN_7, b_ins, a_revL, b_isT, V.ty.injEq, Bool.true_or, Bool.or_true, Bool.false_or, Bool.or_false, Bool.or_self, b_sorted, b_repT, a_err, a_callS, a_xp, a_isP, a_lcE, a_forE, a_isV, a_lcH, a_ch, a_forES]))
local macro_rules | `(tactic| walk_at "wps") => `(tactic| (try simp only [a_var, a_c, a_op, a_un, a_test, a_b, a_and, a_or, a_not, a_andV, a_orV, a_notV, a_if, a_next, a_seq, a_break, a_cont, a_drop, a_ret, a_retN, a_ifS, a_asg, a_name, a_sub, a_nil, a_cons, a_tup, a_lst, a_call, a_cb, a_bm0, a_bm, a_sl, a_nopart, a_part, a_aug, b_rI, b_rI0, b_rU, b_eq, b_ne, b_isTF, b_int, b_intb, b_list, b_tuple, b_ix, b_len, b_setL, b_app, b_pop, b_popAt, b_sl, b_rep, b_cat, b_lstRg, b_tupRg, b_rg1, b_rg2, a_forR, a_forR2, a_forS, b_fsq, a_lcR, a_lcR2, a_lcS, b_csq, wipe_nil, wipe_cons, a_yes, wh_i, wh_s, wh_b, wh_r, wh_n, Bool.not_eq_true, eq_self, not_true_eq_false, not_false_eq_true, b_isi, kb_all, ty_non, ty_bl, ty_int, ty_str, a_m1, b_ixS, b_slS, List.cons.injEq, and_assoc, exists_and_left, cxK, List.getElem?_cons_zero, List.getElem?_cons_succ, List.set_cons_zero, List.set_cons_succ, Option.some.injEq, exists_eq_left', exists_eq_left, V.bl.injEq, V.int.injEq, V.ref.injEq, V.str.injEq, HO.lst.injEq, HO.tup.injEq, decide_eq_true_eq, true_and, and_true, L2.start, List.map_cons, List.map_nil, List.length_cons, List.length_nil, Nat.zero_add, Nat.reduceAdd, Nat.reduceSub, List.replicate_succ, List.replicate_zero, List.cons_append, List.nil_append, if_true, if_false, Bool.false_eq_true, Bool.not_true, Bool.not_false, decide_not, Bool.not_eq_true', decide_eq_false_iff_not, scal_ii, scal_bb, scal_ss, scal_is, scal_si, reduceCtorEq, Bool.true_eq_false, decide_false, decide_true, if_pos, ne_eq, Int.reduceNeg, atI_0, atI_1, atI_2, atI_3, atI_4, atI_5, atI_6, ixN_7, b_ins, a_revL, b_isT, V.ty.injEq, Bool.true_or, Bool.or_true, Bool.false_or, Bool.or_false, Bool.or_self, b_sorted, b_repT, a_err, a_callS, a_xp, a_isP, a_lcE, a_forE, a_isV, a_lcH, a_ch, a_forES, *]))
local macro_rules | `(tactic| walk_at "wq") => `(tactic| (try simp only [a_var, a_c, a_op, a_un, a_test, a_b, a_and, a_or, a_not, a_andV, a_orV, a_notV, a_if, a_next, a_break, a_cont, a_drop, a_ret, a_retN, a_ifS, a_asg, a_name, a_sub, a_nil, a_cons, a_tup, a_lst, a_call, a_cb, a_bm0, a_bm, a_sl, a_nopart, a_part, a_aug, b_rI, b_rI0, b_rU, b_eq, b_ne, b_isTF, b_int, b_intb, b_list, b_tuple, b_ix, b_len, b_setL, b_app, b_pop, b_popAt, b_sl, b_rep, b_cat, b_lstRg, b_tupRg, b_rg1, b_rg2, a_forR, a_forR2, a_forS, b_fsq, a_lcR, a_lcR2, a_lcS, b_csq, wipe_nil, wipe_cons, a_yes, wh_i, wh_s, wh_b, wh_r, wh_n, Bool.not_eq_true, eq_self, not_true_eq_false, not_false_eq_true, b_isi, kb_all, ty_non, ty_bl, ty_int, ty_str, a_m1, b_ixS, b_slS, List.cons.injEq, and_assoc, exists_and_left, cxK, List.getElem?_cons_zero, List.getElem?_cons_succ, List.set_cons_zero, List.set_cons_succ, Option.some.injEq, exists_eq_left', exists_eq_left, V.bl.injEq, V.int.injEq, V.ref.injEq, V.str.injEq, HO.lst.injEq, HO.tup.injEq, decide_eq_true_eq, true_and, and_true, L2.start, List.map_cons, List.map_nil, List.length_cons, List.length_nil, Nat.zero_add, Nat.reduceAdd, Nat.reduceSub, List.replicate_succ, List.replicate_zero, List.cons_append, List.nil_append, if_true, if_false, Bool.false_eq_true, Bool.not_true, Bool.not_false, decide_not, Bool.not_eq_true', decide_eq_false_iff_not, scal_ii, scal_bb, scal_ss, scal_is, scal_si, reduceCtorEq, Bool.true_eq_false, decide_false, decide_true, if_pos, ne_eq, Int.reduceNeg, atI_0, atI_1, atI_2, atI_3, atI_4, atI_5, atI_6, ixN_7, b_ins, a_revL, b_isT, V.ty.injEq, Bool.true_or, Bool.or_true, Bool.false_or, Bool.or_false, Bool.or_self, b_sorted, b_repT, a_err, a_callS, a_xp, a_isP, a_lcE, a_forE, a_isV, a_lcH, a_ch, a_forES, *]))
local macro_rules | `(tactic| walk_at "wn") => `(tactic| (try simp only [a_var, a_c, a_op, a_un, a_test, a_b, a_and, a_or, a_not, a_andV, a_orV, a_notV, a_if, a_next, a_break, a_cont, a_drop, a_ret, a_retN, a_ifS, a_asg, a_name, a_sub, a_nil, a_cons, a_tup, a_lst, a_call, a_cb, a_bm0, a_bm, a_sl, a_nopart, a_part, a_aug, b_rI, b_rI0, b_rU, b_eq, b_ne, b_isTF, b_int, b_intb, b_list, b_tuple, b_ix, b_len, b_setL, b_app, b_pop, b_popAt, b_sl, b_rep, b_cat, b_lstRg, b_tupRg, b_rg1, b_rg2, a_forR, a_forR2, a_forS, b_fsq, a_lcR, a_lcR2, a_lcS, b_csq, wipe_nil, wipe_cons, a_yes, wh_i, wh_s, wh_b, wh_r, wh_n, Bool.not_eq_true, eq_self, not_true_eq_false, not_false_eq_true, b_isi, kb_all, ty_non, ty_bl, ty_int, ty_str, a_m1, b_ixS, b_slS, List.cons.injEq, and_assoc, exists_and_left, cxK, List.getElem?_cons_zero, List.getElem?_cons_succ, List.set_cons_zero, List.set_cons_succ, Option.some.injEq, exists_eq_left', exists_eq_left, V.bl.injEq, V.int.injEq, V.ref.injEq, V.str.injEq, HO.lst.injEq, HO.tup.injEq, decide_eq_true_eq, true_and, and_true, L2.start, List.map_cons, List.map_nil, List.length_cons, List.length_nil, Nat.zero_add, Nat.reduceAdd, Nat.reduceSub, List.replicate_succ, List.replicate_zero, List.cons_append, List.nil_append, if_true, if_false, Bool.false_eq_true, Bool.not_true, Bool.not_false, decide_not, Bool.not_eq_true', decide_eq_false_iff_not, scal_ii, scal_bb, scal_ss, scal_is, scal_si, reduceCtorEq, Bool.true_eq_false, decide_false, decide_true, if_pos, ne_eq, Int.reduceNeg, atI_0, atI_1, atI_2, atI_3, atI_4, atI_5, atI_6, ixN_7, b_ins, a_revL, b_isT, V.ty.injEq, Bool.true_or, Bool.or_true, Bool.false_or, Bool.or_false, Bool.or_self, b_sorted, b_repT, a_err, a_callS, a_xp, a_isP, a_lcE, a_forE, a_isV, a_lcH, a_ch, a_forES]))
local macro_rules | `(tactic| walk_at "sq") => `(tactic| ((try dsimp only); rw [a_seq]; walk_at "wq"))
local macro_rules | `(tactic| walk_at "sn") => `(tactic| ((try dsimp only); rw [a_seq]; walk_at "wn"))

section
variable {P : Program} {w : World} {K : PySem.W.Frag} {mg : Str → Option Value} {base : Heap} {C : Addr}
def sp_iswH : HSp := fun _ _ _ vs H Q _ => ∃ (v : V) (d : PyData) (n : Nat) (E : List Addr), vs = [v] ∧ Dw E H v d n ∧ Q (.bl (isWh v)) H
theorem ok_law_is_wholeH (D : Df K mg "_law_is_whole" st_law_is_whole) (T : NoB mg)  : ClH P w K mg base 1 "_law_is_whole" ["value"] sp_iswH := by
  refine clH_of D sc_law_is_whole (fun _ _ _ _ _ _ us hl => match us, hl with | [_], _ => rfl) (fun _ _ _ vs H Q E h => ?_) (fun f cdv A outer sh H vs Q E p cls dd hot hz hc hr h => ?_)
  · obtain ⟨_, _, _, _, rfl, _⟩ := h; rfl
  have hf : ∃ vs, p.2.data = .fields vs := hot.2.imp fun _ h => h.1
  obtain ⟨v, d, n, E, rfl, hv, k⟩ := h
  refine ⟨_, (pss_one (ps_ret (pe_and (pe_callB isi1 (by rfl) T.no_isinstance (by decide +kernel) (pa_cons (pv 0) (pa_cons (pe_bltn (by rfl) T.no_int (by decide +kernel) (show RelV (.ty "int") _ from rfl)) pa_nil))) (pe_one (pe_not (pe_callB isi1 (by rfl) T.no_isinstance (by decide +kernel) (pa_cons (pv 0) (pa_cons (pe_bltn (by rfl) T.no_bool (by decide +kernel) (show RelV (.ty "bool") _ from rfl)) pa_nil)))))))), ?_⟩
  cases hv with
  | lf l => cases l <;> (walk_at "wps"; exact k)
  | lst ne h a =>
    have ht := ty_l h
    walk_at "wps"
    exact k
  | tup ne h a =>
    have ht := ty_t h
    walk_at "wps"
    exact k
theorem _root_.Ho.XdAt.kp {d : Option Addr} {H H' : Hp} (h : XdAt d H) (s : Same H H') : XdAt d H' := by
  cases d with
  | none => trivial
  | some dd => exact h.imp fun fs e => s _ _ e
def sp_aloneH (K : PySem.W.Frag) (mg : Str → Option Value) : HSp := fun a c d vs H Q _ => ∃ En : Str, ErN K mg En ∧ (errNames.filter fun z => decide (z = En)).length = 1 ∧ vs = [.ref a] ∧ c = .ref (He.ga K En) ∧ XdAt d H ∧ ∀ H', Same H H' → Q (.bl true) H'
abbrev st_law_alone : Stmt := topS 64
theorem sc_law_alone : FnScope ["error", "of", "one", "entry"] ["error"] (defScope st_law_alone) := ⟨rfl, rfl, rfl, by decide +kernel, rfl, by decide +kernel, by decide +kernel⟩
theorem ok_law_aloneH (D : Df K mg "_law_alone" st_law_alone) (T : NoB mg)  : ClH P w K mg base 1 "_law_alone" ["error"] (sp_aloneH K mg) := by
  refine clH_of D sc_law_alone (fun _ _ _ _ _ _ us hl => match us, hl with | [_], _ => rfl) (fun _ _ _ vs H Q E h => ?_) (fun f cdv A outer sh H vs Q E p cls dd hot hz hc hr h => ?_)
  · obtain ⟨_, _, _, rfl, _⟩ := h; rfl
  have hf : ∃ vs, p.2.data = .fields vs := hot.2.imp fun _ h => h.1
  obtain ⟨En, EN, hEn, rfl, rfl, hx, k⟩ := h
  refine ⟨_, (pss_cons (ps_set (i := 1) sc_law_alone.nd rfl (Or.inl rfl) (pe_lst (pa_cons (pe_isE EN List.mem_cons_self hz hf T.no_isinstance (by rfl) (pv 0) (by rfl)) (pa_cons (pe_isE EN List.mem_cons_self hz hf T.no_isinstance (by rfl) (pv 0) (by rfl)) (pa_cons (pe_isE EN List.mem_cons_self hz hf T.no_isinstance (by rfl) (pv 0) (by rfl)) pa_nil)))))
    (pss_cons (ps_set (i := 1) sc_law_alone.nd rfl (Or.inl rfl) (pe_op op_cat (pv 1) (pe_lst (pa_cons (pe_isE EN List.mem_cons_self hz hf T.no_isinstance (by rfl) (pv 0) (by rfl)) (pa_cons (pe_isE EN List.mem_cons_self hz hf T.no_isinstance (by rfl) (pv 0) (by rfl)) (pa_cons (pe_isE EN List.mem_cons_self hz hf T.no_isinstance (by rfl) (pv 0) (by rfl)) pa_nil))))))
    (pss_cons (ps_set (i := 1) sc_law_alone.nd rfl (Or.inl rfl) (pe_op op_cat (pv 1) (pe_lst (pa_cons (pe_isE EN List.mem_cons_self hz hf T.no_isinstance (by rfl) (pv 0) (by rfl)) (pa_cons (pe_isE EN List.mem_cons_self hz hf T.no_isinstance (by rfl) (pv 0) (by rfl)) (pa_cons (pe_isE EN List.mem_cons_self hz hf T.no_isinstance (by rfl) (pv 0) (by rfl)) pa_nil))))))
    (pss_cons (ps_set (i := 1) sc_law_alone.nd rfl (Or.inl rfl) (pe_op op_cat (pv 1) (pe_lst (pa_cons (pe_isE EN List.mem_cons_self hz hf T.no_isinstance (by rfl) (pv 0) (by rfl)) (pa_cons (pe_isE EN List.mem_cons_self hz hf T.no_isinstance (by rfl) (pv 0) (by rfl)) (pa_cons (pe_isE EN List.mem_cons_self hz hf T.no_isinstance (by rfl) (pv 0) (by rfl)) pa_nil))))))
    (pss_cons (ps_set (i := 1) sc_law_alone.nd rfl (Or.inl rfl) (pe_op op_cat (pv 1) (pe_lst (pa_cons (pe_isE EN List.mem_cons_self hz hf T.no_isinstance (by rfl) (pv 0) (by rfl)) (pa_cons (pe_isE EN List.mem_cons_self hz hf T.no_isinstance (by rfl) (pv 0) (by rfl)) (pa_cons (pe_isE EN List.mem_cons_self hz hf T.no_isinstance (by rfl) (pv 0) (by rfl)) pa_nil))))))
    (pss_cons (ps_set (i := 1) sc_law_alone.nd rfl (Or.inl rfl) (pe_op op_cat (pv 1) (pe_lst (pa_cons (pe_isE EN List.mem_cons_self hz hf T.no_isinstance (by rfl) (pv 0) (by rfl)) (pa_cons (pe_isE EN List.mem_cons_self hz hf T.no_isinstance (by rfl) (pv 0) (by rfl)) (pa_cons (pe_isE EN List.mem_cons_self hz hf T.no_isinstance (by rfl) (pv 0) (by rfl)) pa_nil))))))
    (pss_cons (ps_set (i := 1) sc_law_alone.nd rfl (Or.inl rfl) (pe_op op_cat (pv 1) (pe_lst (pa_cons (pe_isE EN List.mem_cons_self hz hf T.no_isinstance (by rfl) (pv 0) (by rfl)) (pa_cons (pe_isE EN List.mem_cons_self hz hf T.no_isinstance (by rfl) (pv 0) (by rfl)) (pa_cons (pe_isE EN List.mem_cons_self hz hf T.no_isinstance (by rfl) (pv 0) (by rfl)) pa_nil))))))
    (pss_cons (ps_set (i := 1) sc_law_alone.nd rfl (Or.inl rfl) (pe_op op_cat (pv 1) (pe_lst (pa_cons (pe_isE EN List.mem_cons_self hz hf T.no_isinstance (by rfl) (pv 0) (by rfl)) (pa_cons (pe_isE EN List.mem_cons_self hz hf T.no_isinstance (by rfl) (pv 0) (by rfl)) (pa_cons (pe_isE EN List.mem_cons_self hz hf T.no_isinstance (by rfl) (pv 0) (by rfl)) pa_nil))))))
    (pss_cons (ps_set (i := 1) sc_law_alone.nd rfl (Or.inl rfl) (pe_op op_cat (pv 1) (pe_lst (pa_cons (pe_isE EN List.mem_cons_self hz hf T.no_isinstance (by rfl) (pv 0) (by rfl)) (pa_cons (pe_isE EN List.mem_cons_self hz hf T.no_isinstance (by rfl) (pv 0) (by rfl)) (pa_cons (pe_isE EN List.mem_cons_self hz hf T.no_isinstance (by rfl) (pv 0) (by rfl)) pa_nil))))))
    (pss_cons (ps_set (i := 1) sc_law_alone.nd rfl (Or.inl rfl) (pe_op op_cat (pv 1) (pe_lst (pa_cons (pe_isE EN List.mem_cons_self hz hf T.no_isinstance (by rfl) (pv 0) (by rfl)) (pa_cons (pe_isE EN List.mem_cons_self hz hf T.no_isinstance (by rfl) (pv 0) (by rfl)) (pa_cons (pe_isE EN List.mem_cons_self hz hf T.no_isinstance (by rfl) (pv 0) (by rfl)) pa_nil))))))
    (pss_cons (ps_set (i := 1) sc_law_alone.nd rfl (Or.inl rfl) (pe_op op_cat (pv 1) (pe_lst (pa_cons (pe_isE EN List.mem_cons_self hz hf T.no_isinstance (by rfl) (pv 0) (by rfl)) (pa_cons (pe_isE EN List.mem_cons_self hz hf T.no_isinstance (by rfl) (pv 0) (by rfl)) pa_nil)))))
    (pss_cons (ps_set (i := 2) sc_law_alone.nd rfl (Or.inl rfl) (pe_cmpR op_eq (pe_callB len1 (by rfl) T.no_len (by decide +kernel) (pa_cons (pe_lcH hc (own := [("entry", 3)]) (g := gName 3) (tt := _) sc_law_alone.nd (pv 1) (blkOk_by (own := [("entry", 3)]) (N := ["error", "of", "one", "entry"]) (sc := defScope st_law_alone) (by decide +kernel)) (fun _ _ _ _ _ _ => (pg_name (i := 3) sc_law_alone.nd rfl (Or.inl rfl))) (fun _ _ _ _ _ _ => (pts_one (pt_val (pv 3)))) (fun _ _ _ _ _ _ => (pv 3))) pa_nil)) pe_int (nomark _)))
    (pss_one (ps_ret (pe_and (pv 2) (pe_and (pe_isH EN List.mem_cons_self hz hf T.no_isinstance (by rfl) (pv 0) (by rfl)) (pe_one (pe_isVE EN List.mem_cons_self hz hf T.no_isinstance (by rfl) (pv 0) (by rfl))))))))))))))))))), ?_⟩
  rw [a_seq]
  walk_at "wn"
  refine ⟨hx, hx, hx, by rw [sizeLine_eq]; decide, fun p1 H1 n1 => ?_⟩
  have x1 := hx.kp n1.same
  have h1 := n1.at_
  have s1 := n1.same
  dsimp only
  rw [a_seq]
  walk_at "wn"
  refine ⟨x1, x1, x1, by rw [sizeLine_eq]; decide, fun r1 Ha1 na1 => ⟨_, na1.k h1, _, na1.at_, by rw [sizeLine_eq]; simp, fun q1 Hb1 nb1 => ?_⟩⟩
  have s2 := (s1.trans na1.same).trans nb1.same
  have x2 := hx.kp s2
  have h2 := nb1.at_
  dsimp only
  rw [a_seq]
  walk_at "wn"
  refine ⟨x2, x2, x2, by rw [sizeLine_eq]; decide, fun r2 Ha2 na2 => ⟨_, na2.k h2, _, na2.at_, by rw [sizeLine_eq]; simp, fun q2 Hb2 nb2 => ?_⟩⟩
  have s3 := (s2.trans na2.same).trans nb2.same
  have x3 := hx.kp s3
  have h3 := nb2.at_
  dsimp only
  rw [a_seq]
  walk_at "wn"
  refine ⟨x3, x3, x3, by rw [sizeLine_eq]; decide, fun r3 Ha3 na3 => ⟨_, na3.k h3, _, na3.at_, by rw [sizeLine_eq]; simp, fun q3 Hb3 nb3 => ?_⟩⟩
  have s4 := (s3.trans na3.same).trans nb3.same
  have x4 := hx.kp s4
  have h4 := nb3.at_
  dsimp only
  rw [a_seq]
  walk_at "wn"
  refine ⟨x4, x4, x4, by rw [sizeLine_eq]; decide, fun r4 Ha4 na4 => ⟨_, na4.k h4, _, na4.at_, by rw [sizeLine_eq]; simp, fun q4 Hb4 nb4 => ?_⟩⟩
  have s5 := (s4.trans na4.same).trans nb4.same
  have x5 := hx.kp s5
  have h5 := nb4.at_
  dsimp only
  rw [a_seq]
  walk_at "wn"
  refine ⟨x5, x5, x5, by rw [sizeLine_eq]; decide, fun r5 Ha5 na5 => ⟨_, na5.k h5, _, na5.at_, by rw [sizeLine_eq]; simp, fun q5 Hb5 nb5 => ?_⟩⟩
  have s6 := (s5.trans na5.same).trans nb5.same
  have x6 := hx.kp s6
  have h6 := nb5.at_
  dsimp only
  rw [a_seq]
  walk_at "wn"
  refine ⟨x6, x6, x6, by rw [sizeLine_eq]; decide, fun r6 Ha6 na6 => ⟨_, na6.k h6, _, na6.at_, by rw [sizeLine_eq]; simp, fun q6 Hb6 nb6 => ?_⟩⟩
  have s7 := (s6.trans na6.same).trans nb6.same
  have x7 := hx.kp s7
  have h7 := nb6.at_
  dsimp only
  rw [a_seq]
  walk_at "wn"
  refine ⟨x7, x7, x7, by rw [sizeLine_eq]; decide, fun r7 Ha7 na7 => ⟨_, na7.k h7, _, na7.at_, by rw [sizeLine_eq]; simp, fun q7 Hb7 nb7 => ?_⟩⟩
  have s8 := (s7.trans na7.same).trans nb7.same
  have x8 := hx.kp s8
  have h8 := nb7.at_
  dsimp only
  rw [a_seq]
  walk_at "wn"
  refine ⟨x8, x8, x8, by rw [sizeLine_eq]; decide, fun r8 Ha8 na8 => ⟨_, na8.k h8, _, na8.at_, by rw [sizeLine_eq]; simp, fun q8 Hb8 nb8 => ?_⟩⟩
  have s9 := (s8.trans na8.same).trans nb8.same
  have x9 := hx.kp s9
  have h9 := nb8.at_
  dsimp only
  rw [a_seq]
  walk_at "wn"
  refine ⟨x9, x9, x9, by rw [sizeLine_eq]; decide, fun r9 Ha9 na9 => ⟨_, na9.k h9, _, na9.at_, by rw [sizeLine_eq]; simp, fun q9 Hb9 nb9 => ?_⟩⟩
  have s10 := (s9.trans na9.same).trans nb9.same
  have x10 := hx.kp s10
  have h10 := nb9.at_
  dsimp only
  rw [a_seq]
  walk_at "wn"
  refine ⟨x10, x10, by rw [sizeLine_eq]; decide, fun r10 Ha10 na10 => ⟨_, na10.k h10, _, na10.at_, by rw [sizeLine_eq]; simp, fun q10 Hb10 nb10 => ?_⟩⟩
  have s11 := (s10.trans na10.same).trans nb10.same
  have x11 := hx.kp s11
  have h11 := nb10.at_
  dsimp only
  rw [a_seq]
  walk_at "wn"
  refine ⟨errNames.map fun z => V.bl (decide (z = En)), SqL.of h11, fun D hD => ⟨fun i => ((errNames.take i).filter fun z => decide (z = En)).map fun z => V.bl (decide (z = En)), rfl, fun i y hy => ?_, _, sq_l upd_same, ?_⟩⟩
  · obtain ⟨z, hz, ey⟩ : ∃ z, errNames[i]? = some z ∧ y = V.bl (decide (z = En)) := by
      rw [List.getElem?_map] at hy
      cases e : errNames[i]? with
      | none => rw [e] at hy; cases hy
      | some z => rw [e] at hy; exact ⟨z, rfl, (Option.some.inj hy).symm⟩
    subst ey
    refine ⟨?_, _, rfl, ?_⟩
    · dsimp only
      rw [List.length_map]
      have a1 := List.length_filter_le (fun z => decide (z = En)) (errNames.take i)
      have a2 : (errNames.take i).length ≤ 32 := by rw [List.length_take]; exact Nat.min_le_right _ _
      rw [sizeLine_eq]
      omega
    · have e1 : errNames.take (i + 1) = errNames.take i ++ [z] := by rw [List.take_add_one, hz]; rfl
      dsimp only
      rw [e1, List.filter_append, List.map_append]
      by_cases c : z = En
      · rw [if_pos (by simp [c]), List.filter_cons, if_pos (by simp [c])]
        rfl
      · rw [if_neg (by simp [c]), List.filter_cons, if_neg (by simp [c])]
        simp
  · rw [if_pos (by rw [List.length_map, List.length_map, List.take_length]; exact congrArg (fun n : Nat => (n : Int)) hEn)]
    have sf : Same Hb10 (upd Hb10 D (.lst (((errNames.take (errNames.map fun z => V.bl (decide (z = En))).length).filter fun z => decide (z = En)).map fun z => V.bl (decide (z = En))))) := (New.mk' hD).same
    have sg := s11.trans sf
    exact ⟨hx.kp sg, hx.kp sg, k _ sg⟩
def sp_sameH : HSp := fun _ _ _ vs H Q _ => ∃ (x y : V) (d : PyData) (n m : Nat), vs = [x, y] ∧ Dw [] H x d n ∧ Dw [] H y d m ∧ n ≤ 4000000 ∧ ∀ H', Same H H' → Q (.bl true) H'
theorem ok_law_sameH (D : Df K mg "_law_same" st_law_same) (T : NoB mg) (C_law_is_wholeH : ClH P w K mg base 1 "_law_is_whole" ["value"] sp_iswH) : ClH P w K mg base 2 "_law_same" ["actual", "due"] sp_sameH := by
  refine clH_of D sc_law_same (fun _ _ _ _ _ _ us hl => match us, hl with | [_, _], _ => rfl) (fun _ _ _ vs H Q E h => ?_) (fun f cdv A outer sh H vs Q E p cls dd hot hz hc hr h => ?_)
  · obtain ⟨_, _, _, _, _, rfl, _⟩ := h; rfl
  have hf : ∃ vs, p.2.data = .fields vs := hot.2.imp fun _ h => h.1
  obtain ⟨x, y, d, n, m, rfl, hx, hy, hn, k⟩ := h
  refine ⟨_, (pss_cons (ps_set (i := 2) sc_law_same.nd rfl (Or.inl rfl) (pe_lst (pa_cons (pe_tup (pa_cons (pv 0) (pa_cons (pv 1) pa_nil))) pa_nil)))
    (pss_cons (ps_while PassesOwn.never (pt_cmpR op_gt (pe_callB len1 (by rfl) T.no_len (by decide +kernel) (pa_cons (pv 2) pa_nil)) pe_int (nomark _)) (pss_cons (ps_set (i := 3) sc_law_same.nd rfl (Or.inl rfl) (pe_bm0 PySem.F.plainAttrs_list PySem.F.slot_list_pop PySem.F.type_list_pop mt_pop (pv 2)))
    (pss_cons (ps_set (i := 4) sc_law_same.nd rfl (Or.inl rfl) (pe_ix ix1 (pv 3) pe_int (fun _ _ => rfl)))
    (pss_cons (ps_set (i := 5) sc_law_same.nd rfl (Or.inl rfl) (pe_ix ix1 (pv 3) pe_int (fun _ _ => rfl)))
    (pss_one (ps_if (PW.pt (pw_or (pt_cmpR op_isN (pv 5) pe_non (nomark _)) (pw_or (pt_cmpR op_isTF (pv 5) pe_bl (nomark _)) (pw_or1 (pt_cmpR op_isTF (pv 5) pe_bl (nomark _)))))) (pss_one (ps_if (pt_not (PW.pt (pw_or (PW.pt (pw_and (pt_cmpR op_isN (pv 5) pe_non (nomark _)) (pw_and1 (pt_cmpR op_isN (pv 4) pe_non (nomark _))))) (pw_or (PW.pt (pw_and (pt_cmpR op_isTF (pv 5) pe_bl (nomark _)) (pw_and1 (pt_cmpR op_isTF (pv 4) pe_bl (nomark _))))) (pw_or1 (PW.pt (pw_and (pt_cmpR op_isTF (pv 5) pe_bl (nomark _)) (pw_and1 (pt_cmpR op_isTF (pv 4) pe_bl (nomark _)))))))))) (pss_one (ps_ret pe_bl)) pss_nil)) (pss_one (ps_if (pt_val (pe_callB isi1 (by rfl) T.no_isinstance (by decide +kernel) (pa_cons (pv 5) (pa_cons (pe_bltn (by rfl) T.no_int (by decide +kernel) (show RelV (.ty "int") _ from rfl)) pa_nil)))) (pss_one (ps_if (PW.pt (pw_or (pt_not (pt_val (pe_clH C_law_is_wholeH hot List.mem_cons_self hz hr (by rfl) (pa_cons (pv 4) pa_nil)))) (pw_or1 (pt_cmpR op_ne (pv 4) (pv 5) (nomark _))))) (pss_one (ps_ret pe_bl)) pss_nil)) (pss_one (ps_if (pt_val (pe_callB isi1 (by rfl) T.no_isinstance (by decide +kernel) (pa_cons (pv 5) (pa_cons (pe_bltn (by rfl) T.no_str (by decide +kernel) (show RelV (.ty "str") _ from rfl)) pa_nil)))) (pss_one (ps_if (PW.pt (pw_or (pt_not (pt_val (pe_callB isi1 (by rfl) T.no_isinstance (by decide +kernel) (pa_cons (pv 4) (pa_cons (pe_bltn (by rfl) T.no_str (by decide +kernel) (show RelV (.ty "str") _ from rfl)) pa_nil))))) (pw_or1 (pt_cmpR op_ne (pv 4) (pv 5) (nomark _))))) (pss_one (ps_ret pe_bl)) pss_nil)) (pss_cons (ps_if (PW.pt (pw_and (pt_val (pe_callB isi1 (by rfl) T.no_isinstance (by decide +kernel) (pa_cons (pv 5) (pa_cons (pe_bltn (by rfl) T.no_tuple (by decide +kernel) (show RelV (.ty "tuple") _ from rfl)) pa_nil)))) (pw_and1 (pt_not (pt_val (pe_callB isi1 (by rfl) T.no_isinstance (by decide +kernel) (pa_cons (pv 4) (pa_cons (pe_bltn (by rfl) T.no_tuple (by decide +kernel) (show RelV (.ty "tuple") _ from rfl)) pa_nil)))))))) (pss_one (ps_ret pe_bl)) pss_nil)
    (pss_cons (ps_if (PW.pt (pw_and (pt_val (pe_callB isi1 (by rfl) T.no_isinstance (by decide +kernel) (pa_cons (pv 5) (pa_cons (pe_bltn (by rfl) T.no_list (by decide +kernel) (show RelV (.ty "list") _ from rfl)) pa_nil)))) (pw_and1 (pt_not (pt_val (pe_callB isi1 (by rfl) T.no_isinstance (by decide +kernel) (pa_cons (pv 4) (pa_cons (pe_bltn (by rfl) T.no_list (by decide +kernel) (show RelV (.ty "list") _ from rfl)) pa_nil)))))))) (pss_one (ps_ret pe_bl)) pss_nil)
    (pss_cons (ps_if (pt_cmpR op_ne (pe_callB len1 (by rfl) T.no_len (by decide +kernel) (pa_cons (pv 4) pa_nil)) (pe_callB len1 (by rfl) T.no_len (by decide +kernel) (pa_cons (pv 5) pa_nil)) (nomark _)) (pss_one (ps_ret pe_bl)) pss_nil)
    (pss_one (L2H.ps_forH PassesOwn.never hc (L2H.pi_range1H (by rfl) T.no_range (pa_cons (pe_callB len1 (by rfl) T.no_len (by decide +kernel) (pa_cons (pv 5) pa_nil)) pa_nil)) (pg_name (i := 6) sc_law_same.nd rfl (Or.inl rfl)) (pss_one (ps_expr (pe_bm PySem.F.plainAttrs_list PySem.F.slot_list_append PySem.F.type_list_append mt_append (pv 2) (pa_cons (pe_tup (pa_cons (pe_ix ix1 (pv 4) (pv 6) (fun _ _ => rfl)) (pa_cons (pe_ix ix1 (pv 5) (pv 6) (fun _ _ => rfl)) pa_nil))) pa_nil)))))))))))))))))))
    (pss_one (ps_ret pe_bl)))), ?_⟩
  walk_at "sq"
  refine ⟨szl (by decide), fun t0 H1 n1 => ?_⟩
  walk_at "wq"
  refine ⟨szl (by decide), fun L H2 n2 => ?_⟩
  have s2 : Same H H2 := n1.same.trans n2.same
  have hL : H L = none := n1.same.free n2.fr
  walk_at "sq"
  refine wh_by (fun m σ H' => m ≤ 4000000 ∧ Same H H' ∧ ∃ xs v3 v4 v5 v6, σ = [some x, some y, some (.ref L), v3, v4, v5, v6] ∧ H' L = some (.lst xs) ∧ Its H H' xs m) n
    ⟨hn, s2, [.ref t0], _, _, _, _, rfl, n2.at_, by have := Its.snoc (H := H) (H' := H2) .nil (n2.k n1.at_) hx hy; simpa using this⟩ ?_
  rintro m _ H3 N R hN hR ⟨hm, s3, xs, v3, v4, v5, v6, rfl, e3, it⟩
  have hq := sq_l e3
  walk_at "wq"
  refine hR _ _ (wst (fun hb => ?_) (fun hb => ?_))
  · have hb : 0 < xs.length := by simpa using hb
    cases it with
    | nil => exact absurd hb (by simp)
    | @snoc xs m n' k' t a b d it et wa wb =>
      have htL : t ≠ L := ne_of et e3 (by intro z; cases z)
      walk_at "sq"
      refine ⟨tyl e3, .ref t, by simp, fun H4 n4 => ?_⟩
      have n4' : Put H3 L (.lst xs) H4 := by
        have e := List.dropLast_concat (l₁ := xs) (b := V.ref t)
        rw [e] at n4; exact n4
      clear n4
      have e4 := n4'.at_
      have et4 := n4'.k htL et
      have hq4 := sq_t et4
      have s4 : Same H H4 := fun b o e => n4'.k (ne_of_none e hL) (s3 _ _ e)
      have it4 : Its H H4 xs m := it.keep fun t ys e => n4'.k (ne_of e e3 (by intro z; cases z)) e
      walk_at "sq"
      walk_at "sq"
      have fin : N [some x, some y, some (.ref L), some (.ref t), some a, some b, v6] H4 := hN m _ _ (by have := wa.pos; omega) ⟨by omega, s4, xs, _, _, _, _, rfl, e4, it4⟩
      have loop : ∀ (ap bp : Addr) (as bs : List V) (ds : List PyData) (n1 k1 : Nat), sq H ap = some as → sq H bp = some bs → DwAll [] H as ds n1 → DwAll [] H bs ds k1 → n1 + 1 = n' → as.length = bs.length → FRg 0 bs.length (gName 6) (tDrop
            (tBM K "list" rAppend (tVar 2)
              (tCons (tTup (tCons (tOp rIx1 (tVar 4) (tVar 6)) (tCons (tOp rIx1 (tVar 5) (tVar 6)) tNil))) tNil)))
          { nx := N, rt := Q, bk := tRet (tC (V.bl true)) { nx := fun x H' => Q V.non H', rt := Q }, ct := N }
          [some x, some y, some (V.ref L), some (V.ref t), some (V.ref ap), some (V.ref bp), v6] H4 := by
        intro ap bp as bs ds n1 k1 qa qb da db hn1 hl
        refine fr_by (fun i σ H' => Same H H' ∧ ∃ ys v6 w r r', σ = [some x, some y, some (V.ref L), some (V.ref t), some (V.ref ap), some (V.ref bp), v6] ∧ H' L = some (.lst ys) ∧ Its H H' ys (m + w) ∧ DwAll [] H (as.drop i) (ds.drop i) r ∧ DwAll [] H (bs.drop i) (ds.drop i) r' ∧ w + r = n1)
          ⟨s4, xs, v6, 0, n1, k1, rfl, e4, it4, da, db, by omega⟩ ?_ ?_
        · rintro i _ H5 N' hN' hi ⟨s5, ys, v6, w, r, r', rfl, e5, it5, d5, d5', hw⟩
          have qa5 := same_sq s5 qa
          have qb5 := same_sq s5 qb
          have hia : i < as.length := by omega
          rw [List.drop_eq_getElem_cons hia] at d5
          rw [List.drop_eq_getElem_cons hi] at d5'
          generalize hd : ds.drop i = dd at d5 d5'
          cases d5 with
          | @cons _ _ d0 ds0 c1 c2 p1 p2 =>
            cases d5' with
            | @cons _ _ _ _ c3 c4 p3 p4 =>
              have hd1 : ds.drop (i + 1) = ds0 := by rw [← List.drop_drop, hd] <;> rfl
              walk_at "wq"
              refine ⟨tyl e5, as[i], atI_of (by omega) (by simp [hia]), bs[i], atI_of (by omega) (by simp [hi]), szl (by decide), fun t6 H6 n6 => ?_⟩
              have e6 := n6.k e5
              walk_at "wq"
              have hlen := it5.len
              refine ⟨szl' (by omega), fun H7 n7 => ?_⟩
              have ht6 : t6 ≠ L := (n6.ne e5).symm
              refine hN' _ _ ⟨n7.same (s5.trans n6.same) hL, _, _, w + c1, c2, c4, rfl, n7.at_, ?_, by rw [hd1]; exact p2, by rw [hd1]; exact p4, by omega⟩
              have it7 : Its H H7 ys (m + w) := it5.keep fun t ys e => n7.k (ne_of (n6.k e) e6 (by intro z; cases z)) (n6.k e)
              have := Its.snoc it7 (n7.k ht6 n6.at_) p1 p3
              rw [← Nat.add_assoc]
              exact this
        · rintro _ H5 ⟨s5, ys, v6, w, r, r', rfl, e5, it5, d5, d5', hw⟩
          exact hN (m + w) _ _ (by omega) ⟨by omega, s5, ys, _, _, _, _, rfl, e5, it5⟩
      cases wb with
      | lf l =>
        cases l with
        | non => cases wa with | lf l' => cases l'; walk_at "wps"; first | done | exact fin
        | bl c => cases wa with | lf l' => cases l'; cases c <;> walk_at "wps" <;> first | done | exact fin
        | int c =>
          cases wa with
          | lf l' =>
            cases l'
            walk_at "wps"
            refine ⟨.int c, .int c, 1, [], rfl, .lf (.int c), ?_⟩
            walk_at "wps"
        | str c => cases wa with | lf l' => cases l'; walk_at "wps"; first | done | exact fin
      | @lst bp bs ds k'' bne eb db =>
        cases wa with
        | lf l' => cases l'
        | @lst ap as _ n'' ane ea da =>
          have eb4 := s4 _ _ eb
          have ea4 := s4 _ _ ea
          have tb := ty_l eb4
          have ta := ty_l ea4
          have qb := sq_l eb4
          have qa := sq_l ea4
          walk_at "wps"
          have hl := da.len.1.trans db.len.1.symm
          have hl2 := da.len.2
          rw [if_neg (by omega)]
          exact ⟨by omega, by omega, loop ap bp as bs ds _ _ (sq_l ea) (sq_l eb) da db rfl hl⟩
      | @tup bp bs ds k'' bne eb db =>
        cases wa with
        | lf l' => cases l'
        | @tup ap as _ n'' ane ea da =>
          have eb4 := s4 _ _ eb
          have ea4 := s4 _ _ ea
          have tb := ty_t eb4
          have ta := ty_t ea4
          have qb := sq_t eb4
          have qa := sq_t ea4
          walk_at "wps"
          have hl := da.len.1.trans db.len.1.symm
          have hl2 := da.len.2
          rw [if_neg (by omega)]
          exact ⟨by omega, by omega, loop ap bp as bs ds _ _ (sq_t ea) (sq_t eb) da db rfl hl⟩
  · (walk_at "wq") <;> exact k _ s3
end

/-! ## HoI -/
def rotL (c : List Int) : List Int := c.tail ++ c.head?.toList
def rotR (c : List Int) : List Int := c.getLast?.toList ++ c.dropLast
theorem rotL_perm : ∀ c : List Int, (rotL c).Perm c
  | [] => .refl _
  | x :: r => by
    show (r ++ [x]).Perm (x :: r)
    exact List.perm_append_comm
theorem rotR_perm (c : List Int) : (rotR c).Perm c := by
  unfold rotR
  cases h : c.getLast? with
  | none =>
    have : c = [] := List.getLast?_eq_none_iff.mp h
    subst this
    exact .refl _
  | some x =>
    have e : c = c.dropLast ++ [x] := by
      obtain ⟨l, rfl⟩ := List.getLast?_eq_some_iff.mp h
      simp
    conv => rhs; rw [e]
    exact List.perm_append_comm
theorem rotL_len (c : List Int) : (rotL c).length = c.length := (rotL_perm c).length_eq
theorem rotR_len (c : List Int) : (rotR c).length = c.length := (rotR_perm c).length_eq
theorem rotL_at {c : List Int} {k : Nat} (h : k < c.length) : (rotL c)[k]? = c[(k + 1) % c.length]? := by
  cases c with
  | nil => simp at h
  | cons x r =>
    show (r ++ [x])[k]? = (x :: r)[(k + 1) % (r.length + 1)]?
    rw [List.length_cons] at h
    by_cases e : k = r.length
    · subst e
      rw [Nat.mod_self, List.getElem?_append_right (Nat.le_refl _), Nat.sub_self]
      rfl
    · rw [Nat.mod_eq_of_lt (by omega), List.getElem?_append_left (by omega)]
      rfl
theorem rotR_at0 {c : List Int} {z : Int} (h : c[c.length - 1]? = some z) : (rotR c)[0]? = some z := by
  unfold rotR
  rw [List.getLast?_eq_getElem?, h]
  rfl
theorem rotR_at1 {c : List Int} {k : Nat} (h : k + 1 < c.length) : (rotR c)[k + 1]? = c[k]? := by
  unfold rotR
  have hl : c.getLast?.toList.length = 1 := by
    rw [List.getLast?_eq_getElem?, List.getElem?_eq_getElem (show c.length - 1 < c.length by omega)]
    rfl
  rw [List.getElem?_append_right (by omega), hl, List.getElem?_dropLast]
  have : k + 1 - 1 = k := by omega
  rw [this, if_pos (by omega)]
theorem rotL_rotR {c : List Int} : rotL (rotR c) = c := by
  cases h : c.getLast? with
  | none =>
    have : c = [] := List.getLast?_eq_none_iff.mp h
    subst this
    rfl
  | some x =>
    obtain ⟨l, rfl⟩ := List.getLast?_eq_some_iff.mp h
    unfold rotR rotL
    simp
def asg (im : List Int) (ps : List (Int × Int)) : List Int := ps.foldl (fun im q => im.set q.1.toNat q.2) im
theorem asg_snoc {im : List Int} {ps : List (Int × Int)} {q : Int × Int} : asg im (ps ++ [q]) = (asg im ps).set q.1.toNat q.2 := by
  unfold asg
  rw [List.foldl_append]
  rfl
theorem asg_len : ∀ {ps : List (Int × Int)} {im : List Int}, (asg im ps).length = im.length
  | [], _ => rfl
  | q :: r, im => by
    have := asg_len (ps := r) (im := im.set q.1.toNat q.2)
    rw [List.length_set] at this
    exact this
theorem asg_ne : ∀ {ps : List (Int × Int)} {im : List Int} {p : Nat}, (∀ q ∈ ps, q.1.toNat ≠ p) → (asg im ps)[p]? = im[p]?
  | [], _, _, _ => rfl
  | q :: r, im, p, h => by
    have := asg_ne (ps := r) (im := im.set q.1.toNat q.2) (p := p) fun q' hq => h q' (List.mem_cons_of_mem _ hq)
    rw [List.getElem?_set_ne (h q List.mem_cons_self)] at this
    exact this
theorem asg_eq : ∀ {ps : List (Int × Int)} {im : List Int} {a b : Int}, (ps.map fun q => q.1.toNat).Nodup → (a, b) ∈ ps → a.toNat < im.length → (asg im ps)[a.toNat]? = some b
  | [], _, _, _, _, h, _ => by cases h
  | q :: r, im, a, b, nd, h, hl => by
    rw [List.map_cons, List.nodup_cons] at nd
    rcases List.mem_cons.mp h with e | h'
    · subst e
      have := asg_ne (ps := r) (im := im.set a.toNat b) (p := a.toNat) fun q' hq e => nd.1 (List.mem_map.mpr ⟨q', hq, e⟩)
      rw [List.getElem?_set_self hl] at this
      exact this
    · exact asg_eq (ps := r) (im := im.set q.1.toNat q.2) nd.2 h' (by rw [List.length_set]; exact hl)
def prA (c : List Int) : List (Int × Int) := c.zip (rotL c)
def prB (c : List Int) : List (Int × Int) := (rotR c).zip c
structure Img (n : Nat) (rs : List (List Int)) (im : List Int) : Prop where
  len : im.length = n
  on : ∀ c ∈ rs, ∀ (k : Nat) (z : Int), c[k]? = some z → im[z.toNat]? = (rotL c)[k]?
  off : ∀ p : Nat, p < n → (p : Int) ∉ rs.flatten → im[p]? = some (p : Int)
structure Rws (n : Nat) (rs : List (List Int)) : Prop where
  nd : rs.flatten.Nodup
  rg : ∀ z ∈ rs.flatten, 0 ≤ z ∧ z < n
theorem toNat_nd {l : List Int} (nd : l.Nodup) (h : ∀ z ∈ l, 0 ≤ z) : (l.map Int.toNat).Nodup := by
  rw [List.nodup_iff_pairwise_ne, List.pairwise_map]
  rw [List.nodup_iff_pairwise_ne] at nd
  refine nd.imp_of_mem fun {a b} ha hb hne e => hne ?_
  have := h a ha
  have := h b hb
  omega
theorem img_of {n : Nat} {rs : List (List Int)} {ps : List (Int × Int)} (r : Rws n rs) (hf : (ps.map Prod.fst).Perm rs.flatten) (hon : ∀ c ∈ rs, ∀ (k : Nat) (z y : Int), c[k]? = some z → (rotL c)[k]? = some y → (z, y) ∈ ps) : Img n rs (asg (rng n) ps) := by
  have nd : (ps.map fun q => q.1.toNat).Nodup := by
    have e : (ps.map fun q => q.1.toNat) = (ps.map Prod.fst).map Int.toNat := by rw [List.map_map]; rfl
    rw [e]
    exact toNat_nd (hf.nodup_iff.mpr r.nd) fun z hz => (r.rg z (hf.mem_iff.mp hz)).1
  refine ⟨by rw [asg_len, rng_len], fun c hc k z hz => ?_, fun p hp hn => ?_⟩
  · have hk := (List.getElem?_eq_some_iff.mp hz).1
    have hk2 : k < (rotL c).length := by rw [rotL_len]; exact hk
    have hy := List.getElem?_eq_getElem hk2
    have hg := r.rg z (List.mem_flatten.mpr ⟨c, hc, List.mem_of_getElem? hz⟩)
    rw [hy]
    exact asg_eq nd (hon c hc k z _ hz hy) (by rw [rng_len]; omega)
  · rw [asg_ne, rng_get hp]
    intro q hq e
    have hm := hf.mem_iff.mp (List.mem_map.mpr ⟨q, hq, rfl⟩)
    have := (r.rg _ hm).1
    exact hn (by have e2 : (p : Int) = q.1 := by omega
                 rw [e2]; exact hm)
theorem img_A {n : Nat} {rs : List (List Int)} (r : Rws n rs) : Img n rs (asg (rng n) (rs.flatMap prA)) := by
  refine img_of r ?_ fun c hc k z y hz hy => List.mem_flatMap.mpr ⟨c, hc, List.mem_of_getElem? (i := k) (by unfold prA; rw [List.getElem?_zip_eq_some]; exact ⟨hz, hy⟩)⟩
  have e : (rs.flatMap prA).map Prod.fst = rs.flatten := by
    rw [List.map_flatMap]
    have : (fun c => (prA c).map Prod.fst) = fun c : List Int => c := by
      funext c
      unfold prA
      rw [List.map_fst_zip]
      rw [rotL_len]
      exact Nat.le_refl _
    rw [this, List.flatMap_id']
  rw [e]
theorem flatMap_perm {f g : List Int → List Int} (h : ∀ c, (f c).Perm (g c)) : ∀ rs : List (List Int), (rs.flatMap f).Perm (rs.flatMap g)
  | [] => .refl _
  | c :: r => by
    rw [List.flatMap_cons, List.flatMap_cons]
    exact (h c).append (flatMap_perm h r)
theorem img_B {n : Nat} {rs : List (List Int)} (r : Rws n rs) : Img n rs (asg (rng n) (rs.flatMap prB)) := by
  refine img_of r ?_ fun c hc k z y hz hy => ?_
  · have e : (rs.flatMap prB).map Prod.fst = rs.flatMap rotR := by
      rw [List.map_flatMap]
      congr 1
      funext c
      unfold prB
      rw [List.map_fst_zip]
      rw [rotR_len]
      exact Nat.le_refl _
    rw [e]
    have := flatMap_perm rotR_perm rs
    rw [List.flatMap_id'] at this
    exact this
  · have hk := (List.getElem?_eq_some_iff.mp hz).1
    rw [rotL_at hk] at hy
    refine List.mem_flatMap.mpr ⟨c, hc, List.mem_of_getElem? (i := (k + 1) % c.length) ?_⟩
    unfold prB
    rw [List.getElem?_zip_eq_some]
    refine ⟨?_, hy⟩
    by_cases e : k + 1 = c.length
    · rw [e, Nat.mod_self]
      exact rotR_at0 (by rw [← e]; exact hz)
    · rw [Nat.mod_eq_of_lt (by omega), rotR_at1 (by omega)]
      exact hz
theorem Img.uniq {n : Nat} {rs : List (List Int)} {a b : List Int} (x : Img n rs a) (y : Img n rs b) : a = b := by
  refine List.ext_getElem? fun p => ?_
  by_cases hp : p < n
  · by_cases hm : (p : Int) ∈ rs.flatten
    · obtain ⟨c, hc, hpc⟩ := List.mem_flatten.mp hm
      obtain ⟨k, hk⟩ := List.mem_iff_getElem?.mp hpc
      have h1 := x.on c hc k _ hk
      have h2 := y.on c hc k _ hk
      rw [Int.toNat_natCast] at h1 h2
      rw [h1, h2]
    · rw [x.off p hp hm, y.off p hp hm]
  · rw [List.getElem?_eq_none (by rw [x.len]; omega), List.getElem?_eq_none (by rw [y.len]; omega)]
theorem Img.perm {n : Nat} {rs : List (List Int)} {a : List Int} (x : Img n rs a) (r : Rws n rs) : a.Perm (rng n) := by
  refine sub_perm (rng_nodup n) (fun q hq => ?_) (by rw [x.len, rng_len]; exact Nat.le_refl _)
  obtain ⟨q0, q1⟩ := mem_rng.mp hq
  by_cases hm : q ∈ rs.flatten
  · obtain ⟨c, hc, hqc⟩ := List.mem_flatten.mp hm
    obtain ⟨k, hk⟩ := List.mem_iff_getElem?.mp ((rotL_perm c).mem_iff.mpr hqc)
    have hkl : k < c.length := by
      have := (List.getElem?_eq_some_iff.mp hk).1
      rwa [rotL_len] at this
    have h1 := x.on c hc k _ (List.getElem?_eq_getElem hkl)
    rw [hk] at h1
    exact List.mem_of_getElem? h1
  · have := x.off q.toNat (by omega) (by rw [Int.toNat_of_nonneg q0]; exact hm)
    rw [Int.toNat_of_nonneg q0] at this
    exact List.mem_of_getElem? this

/-! ## F1 -/

/-! what is due -/
inductive Flt where
  | num (v : V) (lo hi : Int) | mv (i : Int) | many (z : Str) (l : Int) | pt (v : V) | rep (v : V) | sz (x y : Int) | txt (i : Int)
def Flt.cls : Flt → Str
  | .num .. => "BadNumber"
  | .mv _ => "NotAMove"
  | .many .. => "TooMany"
  | .pt _ => "NotAPoint"
  | .rep _ => "RepeatedPoint"
  | .sz .. => "UnlikeSizes"
  | .txt _ => "BadText"
def Flt.fs : Flt → List (Str × V)
  | .num v lo hi => [("high", .int hi), ("low", .int lo), ("value", v)]
  | .mv i => [("index", .int i)]
  | .many z l => [("limit", .int l), ("what", .str z)]
  | .pt v => [("value", v)]
  | .rep v => [("value", v)]
  | .sz x y => [("second", .int y), ("first", .int x)]
  | .txt i => [("line", .int i)]
def Flt.due : Flt → List V
  | .num v lo hi => [.str "BadNumber", v, .int lo, .int hi]
  | .mv i => [.str "NotAMove", .int i]
  | .many z l => [.str "TooMany", .str z, .int l]
  | .pt v => [.str "NotAPoint", v]
  | .rep v => [.str "RepeatedPoint", v]
  | .sz x y => [.str "UnlikeSizes", .int x, .int y]
  | .txt i => [.str "BadText", .int i]
def Raises (K : PySem.W.Frag) (f : Flt) (H : Hp) (Er : XK) : Prop := ∀ dd H0 H1, Same H H0 → New H0 dd (.xd f.fs) H1 → Er (.ref (He.ga K f.cls)) (some dd) H1
theorem Raises.same {K : PySem.W.Frag} {f : Flt} {H H' : Hp} {Er : XK} (r : Raises K f H Er) (s : Same H H') : Raises K f H' Er := fun dd H0 H1 s0 n => r dd H0 H1 (s.trans s0) n
def numOk : V → Int → Int → Bool
  | .int i, lo, hi => decide (lo ≤ i) && decide (i ≤ hi)
  | _, _, _ => false
theorem numOk_wh {v : V} {lo hi : Int} (h : numOk v lo hi = true) : ∃ i, v = .int i ∧ lo ≤ i ∧ i ≤ hi := by
  cases v with
  | int i => exact ⟨i, rfl, by simpa [numOk] using h⟩
  | _ => cases h
/-- a value that shown can show -/
theorem dw_show {E : List Addr} {H : Hp} {v : V} {d : PyData} {n : Nat} (h : Dw E H v d n) (hi : ∀ i, v = .int i → i.natAbs.log2 < 1920) : ShOk v H := by
  cases h with
  | lf l =>
    cases l with
    | non => exact .inr (.inr ⟨_, rfl, by decide +kernel⟩)
    | bl b => exact .inr (.inl ⟨b, rfl⟩)
    | int i => exact .inl ⟨i, rfl, hi i rfl⟩
    | str z => exact .inr (.inr ⟨_, rfl, by decide +kernel⟩)
  | lst ne h a => exact .inr (.inr ⟨_, ty_l h, by decide +kernel⟩)
  | tup ne h a => exact .inr (.inr ⟨_, ty_t h, by decide +kernel⟩)
def Sm (v : V) : Prop := ∀ i, v = .int i → i.natAbs.log2 < 1920
theorem sm_int {i : Int} (h : i.natAbs.log2 < 1920) : Sm (.int i) := fun j e => by cases e; exact h
section
variable {P : Program} {w : World} {K : PySem.W.Frag} {mg : Str → Option Value} {base : Heap}
def sp_number (K : PySem.W.Frag) : Sp := fun vs H Q Er => ∃ (v : V) (lo hi : Int) (E : List Addr) (d : PyData) (n : Nat), vs = [v, .int lo, .int hi] ∧ Dw E H v d n ∧ Sm v ∧ lo.natAbs.log2 < 1920 ∧ hi.natAbs.log2 < 1920 ∧
  (numOk v lo hi = true → Q .non H) ∧ (numOk v lo hi = false → Raises K (.num v lo hi) H Er)
def sp_points (K : PySem.W.Frag) : Sp := fun vs H Q Er => ∃ (v : V) (E : List Addr) (d : PyData) (n : Nat), vs = [v] ∧ Dw E H v d n ∧ Sm v ∧
  (numOk v 0 12 = true → Q .non H) ∧ (numOk v 0 12 = false → Raises K (.num v 0 12) H Er)
def sp_ptof : Sp := fun vs H Q _ => ∃ (v : V) (n : Int) (E : List Addr) (d : PyData) (m : Nat), vs = [.int n, v] ∧ Dw E H v d m ∧ Q (.bl (numOk v 0 (n - 1))) H
/-- a row: its items' faults -/
def ptFlt (n : Int) : List V → Option Flt
  | [] => none
  | x :: r => if numOk x 0 (n - 1) = true then ptFlt n r else some (.pt x)
def crowFlt (n : Int) (xs : List V) : Option Flt := if 24 < xs.length then some (.many "row" 24) else ptFlt n xs
/-- what a def answers: good, or the fault that is due -/
def Ans (K : PySem.W.Frag) (o : Option Flt) (H : Hp) (Er : XK) (good : Prop) : Prop := match o with
  | none => good
  | some f => Raises K f H Er
def AllD (H : Hp) (xs : List V) : Prop := ∀ x ∈ xs, Sm x ∧ ∃ E d m, Dw E H x d m
theorem AllD.same {H H' : Hp} {xs : List V} (a : AllD H xs) (s : Same H H') : AllD H' xs := fun x hx => ⟨(a x hx).1, (a x hx).2.imp fun E h => h.imp fun d h => h.imp fun m h => h.same s⟩
def sp_crow (K : PySem.W.Frag) : Sp := fun vs H Q Er => ∃ (n : Int) (p : Addr) (xs : List V), vs = [.int n, .ref p] ∧ sq H p = some xs ∧ AllD H xs ∧ Ans K (crowFlt n xs) H Er (∀ H', Same H H' → Q .non H')
theorem move_at {E : List Addr} {H : Hp} {v : V} {d : PyData} {n : Nat} (hd : isMoveD d = true) (hv : Dw E H v d n) : ∃ (a : Addr) (ns : List Int), v = .ref a ∧ H a = some (.tup (ns.map V.int)) ∧ d = .tuple (ns.map .int) ∧ ns.length ≤ 12 ∧ ns.Perm (rng ns.length) ∧ a ∉ E := by
  have hm : IsMoveP d := Classical.byContradiction fun z => by rw [isMove_f z] at hd; cases hd
  obtain ⟨ns, rfl, hl, hp⟩ := hm
  cases hv with
  | lf l => cases l
  | tup ne h da => exact ⟨_, ns, rfl, by rw [dw_ints' da] at h; exact h, rfl, hl, hp, ne⟩
theorem dwT {H : Hp} {p : Addr} {ns : List Int} (h : H p = some (.tup (ns.map V.int))) : Dw [] H (.ref p) (.tuple (ns.map .int)) (ns.length + 1) := .tup (by simp) h (DwAll.ints ns)
def sp_chk (K : PySem.W.Frag) : Sp := fun vs H Q Er => ∃ (v : V) (i : Int) (E : List Addr) (d : PyData) (n : Nat), vs = [v, .int i] ∧ i.natAbs.log2 < 1920 ∧ Dw E H v d n ∧ (isMoveD d = true → ∀ H', Same H H' → Q .non H') ∧ (isMoveD d = false → Raises K (.mv i) H Er)
abbrev stcheck_move : Stmt := topS 39
theorem sccheck_move : FnScope ["value", "index"] ["value", "index"] (defScope stcheck_move) := ⟨rfl, rfl, rfl, by decide +kernel, rfl, by decide +kernel, by decide +kernel⟩
theorem okcheck_move (D : Df K mg "check_move" stcheck_move) (T : NoB mg) (Cis_move : Cl P w K mg base 2 "is_move" ["value"] sp_is_move) (Er_NotAMove : ErT_NotAMove P w K mg base): ClX P w K mg base 4 "check_move" ["value", "index"] (sp_chk K) := by
  refine clX_of D sccheck_move (fun _ _ _ _ _ _ us hl => match us, hl with | [_, _], _ => rfl) (fun vs H Q E h => ?_) (fun f cdv A outer sh H vs Q E hr tk h => ?_)
  · obtain ⟨_, _, _, _, _, rfl, _⟩ := h; rfl
  obtain ⟨v, i, E', d, n, rfl, hi, hv, k1, k2⟩ := h
  refine ⟨_, (pss_one (ps_if (pt_not (pt_val (pe_cl Cis_move hr (by rfl) (pa_cons (pv 0) pa_nil)))) (pss_one (L2N.ps_raise rfl tk (pmk_err Er_NotAMove hr (by rfl) (pa_cons (pv 1) pa_nil)))) pss_nil)), ?_⟩
  walk_at "wn"
  refine ⟨v, E', d, n, rfl, hv, fun H1 s1 => ?_⟩
  walk_at "wn"
  cases hd : isMoveD d with
  | true => exact k1 hd H1 s1
  | false => exact ⟨⟨.inl ⟨i, rfl, hi⟩, trivial⟩, fun dd H2 n2 => k2 hd dd H1 H2 s1 n2⟩
/-- carried: the row's points lie in the move, else what is due -/
def sp_carried (K : PySem.W.Frag) : Sp := fun vs H Q Er => ∃ (v : V) (p : Addr) (xs : List V) (E : List Addr) (d : PyData) (n : Nat), vs = [v, .ref p] ∧ Dw E H v d n ∧ sq H p = some xs ∧ AllD H xs ∧
  (isMoveD d = false → Raises K (.mv 0) H Er) ∧
  (∀ (a : Addr) (ns : List Int), v = .ref a → H a = some (.tup (ns.map V.int)) → d = .tuple (ns.map .int) → isMoveD d = true → Ans K (crowFlt ns.length xs) H Er (∀ (c is : List Int), xs = c.map V.int → is.length = c.length → (∀ (k : Nat) (z : Int), c[k]? = some z → ns[z.toNat]? = is[k]?) → ∀ q H1 H2, Same H H1 → New H1 q (.tup (is.map V.int)) H2 → Q (.ref q) H2))
theorem ptFlt_none : ∀ {n : Int} {xs : List V}, ptFlt n xs = none → ∃ c : List Int, xs = c.map V.int ∧ ∀ z ∈ c, 0 ≤ z ∧ z < n
  | _, [], _ => ⟨[], rfl, by simp⟩
  | n, x :: r, h => by
    rw [show ptFlt n (x :: r) = (if numOk x 0 (n - 1) = true then ptFlt n r else some (.pt x)) from rfl] at h
    by_cases c : numOk x 0 (n - 1) = true
    · rw [if_pos c] at h
      obtain ⟨cs, rfl, hc⟩ := ptFlt_none h
      obtain ⟨i, rfl, h0, h1⟩ := numOk_wh c
      refine ⟨i :: cs, rfl, fun z hz => ?_⟩
      rcases List.mem_cons.mp hz with e | hz
      · rw [e]; omega
      · exact hc z hz
    · rw [if_neg c] at h; cases h
theorem crowFlt_none {n : Int} {xs : List V} (h : crowFlt n xs = none) : xs.length ≤ 24 ∧ ∃ c : List Int, xs = c.map V.int ∧ ∀ z ∈ c, 0 ≤ z ∧ z < n := by
  unfold crowFlt at h
  by_cases c : 24 < xs.length
  · rw [if_pos c] at h; cases h
  · rw [if_neg c] at h
    exact ⟨by omega, ptFlt_none h⟩
end

/-! ## F2 -/

/-! rows and their faults -/
def rowSt (n : Int) : List Int → List V → Except Flt (List Int)
  | st, [] => .ok st
  | st, x :: r => if numOk x 0 (n - 1) = true then (if unV x ∈ st then .error (.rep x) else rowSt n (st ++ [unV x]) r) else .error (.pt x)
def rowsSt (n : Int) : List Int → List (List V) → Except Flt (List Int)
  | st, [] => .ok st
  | st, xs :: r => if 24 < xs.length then .error (.many "row" 24) else match rowSt n st xs with
    | .error f => .error f
    | .ok st' => rowsSt n st' r
def fcFlt (n : Int) (rvs : List (List V)) : Option Flt := if 24 < rvs.length then some (.many "cycles" 24) else match rowsSt n [] rvs with
  | .error f => some f
  | .ok _ => none
theorem rowSt_cons {n : Int} {st : List Int} {x : V} {r : List V} : rowSt n st (x :: r) = (if numOk x 0 (n - 1) = true then (if unV x ∈ st then .error (.rep x) else rowSt n (st ++ [unV x]) r) else .error (.pt x)) := rfl
theorem rowsSt_cons {n : Int} {st : List Int} {xs : List V} {r : List (List V)} : rowsSt n st (xs :: r) = (if 24 < xs.length then .error (.many "row" 24) else match rowSt n st xs with
    | .error f => .error f
    | .ok st' => rowsSt n st' r) := rfl
theorem rowSt_ok {n : Int} : ∀ {xs : List V} {st st' : List Int}, rowSt n st xs = .ok st' → ∃ c : List Int, xs = c.map V.int ∧ st' = st ++ c ∧ (st.Nodup → st'.Nodup) ∧ ∀ z ∈ c, 0 ≤ z ∧ z < n
  | [], st, st', h => by
    cases h
    exact ⟨[], rfl, by simp, id, by simp⟩
  | x :: r, st, st', h => by
    rw [rowSt_cons] at h
    by_cases c : numOk x 0 (n - 1) = true
    · rw [if_pos c] at h
      by_cases c2 : unV x ∈ st
      · rw [if_pos c2] at h; cases h
      · rw [if_neg c2] at h
        obtain ⟨cs, rfl, e, nd, rg⟩ := rowSt_ok h
        obtain ⟨i, rfl, h0, h1⟩ := numOk_wh c
        refine ⟨i :: cs, rfl, by rw [e]; simp [unV], fun hn => nd ?_, fun z hz => ?_⟩
        · rw [List.nodup_append]
          refine ⟨hn, by simp, fun a ha b hb e => ?_⟩
          rw [List.mem_singleton.mp hb] at e
          rw [e] at ha
          exact c2 ha
        · rcases List.mem_cons.mp hz with e | hz
          · rw [e]; omega
          · exact rg z hz
    · rw [if_neg c] at h; cases h
theorem rowsSt_ok {n : Int} : ∀ {rvs : List (List V)} {st st' : List Int}, rowsSt n st rvs = .ok st' → ∃ rs : List (List Int), rvs = rs.map (fun c => c.map V.int) ∧ st' = st ++ rs.flatten ∧ (st.Nodup → st'.Nodup) ∧ (∀ z ∈ rs.flatten, 0 ≤ z ∧ z < n) ∧ ∀ c ∈ rs, c.length ≤ 24
  | [], st, st', h => by
    cases h
    exact ⟨[], rfl, by simp, id, by simp, by simp⟩
  | xs :: r, st, st', h => by
    rw [rowsSt_cons] at h
    by_cases c : 24 < xs.length
    · rw [if_pos c] at h; cases h
    · rw [if_neg c] at h
      cases e1 : rowSt n st xs with
      | error f => rw [e1] at h; cases h
      | ok st1 =>
        rw [e1] at h
        obtain ⟨c1, rfl, e2, nd1, rg1⟩ := rowSt_ok e1
        obtain ⟨rs, rfl, e3, nd2, rg2, l2⟩ := rowsSt_ok (show rowsSt n st1 r = .ok st' from h)
        rw [List.length_map] at c
        refine ⟨c1 :: rs, rfl, by rw [e3, e2]; simp, fun hn => nd2 (nd1 hn), fun z hz => ?_, fun c' hc' => ?_⟩
        · rw [List.flatten_cons, List.mem_append] at hz
          exact hz.elim (rg1 z) (rg2 z)
        · rcases List.mem_cons.mp hc' with e | hc'
          · rw [e]; omega
          · exact l2 c' hc'
theorem fcFlt_none {n : Int} {rvs : List (List V)} (h0 : 0 ≤ n) (h : fcFlt n rvs = none) : rvs.length ≤ 24 ∧ ∃ rs : List (List Int), rvs = rs.map (fun c => c.map V.int) ∧ Rws n.toNat rs ∧ ∀ c ∈ rs, c.length ≤ 24 := by
  unfold fcFlt at h
  by_cases c : 24 < rvs.length
  · rw [if_pos c] at h; cases h
  · rw [if_neg c] at h
    cases e : rowsSt n [] rvs with
    | error f => rw [e] at h; cases h
    | ok st =>
      obtain ⟨rs, h1, h2, h3, h4, h5⟩ := rowsSt_ok e
      refine ⟨by omega, rs, h1, ⟨?_, fun z hz => ?_⟩, h5⟩
      · have := h3 (by simp)
        rw [h2] at this
        simpa using this
      · have := h4 z hz
        omega
/-- the rows stand (lists or tuples) -/
def RowsV (H : Hp) (rws : List Addr) (rvs : List (List V)) : Prop := rws.length = rvs.length ∧ ∀ (k : Nat) (r : Addr) (xs : List V), rws[k]? = some r → rvs[k]? = some xs → sq H r = some xs
theorem RowsV.same {H H' : Hp} {rws : List Addr} {rvs : List (List V)} (h : RowsV H rws rvs) (s : Same H H') : RowsV H' rws rvs := ⟨h.1, fun k r xs h1 h2 => same_sq s (h.2 k r xs h1 h2)⟩
theorem sq_some {H : Hp} {p : Addr} {xs : List V} (h : sq H p = some xs) : ∃ o, H p = some o := by
  rcases sq_or h with h | h <;> exact ⟨_, h⟩
section
variable {P : Program} {w : World} {K : PySem.W.Frag} {mg : Str → Option Value} {base : Heap}
def sp_imgs : Sp := fun vs H Q _ => ∃ (n : Int) (p : Addr) (rws : List Addr) (rs : List (List Int)), vs = [.int n, .ref p] ∧ 0 ≤ n ∧ n ≤ 12 ∧ sq H p = some (rws.map V.ref) ∧ RowsV H rws (rs.map fun c => c.map V.int) ∧ Rws n.toNat rs ∧ (∀ c ∈ rs, c.length ≤ 24) ∧
  ∀ q H1 H2, Same H H1 → New H1 q (.tup ((asg (rng n.toNat) (rs.flatMap prA)).map V.int)) H2 → Q (.ref q) H2
/-- from_cycles: the number of points, then the rows, then the move -/
def sp_fromc (K : PySem.W.Frag) : Sp := fun vs H Q Er => ∃ (pv rv : V) (E : List Addr) (d : PyData) (m : Nat), vs = [pv, rv] ∧ Dw E H pv d m ∧ Sm pv ∧ (numOk pv 0 12 = false → Raises K (.num pv 0 12) H Er) ∧
  ∀ n, pv = .int n → 0 ≤ n → n ≤ 12 → ∃ (p : Addr) (rws : List Addr) (rvs : List (List V)), rv = .ref p ∧ sq H p = some (rws.map V.ref) ∧ RowsV H rws rvs ∧ (∀ xs ∈ rvs, AllD H xs) ∧
    Ans K (fcFlt n rvs) H Er (∀ rs : List (List Int), rvs = rs.map (fun c => c.map V.int) → Rws n.toNat rs → ∀ q H1 H2, Same H H1 → New H1 q (.tup ((asg (rng n.toNat) (rs.flatMap prA)).map V.int)) H2 → Q (.ref q) H2)
theorem repF (n : Nat) : (List.replicate n [V.bl false]).flatten = List.map V.bl (List.replicate n false) := by
  induction n with
  | zero => rfl
  | succ n ih => rw [List.replicate_succ, List.flatten_cons, ih, List.replicate_succ]; rfl
def Stood (n : Int) (st : List Int) (S : Addr) (H : Hp) : Prop := ∃ bs : List Bool, H S = some (.lst (bs.map V.bl)) ∧ (bs.length : Int) = n ∧ ∀ j : Nat, (j : Int) < n → bs[j]? = some (decide ((j : Int) ∈ st))
end

/-! ## F3 -/

def errL : List Str := ["NotAMove", "UnlikeSizes"]
section
variable {P : Program} {w : World} {K : PySem.W.Frag} {mg : Str → Option Value} {base : Heap}
def sp_refG (K : PySem.W.Frag) : HSp := fun a c d vs H Q _ => ∃ (f : Flt) (du dd : Addr) (ds : List PyData) (n : Nat), vs = [.ref a, .ref du] ∧ c = .ref (He.ga K f.cls) ∧ f.cls ∈ errL ∧ d = some dd ∧ H dd = some (.xd f.fs) ∧ H du = some (.tup f.due) ∧ DwAll [] H f.due ds n ∧ n ≤ 3000000 ∧ ∀ H', Same H H' → Q (.bl true) H'
abbrev st_law_refusal : Stmt := topS 65
theorem sc_law_refusal : FnScope ["error", "due", "told"] ["error", "due"] (defScope st_law_refusal) := ⟨rfl, rfl, rfl, by decide +kernel, rfl, by decide +kernel, by decide +kernel⟩
theorem ok_law_refusalH (D : Df K mg "_law_refusal" st_law_refusal) (T : NoB mg) (C_law_aloneH : ClH P w K mg base 1 "_law_alone" ["error"] (sp_aloneH K mg)) (C_law_sameH : ClH P w K mg base 2 "_law_same" ["actual", "due"] sp_sameH) (ENF : ∀ f : Flt, f.cls ∈ errL → ErN K mg f.cls) (Er_NotAMove : ErT_NotAMove P w K mg base) (Er_UnlikeSizes : ErT_UnlikeSizes P w K mg base): ClH P w K mg base 3 "_law_refusal" ["error", "due"] (sp_refG K) := by
  refine clH_of D sc_law_refusal (fun _ _ _ _ _ _ us hl => match us, hl with | [_, _], _ => rfl) (fun _ _ _ vs H Q E h => ?_) (fun f cdv A outer sh H vs Q E p cls dd hot hz hc hr h => ?_)
  · obtain ⟨_, _, _, _, _, rfl, _⟩ := h; rfl
  have hf : ∃ vs, p.2.data = .fields vs := hot.2.imp fun _ h => h.1
  obtain ⟨ft, du, dx, ds, n, rfl, rfl, hcl, rfl, hx, hd, hda, hn, k⟩ := h
  have EN0 := ENF ft hcl
  have fin : ∀ t H1, New H t (.tup ft.due) H1 → ∀ H2, Same H1 H2 → sp_sameH p.1 (.ref (He.ga K ft.cls)) (some dx) [.ref t, .ref du] H2 Q E0 := fun t H1 n1 H2 s2 =>
    ⟨.ref t, .ref du, .tuple ds, n + 1, n + 1, rfl, .tup (by simp) (s2 _ _ n1.at_) (hda.same (n1.same.trans s2)), .tup (by simp) (s2 _ _ (n1.k hd)) (hda.same (n1.same.trans s2)), by omega, fun H3 s3 => k _ ((n1.same.trans s2).trans s3)⟩
  cases ft with
  | num v lo hi => exact absurd hcl (show ¬ ("BadNumber" : Str) ∈ errL by decide +kernel)
  | mv i =>
    have EN : ErN K mg "NotAMove" := EN0
    have ErD := Er_NotAMove
    refine ⟨_, (pss_cons (ps_set (i := 2) sc_law_refusal.nd rfl (Or.inl rfl) pe_non)
    (pss_cons (ps_if (pt_val (pe_isE EN List.mem_cons_self hz hf T.no_isinstance (by rfl) (pv 0) (by rfl))) (pss_one (ps_set (i := 2) sc_law_refusal.nd rfl (Or.inl rfl) (pe_tup (pa_cons pe_str (pa_cons (pe_xP ErD.xf (ErD.no _ (by decide)) List.mem_cons_self hz hf (pv 0)) pa_nil))))) pss_nil)
    (pss_cons (ps_if (pt_val (pe_isE EN List.mem_cons_self hz hf T.no_isinstance (by rfl) (pv 0) (by rfl))) (pss_cons ps_never pss_nil) pss_nil)
    (pss_one (ps_ret (pe_and (pe_cmpR op_notN (pv 1) pe_non (nomark _)) (pe_and (pe_clH C_law_aloneH hot List.mem_cons_self hz hr (by rfl) (pa_cons (pv 0) pa_nil)) (pe_one (pe_clH C_law_sameH hot List.mem_cons_self hz hr (by rfl) (pa_cons (pv 2) (pa_cons (pv 1) pa_nil))))))))))), ?_⟩
    have d1 : decide (("UnlikeSizes" : Str) = ("NotAMove" : Str)) = false := by decide +kernel
    rw [d1]
    rw [a_seq]
    walk_at "wn"
    rw [a_seq]
    walk_at "wn"
    refine ⟨⟨_, hx⟩, _, hx, _, rfl, by rw [sizeLine_eq]; decide, fun t H1 n1 => ?_⟩
    have hx1 := n1.k hx
    walk_at "sn"
    refine ⟨⟨_, hx1⟩, ?_⟩
    (try dsimp only)
    walk_at "wn"
    exact ⟨_, EN, by decide +kernel, rfl, rfl, ⟨_, hx1⟩, fun H2 s2 => ⟨true, rfl, fin t H1 n1 H2 s2⟩⟩
  | many z l => exact absurd hcl (show ¬ ("TooMany" : Str) ∈ errL by decide +kernel)
  | pt v => exact absurd hcl (show ¬ ("NotAPoint" : Str) ∈ errL by decide +kernel)
  | rep v => exact absurd hcl (show ¬ ("RepeatedPoint" : Str) ∈ errL by decide +kernel)
  | sz x y =>
    have EN : ErN K mg "UnlikeSizes" := EN0
    have ErD := Er_UnlikeSizes
    refine ⟨_, (pss_cons (ps_set (i := 2) sc_law_refusal.nd rfl (Or.inl rfl) pe_non)
    (pss_cons (ps_if (pt_val (pe_isE EN List.mem_cons_self hz hf T.no_isinstance (by rfl) (pv 0) (by rfl))) (pss_cons ps_never pss_nil) pss_nil)
    (pss_cons (ps_if (pt_val (pe_isE EN List.mem_cons_self hz hf T.no_isinstance (by rfl) (pv 0) (by rfl))) (pss_one (ps_set (i := 2) sc_law_refusal.nd rfl (Or.inl rfl) (pe_tup (pa_cons pe_str (pa_cons (pe_xP ErD.xf (ErD.no _ (by decide)) List.mem_cons_self hz hf (pv 0)) (pa_cons (pe_xP ErD.xf (ErD.no _ (by decide)) List.mem_cons_self hz hf (pv 0)) pa_nil)))))) pss_nil)
    (pss_one (ps_ret (pe_and (pe_cmpR op_notN (pv 1) pe_non (nomark _)) (pe_and (pe_clH C_law_aloneH hot List.mem_cons_self hz hr (by rfl) (pa_cons (pv 0) pa_nil)) (pe_one (pe_clH C_law_sameH hot List.mem_cons_self hz hr (by rfl) (pa_cons (pv 2) (pa_cons (pv 1) pa_nil))))))))))), ?_⟩
    have d0 : decide (("NotAMove" : Str) = ("UnlikeSizes" : Str)) = false := by decide +kernel
    rw [d0]
    rw [a_seq]
    walk_at "wn"
    rw [a_seq]
    walk_at "wn"
    refine ⟨⟨_, hx⟩, ?_⟩
    rw [a_seq]
    walk_at "wn"
    refine ⟨⟨_, hx⟩, _, hx, _, rfl, _, hx, _, rfl, by rw [sizeLine_eq]; decide, fun t H1 n1 => ?_⟩
    have hx1 := n1.k hx
    (try dsimp only)
    walk_at "wn"
    exact ⟨_, EN, by decide +kernel, rfl, rfl, ⟨_, hx1⟩, fun H2 s2 => ⟨true, rfl, fin t H1 n1 H2 s2⟩⟩
  | txt i => exact absurd hcl (show ¬ ("BadText" : Str) ∈ errL by decide +kernel)
end

/-! ## HoG -/
section
open HotX
variable {prog : Program} {w : World} {A : Around} {E : Value → Shared → Prop} {s : Shared}
theorem tuple_end_hot {it t x1 : Addr} {i : Nat} {items : Array Value} {Q : Option Value → Shared → Prop} (hot : HotAt A x1 s.heap) (hit : s.heap.IsTupleIter it t i) (ht : s.heap.IsTuple t items) (hx : items[i]? = none) (hne : x1 ≠ it)
    (hQ : ∀ h', (∀ b o, b ≠ it → s.heap.get? b = some o → h'.get? b = some o) → Q none { s with heap := h' }) : wpAny (model prog w) A (pyNext (.ref it)) Q E s := by
  obtain ⟨o, ho, hc, hd⟩ := id hit
  obtain ⟨ol, hol, _, nl, hdl⟩ := ht
  obtain ⟨hh, o1, vs1, h1, d1, c1⟩ := hot
  unfold pyNext
  refine wpAny_bind (wpAny_attempt (wpAny_callSpecial?_slot (name := Str.ofString "__next__") hit.typeIs F.slot_tuple_iterator_next
    (wpAny_call_entry F.slot_tuple_iterator_next hit.typeIs F.entry_tuple_iterator_next ?_ (F.args_tuple_iterator_next_1 _))))
  show wpAny _ _ (field (.ref it) 0 >>= _) _ _ s
  refine wpAny_bind (wpAny_field ho hd (x := .ref t) rfl ?_)
  show wpAny _ _ (if (Value.ref t == Value.none) = true then _ else _) _ _ s
  rw [if_neg (show ¬ ((Value.ref t == Value.none) = true) from Bool.false_ne_true)]
  show wpAny _ _ (field (.ref it) 1 >>= _) _ _ s
  refine wpAny_bind (wpAny_field ho hd (x := .int i 0) rfl ?_)
  show wpAny _ _ (seqItems? (.ref t) >>= _) _ _ s
  refine wpAny_bind (wpAny_seqItems hol hdl ?_)
  simp only [Int.toNat_natCast, hx]
  refine wpAny_bind (wpAny_rule (wpAny_bind (wpAny_setField ho hd (by simp) ?_)))
  show wpAny _ _ (newExc (.type "StopIteration") [] >>= _) _ _ _
  refine wpAny_bind ?_
  simp only [newExc, newTuple]
  refine wpAny_bind (wpAny_newObj_type ?_ (by size_fits))
  refine wpAny_bind (m := firstArgMember _ _) (wpAny_of_eq (a := Value.none) (by first | rfl | (simp only [firstArgMember]; rfl)) ?_)
  refine wpAny_newObj_type ?_ (by size_fits)
  have h1' : (s.heap.update it (Obj.mapFields (·.setIfInBounds 0 .none))).get? x1 = some o1 := (Heap.get?_update_other _ _ (Ne.symm hne)).trans h1
  refine raiseNew_hot ⟨hh, o1, vs1, Heap.get?_push_of_some _ (Heap.get?_push_of_some _ h1'), d1, c1⟩ (Nat.ne_of_lt (Heap.lt_size (Heap.get?_push_of_some _ h1'))) (Heap.get?_push_size _ rfl) rfl (by first | (simp; done) | (simp; omega) | (simp only [Array.size_append]; simp; omega)) ?_
  refine wpAny_bind (wpAny_isInstance (T := "StopIteration") (b := true) ⟨_, Heap.get?_update_self _ (Heap.get?_push_size _ rfl) rfl, rfl⟩ isSubtype_stop ?_)
  refine wpAny_pure (hQ _ fun b o hb e => ?_)
  have e' : (s.heap.update it (Obj.mapFields (·.setIfInBounds 0 .none))).get? b = some o := (Heap.get?_update_other _ _ (Ne.symm hb)).trans e
  rw [Heap.get?_update_other _ _ (Nat.ne_of_gt (Heap.lt_size (Heap.get?_push_of_some _ e')))]
  exact Heap.get?_push_of_some _ (Heap.get?_push_of_some _ e')
end
section
open HotX L2H
theorem turn_tupleH {P : Program} {w : World} {K : PySem.W.Frag} {tg : Expr} (a it : Addr) : TurnH P w K tg (Itt K a) [it] it (fun i h => h.IsTupleIter it a i) where
  mem := List.mem_singleton.mpr rfl
  obj := fun i h st b hb => by
    obtain rfl := List.mem_singleton.mp hb
    obtain ⟨o, e, _, d⟩ := st
    exact ⟨o, e, fun v z => by rw [d] at z; cases z⟩
  keep := fun i h h' st k => st.at fun o e => k it (List.mem_singleton.mpr rfl) o e
  item := fun X hP hw hK hc i pins s σ H E I hf st hg => by
    subst hP hw hK
    obtain ⟨xs, x, hq, hx⟩ := hg
    obtain ⟨its, rv, p, hz⟩ := I.tuple hq
    obtain ⟨u, hu, ru⟩ := rv.get hx
    have F := hf it (List.mem_singleton.mpr rfl)
    refine wpAny_pyNext_tuple_item st (show s.heap.IsTuple a its.toArray from p) (x := u) (by simpa using hu) fun h' st' sb => ?_
    have I1 : Inv X pins σ H { s with heap := h' } := I.turned (t' := s.toks) (fun b o hb e => (sb.2 b hb).trans e) F.1 F.2.1 F.2.2.2.1 F.2.2.2.2.1 F.2.2.2.2.2
    obtain ⟨o, e, c, d⟩ := id st'
    exact ⟨u, rfl, go_of (s := { s with heap := h' }) e c d (by decide) ⟨x, H, I1, ru, ⟨rfl, fun ys hy => (I.tuple_inj hy hq) ▸ hx⟩, st', fun b hb => (hf b hb).1⟩⟩
  done := fun X hP hw hK hc i pins s σ H E I hf st hg => by
    subst hP hw hK
    obtain ⟨xs, hq, hx⟩ := hg
    obtain ⟨its, rv, p, hz⟩ := I.tuple hq
    have F := hf it (List.mem_singleton.mpr rfl)
    have hl := rv.length
    obtain ⟨q, ⟨hh, v1, e1, c1⟩, hq1⟩ := hc
    have P1 := (I.pin q (List.mem_append_left _ hq1)).1
    exact tuple_end_hot ⟨hh, q.2, v1, P1, e1, c1⟩ st (show s.heap.IsTuple a its.toArray from p) (by simp; omega) (F.2.2.2.2.2 q (List.mem_append_left _ hq1)) fun h' eb => ⟨rfl, I.turned (t' := s.toks) eb F.1 F.2.1 F.2.2.2.1 F.2.2.2.2.1 F.2.2.2.2.2⟩
  self := fun _ _ _ _ _ st h => wpAny_pyIter_tupleiter st h
variable {X : Cx}
/-- [e for y in l if c], l a list or a tuple; Pv i: what holds behind i turns -/
def tLcG (tl : TE) (g : TG) (tt : TT) (te : TE) (vs : List Nat) : TE := fun σ H Q => tl σ H fun x H1 => ∃ (a : Addr) (xs : List V), x = .ref a ∧ sq H1 a = some xs ∧ ∀ D, H1 D = none → ∃ Pv : Nat → Hp → Prop, Pv 0 (upd H1 D (.lst [])) ∧ (∀ i H2, Pv i H2 → ∀ o, H1 a = some o → H2 a = some o) ∧
  (∀ i y H2, xs[i]? = some y → Pv i H2 → g y (wipe σ vs) H2 fun σ2 H3 => wipe σ2 vs = wipe σ vs ∧ tt σ2 H3 fun b H4 => if b = true then te σ2 H4 fun z H5 => CSt D (Pv (i + 1)) z H5 else Pv (i + 1) H4) ∧
  ∀ H2, Pv xs.length H2 → Q (.ref D) H2
theorem pe_lcG {elt tg l : Expr} {ifs : List Expr} {scope : Scope} {own : List (Str × Nat)} {pos : Pos} {tl : TE} {g : TG} {tt : TT} {te : TE} {p : Addr × Obj} (hot : Hot1 X.A p) (hpn : p ∈ X.pn) (hN : X.N.Nodup) (hl : PE X l tl) (ok : BlkOk X.N X.env.scope scope own)
    (hg : ∀ s H C cl fp, PG (Cx.blkH X s H scope cl C fp p) tg g) (ht : ∀ s H C cl fp, PTs (Cx.blkH X s H scope cl C fp p) ifs tt) (he : ∀ s H C cl fp, PE (Cx.blkH X s H scope cl C fp p) elt te)
    (hs : ∀ x, foldedSetIterable l X.env x = pure x := by intro _; rfl) : PE X (.ListComp elt [⟨tg, l, ifs, 0⟩] scope pos) (tLcG tl g tt te (own.map (·.2))) := by
  refine ⟨fun pins s σ H Q I h => ?_⟩
  rw [eval_ListComp]
  have clo := closure_ok (env := X.env) (scope := scope) (fun y hy e => (ok.free y hy e).elim (fun k => I.ok.has _ (.inl k)) fun k => I.ok.has _ (.inr k))
  refine wpAny_comprehension_free (use := none) rfl hs clo ok.kind (fun y hy e => (ok.uniq y hy).trans (congrArg some e)) (thn (hl.run pins s σ H _ I h) fun v s1 ⟨x, H1, I1, r1, a, xs, ex, hq, q⟩ => ?_)
  subst ex
  cases r1
  obtain ⟨W, S, it, s2, hiter, k2, st2, I2, fit, hlt2, T, hgo, hstop, hyld⟩ : ∃ (W : It) (S : Nat → Heap → Prop) (it : Addr) (s2 : Shared), (∀ (Q : Value → Shared → Prop), Q (.ref it) s2 → wpAny (model X.prog X.w) X.A (pyIter (.ref a)) Q X.xe s1) ∧ (∀ b o, s1.heap.get? b = some o → s2.heap.get? b = some o) ∧ S 0 s2.heap ∧ Inv X pins σ H1 s2 ∧ FpOk X pins H1 it ∧ (∃ o, s2.heap.get? it = some o) ∧
      TurnH X.prog X.w X.K tg W [it] it S ∧ (∀ i H2, (∀ o, H1 a = some o → H2 a = some o) → i < xs.length → W.go i H2) ∧ (∀ i H2, (∀ o, H1 a = some o → H2 a = some o) → xs.length ≤ i → W.stop i H2) ∧ (∀ i H2 x H7, (∀ o, H1 a = some o → H2 a = some o) → W.yld i H2 x H7 → H7 = H2 ∧ xs[i]? = some x) := by
    have fit : FpOk X pins H1 s1.heap.objs.size := I1.fpOk (Nat.le_refl _) (I1.hok.fresh (Nat.le_refl _))
    rcases sq_or hq with hq | hq
    · obtain ⟨its, rv, pl, hz⟩ := I1.list (SqL.of hq)
      have e : ∀ {H2 : Hp}, (∀ o, H1 a = some o → H2 a = some o) → SqL X.K H2 a xs := fun h => SqL.of (h _ hq)
      refine ⟨Itl X.K a, fun i h => h.IsListIter s1.heap.objs.size a i, s1.heap.objs.size, { s1 with heap := s1.heap.push { cls := .type "list_iterator", data := .fields #[.ref a, .int (0 : Nat) 0] } }, fun Q q => wpAny_pyIter_list pl.isList q, fun b o e => Heap.get?_push_of_some _ e, ⟨_, Heap.get?_push_size _ rfl, rfl, rfl⟩, I1.kept (t' := s1.toks) fun b o e => Heap.get?_push_of_some _ e, fit, ⟨_, Heap.get?_push_size _ rfl⟩, turn_listH a _,
        fun i H2 h hi => ⟨xs, _, e h, List.getElem?_eq_getElem hi⟩, fun i H2 h hi => ⟨xs, e h, hi⟩, fun i H2 x H7 h y => ⟨y.1, y.2 xs (e h)⟩⟩
    · obtain ⟨its, rv, pl, hz⟩ := I1.tuple (SqT.of hq)
      have e : ∀ {H2 : Hp}, (∀ o, H1 a = some o → H2 a = some o) → SqT X.K H2 a xs := fun h => SqT.of (h _ hq)
      refine ⟨Itt X.K a, fun i h => h.IsTupleIter s1.heap.objs.size a i, s1.heap.objs.size, { s1 with heap := s1.heap.push { cls := .type "tuple_iterator", data := .fields #[.ref a, .int (0 : Nat) 0] } }, fun Q q => wpAny_pyIter_tuple (show s1.heap.IsTuple a its.toArray from pl) q, fun b o e => Heap.get?_push_of_some _ e, ⟨_, Heap.get?_push_size _ rfl, rfl, rfl⟩, I1.kept (t' := s1.toks) fun b o e => Heap.get?_push_of_some _ e, fit, ⟨_, Heap.get?_push_size _ rfl⟩, turn_tupleH a _,
        fun i H2 h hi => ⟨xs, _, e h, List.getElem?_eq_getElem hi⟩, fun i H2 h hi => ⟨xs, e h, hi⟩, fun i H2 x H7 h y => ⟨y.1, y.2 xs (e h)⟩⟩
  refine hiter _ ?_
  refine wpAny_newObj_type (newEnv_comp ?_) (by show 0 ≤ sizeLine; decide)
  generalize hD : s2.heap.objs.size = D
  have hDn : H1 D = none := I2.hok.fresh (Nat.le_of_eq hD)
  have itD : it < D := by
    rw [← hD]
    obtain ⟨o, e⟩ := hlt2
    exact Heap.lt_size e
  obtain ⟨Pv, a0, hkp, step, fin⟩ := q D hDn
  generalize hs3 : ({ s2 with heap := s2.heap.push { cls := .type "list", data := .seq ([] : List Value).toArray } } : Shared) = s3
  have k3 : ∀ b o, s2.heap.get? b = some o → s3.heap.get? b = some o := fun b o e => by subst hs3; exact Heap.get?_push_of_some _ e
  have I3 : Inv X pins σ (upd H1 D (.lst [])) s3 := by
    subst hs3 hD
    exact I2.laid (t' := s2.toks) (fun b o e => Heap.get?_push_of_some _ e) (Nat.le_refl _) ⟨Nat.zero_le _, [], 0, .nil, Heap.get?_push_size _ rfl⟩
  have n3 : (upd H1 D (.lst [])) it = none := by rw [upd_ne (Nat.ne_of_lt itD)]; exact fit.1
  have fit3 : FpOk X pins (upd H1 D (.lst [])) it := ⟨n3, fit.2⟩
  have it3 : it < s3.heap.objs.size := by
    obtain ⟨o, e⟩ := hlt2
    exact Heap.lt_size (k3 _ _ e)
  have I4 := block_start I3 ok hN (fp := [it]) (fun b hb => by obtain rfl := List.mem_singleton.mp hb; exact ⟨fit3, it3⟩)
  have P3 := I3.pin p (List.mem_append_left _ hpn)
  have mo : ∀ {o : Obj}, s3.heap.get? p.1 = some o → (pushCells (s3.heap.push { cls := .type "dict", data := .dict #[] }) scope.names).get? p.1 = some o := fun e => pushCells_keeps _ _ _ _ (Heap.get?_push_of_some _ e)
  have I5 := (I4.pins_of (pins' := [p]) (fun b hb => by
    obtain rfl := List.mem_singleton.mp hb
    exact ⟨mo P3.1, P3.2.1, Nat.ne_of_lt (Heap.lt_size P3.1), fun hm => (List.mem_cons.mp (I3.stkSub _ hm)).elim P3.2.2.1 P3.2.2.2.1, P3.2.2.2.2⟩)).toTry (fun _ _ => False)
  have pg := hg s3 (upd H1 D (.lst [])) s3.heap.objs.size (cellsFrom (s3.heap.objs.size + 1) scope.names (cloFrom X.env.cells scope.names [])) [it]
  have pt := ht s3 (upd H1 D (.lst [])) s3.heap.objs.size (cellsFrom (s3.heap.objs.size + 1) scope.names (cloFrom X.env.cells scope.names [])) [it]
  have pe := he s3 (upd H1 D (.lst [])) s3.heap.objs.size (cellsFrom (s3.heap.objs.size + 1) scope.names (cloFrom X.env.cells scope.names [])) [it]
  have I5' : Inv (Cx.blkH X s3 (upd H1 D (.lst [])) scope (cellsFrom (s3.heap.objs.size + 1) scope.names (cloFrom X.env.cells scope.names [])) s3.heap.objs.size [it] p) [] (wipe σ (own.map (·.2))) (upd H1 D (.lst [])) { s3 with heap := pushCells (s3.heap.push { cls := .type "dict", data := .dict #[] }) scope.names } := I5
  generalize hB : Cx.blkH X s3 (upd H1 D (.lst [])) scope (cellsFrom (s3.heap.objs.size + 1) scope.names (cloFrom X.env.cells scope.names [])) s3.heap.objs.size [it] p = B at pg pt pe I5'
  have hotB : HotC B := by subst hB; exact ⟨p, hot, List.mem_singleton.mpr rfl⟩
  have stB : ∀ {σ' : L2.St} {H' : Hp} {s' : Shared}, Inv B [] σ' H' s' → H' it = none → ∀ b ∈ [it], FpOk B [] H' b := fun {σ' H' s'} J hn b hb => by
    obtain rfl := List.mem_singleton.mp hb
    subst hB
    exact ⟨hn, (J.ok.exf b hb).1, J.ok.exfs b hb, .inl hb, (J.ok.exf b hb).2, fun r hr => by
      obtain rfl := List.mem_singleton.mp (by simpa using hr)
      exact fit3.2.2.2.2.2 r (List.mem_append_left _ hpn)⟩
  have st4 : S 0 (pushCells (s3.heap.push { cls := .type "dict", data := .dict #[] }) scope.names) := T.keep 0 _ _ st2 fun b _ o e => pushCells_keeps _ _ _ _ (Heap.get?_push_of_some _ (k3 _ _ e))
  have hpr : B.prog = X.prog := by subst hB; rfl
  have hw : B.w = X.w := by subst hB; rfl
  have hK : B.K = X.K := by subst hB; rfl
  have hA : B.A = X.A := by subst hB; rfl
  have hxe : B.xe = fun _ _ => False := by subst hB; rfl
  have hE : B.env = compEnvC scope (cellsFrom (s3.heap.objs.size + 1) scope.names (cloFrom X.env.cells scope.names [])) s3.heap.objs.size X.env := by subst hB; rfl
  have loop : codeAny (model X.prog X.w) X.A (.compLoop (.ListComp elt [⟨tg, l, ifs, 0⟩] scope pos) 0 (.ref it) (.ref D) (compEnvC scope (cellsFrom (s3.heap.objs.size + 1) scope.names (cloFrom X.env.cells scope.names [])) s3.heap.objs.size X.env)) (compPost (model X.prog X.w) X.A X.xe none (EP X pins σ Q) (.ref D) s3.heap.objs.size) { s3 with heap := pushCells (s3.heap.push { cls := .type "dict", data := .dict #[] }) scope.names } := by
    refine compLoop_any (fun n s' => ∃ i H2, i + n = xs.length ∧ Pv i H2 ∧ H2 it = none ∧ Inv B [] (wipe σ (own.map (·.2))) H2 s' ∧ S i s'.heap) ?_ xs.length ⟨0, _, by omega, a0, n3, I5', st4⟩
    rintro n s5 ⟨i, H2, hi, pv, hn2, J, st5⟩
    cases hx : xs[i]? with
    | none =>
      have td := T.done B hpr hw hK hotB i [] s5 _ _ (fun _ _ => False) J (stB J hn2) st5 (hstop i H2 (hkp i H2 pv) (List.getElem?_eq_none_iff.mp hx))
      rw [hA] at td
      refine thnF td fun r s6 ⟨hr, J6⟩ => ?_
      subst hr
      obtain rfl : i = xs.length := by have := List.getElem?_eq_none_iff.mp hx; omega
      subst hB
      have I7 : Inv X pins σ H2 s6 := I3.call' (ch := [it]) J6.os J6.base J6.hok J6.bare fun b hb => by
        obtain rfl := List.mem_singleton.mp hb
        exact ⟨fit3.2.2.2.1, fit3.2.1, fit3.2.2.2.2.1, fit3.2.2.2.2.2⟩
      obtain ⟨m, hn, _⟩ := J6.loc
      have hC : H2 s3.heap.objs.size = none := J6.free
      obtain ⟨f0, f1, f2, f3, f4, f5⟩ := I3.fpOk (Nat.le_refl _) (show (upd H1 D (.lst [])) s3.heap.objs.size = none from I3.hok.fresh (Nat.le_refl _))
      exact ⟨m, hn, fun h'' sb => ⟨.ref D, _, I7.turned (t' := s6.toks) (fun b o hb e => (sb.2 b hb).trans e) hC f1 f3 f4 f5, rfl, fin H2 pv⟩⟩
    | some y =>
      have hlt := (List.getElem?_eq_some_iff.mp hx).1
      have ti := T.item B hpr hw hK hotB i [] s5 _ _ (fun _ _ => False) J (stB J hn2) st5 (hgo i H2 (hkp i H2 pv) hlt)
      rw [hA] at ti
      refine thnF ti fun r s6 ⟨u, hr, h6⟩ => ?_
      subst hr
      refine thnF h6 fun _ s7 ⟨x, H7, J7, r7, y7, st7, n7⟩ => ?_
      obtain ⟨e7, ex7⟩ := hyld i H2 x H7 (hkp i H2 pv) y7
      subst e7
      obtain rfl : x = y := by
        rw [hx] at ex7
        exact (Option.some.inj ex7).symm
      have J7' := J7.pinned (stB J7 hn2) (T.obj _ _ st7)
      have back : ∀ {σ' : L2.St} {s' : Shared} {H' : Hp}, wipe σ' (own.map (·.2)) = wipe σ (own.map (·.2)) → Pv (i + 1) H' → Inv B ([] ++ pinsAt [it] s7.heap) σ' H' s' → ∃ m, m < n ∧ ∃ i H2, i + m = xs.length ∧ Pv i H2 ∧ H2 it = none ∧ Inv B [] (wipe σ (own.map (·.2))) H2 s' ∧ S i s'.heap := fun {σ' s' H'} hw' pv' J' => by
        have pin : ∀ b ∈ [it], ∀ o, s7.heap.get? b = some o → s'.heap.get? b = some o ∧ H' b = none := fun b hb o e => by
          have q := J'.pin (b, o) (List.mem_append_right _ (List.mem_append_right _ (mem_pinsAt hb e)))
          exact ⟨q.1, q.2.1⟩
        obtain ⟨o7, e7, _⟩ := T.obj _ _ st7 it (List.mem_singleton.mpr rfl)
        refine ⟨n - 1, by omega, i + 1, H', by omega, pv', (pin it (List.mem_singleton.mpr rfl) o7 e7).2, ?_, T.keep _ _ _ st7 fun b hb o e => (pin b hb o e).1⟩
        rw [← hw']
        exact (J'.unpinned (pins := [])).weak (wipe_length _ _) fun j v e => (wipe_some e).1
      have st1 := step i x _ hx pv
      have rg := pg.run _ s7 _ _ x u _ J7' r7 st1
      rw [hpr, hw, hA, hxe, hE] at rg
      refine thnF rg fun _ s8 ⟨σ8, H8, J8, hw8, q8⟩ => ?_
      have rt := pt.run _ s8 σ8 H8 _ J8 q8
      rw [hpr, hw, hA, hxe, hE] at rt
      refine thnF rt fun b s9 ⟨H9, J9, q9⟩ => ?_
      cases b with
      | false => exact back hw8 q9 J9
      | true =>
        have re := pe.run _ s9 σ8 H9 _ J9 q9
        rw [hpr, hw, hA, hxe, hE] at re
        refine thnF re fun z s10 ⟨yv, H10, J10, r10, acc, hacc, hz1, q10⟩ => ?_
        have ap := app_ok (X := B) (E := fun _ _ => False) J10 (D := D) (xs := acc) hacc hz1 r10 (Q := fun _ s' => ∃ m, m < n ∧ ∃ i H2, i + m = xs.length ∧ Pv i H2 ∧ H2 it = none ∧ Inv B [] (wipe σ (own.map (·.2))) H2 s' ∧ S i s'.heap) fun s11 J11 => back hw8 q10 J11
        rw [hpr, hw, hA] at ap
        exact thnF ap fun _ _ z => z
  exact codeAny_compStart_list loop (T.self X.A 0 _ _ _ st4 loop)
end
section
variable {σ : L2.St} {H : Hp} {Q : VK} {g : TG} {tt : TT} {te : TE} {vs : List Nat} {tl : TE}
def CG (a : Addr) (g : TG) (tt : TT) (te : TE) (vs : List Nat) (σ : L2.St) (H1 : Hp) (Q : VK) : Prop := ∃ xs, sq H1 a = some xs ∧ ∀ D, H1 D = none → ∃ Pv : Nat → Hp → Prop, Pv 0 (upd H1 D (.lst [])) ∧ (∀ i H2, Pv i H2 → ∀ o, H1 a = some o → H2 a = some o) ∧
  (∀ i y H2, xs[i]? = some y → Pv i H2 → g y (wipe σ vs) H2 fun σ2 H3 => wipe σ2 vs = wipe σ vs ∧ tt σ2 H3 fun b H4 => if b = true then te σ2 H4 fun z H5 => CSt D (Pv (i + 1)) z H5 else Pv (i + 1) H4) ∧
  ∀ H2, Pv xs.length H2 → Q (.ref D) H2
theorem a_lcG : tLcG tl g tt te vs σ H Q = tl σ H fun x H1 => ∃ a, x = .ref a ∧ CG a g tt te vs σ H1 Q := by
  unfold tLcG CG
  congr 1
  funext x H1
  apply propext
  constructor
  · rintro ⟨a, xs, e, h⟩; exact ⟨a, e, xs, h⟩
  · rintro ⟨a, e, xs, h⟩; exact ⟨a, xs, e, h⟩
theorem cg_by {a : Addr} {xs : List V} (hq : sq H a = some xs) (Pv : Addr → Nat → List V → Hp → Prop) (h0 : ∀ C H0, New H C (.lst []) H0 → Pv C 0 [] H0) (hl : ∀ C i acc H', H C = none → Pv C i acc H' → ∀ o, H a = some o → H' a = some o)
    (hs : ∀ C i x acc H1 N, H C = none → xs[i]? = some x → H1 C = some (.lst acc) → Pv C i acc H1 → (∀ acc' H5, H5 C = some (.lst acc') → Pv C (i + 1) acc' H5 → N H5) → g x (wipe σ vs) H1 fun σ2 H2 => wipe σ2 vs = wipe σ vs ∧ tt σ2 H2 fun b H3 =>
      if b = true then te σ2 H3 fun y H4 => CSt C N y H4 else N H3)
    (hd : ∀ C acc H1, H C = none → H1 C = some (.lst acc) → Pv C xs.length acc H1 → Q (.ref C) H1) : CG a g tt te vs σ H Q := by
  refine ⟨xs, hq, fun C hC => ⟨fun i H1 => ∃ acc, H1 C = some (.lst acc) ∧ Pv C i acc H1, ⟨[], upd_same, h0 C _ (New.mk' hC)⟩, fun i H2 ⟨acc, ha, p⟩ => hl C i acc H2 hC p, fun i y H2 hi ⟨acc, ha, p⟩ => ?_, fun H2 ⟨acc, ha, p⟩ => hd C acc H2 hC ha p⟩⟩
  exact hs C i y acc H2 _ hC hi ha p fun acc' H5 h5 p5 => ⟨acc', h5, p5⟩
end

/-! ## G1 -/
local macro_rules | `(tactic| walk_at "wp") => `(tactic| (try simp only [a_var, a_c, a_op, a_un, a_test, a_b, a_and, a_or, a_not, a_andV, a_orV, a_notV, a_if, a_next, a_seq, a_break, a_cont, a_drop, a_ret, a_retN, a_ifS, a_asg, a_name, a_sub, a_nil, a_cons, a_tup, a_lst, a_call, a_cb, a_bm0, a_bm, a_sl, a_nopart, a_part, a_aug, b_rI, b_rI0, b_rU, b_eq, b_ne, b_isTF, b_int, b_intb, b_list, b_tuple, b_ix, b_len, b_setL, b_app, b_pop, b_popAt, b_sl, b_rep, b_cat, b_lstRg, b_tupRg, b_rg1, b_rg2, a_forR, a_forR2, a_forS, b_fsq, a_lcR, a_lcR2, a_lcS, b_csq, wipe_nil, wipe_cons, a_yes, wh_i, wh_s, wh_b, wh_r, wh_n, Bool.not_eq_true, eq_self, not_true_eq_false, not_false_eq_true, b_isi, kb_all, ty_non, ty_bl, ty_int, ty_str, a_m1, b_ixS, b_slS, List.cons.injEq, and_assoc, exists_and_left, cxK, List.getElem?_cons_zero, List.getElem?_cons_succ, List.set_cons_zero, List.set_cons_succ, Option.some.injEq, exists_eq_left', exists_eq_left, V.bl.injEq, V.int.injEq, V.ref.injEq, V.str.injEq, HO.lst.injEq, HO.tup.injEq, decide_eq_true_eq, true_and, and_true, L2.start, List.map_cons, List.map_nil, List.length_cons, List.length_nil, Nat.zero_add, Nat.reduceAdd, Nat.reduceSub, List.replicate_succ, List.replicate_zero, List.cons_append, List.nil_append, if_true, if_false, Bool.false_eq_true, Bool.not_true, Bool.not_false, decide_not, Bool.not_eq_true', decide_eq_false_iff_not, scal_ii, scal_bb, scal_ss, scal_is, scal_si, reduceCtorEq, Bool.true_eq_false, decide_false, decide_true, if_pos, ne_eq, Int.reduceNeg, atI_0, atI_1, atI_2, atI_3, atI_4, atI_5, atI_6, ixN_7, b_ins, a_revL, b_isT, V.ty.injEq, Bool.true_or, Bool.or_true, Bool.false_or, Bool.or_false, Bool.or_self, b_sorted, b_repT, a_err, a_callS, a_xp, a_isP, a_lcE, a_forE, a_isV, a_lcH, a_ch, a_forES, a_lcG]))
local macro_rules | `(tactic| walk_at "wps") => `(tactic| (try simp only [a_var, a_c, a_op, a_un, a_test, a_b, a_and, a_or, a_not, a_andV, a_orV, a_notV, a_if, a_next, a_seq, a_break, a_cont, a_drop, a_ret, a_retN, a_ifS, a_asg, a_name, a_sub, a_nil, a_cons, a_tup, a_lst, a_call, a_cb, a_bm0, a_bm, a_sl, a_nopart, a_part, a_aug, b_rI, b_rI0, b_rU, b_eq, b_ne, b_isTF, b_int, b_intb, b_list, b_tuple, b_ix, b_len, b_setL, b_app, b_pop, b_popAt, b_sl, b_rep, b_cat, b_lstRg, b_tupRg, b_rg1, b_rg2, a_forR, a_forR2, a_forS, b_fsq, a_lcR, a_lcR2, a_lcS, b_csq, wipe_nil, wipe_cons, a_yes, wh_i, wh_s, wh_b, wh_r, wh_n, Bool.not_eq_true, eq_self, not_true_eq_false, not_false_eq_true, b_isi, kb_all, ty_non, ty_bl, ty_int, ty_str, a_m1, b_ixS, b_slS, List.cons.injEq, and_assoc, exists_and_left, cxK, List.getElem?_cons_zero, List.getElem?_cons_succ, List.set_cons_zero, List.set_cons_succ, Option.some.injEq, exists_eq_left', exists_eq_left, V.bl.injEq, V.int.injEq, V.ref.injEq, V.str.injEq, HO.lst.injEq, HO.tup.injEq, decide_eq_true_eq, true_and, and_true, L2.start, List.map_cons, List.map_nil, List.length_cons, List.length_nil, Nat.zero_add, Nat.reduceAdd, Nat.reduceSub, List.replicate_succ, List.replicate_zero, List.cons_append, List.nil_append, if_true, if_false, Bool.false_eq_true, Bool.not_true, Bool.not_false, decide_not, Bool.not_eq_true', decide_eq_false_iff_not, scal_ii, scal_bb, scal_ss, scal_is, scal_si, reduceCtorEq, Bool.true_eq_false, decide_false, decide_true, if_pos, ne_eq, Int.reduceNeg, atI_0, atI_1, atI_2, atI_3, atI_4, atI_5, atI_6, ixN_7, b_ins, a_revL, b_isT, V.ty.injEq, Bool.true_or, Bool.or_true, Bool.false_or, Bool.or_false, Bool.or_self, b_sorted, b_repT, a_err, a_callS, a_xp, a_isP, a_lcE, a_forE, a_isV, a_lcH, a_ch, a_forES, a_lcG, *]))
local macro_rules | `(tactic| walk_at "wq") => `(tactic| (try simp only [a_var, a_c, a_op, a_un, a_test, a_b, a_and, a_or, a_not, a_andV, a_orV, a_notV, a_if, a_next, a_break, a_cont, a_drop, a_ret, a_retN, a_ifS, a_asg, a_name, a_sub, a_nil, a_cons, a_tup, a_lst, a_call, a_cb, a_bm0, a_bm, a_sl, a_nopart, a_part, a_aug, b_rI, b_rI0, b_rU, b_eq, b_ne, b_isTF, b_int, b_intb, b_list, b_tuple, b_ix, b_len, b_setL, b_app, b_pop, b_popAt, b_sl, b_rep, b_cat, b_lstRg, b_tupRg, b_rg1, b_rg2, a_forR, a_forR2, a_forS, b_fsq, a_lcR, a_lcR2, a_lcS, b_csq, wipe_nil, wipe_cons, a_yes, wh_i, wh_s, wh_b, wh_r, wh_n, Bool.not_eq_true, eq_self, not_true_eq_false, not_false_eq_true, b_isi, kb_all, ty_non, ty_bl, ty_int, ty_str, a_m1, b_ixS, b_slS, List.cons.injEq, and_assoc, exists_and_left, cxK, List.getElem?_cons_zero, List.getElem?_cons_succ, List.set_cons_zero, List.set_cons_succ, Option.some.injEq, exists_eq_left', exists_eq_left, V.bl.injEq, V.int.injEq, V.ref.injEq, V.str.injEq, HO.lst.injEq, HO.tup.injEq, decide_eq_true_eq, true_and, and_true, L2.start, List.map_cons, List.map_nil, List.length_cons, List.length_nil, Nat.zero_add, Nat.reduceAdd, Nat.reduceSub, List.replicate_succ, List.replicate_zero, List.cons_append, List.nil_append, if_true, if_false, Bool.false_eq_true, Bool.not_true, Bool.not_false, decide_not, Bool.not_eq_true', decide_eq_false_iff_not, scal_ii, scal_bb, scal_ss, scal_is, scal_si, reduceCtorEq, Bool.true_eq_false, decide_false, decide_true, if_pos, ne_eq, Int.reduceNeg, atI_0, atI_1, atI_2, atI_3, atI_4, atI_5, atI_6, ixN_7, b_ins, a_revL, b_isT, V.ty.injEq, Bool.true_or, Bool.or_true, Bool.false_or, Bool.or_false, Bool.or_self, b_sorted, b_repT, a_err, a_callS, a_xp, a_isP, a_lcE, a_forE, a_isV, a_lcH, a_ch, a_forES, a_lcG, *]))
local macro_rules | `(tactic| walk_at "wn") => `(tactic| (try simp only [a_var, a_c, a_op, a_un, a_test, a_b, a_and, a_or, a_not, a_andV, a_orV, a_notV, a_if, a_next, a_break, a_cont, a_drop, a_ret, a_retN, a_ifS, a_asg, a_name, a_sub, a_nil, a_cons, a_tup, a_lst, a_call, a_cb, a_bm0, a_bm, a_sl, a_nopart, a_part, a_aug, b_rI, b_rI0, b_rU, b_eq, b_ne, b_isTF, b_int, b_intb, b_list, b_tuple, b_ix, b_len, b_setL, b_app, b_pop, b_popAt, b_sl, b_rep, b_cat, b_lstRg, b_tupRg, b_rg1, b_rg2, a_forR, a_forR2, a_forS, b_fsq, a_lcR, a_lcR2, a_lcS, b_csq, wipe_nil, wipe_cons, a_yes, wh_i, wh_s, wh_b, wh_r, wh_n, Bool.not_eq_true, eq_self, not_true_eq_false, not_false_eq_true, b_isi, kb_all, ty_non, ty_bl, ty_int, ty_str, a_m1, b_ixS, b_slS, List.cons.injEq, and_assoc, exists_and_left, cxK, List.getElem?_cons_zero, List.getElem?_cons_succ, List.set_cons_zero, List.set_cons_succ, Option.some.injEq, exists_eq_left', exists_eq_left, V.bl.injEq, V.int.injEq, V.ref.injEq, V.str.injEq, HO.lst.injEq, HO.tup.injEq, decide_eq_true_eq, true_and, and_true, L2.start, List.map_cons, List.map_nil, List.length_cons, List.length_nil, Nat.zero_add, Nat.reduceAdd, Nat.reduceSub, List.replicate_succ, List.replicate_zero, List.cons_append, List.nil_append, if_true, if_false, Bool.false_eq_true, Bool.not_true, Bool.not_false, decide_not, Bool.not_eq_true', decide_eq_false_iff_not, scal_ii, scal_bb, scal_ss, scal_is, scal_si, reduceCtorEq, Bool.true_eq_false, decide_false, decide_true, if_pos, ne_eq, Int.reduceNeg, atI_0, atI_1, atI_2, atI_3, atI_4, atI_5, atI_6, ixN_7, b_ins, a_revL, b_isT, V.ty.injEq, Bool.true_or, Bool.or_true, Bool.false_or, Bool.or_false, Bool.or_self, b_sorted, b_repT, a_err, a_callS, a_xp, a_isP, a_lcE, a_forE, a_isV, a_lcH, a_ch, a_forES, a_lcG]))
local macro_rules | `(tactic| walk_at "sq") => `(tactic| ((try dsimp only); rw [a_seq]; walk_at "wq"))
local macro_rules | `(tactic| walk_at "sn") => `(tactic| ((try dsimp only); rw [a_seq]; walk_at "wn"))

theorem clH_false {P : Program} {w : World} {K : PySem.W.Frag} {mg : Str → Option Value} {base : Heap} {x : Str} {st : Stmt} {ps : List Str} {k : Nat} {sp : HSp} (D : Df K mg x st)
    (hb : ∀ (kV doc pm : Value) (an : Option Addr) (cdv ct : Value) (us : List Value), us.length = ps.length → bindArgs (PySem.W.fnOf x x (defArgs st) (defBody st) (defScope st) .none kV doc pm an cdv ct) ⟨us, []⟩ = pure (ps.zip us))
    (no : ∀ a c d vs H Q E, ¬ sp a c d vs H Q E) : ClH P w K mg base k x ps sp := by
  obtain ⟨f, fd, F, g⟩ := D
  exact ⟨f, fd, g, F.kp, F.bindsA hb, fun a c d vs H Q E h => (no a c d vs H Q E h).elim, fun A outer s H us vs Q E p cls d _ _ _ _ _ _ h => (no _ _ _ _ _ _ _ h).elim⟩
section
variable {P : Program} {w : World} {K : PySem.W.Frag} {mg : Str → Option Value} {base : Heap}
def sp_frozenH (N : Nat) : HSp := fun _ _ _ vs H Q E => sp_frozen N vs H Q E
theorem ok_law_frozenH (D : Df K mg "_law_frozen" st_law_frozen) (T : NoB mg)  {n : Nat} (C_law_frozenH : ClH P w K mg base n "_law_frozen" ["value", "deep"] (sp_frozenH n)): ClH P w K mg base (n+1) "_law_frozen" ["value", "deep"] (sp_frozenH (n+1)) := by
  refine clH_of D sc_law_frozen (fun _ _ _ _ _ _ us hl => match us, hl with | [_, _], _ => rfl) (fun _ _ _ vs H Q E h => ?_) (fun f cdv A outer sh H vs Q E p cls dd hot hz hc hr h => ?_)
  · obtain ⟨_, _, _, _, _, rfl, _⟩ := h; rfl
  have hf : ∃ vs, p.2.data = .fields vs := hot.2.imp fun _ h => h.1
  obtain ⟨v, deep, E, d, n', rfl, h0, h1, lv, hd, hn, k⟩ := h
  refine ⟨_, (pss_cons (ps_if (PW.pt (pw_and (pt_cmpR op_gt (pv 1) pe_int (nomark _)) (pw_and1 (pt_val (pe_callB isi1 (by rfl) T.no_isinstance (by decide +kernel) (pa_cons (pv 0) (pa_cons (pe_bltn (by rfl) T.no_list (by decide +kernel) (show RelV (.ty "list") _ from rfl)) pa_nil))))))) (pss_one (ps_ret (pe_tup (pa_cons pe_str (pa_cons (pe_callTy tup1 (by rfl) T.no_tuple (by decide +kernel) (pa_cons (pe_lcG hot List.mem_cons_self (own := [("part", 2)]) (g := gName 2) (tt := tYes) sc_law_frozen.nd (pv 0) (blkOk_by (own := [("part", 2)]) (N := ["value", "deep", "part"]) (sc := defScope st_law_frozen) (by decide +kernel)) (fun _ _ _ _ _ => (pg_name (i := 2) sc_law_frozen.nd rfl (Or.inl rfl))) (fun _ _ _ _ _ => pts_nil) (fun _ _ _ _ _ => (pe_clH C_law_frozenH hot List.mem_cons_self hz hr (by rfl) (pa_cons (pv 2) (pa_cons (pe_op op_sub (pv 1) pe_int) pa_nil)) (Nat.le_refl _)))) pa_nil)) pa_nil))))) pss_nil)
    (pss_cons (ps_if (PW.pt (pw_and (pt_cmpR op_gt (pv 1) pe_int (nomark _)) (pw_and1 (pt_val (pe_callB isi1 (by rfl) T.no_isinstance (by decide +kernel) (pa_cons (pv 0) (pa_cons (pe_bltn (by rfl) T.no_tuple (by decide +kernel) (show RelV (.ty "tuple") _ from rfl)) pa_nil))))))) (pss_one (ps_ret (pe_tup (pa_cons pe_str (pa_cons (pe_callTy tup1 (by rfl) T.no_tuple (by decide +kernel) (pa_cons (pe_lcG hot List.mem_cons_self (own := [("part", 2)]) (g := gName 2) (tt := tYes) sc_law_frozen.nd (pv 0) (blkOk_by (own := [("part", 2)]) (N := ["value", "deep", "part"]) (sc := defScope st_law_frozen) (by decide +kernel)) (fun _ _ _ _ _ => (pg_name (i := 2) sc_law_frozen.nd rfl (Or.inl rfl))) (fun _ _ _ _ _ => pts_nil) (fun _ _ _ _ _ => (pe_clH C_law_frozenH hot List.mem_cons_self hz hr (by rfl) (pa_cons (pv 2) (pa_cons (pe_op op_sub (pv 1) pe_int) pa_nil)) (Nat.le_refl _)))) pa_nil)) pa_nil))))) pss_nil)
    (pss_one (ps_ret (pv 0))))), ?_⟩
  have comp : ∀ (pa : Addr) (xs : List V) (ds : List PyData) (m : Nat) (R : VK), 0 < deep → m ≤ 1000000 → sq H pa = some xs → DwAll E H xs ds m →
      (∀ C acc H1 m', H C = none → Same H H1 → H1 C = some (.lst acc) → DwAll (C :: E) H1 acc (ds.map (frz (deep.toNat - 1))) m' → m' ≤ 8 * m → R (.ref C) H1) →
      CG pa (gName 2) tYes (fun σ H Q => (tCons (tVar 2) (tCons (tOp (rI0 fun i j => V.int (i - j)) (tVar 1) (tC (V.int 1))) tNil)) σ H fun vs H1 => sp_frozenH n p.1 cls dd vs H1 Q E0) [2] [some (V.ref pa), some (V.int deep), none] H R := by
    intro pa xs ds m R hpos hm hq hd hR
    refine cg_by hq (fun C i acc H' => Same H H' ∧ ∃ m' r w, DwAll (C :: E) H' acc ((ds.take i).map (frz (deep.toNat - 1))) m' ∧ DwAll E H (xs.drop i) (ds.drop i) r ∧ m' ≤ 8 * w ∧ w + r = m)
      (fun C H0 n0 => ⟨n0.same, 0, m, 0, .nil, hd, by omega, by omega⟩) (fun C i acc H' _ ⟨s', _⟩ o e => s' _ _ e) ?_ ?_
    · rintro C i x acc H1 N hC hi ha ⟨s1, m', r, w, d1, d2, hw, hr⟩ hN
      have hlt : i < xs.length := (List.getElem?_eq_some_iff.mp hi).1
      have hx : xs[i] = x := (List.getElem?_eq_some_iff.mp hi).2
      rw [List.drop_eq_getElem_cons hlt, hx] at d2
      generalize hdd : ds.drop i = dd at d2
      cases d2 with
      | @cons _ _ d0 ds0 c1 c2 p1 p2 =>
        have hd1 : ds.drop (i + 1) = ds0 := by rw [← List.drop_drop, hdd] <;> rfl
        have hd2 : ds.take (i + 1) = ds.take i ++ [d0] := by rw [List.take_add, hdd] <;> rfl
        have lvC : Lv (C :: E) H1 := (lv.same s1).cons ha
        walk_at "wq"
        refine ⟨x, deep - 1, C :: E, d0, c1, rfl, by omega, by omega, lvC, (p1.fresh hC).same s1, by omega, fun u mu H2 s2 hu hmu => ?_⟩
        refine cst (s2 _ _ ha) (szl' (by have := d1.len.2; omega)) fun H3 n3 => hN _ _ n3.at_ ⟨n3.same (s1.trans s2) hC, m' + mu, c2, w + c1, ?_, by rw [hd1]; exact p2, by omega, by omega⟩
        rw [hd2, List.map_append]
        have hk : (deep - 1).toNat = deep.toNat - 1 := by omega
        rw [hk] at hu
        exact ((d1.same s2).put n3 (by simp)).app (.one (hu.put n3 (by simp)))
    · rintro C acc H1 hC ha ⟨s1, m', r, w, d1, d2, hw, hr⟩
      have hl := hd.len.1
      have e : ds.take xs.length = ds := by rw [hl]; exact List.take_length
      rw [e] at d1
      exact hR C acc H1 m' hC s1 ha d1 (by omega)
  have last : ∀ (tag : Str) (ds : List PyData) (m : Nat), tag.length ≤ 5 → m + 1 = n' → frz deep.toNat d = .tuple [.str tag, .tuple (ds.map (frz (deep.toNat - 1)))] → ∀ (C : Addr) (acc : List V) (H1 : Hp) (m' : Nat), H C = none → Same H H1 → H1 C = some (.lst acc) → DwAll (C :: E) H1 acc (ds.map (frz (deep.toNat - 1))) m' → m' ≤ 8 * m →
      Nw H1 (HO.tup acc) fun q H2 => Nw H2 (.tup [.str tag, .ref q]) fun p H' => Q (V.ref p) H' := by
    intro tag ds m ht hm hf C acc H1 m' hC s1 ha d1 hm' q H2 n2 p H3 n3
    have hlv2 := (lv.same s1).same n2.same
    have dq : Dw E H2 (.ref q) (.tuple (ds.map (frz (deep.toNat - 1)))) (m' + 1) := .tup ((lv.same s1).out n2.fr) n2.at_ ((d1.sub fun a z => by simp [z]).same n2.same)
    refine k _ (tag.length + 1 + (m' + 1 + 0) + 1) _ ((s1.trans n2.same).trans n3.same) ?_ (by omega)
    rw [hf]
    exact .tup (hlv2.out n3.fr) n3.at_ (.cons (.lf (.str tag)) (.cons (dq.same n3.same) .nil))
  cases hd with
  | lf l =>
    have e : frz deep.toNat d = d := by cases l <;> (cases deep.toNat <;> rfl)
    have fin : Q v H := k v _ H (Same.refl _) (by rw [e]; exact .lf l) (by have := l.pos; omega)
    cases l <;> (walk_at "wps"; (try (split <;> trivial)))
  | @lst a xs ds m ne h da =>
    have ht := ty_l h
    have fin : deep = 0 → Q (.ref a) H := fun z => k _ _ H (Same.refl _) (by rw [z]; exact .lst ne h da) (by omega)
    walk_at "wps"
    split
    · rename_i hp
      refine comp a xs ds m _ hp (by omega) (sq_l h) da fun C acc H1 m' hC s1 ha d1 hm' => ?_
      have hk : deep.toNat = deep.toNat - 1 + 1 := by omega
      have L := last "list" ds m (by decide +kernel) rfl (by rw [hk]; rfl) C acc H1 m' hC s1 ha d1 hm'
      walk_at "wn"
      refine ⟨acc, ha, fun q H2 n2 => ⟨szl (by decide), ?_⟩⟩
      exact L q H2 n2
    · exact fin (by omega)
  | @tup a xs ds m ne h da =>
    have ht := ty_t h
    have fin : deep = 0 → Q (.ref a) H := fun z => k _ _ H (Same.refl _) (by rw [z]; exact .tup ne h da) (by omega)
    walk_at "wps"
    split
    · rename_i hp
      refine comp a xs ds m _ hp (by omega) (sq_t h) da fun C acc H1 m' hC s1 ha d1 hm' => ?_
      have hk : deep.toNat = deep.toNat - 1 + 1 := by omega
      have L := last "tuple" ds m (by decide +kernel) rfl (by rw [hk]; rfl) C acc H1 m' hC s1 ha d1 hm'
      walk_at "wn"
      refine ⟨acc, ha, fun q H2 n2 => ⟨szl (by decide), ?_⟩⟩
      exact L q H2 n2
    · exact fin (by omega)
theorem frozen_allH (D : Df K mg "_law_frozen" st_law_frozen) (T : NoB mg) : ∀ n, ClH P w K mg base n "_law_frozen" ["value", "deep"] (sp_frozenH n)
  | 0 => clH_false D (fun _ _ _ _ _ _ us hl => match us, hl with | [_, _], _ => rfl) fun a c d vs H Q E h => by
    obtain ⟨v, deep, E, d, n, _, h0, h1, _⟩ := h
    omega
  | n + 1 => ok_law_frozenH D T (frozen_allH D T n)


end

/-! ## HoJ -/
section
open HT
variable {prog : Program} {w : World} {A : Around} {E : Value → Shared → Prop} {s : Shared}
theorem tuple_cut_whole {t sl : Addr} {items : Array Value} {vl vu : Value} {lo hi : Option Int} {Q : Value → Shared → Prop} (ht : IsTup s.heap t items) (hs : s.heap.IsSliceOf sl vl vu .none) (pl : IsPart vl lo) (pu : IsPart vu hi)
    (hw : sIx items.size 0 lo = 0 ∧ sIx items.size items.size hi = items.size) (h : Q (.ref t) s) : wpAny (model prog w) A (getItem (.ref t) (.ref sl)) Q E s := by
  obtain ⟨os, hos, hcs, hds⟩ := id hs
  have hTs : s.TypeIs (.ref sl) "slice" := ⟨os, hos, hcs⟩
  unfold getItem
  try with_reducible refine wpAny_holding ?_
  first | refine wpAny_bind (wpAny_pure ?_) | skip
  refine wpAny_bind (wpAny_sequenceKey ht.typeIs (by decide) ?_)
  refine wpAny_bind (wpAny_callSpecial?_slot (name := Str.ofString "__getitem__") ht.typeIs PyProof.Rows.slot_tuple_getitem
    (wpAny_call_entry PyProof.Rows.slot_tuple_getitem ht.typeIs entry_tuple_getitem ?_ (args_tuple_getitem _ _)))
  show wpAny _ _ (Builtin.Tuple.tupleItemsOf (.ref t) >>= _) _ _ s
  refine wpAny_bind (tupleItemsOf_ ht ?_)
  refine wpAny_bind (wpAny_typeOf hTs ?_)
  rw [if_pos (by decide)]
  refine wpAny_bind (sliceApplied_gen hs pl pu ?_)
  have hyes : ((((sIx items.size 0 lo : Nat) : Int) == 0 && (1 : Int) == 1 && (sIx items.size items.size hi - sIx items.size 0 lo) == items.size) = true) := by
    rw [hw.1, hw.2]
    simp
  show wpAny _ _ (if (((sIx items.size 0 lo : Nat) : Int) == 0 && (1 : Int) == 1 && (sIx items.size items.size hi - sIx items.size 0 lo) == items.size) = true then _ else _) _ _ s
  rw [if_pos hyes]
  refine wpAny_bind (wpAny_bind (wpAny_typeOf ht.typeIs (wpAny_pure ?_)))
  rw [if_pos (by decide)]
  refine wpAny_bind (wpAny_rule ?_)
  exact wpAny_pure ⟨_, rfl, wpAny_pure h⟩
end
def rSlTA (K : PySem.W.Frag) : V → Option Int → Option Int → Hp → VK → Prop := fun x lo hi H Q => ∃ a xs, x = .ref a ∧ SqT K H a xs ∧
  ((HT.sIx xs.length 0 lo = 0 ∧ HT.sIx xs.length xs.length hi = xs.length) → Q (.ref a) H) ∧ (¬ (HT.sIx xs.length 0 lo = 0 ∧ HT.sIx xs.length xs.length hi = xs.length) → ∀ p, H p = none → Q (.ref p) (upd H p (.tup (cutV xs lo hi))))
theorem sl_tupA {X : Cx} : SlR X (rSlTA X.K) := by
  intro pins s σ H x v vl vu lo hi sl Q I rx hs pl pu h
  obtain ⟨a, xs, rfl, hx, q1, q2⟩ := h
  by_cases hw : HT.sIx xs.length 0 lo = 0 ∧ HT.sIx xs.length xs.length hi = xs.length
  · cases rx
    obtain ⟨its, r, ht, hz⟩ := I.tuple hx
    have hlen : its.toArray.size = xs.length := by rw [List.size_toArray]; exact r.length.symm
    refine ⟨"tuple", _, PyProof.Rows.slot_tuple_getitem.lookup, ht.typeIs, ?_⟩
    exact tuple_cut_whole ht hs pl pu (by rw [hlen]; exact hw) ⟨.ref a, H, I, rfl, q1 hw⟩
  · exact sl_tup pins s σ H _ v vl vu lo hi sl Q I rx hs pl pu ⟨a, xs, rfl, hx, hw, q2 hw⟩
/-- what a slice is: its items, at the same address or a new one -/
theorem b_slTA {K : PySem.W.Frag} {a : Addr} {lo hi : Option Int} {H : Hp} {Q : VK} : (∃ xs, SqT K H a xs ∧ ((HT.sIx xs.length 0 lo = 0 ∧ HT.sIx xs.length xs.length hi = xs.length) → Q (.ref a) H) ∧ Nw H (.tup (cutV xs lo hi)) fun p H' => Q (.ref p) H') → rSlTA K (.ref a) lo hi H Q := fun ⟨xs, h, q1, q2⟩ => by
  refine ⟨a, xs, rfl, h, q1, fun _ => ?_⟩
  rw [nw_eq]
  exact q2

/-! ## F4 -/

theorem log_sm {n : Nat} (h : n < 2 ^ 1000) : n.log2 < 1920 := by
  by_cases e : n = 0
  · subst e; decide
  · have := (Nat.log2_lt e).mpr h
    omega
theorem sm_small {i : Int} (h : -(10 ^ 40) < i ∧ i < 10 ^ 40) : Sm (.int i) := sm_int (log_sm (by
  have : (i.natAbs : Int) < 10 ^ 40 := by omega
  have e : ((10 : Nat) ^ 40 : Nat) < 2 ^ 1000 := by decide +kernel
  have h2 : i.natAbs < 10 ^ 40 := by exact_mod_cast this
  exact Nat.lt_trans h2 e))
theorem db_int {E : List Addr} {H : Hp} {i : Int} {b : Nat} (h : 1 ≤ b) : Db E H b (.int i) := ⟨_, _, .lf (.int i), h⟩
theorem sm_any {v : V} (h : ∀ i, v ≠ .int i) : Sm v := fun i e => absurd e (h i)
theorem dr_ints {n : Int} {ys rest : List V} (h : (ys ++ rest).Perm ((rng n.toNat).map V.int)) : ∃ r : List Int, ys = r.map V.int ∧ (∀ z ∈ r, 0 ≤ z ∧ z < n) ∧ r.Nodup := by
  obtain ⟨L, h1, h2⟩ := perm_ints h
  obtain ⟨r, rst, rfl, rfl, rfl⟩ := append_ints h1
  refine ⟨r, rfl, fun z hz => ?_, (List.nodup_append.mp (h2.nodup_iff.mpr (rng_nodup _))).1⟩
  have := mem_rng.mp (h2.mem_iff.mp (List.mem_append_left _ hz))
  omega
theorem cut_to {xs : List V} {m : Int} (h : 0 ≤ m) : cutV xs none (some m) = xs.take m.toNat := by
  have e1 : HT.sIx xs.length xs.length (some m) = min m.toNat xs.length := by
    have := HT.sIx_nat xs.length xs.length m.toNat
    rw [Int.toNat_of_nonneg h] at this
    exact this
  unfold cutV
  rw [e1, HT.sIx_none, Nat.sub_zero, List.drop_zero]
  by_cases c : m.toNat ≤ xs.length
  · rw [Nat.min_eq_left c]
  · rw [Nat.min_eq_right (by omega), List.take_length, List.take_of_length_le (by omega)]
theorem cut_from {xs : List V} {m : Int} (h : 0 ≤ m) : cutV xs (some m) none = xs.drop m.toNat := by
  have e1 : HT.sIx xs.length 0 (some m) = min m.toNat xs.length := by
    have := HT.sIx_nat xs.length 0 m.toNat
    rw [Int.toNat_of_nonneg h] at this
    exact this
  unfold cutV
  rw [e1, HT.sIx_none]
  by_cases c : m.toNat ≤ xs.length
  · rw [Nat.min_eq_left c, List.take_of_length_le (by rw [List.length_drop]; exact Nat.le_refl _)]
  · rw [Nat.min_eq_right (by omega), List.drop_length, List.drop_of_length_le (by omega)]
    simp
theorem repI (n : Nat) (z : Int) : (List.replicate n [V.int z]).flatten = List.map V.int (List.replicate n z) := by
  induction n with
  | zero => rfl
  | succ n ih => rw [List.replicate_succ, List.flatten_cons, ih, List.replicate_succ]; rfl
theorem ite2 {c d : Prop} [Decidable c] [Decidable d] {A B : Prop} (a : A) (b : B) : if c then (if d then A else B) else B := by
  split
  · split
    · exact a
    · exact b
  · exact b
section
variable {P : Program} {w : World} {K : PySem.W.Frag} {mg : Str → Option Value} {base : Heap}
def sp_badn : Sp := fun vs H Q _ => ∃ (s l : Addr) (lo hi : Int) (b : Bool) (E : List Addr), vs = [.ref s, .int lo, .int hi, .bl b] ∧ Sto s l H ∧ Lv E H ∧ s ∈ E ∧ -1000 ≤ lo ∧ lo ≤ 1000 ∧ -1000 ≤ hi ∧ hi ≤ 1000 ∧ ∀ v H', Ge s l H H' → Db E H' 20 v → Sm v → numOk v lo hi = false → Q v H'
/-! a bad point -/
def sp_badp : Sp := fun vs H Q _ => ∃ (s l : Addr) (n : Int) (E : List Addr), vs = [.ref s, .int n] ∧ Sto s l H ∧ Lv E H ∧ s ∈ E ∧ 0 ≤ n ∧ n ≤ 12 ∧ ∀ v H', Ge s l H H' → Db E H' 20 v → Sm v → numOk v 0 (n - 1) = false → Q v H'
/-! a row of points -/
def sp_row : Sp := fun vs H Q _ => ∃ (s l : Addr) (n m : Int), vs = [.ref s, .int n, .int m] ∧ Sto s l H ∧ 0 ≤ n ∧ n ≤ 12 ∧ 0 ≤ m ∧ m ≤ 100 ∧ ∀ (q : Addr) (ns : List Int) H', Ge s l H H' → H q = none → H' q = some (.lst (ns.map V.int)) → (ns.length : Int) ≤ m → (∀ z ∈ ns, 0 ≤ z ∧ z < n) → Q (.ref q) H'
end

/-! ## HoC -/
/-! the rounds of a move, as plain mathematics -/
/-- the image of a point -/
def im (ns : List Int) (p : Int) : Int := (ns[p.toNat]?).getD 0
structure Mv (ns : List Int) : Prop where
  perm : ns.Perm (rng ns.length)
theorem Mv.at {ns : List Int} (m : Mv ns) {p : Int} (h : 0 ≤ p ∧ p < ns.length) : ns[p.toNat]? = some (im ns p) ∧ 0 ≤ im ns p ∧ im ns p < ns.length := by
  have hl : p.toNat < ns.length := by omega
  have e : ns[p.toNat]? = some (ns[p.toNat]) := List.getElem?_eq_getElem hl
  have q : im ns p = ns[p.toNat] := by unfold im; rw [e]; rfl
  rw [q]
  exact ⟨e, mem_rng.mp (m.perm.mem_iff.mp (List.getElem_mem hl))⟩
theorem Mv.inj {ns : List Int} (m : Mv ns) {p q : Int} (hp : 0 ≤ p ∧ p < ns.length) (hq : 0 ≤ q ∧ q < ns.length) (h : im ns p = im ns q) : p = q := by
  have nd : ns.Nodup := m.perm.nodup_iff.mpr (rng_nodup _)
  have a := (m.at hp).1
  have b := (m.at hq).1
  rw [h] at a
  have := (List.getElem?_inj (by omega) nd).mp (a.trans b.symm)
  omega
/-- one part of a round that is being walked: x0, .., x(k-1), the next one is pt -/
structure Walk (ns : List Int) (fl cyc : List Int) (start pt : Int) : Prop where
  nd : (fl ++ cyc).Nodup
  mv : ∀ p ∈ fl ++ cyc, (0 ≤ p ∧ p < ns.length) ∧ im ns p ≠ p
  cl : ∀ p ∈ fl, im ns p ∈ fl
  cb : ∀ p : Int, 0 ≤ p → p < ns.length → im ns p ∈ fl → p ∈ fl
  st : (0 ≤ start ∧ start < ns.length) ∧ im ns start ≠ start ∧ start ∉ fl
  hd : cyc = [] ∨ cyc.head? = some start
  lk : ∀ k x y, cyc[k]? = some x → cyc[k + 1]? = some y → im ns x = y
  pt0 : cyc = [] → pt = start
  pt1 : ∀ x, cyc.getLast? = some x → pt = im ns x
  ptr : 0 ≤ pt ∧ pt < ns.length
theorem Walk.start {ns fl : List Int} {s : Int} (nd : fl.Nodup) (mv : ∀ p ∈ fl, (0 ≤ p ∧ p < ns.length) ∧ im ns p ≠ p) (cl : ∀ p ∈ fl, im ns p ∈ fl) (cb : ∀ p : Int, 0 ≤ p → p < ns.length → im ns p ∈ fl → p ∈ fl) (st : (0 ≤ s ∧ s < ns.length) ∧ im ns s ≠ s ∧ s ∉ fl) : Walk ns fl [] s s :=
  ⟨by simpa using nd, by simpa using mv, cl, cb, st, .inl rfl, fun k x y h => by simp at h, fun _ => rfl, fun x h => by simp at h, st.1⟩
/-- the walk is not over: the point is taken in -/
theorem Walk.step {ns fl cyc : List Int} {s pt : Int} (m : Mv ns) (w : Walk ns fl cyc s pt) (h : pt ∉ fl ++ cyc) : Walk ns fl (cyc ++ [pt]) s (im ns pt) := by
  have hpt := m.at w.ptr
  have hmv : im ns pt ≠ pt := by
    rcases w.hd with e | e
    · have := w.pt0 e
      rw [this]
      exact w.st.2.1
    · intro z
      cases hl : cyc.getLast? with
      | none => rw [List.getLast?_eq_none_iff.mp hl] at e; cases e
      | some x =>
        have e1 := w.pt1 x hl
        have hx := List.mem_of_getLast? hl
        have hxm := (w.mv x (List.mem_append_right _ hx)).1
        have : x = pt := m.inj hxm w.ptr (by rw [z]; exact e1.symm)
        exact h (this ▸ List.mem_append_right _ hx)
  refine ⟨?_, ?_, w.cl, w.cb, w.st, ?_, ?_, fun e => by simp at e, fun x hx => ?_, hpt.2⟩
  · rw [← List.append_assoc, List.nodup_append]
    exact ⟨w.nd, by simp, fun y hy z hz => by rw [List.mem_singleton.mp hz]; intro e; exact h (e ▸ hy)⟩
  · intro p hp
    rw [← List.append_assoc] at hp
    rcases List.mem_append.mp hp with q | q
    · exact w.mv p q
    · rw [List.mem_singleton.mp q]
      exact ⟨w.ptr, hmv⟩
  · right
    rcases w.hd with e | e
    · rw [e]
      simp [w.pt0 e]
    · rw [List.head?_append, e]
      rfl
  · intro k x y h1 h2
    by_cases hk : k + 1 < cyc.length
    · rw [List.getElem?_append_left hk] at h2
      rw [List.getElem?_append_left (by omega)] at h1
      exact w.lk k x y h1 h2
    · have hk1 : k + 1 = cyc.length := by
        have := (List.getElem?_eq_some_iff.mp h2).1
        rw [List.length_append] at this
        simp at this
        omega
      rw [List.getElem?_append_right (by omega)] at h2
      have : k + 1 - cyc.length = 0 := by omega
      rw [this] at h2
      have ey : pt = y := by simpa using h2
      rw [List.getElem?_append_left (by omega)] at h1
      have hl : cyc.getLast? = some x := by rw [List.getLast?_eq_getElem?]; rw [← h1]; congr 1; omega
      rw [← ey]
      exact (w.pt1 x hl).symm
  · rw [List.getLast?_append] at hx
    have : x = pt := by simpa using hx.symm
    rw [this]
/-- the walk is over: the round closes -/
theorem Walk.over {ns fl cyc : List Int} {s pt : Int} (m : Mv ns) (w : Walk ns fl cyc s pt) (h : pt ∈ fl ++ cyc) : cyc.head? = some s ∧ pt = s ∧ 2 ≤ cyc.length := by
  have hne : cyc ≠ [] := fun e => by
    have := w.pt0 e
    rw [e, List.append_nil, this] at h
    exact w.st.2.2 h
  have hh : cyc.head? = some s := w.hd.resolve_left hne
  obtain ⟨x, hl⟩ : ∃ x, cyc.getLast? = some x := ⟨_, List.getLast?_eq_some_getLast hne⟩
  have ex := w.pt1 x hl
  have hx := List.mem_of_getLast? hl
  have hxm := (w.mv x (List.mem_append_right _ hx)).1
  have ndc := (List.nodup_append.mp w.nd).2.1
  have dis := (List.nodup_append.mp w.nd).2.2
  have hpc : pt ∈ cyc := by
    rcases List.mem_append.mp h with q | q
    · exact absurd rfl (dis x (w.cb x hxm.1 hxm.2 (ex ▸ q)) x hx)
    · exact q
  have hlast : cyc[cyc.length - 1]? = some x := by rw [← hl, List.getLast?_eq_getElem?]
  have hlen : 0 < cyc.length := List.length_pos_iff.mpr hne
  obtain ⟨j, hj⟩ := List.mem_iff_getElem?.mp hpc
  have hjl := (List.getElem?_eq_some_iff.mp hj).1
  have hj0 : j = 0 := by
    rcases Nat.eq_zero_or_pos j with z | z
    · exact z
    · have hy : cyc[j - 1]? = some cyc[j - 1] := List.getElem?_eq_getElem (by omega)
      have e1 := w.lk (j - 1) _ pt hy (by rw [show j - 1 + 1 = j by omega]; exact hj)
      have hym := (w.mv _ (List.mem_append_right _ (List.mem_of_getElem? hy))).1
      have e2 : cyc[j - 1] = x := m.inj hym hxm (e1.trans ex)
      have := (List.getElem?_inj (by omega) ndc).mp ((hy.trans (congrArg some e2)).trans hlast.symm)
      omega
  subst hj0
  have es : pt = s := by
    rw [List.head?_eq_getElem?] at hh
    rw [hj] at hh
    exact Option.some.inj hh
  refine ⟨hh, es, ?_⟩
  rcases Nat.lt_or_ge cyc.length 2 with z | z
  · have h1 : cyc.length - 1 = 0 := by omega
    rw [h1, hj] at hlast
    have := Option.some.inj hlast
    rw [← this] at ex
    exact absurd ex.symm (w.mv pt (List.mem_append_right _ hpc)).2
  · exact z
/-- in a closed round each one's image is the next, the last one's the first -/
theorem Walk.ring {ns fl cyc : List Int} {s pt : Int} (m : Mv ns) (w : Walk ns fl cyc s pt) (h : pt ∈ fl ++ cyc) : ∀ k x, cyc[k]? = some x → cyc[(k + 1) % cyc.length]? = some (im ns x) := by
  obtain ⟨hh, es, h2⟩ := w.over m h
  intro k x hx
  have hk := (List.getElem?_eq_some_iff.mp hx).1
  by_cases hl : k + 1 < cyc.length
  · rw [Nat.mod_eq_of_lt hl]
    have hy : cyc[k + 1]? = some cyc[k + 1] := List.getElem?_eq_getElem hl
    rw [hy, w.lk k x _ hx hy]
  · have e : k + 1 = cyc.length := by omega
    rw [e, Nat.mod_self, ← List.head?_eq_getElem?, hh]
    have hlast : cyc.getLast? = some x := by rw [List.getLast?_eq_getElem?, ← hx]; congr 1; omega
    rw [← w.pt1 x hlast, es]
theorem Walk.closed {ns fl cyc : List Int} {s pt : Int} (m : Mv ns) (w : Walk ns fl cyc s pt) (h : pt ∈ fl ++ cyc) :
    (∀ p ∈ fl ++ cyc, im ns p ∈ fl ++ cyc) ∧ ∀ p : Int, 0 ≤ p → p < ns.length → im ns p ∈ fl ++ cyc → p ∈ fl ++ cyc := by
  obtain ⟨hh, es, h2⟩ := w.over m h
  have rg := w.ring m h
  refine ⟨fun p hp => ?_, fun p h0 h1 hp => ?_⟩
  · rcases List.mem_append.mp hp with q | q
    · exact List.mem_append_left _ (w.cl p q)
    · obtain ⟨k, hk⟩ := List.mem_iff_getElem?.mp q
      exact List.mem_append_right _ (List.mem_of_getElem? (rg k p hk))
  · rcases List.mem_append.mp hp with q | q
    · exact List.mem_append_left _ (w.cb p h0 h1 q)
    · obtain ⟨k, hk⟩ := List.mem_iff_getElem?.mp q
      have hkl := (List.getElem?_eq_some_iff.mp hk).1
      -- the one before k
      have hb : ∃ j x, cyc[j]? = some x ∧ (j + 1) % cyc.length = k := by
        rcases Nat.eq_zero_or_pos k with z | z
        · exact ⟨cyc.length - 1, _, List.getElem?_eq_getElem (by omega), by rw [show cyc.length - 1 + 1 = cyc.length by omega, Nat.mod_self, z]⟩
        · exact ⟨k - 1, _, List.getElem?_eq_getElem (by omega), by rw [show k - 1 + 1 = k by omega, Nat.mod_eq_of_lt hkl]⟩
      obtain ⟨j, x, hx, hjk⟩ := hb
      have e := rg j x hx
      rw [hjk, hk] at e
      have hxm := (w.mv x (List.mem_append_right _ (List.mem_of_getElem? hx))).1
      have : p = x := m.inj ⟨h0, h1⟩ hxm (Option.some.inj e)
      rw [this]
      exact List.mem_append_right _ (List.mem_of_getElem? hx)
/-- a whole round, its least point first -/
structure Ring (ns : List Int) (c : List Int) : Prop where
  two : 2 ≤ c.length
  least : ∀ y ∈ c, c.headD 0 ≤ y
  ring : ∀ k x, c[k]? = some x → c[(k + 1) % c.length]? = some (im ns x)
/-- the rounds found ahead of the start i -/
structure Outer (ns : List Int) (cs : List (List Int)) (i : Int) : Prop where
  nd : cs.flatten.Nodup
  mv : ∀ p ∈ cs.flatten, (0 ≤ p ∧ p < ns.length) ∧ im ns p ≠ p
  cl : ∀ p ∈ cs.flatten, im ns p ∈ cs.flatten
  cb : ∀ p : Int, 0 ≤ p → p < ns.length → im ns p ∈ cs.flatten → p ∈ cs.flatten
  below : ∀ p : Int, 0 ≤ p → p < i → p < ns.length → im ns p ≠ p → p ∈ cs.flatten
  rows : ∀ c ∈ cs, Ring ns c
  asc : (cs.map fun c => c.headD 0).Pairwise (· < ·)
  low : ∀ c ∈ cs, c.headD 0 < i
theorem Outer.start {ns : List Int} : Outer ns [] 0 := ⟨by simp, by simp, by simp, by simp, fun p h0 h1 => by omega, by simp, by simp, by simp⟩
theorem Outer.skip {ns : List Int} {cs : List (List Int)} {i : Int} (o : Outer ns cs i) (h : i ∈ cs.flatten ∨ im ns i = i) : Outer ns cs (i + 1) :=
  ⟨o.nd, o.mv, o.cl, o.cb, fun p h0 h1 h2 h3 => by
    by_cases e : p = i
    · subst e
      exact h.resolve_right h3
    · exact o.below p h0 (by omega) h2 h3, o.rows, o.asc, fun c hc => by have := o.low c hc; omega⟩
theorem Outer.add {ns : List Int} {cs : List (List Int)} {i pt : Int} {cyc : List Int} (m : Mv ns) (o : Outer ns cs i) (w : Walk ns cs.flatten cyc i pt) (h : pt ∈ cs.flatten ++ cyc) : Outer ns (cs ++ [cyc]) (i + 1) := by
  obtain ⟨hh, es, h2⟩ := w.over m h
  obtain ⟨c1, c2⟩ := w.closed m h
  have ef : (cs ++ [cyc]).flatten = cs.flatten ++ cyc := by simp
  have hhd : cyc.headD 0 = i := by rw [List.headD_eq_head?_getD, hh]; rfl
  have hi : i ∈ cyc := List.mem_of_mem_head? (by rw [hh]; rfl)
  have dis := (List.nodup_append.mp w.nd).2.2
  refine ⟨by rw [ef]; exact w.nd, by rw [ef]; exact w.mv, by rw [ef]; exact c1, by rw [ef]; exact c2, fun p h0 h1 h2 h3 => ?_, fun c hc => ?_, ?_, fun c hc => ?_⟩
  · rw [ef]
    by_cases e : p = i
    · subst e
      exact List.mem_append_right _ hi
    · exact List.mem_append_left _ (o.below p h0 (by omega) h2 h3)
  · rcases List.mem_append.mp hc with q | q
    · exact o.rows c q
    · rw [List.mem_singleton.mp q]
      refine ⟨h2, fun y hy => ?_, w.ring m h⟩
      rw [hhd]
      have hym := w.mv y (List.mem_append_right _ hy)
      rcases Int.lt_or_le y i with z | z
      · exact absurd rfl (dis y (o.below y hym.1.1 z hym.1.2 hym.2) y hy)
      · exact z
  · rw [List.map_append, List.pairwise_append]
    refine ⟨o.asc, by simp, fun x hx y hy => ?_⟩
    obtain ⟨c, hc, rfl⟩ := List.mem_map.mp hx
    have ey : y = i := (List.mem_singleton.mp hy).trans hhd
    rw [ey]
    exact o.low c hc
  · rcases List.mem_append.mp hc with q | q
    · have := o.low c q
      omega
    · rw [List.mem_singleton.mp q, hhd]
      omega

/-! ## HoO -/
def it (ns : List Int) : Nat → Int → Int
  | 0, p => p
  | k + 1, p => im ns (it ns k p)
def InR (ns : List Int) (p : Int) : Prop := 0 ≤ p ∧ p < ns.length
section
variable {ns : List Int}
theorem it_rg (m : Mv ns) {p : Int} (h : InR ns p) : ∀ k, InR ns (it ns k p)
  | 0 => h
  | k + 1 => (m.at (it_rg m h k)).2
theorem it_add {p : Int} (a : Nat) : ∀ b, it ns (a + b) p = it ns b (it ns a p)
  | 0 => rfl
  | b + 1 => by
    show im ns (it ns (a + b) p) = im ns (it ns b (it ns a p))
    rw [it_add a b]
theorem it_inj (m : Mv ns) {p q : Int} (hp : InR ns p) (hq : InR ns q) : ∀ k, it ns k p = it ns k q → p = q
  | 0, h => h
  | k + 1, h => it_inj m hp hq k (m.inj (it_rg m hp k) (it_rg m hq k) h)
theorem it_back (m : Mv ns) {p : Int} (hp : InR ns p) {i j : Nat} (h : i ≤ j) (e : it ns i p = it ns j p) : it ns (j - i) p = p := by
  have e2 : it ns j p = it ns i (it ns (j - i) p) := by
    rw [← it_add, show j - i + i = j by omega]
  exact (it_inj m hp (it_rg m hp _) i (e.trans e2)).symm
theorem it_ret (m : Mv ns) {p : Int} (hp : InR ns p) : ∃ k, 1 ≤ k ∧ k ≤ ns.length ∧ it ns k p = p := by
  refine Classical.byContradiction fun hn => ?_
  have nd : ((List.range (ns.length + 1)).map fun k => it ns k p).Nodup := by
    rw [List.nodup_iff_pairwise_ne, List.pairwise_map]
    refine List.nodup_range.imp_of_mem fun {i j} hi hj hne e => ?_
    have hi := List.mem_range.mp hi
    have hj := List.mem_range.mp hj
    rcases Nat.lt_or_gt_of_ne hne with h | h
    · exact hn ⟨j - i, by omega, by omega, it_back m hp (by omega) e⟩
    · exact hn ⟨i - j, by omega, by omega, it_back m hp (by omega) e.symm⟩
  have := nd.length_le_of_subset (l₂ := rng ns.length) fun z hz => by
    obtain ⟨k, _, rfl⟩ := List.mem_map.mp hz
    exact mem_rng.mpr (it_rg m hp k)
  rw [List.length_map, List.length_range, rng_len] at this
  omega
/-- the size of the round of p -/
def ell (ns : List Int) (p : Int) : Nat := ((List.range ns.length).find? fun k => decide (it ns (k + 1) p = p)).getD 0 + 1
theorem ell_spec (m : Mv ns) {p : Int} (hp : InR ns p) : ell ns p ≤ ns.length ∧ it ns (ell ns p) p = p ∧ ∀ k, 1 ≤ k → k < ell ns p → it ns k p ≠ p := by
  obtain ⟨k, k1, k2, k3⟩ := it_ret m hp
  unfold ell
  cases e : (List.range ns.length).find? fun k => decide (it ns (k + 1) p = p) with
  | none =>
    rw [List.find?_eq_none] at e
    have := e (k - 1) (List.mem_range.mpr (by omega))
    rw [show k - 1 + 1 = k by omega] at this
    exact absurd (decide_eq_true k3) this
  | some j =>
    rw [List.find?_range_eq_some] at e
    obtain ⟨e1, e2, e3⟩ := e
    have e2 := List.mem_range.mp e2
    refine ⟨by show j + 1 ≤ _; omega, of_decide_eq_true e1, fun k h1 h2 z => ?_⟩
    have h2 : k < j + 1 := h2
    have := e3 (k - 1) (by omega)
    rw [show k - 1 + 1 = k by omega, decide_eq_true z] at this
    cases this
theorem ell_pos {p : Int} : 1 ≤ ell ns p := by unfold ell; omega
theorem it_mul {p : Int} {d : Nat} (h : it ns d p = p) : ∀ k, it ns (d * k) p = p
  | 0 => rfl
  | k + 1 => by rw [Nat.mul_succ, it_add, it_mul h k, h]
theorem it_mod {p : Int} {d : Nat} (h : it ns d p = p) (k : Nat) : it ns (k % d) p = it ns k p := by
  conv => rhs; rw [← Nat.div_add_mod k d, it_add, it_mul h]
theorem ell_dvd (m : Mv ns) {p : Int} (hp : InR ns p) {k : Nat} (h : it ns k p = p) : ell ns p ∣ k := by
  have s := ell_spec m hp
  refine Nat.dvd_of_mod_eq_zero (Classical.byContradiction fun hn => ?_)
  have hl := Nat.mod_lt k (ell_pos (ns := ns) (p := p))
  exact s.2.2 (k % ell ns p) (by omega) hl (by rw [it_mod s.2.1]; exact h)
/-- the points of the round of p -/
def orb (ns : List Int) (p : Int) : List Int := (List.range (ell ns p)).map fun k => it ns k p
theorem orb_nd (m : Mv ns) {p : Int} (hp : InR ns p) : (orb ns p).Nodup := by
  have s := ell_spec m hp
  unfold orb
  rw [List.nodup_iff_pairwise_ne, List.pairwise_map]
  refine List.nodup_range.imp_of_mem fun {i j} hi hj hne e => ?_
  have hi := List.mem_range.mp hi
  have hj := List.mem_range.mp hj
  rcases Nat.lt_or_gt_of_ne hne with h | h
  · exact s.2.2 (j - i) (by omega) (by omega) (it_back m hp (by omega) e)
  · exact s.2.2 (i - j) (by omega) (by omega) (it_back m hp (by omega) e.symm)
theorem ell_it (m : Mv ns) {p : Int} (hp : InR ns p) (k : Nat) : ell ns (it ns k p) = ell ns p := by
  have comm : ∀ a, it ns a (it ns k p) = it ns k (it ns a p) := fun a => by rw [← it_add, ← it_add, Nat.add_comm]
  have s := ell_spec m hp
  have hq := it_rg m hp k
  refine Nat.dvd_antisymm (ell_dvd m hq (by rw [comm, s.2.1])) (ell_dvd m hp ?_)
  have s2 := ell_spec m hq
  have h := s2.2.1
  rw [comm] at h
  exact it_inj m (it_rg m hp _) hp k h
end
def subs : List Nat → List (List Nat)
  | [] => [[]]
  | x :: r => subs r ++ (subs r).map (x :: ·)
theorem filter_subs (p : Nat → Bool) : ∀ l, l.filter p ∈ subs l
  | [] => List.mem_singleton.mpr rfl
  | x :: r => by
    show (x :: r).filter p ∈ subs r ++ (subs r).map (x :: ·)
    rw [List.filter_cons]
    split
    · exact List.mem_append_right _ (List.mem_map_of_mem (filter_subs p r))
    · exact List.mem_append_left _ (filter_subs p r)
theorem lcm_60 : ∀ S ∈ subs (List.range' 1 12), S.sum ≤ 12 → S.foldr Nat.lcm 1 ≤ 60 := by decide +kernel
theorem dvd_lcms {d : Nat} : ∀ {S : List Nat}, d ∈ S → d ∣ S.foldr Nat.lcm 1
  | x :: r, h => by
    rw [List.foldr_cons]
    rcases List.mem_cons.mp h with e | h
    · rw [e]; exact Nat.dvd_lcm_left _ _
    · exact Nat.dvd_trans (dvd_lcms h) (Nat.dvd_lcm_right _ _)
theorem lcms_pos : ∀ {S : List Nat}, (∀ d ∈ S, 1 ≤ d) → 1 ≤ S.foldr Nat.lcm 1
  | [], _ => Nat.le_refl _
  | x :: r, h => by
    rw [List.foldr_cons]
    exact Nat.lcm_pos (h x List.mem_cons_self) (lcms_pos fun d hd => h d (List.mem_cons_of_mem _ hd))
/-- some k from 1 to 60 leads each point back -/
theorem order_60 {ns : List Int} (m : Mv ns) (hn : ns.length ≤ 12) : ∃ k, 1 ≤ k ∧ k ≤ 60 ∧ ∀ p, InR ns p → it ns k p = p := by
  let pr : Nat → Bool := fun d => (rng ns.length).any fun p => decide (ell ns p = d)
  let S := (List.range' 1 12).filter pr
  let rep : Nat → Int := fun d => ((rng ns.length).find? fun p => decide (ell ns p = d)).getD 0
  have hS : ∀ d ∈ S, 1 ≤ d ∧ InR ns (rep d) ∧ ell ns (rep d) = d := fun d hd => by
    obtain ⟨h1, h2⟩ := List.mem_filter.mp hd
    have h1 := (List.mem_range'_1.mp h1).1
    obtain ⟨p, hp, hpe⟩ := List.any_eq_true.mp h2
    cases e : (rng ns.length).find? fun p => decide (ell ns p = d) with
    | none =>
      rw [List.find?_eq_none] at e
      exact absurd hpe (e p hp)
    | some q =>
      have hq := List.mem_of_find?_eq_some e
      have hqe := List.find?_some e
      have er : rep d = q := by show ((rng ns.length).find? fun p => decide (ell ns p = d)).getD 0 = q; rw [e]; rfl
      rw [er]
      exact ⟨h1, mem_rng.mp hq, of_decide_eq_true hqe⟩
  have hnd : (S.map fun d => orb ns (rep d)).flatten.Nodup := by
    rw [List.nodup_iff_pairwise_ne, List.pairwise_flatten]
    refine ⟨fun l hl => ?_, ?_⟩
    · obtain ⟨d, hd, rfl⟩ := List.mem_map.mp hl
      exact orb_nd m (hS d hd).2.1
    · rw [List.pairwise_map]
      have nd : S.Nodup := (List.nodup_range' (step := 1)).filter _
      rw [List.nodup_iff_pairwise_ne] at nd
      refine nd.imp_of_mem fun {a b} ha hb hne x hx y hy e => hne ?_
      obtain ⟨i, _, rfl⟩ := List.mem_map.mp hx
      obtain ⟨j, _, rfl⟩ := List.mem_map.mp hy
      have e2 := congrArg (ell ns) e
      rw [ell_it m (hS a ha).2.1, ell_it m (hS b hb).2.1, (hS a ha).2.2, (hS b hb).2.2] at e2
      exact e2
  have hlen : (S.map fun d => orb ns (rep d)).flatten.length = S.sum := by
    rw [List.length_flatten, List.map_map]
    have : S.map (List.length ∘ fun d => orb ns (rep d)) = S.map id := List.map_congr_left fun d hd => by
      show (orb ns (rep d)).length = d
      unfold orb
      rw [List.length_map, List.length_range, (hS d hd).2.2]
    rw [this, List.map_id]
  have hsum : S.sum ≤ 12 := by
    have h := hnd.length_le_of_subset (l₂ := rng ns.length) fun z hz => by
      obtain ⟨l, hl, hzl⟩ := List.mem_flatten.mp hz
      obtain ⟨d, hd, rfl⟩ := List.mem_map.mp hl
      obtain ⟨i, _, rfl⟩ := List.mem_map.mp hzl
      exact mem_rng.mpr (it_rg m (hS d hd).2.1 i)
    rw [hlen, rng_len] at h
    omega
  refine ⟨S.foldr Nat.lcm 1, lcms_pos fun d hd => (hS d hd).1, lcm_60 S (filter_subs _ _) hsum, fun p hp => ?_⟩
  have s := ell_spec m hp
  have hm : ell ns p ∈ S := List.mem_filter.mpr ⟨List.mem_range'_1.mpr ⟨ell_pos, by omega⟩, List.any_eq_true.mpr ⟨p, mem_rng.mpr hp, decide_eq_true rfl⟩⟩
  obtain ⟨k, hk⟩ := dvd_lcms hm
  rw [hk]
  exact it_mul s.2.1 k

/-! ## K1 -/

theorem map_int_inj : ∀ {a b : List Int}, a.map V.int = b.map V.int → a = b
  | [], [], _ => rfl
  | [], _ :: _, h => by cases h
  | _ :: _, [], h => by cases h
  | x :: a, y :: b, h => by
    simp only [List.map_cons, List.cons.injEq] at h
    obtain ⟨h1, h2⟩ := h
    cases h1
    rw [map_int_inj h2]
/-- the move done k times -/
def itr (ns : List Int) (k : Nat) : List Int := (rng ns.length).map (it ns k)
theorem itr_len {ns : List Int} {k : Nat} : (itr ns k).length = ns.length := by unfold itr; rw [List.length_map, rng_len]
theorem itr_succ {ns : List Int} {k : Nat} : (itr ns k).map (im ns) = itr ns (k + 1) := by
  unfold itr
  rw [List.map_map]
  rfl
theorem itr_0 {ns : List Int} : itr ns 0 = rng ns.length := by
  unfold itr
  have : (it ns 0) = id := rfl
  rw [this, List.map_id]
theorem itr_1 {ns : List Int} (m : Mv ns) : itr ns 1 = ns := by
  unfold itr
  refine List.ext_getElem? fun k => ?_
  by_cases hk : k < ns.length
  · rw [List.getElem?_map, rng_get hk]
    have := (m.at (p := (k : Int)) ⟨by omega, by omega⟩).1
    rw [Int.toNat_natCast] at this
    rw [this]
    rfl
  · rw [List.getElem?_eq_none (by rw [List.length_map, rng_len]; omega), List.getElem?_eq_none (by omega)]
theorem itr_rg {ns : List Int} (m : Mv ns) {k : Nat} : ∀ z ∈ itr ns k, 0 ≤ z ∧ z < ns.length := fun z hz => by
  obtain ⟨p, hp, rfl⟩ := List.mem_map.mp hz
  exact it_rg m (mem_rng.mp hp) k
theorem itr_still {ns : List Int} {k : Nat} : itr ns k = rng ns.length ↔ ∀ p, InR ns p → it ns k p = p := by
  unfold itr
  constructor
  · intro h p hp
    have h2 : (rng ns.length).map (it ns k) = (rng ns.length).map id := by rw [h, List.map_id]
    exact List.map_inj_left.mp h2 p (mem_rng.mpr hp)
  · intro h
    have h2 : (rng ns.length).map (it ns k) = (rng ns.length).map id := List.map_congr_left fun p hp => h p (mem_rng.mp hp)
    rw [h2, List.map_id]
/-- the round length -/
structure RL (ns : List Int) (L : Nat) : Prop where
  pos : 1 ≤ L
  le : L ≤ 60
  back : itr ns L = rng ns.length
  least : ∀ k, 1 ≤ k → k < L → itr ns k ≠ rng ns.length
theorem rl_ex {ns : List Int} (m : Mv ns) (hn : ns.length ≤ 12) : ∃ L, RL ns L := by
  obtain ⟨k, k1, k2, k3⟩ := order_60 m hn
  let f : Nat → Bool := fun j => decide (itr ns (j + 1) = rng ns.length)
  cases e : (List.range 60).find? f with
  | none =>
    rw [List.find?_eq_none] at e
    have := e (k - 1) (List.mem_range.mpr (by omega))
    exact absurd (show f (k - 1) = true by show decide (itr ns (k - 1 + 1) = _) = true; rw [show k - 1 + 1 = k by omega]; exact decide_eq_true (itr_still.mpr k3)) this
  | some j =>
    rw [List.find?_range_eq_some] at e
    obtain ⟨e1, e2, e3⟩ := e
    have e2 := List.mem_range.mp e2
    refine ⟨j + 1, by omega, by omega, of_decide_eq_true e1, fun i h1 h2 z => ?_⟩
    have := e3 (i - 1) (by omega)
    have h3 : f (i - 1) = true := by
      show decide (itr ns (i - 1 + 1) = _) = true
      rw [show i - 1 + 1 = i by omega]
      exact decide_eq_true z
    rw [h3] at this
    cases this
theorem RL.uniq {ns : List Int} {a b : Nat} (x : RL ns a) (y : RL ns b) : a = b := by
  rcases Nat.lt_trichotomy a b with h | h | h
  · exact absurd x.back (y.least a x.pos h)
  · exact h
  · exact absurd y.back (x.least b y.pos h)
section
variable {P : Program} {w : World} {K : PySem.W.Frag} {mg : Str → Option Value} {base : Heap}
def sp_joined : Sp := fun vs H Q _ => ∃ (a b : Addr) (as bs : List Int), vs = [.ref a, .ref b] ∧ H a = some (.tup (as.map V.int)) ∧ H b = some (.tup (bs.map V.int)) ∧ (∀ z ∈ as, 0 ≤ z ∧ z < bs.length) ∧ as.length ≤ 12 ∧
  ∀ p H1 H2, Same H H1 → New H1 p (.tup ((as.map (im bs)).map V.int)) H2 → Q (.ref p) H2
abbrev stjoined : Stmt := topS 41
theorem scjoined : FnScope ["first", "second", "image"] ["first", "second"] (defScope stjoined) := ⟨rfl, rfl, rfl, by decide +kernel, rfl, by decide +kernel, by decide +kernel⟩
theorem okjoined (D : Df K mg "joined" stjoined) (T : NoB mg)  : Cl P w K mg base 1 "joined" ["first", "second"] sp_joined := by
  refine cl_of D scjoined (fun _ _ _ _ _ _ us hl => match us, hl with | [_, _], _ => rfl) (fun vs H Q E h => ?_) (fun f cdv A outer sh H vs Q E hr h => ?_)
  · obtain ⟨_, _, _, _, rfl, _⟩ := h; rfl
  obtain ⟨a, b, as, bs, rfl, ha, hb, hz, hl, k⟩ := h
  refine ⟨_, (pss_one (ps_ret (pe_callTy tup1 (by rfl) T.no_tuple (by decide +kernel) (pa_cons (pe_lc (own := [("image", 2)]) (g := gName 2) (tt := tYes) rfl scjoined.nd (pi_sq (pv 0)) (blkOk_by (own := [("image", 2)]) (N := ["first", "second", "image"]) (sc := defScope stjoined) (by decide +kernel)) (fun _ _ _ _ _ => (pg_name (i := 2) scjoined.nd rfl (Or.inl rfl))) (fun _ _ _ _ _ => pts_nil) (fun _ _ _ _ _ => (pe_ix ix1 (pv 1) (pv 2) (fun _ _ => rfl)))) pa_nil)))), ?_⟩
  walk_at "wn"
  refine cs_by (sq_t ha) (fun C i acc H' => Same H H' ∧ acc = ((as.take i).map (im bs)).map V.int) (fun C H0 n0 => ⟨n0.same, rfl⟩) (fun C i acc H' hC f o ho => f.1 _ _ ho) ?_ ?_
  · rintro C i x acc H1 N hC hx hacc ⟨s1, rfl⟩ hN
    obtain ⟨z, hzi, rfl⟩ : ∃ z, as[i]? = some z ∧ x = V.int z := by
      rw [List.getElem?_map] at hx
      cases e : as[i]? with
      | none => rw [e] at hx; cases hx
      | some z => rw [e] at hx; exact ⟨z, rfl, (Option.some.inj hx).symm⟩
    have hzr := hz z (List.mem_of_getElem? hzi)
    have hy := List.getElem?_eq_getElem (show z.toNat < bs.length by omega)
    have hlt := (List.getElem?_eq_some_iff.mp hzi).1
    have eim : im bs z = bs[z.toNat] := by unfold im; rw [hy]; rfl
    refine ⟨rfl, ?_⟩
    walk_at "wn"
    refine ⟨_, sq_t (s1 _ _ hb), .int bs[z.toNat], atI_of hzr.1 (by rw [List.getElem?_map, hy]; rfl), ?_⟩
    refine cst hacc (by rw [List.length_map, List.length_map, List.length_take, sizeLine_eq]; omega) fun H5 p5 => hN _ _ p5.at_ ⟨fun b o hb => p5.k (ne_of_none hb hC) (s1 b o hb), ?_⟩
    rw [List.take_add_one, hzi, ← eim]
    simp
  · rintro C acc H1 hC hacc ⟨s1, rfl⟩
    rw [List.length_map, List.take_length] at hacc
    walk_at "wn"
    exact ⟨_, hacc, fun q H2 n2 => k q H1 H2 s1 n2⟩
def sp_still (K : PySem.W.Frag) : Sp := fun vs H Q Er => ∃ (v : V) (E : List Addr) (d : PyData) (n : Nat), vs = [v] ∧ Dw E H v d n ∧ Sm v ∧ (numOk v 0 12 = false → Raises K (.num v 0 12) H Er) ∧
  ∀ n, v = .int n → 0 ≤ n → n ≤ 12 → ∀ p H1 H2, Same H H1 → New H1 p (.tup ((rng n.toNat).map V.int)) H2 → Q (.ref p) H2
def sp_rlen (K : PySem.W.Frag) : Sp := fun vs H Q Er => ∃ (v : V) (E : List Addr) (d : PyData) (n : Nat), vs = [v] ∧ Dw E H v d n ∧ (isMoveD d = false → Raises K (.mv 0) H Er) ∧
  ∀ (a : Addr) (ns : List Int), v = .ref a → H a = some (.tup (ns.map V.int)) → d = .tuple (ns.map .int) → isMoveD d = true → ∀ (L : Nat) H', Same H H' → RL ns L → Q (.int L) H'
/-- the move done times times, times taken by the round length -/
def sp_power (K : PySem.W.Frag) : Sp := fun vs H Q Er => ∃ (v t : V) (E : List Addr) (d dt : PyData) (n nt : Nat), vs = [v, t] ∧ Dw E H v d n ∧ (isMoveD d = false → Raises K (.mv 0) H Er) ∧
  (isMoveD d = true → Dw E H t dt nt ∧ Sm t ∧ (numOk t (-1000) 1000 = false → Raises K (.num t (-1000) 1000) H Er) ∧
    ∀ (a : Addr) (ns : List Int) (j : Int), v = .ref a → H a = some (.tup (ns.map V.int)) → d = .tuple (ns.map .int) → t = .int j → -1000 ≤ j → j ≤ 1000 → ∀ (L : Nat), RL ns L → ∀ p H', Same H H' → H p = none → H' p = some (.tup ((itr ns (j.fmod L).toNat).map V.int)) → Q (.ref p) H')
/-! moves in turn -/
def dLen : PyData → Nat
  | .tuple ds => ds.length
  | _ => 0
noncomputable def mvOn (n : Nat) (d : PyData) : Bool := isMoveD d && dLen d == n
noncomputable def mvFlt (n : Nat) : Nat → List PyData → Option Flt
  | _, [] => none
  | i, d :: r => if mvOn n d = true then mvFlt n (i + 1) r else some (.mv i)
noncomputable def cmFlt (n : Nat) (ds : List PyData) (z : Str) (lim : Nat) : Option Flt := if lim < ds.length then some (.many z lim) else mvFlt n 0 ds
def sp_chks (K : PySem.W.Frag) : Sp := fun vs H Q Er => ∃ (n : Nat) (p : Addr) (z : Str) (lim : Nat) (xs : List V) (E : List Addr) (ds : List PyData) (m : Nat), vs = [.int n, .ref p, .str z, .int lim] ∧ z.length ≤ 2000 ∧ lim ≤ 10000 ∧ sq H p = some xs ∧ DwAll E H xs ds m ∧ Ans K (cmFlt n ds z lim) H Er (∀ H', Same H H' → Q .non H')
def MvL (H : Hp) (n : Nat) (xs : List V) (mss : List (List Int)) : Prop := mss.length = xs.length ∧ ∀ (k : Nat) (x : V) (ns : List Int), xs[k]? = some x → mss[k]? = some ns → ∃ a, x = .ref a ∧ H a = some (.tup (ns.map V.int)) ∧ ns.length = n ∧ ns.Perm (rng n)
theorem MvL.same {H H' : Hp} {n : Nat} {xs : List V} {mss : List (List Int)} (h : MvL H n xs mss) (s : Same H H') : MvL H' n xs mss := ⟨h.1, fun k x ns h1 h2 => by
  obtain ⟨a, e1, e2, e3⟩ := h.2 k x ns h1 h2
  exact ⟨a, e1, s _ _ e2, e3⟩⟩
theorem mvl_of {E : List Addr} {H : Hp} {n : Nat} : ∀ {xs : List V} {ds : List PyData} {m i : Nat}, DwAll E H xs ds m → mvFlt n i ds = none → ∃ mss, MvL H n xs mss
  | _, _, _, _, .nil, _ => ⟨[], rfl, fun k x ns h => by simp at h⟩
  | _, _, _, i, .cons (d := d) (ds := ds) h1 h2, h => by
    rw [show mvFlt n i (d :: ds) = (if mvOn n d = true then mvFlt n (i + 1) ds else some (.mv i)) from rfl] at h
    by_cases c : mvOn n d = true
    · rw [if_pos c] at h
      obtain ⟨mss, hl, hm⟩ := mvl_of h2 h
      obtain ⟨c1, c2⟩ := Bool.and_eq_true_iff.mp c
      obtain ⟨a, ns, rfl, eh, ed, hle, hp, ne⟩ := move_at c1 h1
      have hdl : ns.length = n := by
        have := of_decide_eq_true c2
        rw [ed] at this
        have e : dLen (.tuple (ns.map PyData.int)) = ns.length := List.length_map _
        rw [← e]
        exact this
      refine ⟨ns :: mss, by simp [hl], fun k x zs h3 h4 => ?_⟩
      cases k with
      | zero =>
        simp at h3 h4
        subst h3 h4
        exact ⟨a, rfl, eh, hdl, by rw [← hdl]; exact hp⟩
      | succ k => exact hm k x zs (by simpa using h3) (by simpa using h4)
    · rw [if_neg c] at h; cases h
def turnM (n : Nat) (mss : List (List Int)) : List Int := mss.foldl (fun r ns => r.map (im ns)) (rng n)
theorem turnM_rg {n : Nat} : ∀ {mss : List (List Int)}, (∀ ns ∈ mss, ns.length = n ∧ ns.Perm (rng n)) → (turnM n mss).length = n ∧ ∀ z ∈ turnM n mss, 0 ≤ z ∧ z < n := by
  intro mss
  unfold turnM
  have gen : ∀ (mss : List (List Int)) (r : List Int), (∀ ns ∈ mss, ns.length = n ∧ ns.Perm (rng n)) → r.length = n → (∀ z ∈ r, 0 ≤ z ∧ z < n) → (mss.foldl (fun r ns => r.map (im ns)) r).length = n ∧ ∀ z ∈ mss.foldl (fun r ns => r.map (im ns)) r, 0 ≤ z ∧ z < n := by
    intro mss
    induction mss with
    | nil => exact fun r _ h1 h2 => ⟨h1, h2⟩
    | cons ns mss ih =>
      intro r h h1 h2
      obtain ⟨e1, e2⟩ := h ns List.mem_cons_self
      refine ih (r.map (im ns)) (fun ns h' => h ns (List.mem_cons_of_mem _ h')) (by rw [List.length_map]; exact h1) fun z hz => ?_
      obtain ⟨y, hy, rfl⟩ := List.mem_map.mp hz
      have m : Mv ns := ⟨by rw [e1]; exact e2⟩
      have := (m.at (p := y) (by rw [e1]; exact h2 y hy)).2
      rw [e1] at this
      exact this
  exact fun h => gen mss (rng n) h (rng_len n) fun z hz => mem_rng.mp hz
def sp_inturn (K : PySem.W.Frag) : Sp := fun vs H Q Er => ∃ (pz rv : V) (E : List Addr) (d : PyData) (m : Nat), vs = [pz, rv] ∧ Dw E H pz d m ∧ Sm pz ∧ (numOk pz 0 12 = false → Raises K (.num pz 0 12) H Er) ∧
  ∀ n : Nat, pz = .int n → n ≤ 12 → ∃ (p : Addr) (xs : List V) (E2 : List Addr) (ds : List PyData) (m2 : Nat), rv = .ref p ∧ sq H p = some xs ∧ DwAll E2 H xs ds m2 ∧ Ans K (cmFlt n ds "list" 400) H Er (∀ mss, MvL H n xs mss → ∀ q H', Same H H' → H q = none → H' q = some (.tup ((turnM n mss).map V.int)) → Q (.ref q) H')
end

/-! ## K2 -/

/-- each point carried many steps along its own round -/
def rsd (ns : List Int) (j : Int) : List Int := (rng ns.length).map fun p => it ns (j.fmod (ell ns p)).toNat p
theorem RL.it {ns : List Int} {L : Nat} (h : RL ns L) {p : Int} (hp : InR ns p) : Ho.it ns L p = p := itr_still.mp h.back p hp
theorem rsd_eq {ns : List Int} (m : Mv ns) {L : Nat} (h : RL ns L) (j : Int) : rsd ns j = itr ns (j.fmod L).toNat := by
  unfold rsd itr
  refine List.map_congr_left fun p hp => ?_
  have hp := mem_rng.mp hp
  have hd := ell_dvd m hp (h.it hp)
  obtain ⟨c, hc⟩ := hd
  have ep := ell_pos (ns := ns) (p := p)
  have lp := h.pos
  have s := (ell_spec m hp).2.1
  have e0 : 0 ≤ j.fmod L := (fm_bound (x := j) (m := (L : Int)) (by omega)).1
  have e1 : 0 ≤ j.fmod (ell ns p) := (fm_bound (x := j) (m := (ell ns p : Int)) (by omega)).1
  have e2 : (j.fmod L).toNat % ell ns p = (j.fmod (ell ns p)).toNat := by
    have h3 : ((j.fmod L).toNat % ell ns p : Nat) = ((j.fmod L) % (ell ns p : Int)).toNat := by
      have : (((j.fmod L).toNat % ell ns p : Nat) : Int) = (j.fmod L) % (ell ns p : Int) := by
        rw [Int.natCast_emod, Int.toNat_of_nonneg e0]
      omega
    rw [h3, Int.fmod_eq_emod_of_nonneg _ (by omega), Int.fmod_eq_emod_of_nonneg _ (by omega)]
    congr 1
    have hdv : (ell ns p : Int) ∣ (L : Int) := ⟨c, by rw [hc]; simp⟩
    exact Int.emod_emod_of_dvd j hdv
  show it ns _ p = it ns _ p
  rw [← e2, it_mod s]
section
variable {P : Program} {w : World} {K : PySem.W.Frag} {mg : Str → Option Value} {base : Heap}
def sp_between : Sp := fun vs H Q _ => ∃ (s l : Addr) (lo hi : Int), vs = [.ref s, .int lo, .int hi] ∧ Sto s l H ∧ lo ≤ hi ∧ -10000 ≤ lo ∧ hi ≤ 10000 ∧ ∀ r H', Ge s l H H' → lo ≤ r → r ≤ hi → Q (.int r) H'
abbrev st_law_after : Stmt := topS 60
theorem sc_law_after : FnScope ["first", "second", "p"] ["first", "second"] (defScope st_law_after) := ⟨rfl, rfl, rfl, by decide +kernel, rfl, by decide +kernel, by decide +kernel⟩
theorem ok_law_after (D : Df K mg "_law_after" st_law_after) (T : NoB mg)  : Cl P w K mg base 1 "_law_after" ["first", "second"] sp_joined := by
  refine cl_of D sc_law_after (fun _ _ _ _ _ _ us hl => match us, hl with | [_, _], _ => rfl) (fun vs H Q E h => ?_) (fun f cdv A outer sh H vs Q E hr h => ?_)
  · obtain ⟨_, _, _, _, rfl, _⟩ := h; rfl
  obtain ⟨a, b, as, bs, rfl, ha, hb, hz, hl, k⟩ := h
  refine ⟨_, (pss_one (ps_ret (pe_callTy tup1 (by rfl) T.no_tuple (by decide +kernel) (pa_cons (pe_lc (own := [("p", 2)]) (g := gName 2) (tt := tYes) rfl sc_law_after.nd (pi_sq (pv 0)) (blkOk_by (own := [("p", 2)]) (N := ["first", "second", "p"]) (sc := defScope st_law_after) (by decide +kernel)) (fun _ _ _ _ _ => (pg_name (i := 2) sc_law_after.nd rfl (Or.inl rfl))) (fun _ _ _ _ _ => pts_nil) (fun _ _ _ _ _ => (pe_ix ix1 (pv 1) (pv 2) (fun _ _ => rfl)))) pa_nil)))), ?_⟩
  walk_at "wn"
  refine cs_by (sq_t ha) (fun C i acc H' => Same H H' ∧ acc = ((as.take i).map (im bs)).map V.int) (fun C H0 n0 => ⟨n0.same, rfl⟩) (fun C i acc H' hC f o ho => f.1 _ _ ho) ?_ ?_
  · rintro C i x acc H1 N hC hx hacc ⟨s1, rfl⟩ hN
    obtain ⟨z, hzi, rfl⟩ : ∃ z, as[i]? = some z ∧ x = V.int z := by
      rw [List.getElem?_map] at hx
      cases e : as[i]? with
      | none => rw [e] at hx; cases hx
      | some z => rw [e] at hx; exact ⟨z, rfl, (Option.some.inj hx).symm⟩
    have hzr := hz z (List.mem_of_getElem? hzi)
    have hy := List.getElem?_eq_getElem (show z.toNat < bs.length by omega)
    have hlt := (List.getElem?_eq_some_iff.mp hzi).1
    have eim : im bs z = bs[z.toNat] := by unfold im; rw [hy]; rfl
    refine ⟨rfl, ?_⟩
    walk_at "wn"
    refine ⟨_, sq_t (s1 _ _ hb), .int bs[z.toNat], atI_of hzr.1 (by rw [List.getElem?_map, hy]; rfl), ?_⟩
    refine cst hacc (by rw [List.length_map, List.length_map, List.length_take, sizeLine_eq]; omega) fun H5 p5 => hN _ _ p5.at_ ⟨fun b o hb => p5.k (ne_of_none hb hC) (s1 b o hb), ?_⟩
    rw [List.take_add_one, hzi, ← eim]
    simp
  · rintro C acc H1 hC hacc ⟨s1, rfl⟩
    rw [List.length_map, List.take_length] at hacc
    walk_at "wn"
    exact ⟨_, hacc, fun q H2 n2 => k q H1 H2 s1 n2⟩
def sp_along : Sp := fun vs H Q _ => ∃ (a : Addr) (ns : List Int) (p j : Int), vs = [.ref a, .int p, .int j] ∧ H a = some (.tup (ns.map V.int)) ∧ ns.length ≤ 12 ∧ ns.Perm (rng ns.length) ∧ InR ns p ∧ ∀ H', Same H H' → Q (.int (it ns (j.fmod (ell ns p)).toNat p)) H'
def sp_raised : Sp := fun vs H Q _ => ∃ (a : Addr) (ns : List Int) (j : Int), vs = [.ref a, .int j] ∧ H a = some (.tup (ns.map V.int)) ∧ ns.length ≤ 12 ∧ ns.Perm (rng ns.length) ∧ ∀ p H1 H2, Same H H1 → New H1 p (.tup ((rsd ns j).map V.int)) H2 → Q (.ref p) H2
def sp_round : Sp := fun vs H Q _ => ∃ (a : Addr) (ns : List Int) (L : Nat), vs = [.ref a] ∧ H a = some (.tup (ns.map V.int)) ∧ ns.length ≤ 12 ∧ ns.Perm (rng ns.length) ∧ RL ns L ∧ ∀ H', Same H H' → Q (.int L) H'
def sp_undone : Sp := fun vs H Q _ => ∃ (a : Addr) (ns : List Int), vs = [.ref a] ∧ H a = some (.tup (ns.map V.int)) ∧ ns.length ≤ 12 ∧ ns.Perm (rng ns.length) ∧ ∀ (p : Addr) (iv : List Int) H1 H2, Same H H1 → New H1 p (.tup (iv.map V.int)) H2 → iv.Perm (rng ns.length) → (∀ z, InR ns z → im iv (im ns z) = z) → Q (.ref p) H2
end

/-! ## K3 -/

theorem hot_of {A : Around} {a : Addr} {oe : Obj} {cls : Value} {d : Option Addr} (hz : L2N.Zn cls d oe) (hf : ∃ vs, oe.data = .fields vs) : L2H.Hot1 (A.mark (some (.ref a))) (a, oe) := by
  obtain ⟨vs, e⟩ := hf
  exact ⟨rfl, vs, e, hz.2.2 vs e⟩
theorem roomH_mark' {k : Nat} {A : Around} (r : Room k A) {h : Option Value} : L2H.RoomH k (A.mark h) := ⟨r.dp, r.un⟩
/-- f(..) in an except suite, by f's promise for what is handled -/
theorem pe_clU {X : Cx} {j k : Nat} {x : Str} {ps : List Str} {sp : HSp} {a : Addr} {oe : Obj} {pn : List (Addr × Obj)} {cls : Value} {d : Option Addr} {q pos : Pos} {e : Expr} {es : List Expr} {t : TA} (C : ClH X.prog X.w X.K X.mg X.base j x ps sp) (hz : L2N.Zn cls d oe) (hf : ∃ vs, oe.data = .fields vs) (hr : Room k X.A) (hg : Gl X x) (ha : PA (X.suite a ((a, oe) :: pn)) (e :: es) t) (hjk : j ≤ k := by decide)
    (hdb : (x == ("__debug__" : Str)) = false := by decide) (he : starEach (e :: es) X.env = (false, eval e X.env) :: starEach es X.env := by rfl) (hpl : (backTo pos (starEach es X.env)).any (·.1) = false := by rfl) :
    PE (X.suite a ((a, oe) :: pn)) (.Call (.Name x q) (e :: es) [] pos) (fun σ H Q => t σ H fun vs H1 => sp a cls d vs H1 Q E0) :=
  pe_clH (X := X.suite a ((a, oe) :: pn)) C (hot_of hz hf) List.mem_cons_self hz.zc (roomH_mark' hr) hg ha hjk hdb he hpl
/-- what is due stands as a tuple of data -/
def DueAt (H : Hp) (du : Addr) (f : Flt) : Prop := f.cls ∈ errL ∧ H du = some (.tup f.due) ∧ ∃ ds k, DwAll [] H f.due ds k ∧ k ≤ 2000
theorem DueAt.same {H H' : Hp} {du : Addr} {f : Flt} (h : DueAt H du f) (s : Same H H') : DueAt H' du f := ⟨h.1, s _ _ h.2.1, by
  obtain ⟨ds, k, h1, h2⟩ := h.2.2
  exact ⟨ds, k, h1.same s, h2⟩⟩
theorem DueAt.ref {K : PySem.W.Frag} {H : Hp} {du a : Addr} {f : Flt} {dd : Addr} {Q : VK} (h : DueAt H du f) (hx : H dd = some (.xd f.fs)) (k : ∀ H', Same H H' → Q (.bl true) H') : sp_refG K a (.ref (He.ga K f.cls)) (some dd) [.ref a, .ref du] H Q E0 := by
  obtain ⟨ds, kk, h1, h2⟩ := h.2.2
  exact ⟨f, du, dd, ds, kk, rfl, rfl, h.1, rfl, hx, h.2.1, h1, by omega, k⟩
section
variable {P : Program} {w : World} {K : PySem.W.Frag} {mg : Str → Option Value} {base : Heap}
theorem pow_by {H : Hp} {Q : VK} {Er : XK} {mv t : V} {f : Flt} {E' E2 : List Addr} {d dt : PyData} {n nt : Nat} (hd : Dw E' H mv d n) (ht : Dw E2 H t dt nt) (hs : Sm t) (hb : isMoveD d = false → f = .mv 0)
    (hg : isMoveD d = true → numOk t (-1000) 1000 = false ∧ f = .num t (-1000) 1000) (er : Raises K f H Er) : sp_power K [mv, t] H Q Er := by
  refine ⟨mv, t, [], d, dt, n, nt, rfl, hd.sub (fun a z => absurd z (by simp)), fun hno => ?_, fun hmv => ⟨ht.sub (fun a z => absurd z (by simp)), hs, fun _ => ?_, fun a ns j ea eh ed et j0 j1 => ?_⟩⟩
  · rw [← hb hno]; exact er
  · rw [← (hg hmv).2]; exact er
  · have h1 := (hg hmv).1
    subst et
    simp [numOk] at h1
    omega
def sp_powtold : Sp := fun vs H Q _ => ∃ (mv t : V) (du : Addr) (f : Flt) (E E2 : List Addr) (d dt : PyData) (n nt : Nat), vs = [mv, t, .ref du] ∧ Dw E H mv d n ∧ Dw E2 H t dt nt ∧ Sm t ∧ DueAt H du f ∧ (isMoveD d = false → f = .mv 0) ∧ (isMoveD d = true → numOk t (-1000) 1000 = false ∧ f = .num t (-1000) 1000) ∧ ∀ H', Same H H' → Q (.bl true) H'
def sp_rtold : Sp := fun vs H Q _ => ∃ (v : V) (E : List Addr) (d : PyData) (n : Nat), vs = [v] ∧ Dw E H v d n ∧ isMoveD d = false ∧ ∀ H', Same H H' → Q (.bl true) H'
def sp_stold : Sp := fun vs H Q _ => ∃ (x : V) (d : PyData) (n : Nat), vs = [x] ∧ Sm x ∧ Dw [] H x d n ∧ n ≤ 1000 ∧ numOk x 0 12 = false ∧ ∀ H', Same H H' → Q (.bl true) H'
theorem turn_by {H : Hp} {Q : VK} {Er : XK} {pz : V} {p : Addr} {f : Flt} {E' E2 : List Addr} {d : PyData} {n : Nat} {xs : List V} {ds : List PyData} {m2 : Nat} (hd : Dw E' H pz d n) (hs : Sm pz) (hb : numOk pz 0 12 = false → f = .num pz 0 12) (hq : sq H p = some xs) (hda : DwAll E2 H xs ds m2)
    (hg : ∀ n : Nat, pz = .int n → n ≤ 12 → cmFlt n ds "list" 400 = some f) (er : Raises K f H Er) : sp_inturn K [pz, .ref p] H Q Er := by
  refine ⟨pz, .ref p, E', d, n, rfl, hd, hs, fun hno => ?_, fun n e h => ⟨p, xs, E2, ds, m2, rfl, hq, hda, ?_⟩⟩
  · rw [← hb hno]; exact er
  · rw [hg n e h]; exact er
def sp_ttold : Sp := fun vs H Q _ => ∃ (pz : V) (p du : Addr) (f : Flt) (E' E : List Addr) (d dp : PyData) (n m : Nat) (xs : List V) (ds : List PyData) (m2 : Nat), vs = [pz, .ref p, .ref du] ∧ Dw E' H pz d n ∧ Sm pz ∧ DueAt H du f ∧ Lv E H ∧ Dw E H (.ref p) dp m ∧ m ≤ 400000 ∧ sq H p = some xs ∧ DwAll E H xs ds m2 ∧ (numOk pz 0 12 = false → f = .num pz 0 12) ∧
  (∀ n : Nat, pz = .int n → n ≤ 12 → cmFlt n ds "list" 400 = some f) ∧ ∀ H', Same H H' → Q (.bl true) H'
end

/-! ## HoU -/
open HotX L2H
theorem hu_ofH {k : Nat} {A : Around} (r : RoomH k A) : A.units + 1 < cLine := by have := r.un; omega
theorem pi_sqH {X : Cx} {tg l : Expr} {tl : TE} (hl : PE X l tl) : PIH X tg l (iSq X.K tl) := by
  refine ⟨fun pins s σ H R I h => ?_⟩
  refine thn (hl.run pins s σ H _ I h) fun v s1 ⟨x, H1, I1, r1, a, xs, ex, q⟩ => ?_
  subst ex
  cases r1
  have fit : FpOk X pins H1 s1.heap.objs.size := I1.fpOk (Nat.le_refl _) (I1.hok.fresh (Nat.le_refl _))
  have ft : ∀ b ∈ [s1.heap.objs.size], FpOk X pins H1 b := fun b hb => by
    rw [List.mem_singleton.mp hb]
    exact fit
  rcases q with ⟨hq, q⟩ | ⟨hq, q⟩
  · obtain ⟨its, rv, pl, hz⟩ := I1.list (SqL.of hq)
    exact wpAny_pyIter_list pl.isList ⟨s1.heap.objs.size, [s1.heap.objs.size], fun i h => h.IsListIter s1.heap.objs.size a i, Itl X.K a, H1, rfl, I1.kept (t' := s1.toks) fun b o e => Heap.get?_push_of_some _ e, turn_listH a _, ⟨_, Heap.get?_push_size _ rfl, rfl, rfl⟩, ft, q⟩
  · obtain ⟨its, rv, pl, hz⟩ := I1.tuple (SqT.of hq)
    exact wpAny_pyIter_tuple (show s1.heap.IsTuple a its.toArray from pl) ⟨s1.heap.objs.size, [s1.heap.objs.size], fun i h => h.IsTupleIter s1.heap.objs.size a i, Itt X.K a, H1, rfl, I1.kept (t' := s1.toks) fun b o e => Heap.get?_push_of_some _ e, turn_tupleH a _, ⟨_, Heap.get?_push_size _ rfl, rfl, rfl⟩, ft, q⟩

/-! ## N1 -/
local macro_rules | `(tactic| walk_at "wp") => `(tactic| (try simp only [a_var, a_c, a_op, a_un, a_test, a_b, a_and, a_or, a_not, a_andV, a_orV, a_notV, a_if, a_next, a_seq, a_break, a_cont, a_drop, a_ret, a_retN, a_ifS, a_asg, a_name, a_sub, a_nil, a_cons, a_tup, a_lst, a_call, a_cb, a_bm0, a_bm, a_sl, a_nopart, a_part, a_aug, b_rI, b_rI0, b_rU, b_eq, b_ne, b_isTF, b_int, b_intb, b_list, b_tuple, b_ix, b_len, b_setL, b_app, b_pop, b_popAt, b_sl, b_rep, b_cat, b_lstRg, b_tupRg, b_rg1, b_rg2, a_forR, a_forR2, a_forS, b_fsq, a_lcR, a_lcR2, a_lcS, b_csq, wipe_nil, wipe_cons, a_yes, wh_i, wh_s, wh_b, wh_r, wh_n, Bool.not_eq_true, eq_self, not_true_eq_false, not_false_eq_true, b_isi, kb_all, ty_non, ty_bl, ty_int, ty_str, a_m1, b_ixS, b_slS, List.cons.injEq, and_assoc, exists_and_left, cxK, List.getElem?_cons_zero, List.getElem?_cons_succ, List.set_cons_zero, List.set_cons_succ, Option.some.injEq, exists_eq_left', exists_eq_left, V.bl.injEq, V.int.injEq, V.ref.injEq, V.str.injEq, HO.lst.injEq, HO.tup.injEq, decide_eq_true_eq, true_and, and_true, L2.start, List.map_cons, List.map_nil, List.length_cons, List.length_nil, Nat.zero_add, Nat.reduceAdd, Nat.reduceSub, List.replicate_succ, List.replicate_zero, List.cons_append, List.nil_append, if_true, if_false, Bool.false_eq_true, Bool.not_true, Bool.not_false, decide_not, Bool.not_eq_true', decide_eq_false_iff_not, scal_ii, scal_bb, scal_ss, scal_is, scal_si, reduceCtorEq, Bool.true_eq_false, decide_false, decide_true, if_pos, ne_eq, Int.reduceNeg, atI_0, atI_1, atI_2, atI_3, atI_4, atI_5, atI_6, ixN_7, b_ins, a_revL, b_isT, V.ty.injEq, Bool.true_or, Bool.or_true, Bool.false_or, Bool.or_false, Bool.or_self, b_sorted, b_repT, a_err, a_callS, a_xp, a_isP, a_lcE, a_forE, a_isV, a_lcH, a_ch, a_forES, a_lcG, a_isO, a_errV, a_errV0, a_xo]))
local macro_rules | `(tactic| walk_at "wps") => `(tactic| (try simp only [a_var, a_c, a_op, a_un, a_test, a_b, a_and, a_or, a_not, a_andV, a_orV, a_notV, a_if, a_next, a_seq, a_break, a_cont, a_drop, a_ret, a_retN, a_ifS, a_asg, a_name, a_sub, a_nil, a_cons, a_tup, a_lst, a_call, a_cb, a_bm0, a_bm, a_sl, a_nopart, a_part, a_aug, b_rI, b_rI0, b_rU, b_eq, b_ne, b_isTF, b_int, b_intb, b_list, b_tuple, b_ix, b_len, b_setL, b_app, b_pop, b_popAt, b_sl, b_rep, b_cat, b_lstRg, b_tupRg, b_rg1, b_rg2, a_forR, a_forR2, a_forS, b_fsq, a_lcR, a_lcR2, a_lcS, b_csq, wipe_nil, wipe_cons, a_yes, wh_i, wh_s, wh_b, wh_r, wh_n, Bool.not_eq_true, eq_self, not_true_eq_false, not_false_eq_true, b_isi, kb_all, ty_non, ty_bl, ty_int, ty_str, a_m1, b_ixS, b_slS, List.cons.injEq, and_assoc, exists_and_left, cxK, List.getElem?_cons_zero, List.getElem?_cons_succ, List.set_cons_zero, List.set_cons_succ, Option.some.injEq, exists_eq_left', exists_eq_left, V.bl.injEq, V.int.injEq, V.ref.injEq, V.str.injEq, HO.lst.injEq, HO.tup.injEq, decide_eq_true_eq, true_and, and_true, L2.start, List.map_cons, List.map_nil, List.length_cons, List.length_nil, Nat.zero_add, Nat.reduceAdd, Nat.reduceSub, List.replicate_succ, List.replicate_zero, List.cons_append, List.nil_append, if_true, if_false, Bool.false_eq_true, Bool.not_true, Bool.not_false, decide_not, Bool.not_eq_true', decide_eq_false_iff_not, scal_ii, scal_bb, scal_ss, scal_is, scal_si, reduceCtorEq, Bool.true_eq_false, decide_false, decide_true, if_pos, ne_eq, Int.reduceNeg, atI_0, atI_1, atI_2, atI_3, atI_4, atI_5, atI_6, ixN_7, b_ins, a_revL, b_isT, V.ty.injEq, Bool.true_or, Bool.or_true, Bool.false_or, Bool.or_false, Bool.or_self, b_sorted, b_repT, a_err, a_callS, a_xp, a_isP, a_lcE, a_forE, a_isV, a_lcH, a_ch, a_forES, a_lcG, a_isO, a_errV, a_errV0, a_xo, *]))
local macro_rules | `(tactic| walk_at "wq") => `(tactic| (try simp only [a_var, a_c, a_op, a_un, a_test, a_b, a_and, a_or, a_not, a_andV, a_orV, a_notV, a_if, a_next, a_break, a_cont, a_drop, a_ret, a_retN, a_ifS, a_asg, a_name, a_sub, a_nil, a_cons, a_tup, a_lst, a_call, a_cb, a_bm0, a_bm, a_sl, a_nopart, a_part, a_aug, b_rI, b_rI0, b_rU, b_eq, b_ne, b_isTF, b_int, b_intb, b_list, b_tuple, b_ix, b_len, b_setL, b_app, b_pop, b_popAt, b_sl, b_rep, b_cat, b_lstRg, b_tupRg, b_rg1, b_rg2, a_forR, a_forR2, a_forS, b_fsq, a_lcR, a_lcR2, a_lcS, b_csq, wipe_nil, wipe_cons, a_yes, wh_i, wh_s, wh_b, wh_r, wh_n, Bool.not_eq_true, eq_self, not_true_eq_false, not_false_eq_true, b_isi, kb_all, ty_non, ty_bl, ty_int, ty_str, a_m1, b_ixS, b_slS, List.cons.injEq, and_assoc, exists_and_left, cxK, List.getElem?_cons_zero, List.getElem?_cons_succ, List.set_cons_zero, List.set_cons_succ, Option.some.injEq, exists_eq_left', exists_eq_left, V.bl.injEq, V.int.injEq, V.ref.injEq, V.str.injEq, HO.lst.injEq, HO.tup.injEq, decide_eq_true_eq, true_and, and_true, L2.start, List.map_cons, List.map_nil, List.length_cons, List.length_nil, Nat.zero_add, Nat.reduceAdd, Nat.reduceSub, List.replicate_succ, List.replicate_zero, List.cons_append, List.nil_append, if_true, if_false, Bool.false_eq_true, Bool.not_true, Bool.not_false, decide_not, Bool.not_eq_true', decide_eq_false_iff_not, scal_ii, scal_bb, scal_ss, scal_is, scal_si, reduceCtorEq, Bool.true_eq_false, decide_false, decide_true, if_pos, ne_eq, Int.reduceNeg, atI_0, atI_1, atI_2, atI_3, atI_4, atI_5, atI_6, ixN_7, b_ins, a_revL, b_isT, V.ty.injEq, Bool.true_or, Bool.or_true, Bool.false_or, Bool.or_false, Bool.or_self, b_sorted, b_repT, a_err, a_callS, a_xp, a_isP, a_lcE, a_forE, a_isV, a_lcH, a_ch, a_forES, a_lcG, a_isO, a_errV, a_errV0, a_xo, *]))
local macro_rules | `(tactic| walk_at "wn") => `(tactic| (try simp only [a_var, a_c, a_op, a_un, a_test, a_b, a_and, a_or, a_not, a_andV, a_orV, a_notV, a_if, a_next, a_break, a_cont, a_drop, a_ret, a_retN, a_ifS, a_asg, a_name, a_sub, a_nil, a_cons, a_tup, a_lst, a_call, a_cb, a_bm0, a_bm, a_sl, a_nopart, a_part, a_aug, b_rI, b_rI0, b_rU, b_eq, b_ne, b_isTF, b_int, b_intb, b_list, b_tuple, b_ix, b_len, b_setL, b_app, b_pop, b_popAt, b_sl, b_rep, b_cat, b_lstRg, b_tupRg, b_rg1, b_rg2, a_forR, a_forR2, a_forS, b_fsq, a_lcR, a_lcR2, a_lcS, b_csq, wipe_nil, wipe_cons, a_yes, wh_i, wh_s, wh_b, wh_r, wh_n, Bool.not_eq_true, eq_self, not_true_eq_false, not_false_eq_true, b_isi, kb_all, ty_non, ty_bl, ty_int, ty_str, a_m1, b_ixS, b_slS, List.cons.injEq, and_assoc, exists_and_left, cxK, List.getElem?_cons_zero, List.getElem?_cons_succ, List.set_cons_zero, List.set_cons_succ, Option.some.injEq, exists_eq_left', exists_eq_left, V.bl.injEq, V.int.injEq, V.ref.injEq, V.str.injEq, HO.lst.injEq, HO.tup.injEq, decide_eq_true_eq, true_and, and_true, L2.start, List.map_cons, List.map_nil, List.length_cons, List.length_nil, Nat.zero_add, Nat.reduceAdd, Nat.reduceSub, List.replicate_succ, List.replicate_zero, List.cons_append, List.nil_append, if_true, if_false, Bool.false_eq_true, Bool.not_true, Bool.not_false, decide_not, Bool.not_eq_true', decide_eq_false_iff_not, scal_ii, scal_bb, scal_ss, scal_is, scal_si, reduceCtorEq, Bool.true_eq_false, decide_false, decide_true, if_pos, ne_eq, Int.reduceNeg, atI_0, atI_1, atI_2, atI_3, atI_4, atI_5, atI_6, ixN_7, b_ins, a_revL, b_isT, V.ty.injEq, Bool.true_or, Bool.or_true, Bool.false_or, Bool.or_false, Bool.or_self, b_sorted, b_repT, a_err, a_callS, a_xp, a_isP, a_lcE, a_forE, a_isV, a_lcH, a_ch, a_forES, a_lcG, a_isO, a_errV, a_errV0, a_xo]))
local macro_rules | `(tactic| walk_at "sq") => `(tactic| ((try dsimp only); rw [a_seq]; walk_at "wq"))
local macro_rules | `(tactic| walk_at "sn") => `(tactic| ((try dsimp only); rw [a_seq]; walk_at "wn"))

section
variable {P : Program} {w : World} {K : PySem.W.Frag} {mg : Str → Option Value} {base : Heap}
/-- an own error made by hand is of one class alone -/
def sp_aloneO (K : PySem.W.Frag) (mg : Str → Option Value) : Sp := fun vs H Q _ => ∃ (En : Str) (a : Addr) (d : Option Addr), ErN K mg En ∧ (errNames.filter fun z => decide (z = En)).length = 1 ∧ vs = [.ref a] ∧ XoAt a (He.ga K En) d H ∧ ∀ H', Same H H' → Q (.bl true) H'
theorem ok_law_aloneC (D : Df K mg "_law_alone" st_law_alone) (T : NoB mg)  : Cl P w K mg base 1 "_law_alone" ["error"] (sp_aloneO K mg) := by
  refine cl_of D sc_law_alone (fun _ _ _ _ _ _ us hl => match us, hl with | [_], _ => rfl) (fun vs H Q E h => ?_) (fun f cdv A outer sh H vs Q E hr h => ?_)
  · obtain ⟨_, _, _, _, _, rfl, _⟩ := h; rfl
  obtain ⟨En, xa, xd, EN, hEn, rfl, hx, k⟩ := h
  refine ⟨_, (pss_cons (ps_set (i := 1) sc_law_alone.nd rfl (Or.inl rfl) (pe_lst (pa_cons (pe_isOE EN xa xd T.no_isinstance (by rfl) (pv 0) (by rfl)) (pa_cons (pe_isOE EN xa xd T.no_isinstance (by rfl) (pv 0) (by rfl)) (pa_cons (pe_isOE EN xa xd T.no_isinstance (by rfl) (pv 0) (by rfl)) pa_nil)))))
    (pss_cons (ps_set (i := 1) sc_law_alone.nd rfl (Or.inl rfl) (pe_op op_cat (pv 1) (pe_lst (pa_cons (pe_isOE EN xa xd T.no_isinstance (by rfl) (pv 0) (by rfl)) (pa_cons (pe_isOE EN xa xd T.no_isinstance (by rfl) (pv 0) (by rfl)) (pa_cons (pe_isOE EN xa xd T.no_isinstance (by rfl) (pv 0) (by rfl)) pa_nil))))))
    (pss_cons (ps_set (i := 1) sc_law_alone.nd rfl (Or.inl rfl) (pe_op op_cat (pv 1) (pe_lst (pa_cons (pe_isOE EN xa xd T.no_isinstance (by rfl) (pv 0) (by rfl)) (pa_cons (pe_isOE EN xa xd T.no_isinstance (by rfl) (pv 0) (by rfl)) (pa_cons (pe_isOE EN xa xd T.no_isinstance (by rfl) (pv 0) (by rfl)) pa_nil))))))
    (pss_cons (ps_set (i := 1) sc_law_alone.nd rfl (Or.inl rfl) (pe_op op_cat (pv 1) (pe_lst (pa_cons (pe_isOE EN xa xd T.no_isinstance (by rfl) (pv 0) (by rfl)) (pa_cons (pe_isOE EN xa xd T.no_isinstance (by rfl) (pv 0) (by rfl)) (pa_cons (pe_isOE EN xa xd T.no_isinstance (by rfl) (pv 0) (by rfl)) pa_nil))))))
    (pss_cons (ps_set (i := 1) sc_law_alone.nd rfl (Or.inl rfl) (pe_op op_cat (pv 1) (pe_lst (pa_cons (pe_isOE EN xa xd T.no_isinstance (by rfl) (pv 0) (by rfl)) (pa_cons (pe_isOE EN xa xd T.no_isinstance (by rfl) (pv 0) (by rfl)) (pa_cons (pe_isOE EN xa xd T.no_isinstance (by rfl) (pv 0) (by rfl)) pa_nil))))))
    (pss_cons (ps_set (i := 1) sc_law_alone.nd rfl (Or.inl rfl) (pe_op op_cat (pv 1) (pe_lst (pa_cons (pe_isOE EN xa xd T.no_isinstance (by rfl) (pv 0) (by rfl)) (pa_cons (pe_isOE EN xa xd T.no_isinstance (by rfl) (pv 0) (by rfl)) (pa_cons (pe_isOE EN xa xd T.no_isinstance (by rfl) (pv 0) (by rfl)) pa_nil))))))
    (pss_cons (ps_set (i := 1) sc_law_alone.nd rfl (Or.inl rfl) (pe_op op_cat (pv 1) (pe_lst (pa_cons (pe_isOE EN xa xd T.no_isinstance (by rfl) (pv 0) (by rfl)) (pa_cons (pe_isOE EN xa xd T.no_isinstance (by rfl) (pv 0) (by rfl)) (pa_cons (pe_isOE EN xa xd T.no_isinstance (by rfl) (pv 0) (by rfl)) pa_nil))))))
    (pss_cons (ps_set (i := 1) sc_law_alone.nd rfl (Or.inl rfl) (pe_op op_cat (pv 1) (pe_lst (pa_cons (pe_isOE EN xa xd T.no_isinstance (by rfl) (pv 0) (by rfl)) (pa_cons (pe_isOE EN xa xd T.no_isinstance (by rfl) (pv 0) (by rfl)) (pa_cons (pe_isOE EN xa xd T.no_isinstance (by rfl) (pv 0) (by rfl)) pa_nil))))))
    (pss_cons (ps_set (i := 1) sc_law_alone.nd rfl (Or.inl rfl) (pe_op op_cat (pv 1) (pe_lst (pa_cons (pe_isOE EN xa xd T.no_isinstance (by rfl) (pv 0) (by rfl)) (pa_cons (pe_isOE EN xa xd T.no_isinstance (by rfl) (pv 0) (by rfl)) (pa_cons (pe_isOE EN xa xd T.no_isinstance (by rfl) (pv 0) (by rfl)) pa_nil))))))
    (pss_cons (ps_set (i := 1) sc_law_alone.nd rfl (Or.inl rfl) (pe_op op_cat (pv 1) (pe_lst (pa_cons (pe_isOE EN xa xd T.no_isinstance (by rfl) (pv 0) (by rfl)) (pa_cons (pe_isOE EN xa xd T.no_isinstance (by rfl) (pv 0) (by rfl)) (pa_cons (pe_isOE EN xa xd T.no_isinstance (by rfl) (pv 0) (by rfl)) pa_nil))))))
    (pss_cons (ps_set (i := 1) sc_law_alone.nd rfl (Or.inl rfl) (pe_op op_cat (pv 1) (pe_lst (pa_cons (pe_isOE EN xa xd T.no_isinstance (by rfl) (pv 0) (by rfl)) (pa_cons (pe_isOE EN xa xd T.no_isinstance (by rfl) (pv 0) (by rfl)) pa_nil)))))
    (pss_cons (ps_set (i := 2) sc_law_alone.nd rfl (Or.inl rfl) (pe_cmpR op_eq (pe_callB len1 (by rfl) T.no_len (by decide +kernel) (pa_cons (pe_lc (own := [("entry", 3)]) (g := gName 3) (tt := _) rfl sc_law_alone.nd (pi_sq (pv 1)) (blkOk_by (own := [("entry", 3)]) (N := ["error", "of", "one", "entry"]) (sc := defScope st_law_alone) (by decide +kernel)) (fun _ _ _ _ _ => (pg_name (i := 3) sc_law_alone.nd rfl (Or.inl rfl))) (fun _ _ _ _ _ => (pts_one (pt_val (pv 3)))) (fun _ _ _ _ _ => (pv 3))) pa_nil)) pe_int (nomark _)))
    (pss_one (ps_ret (pe_and (pv 2) (pe_and (pe_isOH EN xa xd T.no_isinstance (by rfl) (pv 0) (by rfl)) (pe_one (pe_isOVE EN xa xd T.no_isinstance (by rfl) (pv 0) (by rfl))))))))))))))))))), ?_⟩
  rw [a_seq]
  walk_at "wn"
  refine ⟨hx, hx, hx, by rw [sizeLine_eq]; decide, fun p1 H1 n1 => ?_⟩
  have x1 := hx.same n1.same
  have h1 := n1.at_
  have s1 := n1.same
  dsimp only
  rw [a_seq]
  walk_at "wn"
  refine ⟨x1, x1, x1, by rw [sizeLine_eq]; decide, fun r1 Ha1 na1 => ⟨_, na1.k h1, _, na1.at_, by rw [sizeLine_eq]; simp, fun q1 Hb1 nb1 => ?_⟩⟩
  have s2 := (s1.trans na1.same).trans nb1.same
  have x2 := hx.same s2
  have h2 := nb1.at_
  dsimp only
  rw [a_seq]
  walk_at "wn"
  refine ⟨x2, x2, x2, by rw [sizeLine_eq]; decide, fun r2 Ha2 na2 => ⟨_, na2.k h2, _, na2.at_, by rw [sizeLine_eq]; simp, fun q2 Hb2 nb2 => ?_⟩⟩
  have s3 := (s2.trans na2.same).trans nb2.same
  have x3 := hx.same s3
  have h3 := nb2.at_
  dsimp only
  rw [a_seq]
  walk_at "wn"
  refine ⟨x3, x3, x3, by rw [sizeLine_eq]; decide, fun r3 Ha3 na3 => ⟨_, na3.k h3, _, na3.at_, by rw [sizeLine_eq]; simp, fun q3 Hb3 nb3 => ?_⟩⟩
  have s4 := (s3.trans na3.same).trans nb3.same
  have x4 := hx.same s4
  have h4 := nb3.at_
  dsimp only
  rw [a_seq]
  walk_at "wn"
  refine ⟨x4, x4, x4, by rw [sizeLine_eq]; decide, fun r4 Ha4 na4 => ⟨_, na4.k h4, _, na4.at_, by rw [sizeLine_eq]; simp, fun q4 Hb4 nb4 => ?_⟩⟩
  have s5 := (s4.trans na4.same).trans nb4.same
  have x5 := hx.same s5
  have h5 := nb4.at_
  dsimp only
  rw [a_seq]
  walk_at "wn"
  refine ⟨x5, x5, x5, by rw [sizeLine_eq]; decide, fun r5 Ha5 na5 => ⟨_, na5.k h5, _, na5.at_, by rw [sizeLine_eq]; simp, fun q5 Hb5 nb5 => ?_⟩⟩
  have s6 := (s5.trans na5.same).trans nb5.same
  have x6 := hx.same s6
  have h6 := nb5.at_
  dsimp only
  rw [a_seq]
  walk_at "wn"
  refine ⟨x6, x6, x6, by rw [sizeLine_eq]; decide, fun r6 Ha6 na6 => ⟨_, na6.k h6, _, na6.at_, by rw [sizeLine_eq]; simp, fun q6 Hb6 nb6 => ?_⟩⟩
  have s7 := (s6.trans na6.same).trans nb6.same
  have x7 := hx.same s7
  have h7 := nb6.at_
  dsimp only
  rw [a_seq]
  walk_at "wn"
  refine ⟨x7, x7, x7, by rw [sizeLine_eq]; decide, fun r7 Ha7 na7 => ⟨_, na7.k h7, _, na7.at_, by rw [sizeLine_eq]; simp, fun q7 Hb7 nb7 => ?_⟩⟩
  have s8 := (s7.trans na7.same).trans nb7.same
  have x8 := hx.same s8
  have h8 := nb7.at_
  dsimp only
  rw [a_seq]
  walk_at "wn"
  refine ⟨x8, x8, x8, by rw [sizeLine_eq]; decide, fun r8 Ha8 na8 => ⟨_, na8.k h8, _, na8.at_, by rw [sizeLine_eq]; simp, fun q8 Hb8 nb8 => ?_⟩⟩
  have s9 := (s8.trans na8.same).trans nb8.same
  have x9 := hx.same s9
  have h9 := nb8.at_
  dsimp only
  rw [a_seq]
  walk_at "wn"
  refine ⟨x9, x9, x9, by rw [sizeLine_eq]; decide, fun r9 Ha9 na9 => ⟨_, na9.k h9, _, na9.at_, by rw [sizeLine_eq]; simp, fun q9 Hb9 nb9 => ?_⟩⟩
  have s10 := (s9.trans na9.same).trans nb9.same
  have x10 := hx.same s10
  have h10 := nb9.at_
  dsimp only
  rw [a_seq]
  walk_at "wn"
  refine ⟨x10, x10, by rw [sizeLine_eq]; decide, fun r10 Ha10 na10 => ⟨_, na10.k h10, _, na10.at_, by rw [sizeLine_eq]; simp, fun q10 Hb10 nb10 => ?_⟩⟩
  have s11 := (s10.trans na10.same).trans nb10.same
  have x11 := hx.same s11
  have h11 := nb10.at_
  dsimp only
  rw [a_seq]
  walk_at "wn"
  refine cs_by (sq_l h11) (fun C i acc H' => Same Hb10 H' ∧ acc = ((errNames.take i).filter fun z => decide (z = En)).map fun z => V.bl (decide (z = En))) (fun C H0 n0 => ⟨n0.same, rfl⟩) (fun C i acc H' hC f o ho => f.1 _ _ ho) ?_ ?_
  · rintro C i x acc H1 N hC hx' hacc ⟨s1', rfl⟩ hN
    obtain ⟨z, hz, ey⟩ : ∃ z, errNames[i]? = some z ∧ x = V.bl (decide (z = En)) := by
      change (errNames.map fun z => V.bl (decide (z = En)))[i]? = some x at hx'
      rw [List.getElem?_map] at hx'
      cases e : errNames[i]? with
      | none => rw [e] at hx'; cases hx'
      | some z => rw [e] at hx'; exact ⟨z, rfl, (Option.some.inj hx').symm⟩
    subst ey
    have e1 : errNames.take (i + 1) = errNames.take i ++ [z] := by rw [List.take_add_one, hz]; rfl
    refine ⟨rfl, ?_⟩
    walk_at "wn"
    by_cases c : z = En
    · rw [if_pos (by simp [c])]
      refine cst hacc ?_ fun H5 p5 => hN _ _ p5.at_ ⟨p5.same s1' hC, ?_⟩
      · rw [List.length_map]
        have a1 := List.length_filter_le (fun z => decide (z = En)) (errNames.take i)
        have a2 : (errNames.take i).length ≤ 32 := by rw [List.length_take]; exact Nat.min_le_right _ _
        rw [sizeLine_eq]
        omega
      · rw [e1, List.filter_append, List.map_append, List.filter_cons, if_pos (by simp [c])]
        rfl
    · rw [if_neg (by simp [c])]
      refine hN _ _ hacc ⟨s1', ?_⟩
      rw [e1, List.filter_append, List.map_append, List.filter_cons, if_neg (by simp [c])]
      simp
  · rintro C acc H1 hC hacc ⟨sf, rfl⟩
    have sg := s11.trans sf
    walk_at "wn"
    refine ⟨_, sq_l hacc, ?_⟩
    have hL : (List.map (fun z => V.bl (decide (z = En))) (List.filter (fun z => decide (z = En)) (List.take 32 errNames))).length = 1 := by
      rw [List.length_map]
      exact hEn
    first
    | (rw [if_pos (by exact congrArg (fun n : Nat => (n : Int)) hL)]; exact ⟨hx.same sg, hx.same sg, k _ sg⟩)
    | trace_state
theorem a_dnew {σ : L2.St} {H : Hp} {Q : VK} : tDNewK σ H Q = Nw H (.dK []) fun p H' => Q (.ref p) H' := by rw [← nw_eq]; rfl
theorem a_din {ty td : TE} {σ : L2.St} {H : Hp} {Q : VK} : tDIn ty td σ H Q = ty σ H fun y H1 => td σ H1 fun x H2 => ∃ a o, x = .ref a ∧ DGet H2 a y o ∧ Q (.bl o.isSome) H2 := rfl
theorem b_setD {o i v : V} {H : Hp} {Q : Hp → Prop} : rSetD o i v H Q = ∃ a H', o = .ref a ∧ DPut H a i v H' ∧ Q H' := rfl
theorem map_at {ns : List Int} {i : Nat} {x : V} (h : (ns.map V.int)[i]? = some x) : ∃ z, ns[i]? = some z ∧ x = V.int z := by
  rw [List.getElem?_map] at h
  cases e : ns[i]? with
  | none => rw [e] at h; cases h
  | some z => rw [e] at h; exact ⟨z, rfl, (Option.some.inj h).symm⟩
def sp_fits : Sp := fun vs H Q _ => ∃ (v : V) (E : List Addr) (d : PyData) (n : Nat), vs = [v, .int (-1)] ∧ Dw E H v d n ∧ ∀ H', Same H H' → Q (.bl (isMoveD d)) H'
abbrev st_law_move_fits : Stmt := topS 62
theorem sc_law_move_fits : FnScope ["value", "points", "seen", "entry"] ["value", "points"] (defScope st_law_move_fits) := ⟨rfl, rfl, rfl, by decide +kernel, rfl, by decide +kernel, by decide +kernel⟩
theorem ok_law_move_fits (D : Df K mg "_law_move_fits" st_law_move_fits) (T : NoB mg) (C_law_is_whole : Cl P w K mg base 1 "_law_is_whole" ["value"] sp_isw) : Cl P w K mg base 2 "_law_move_fits" ["value", "points"] sp_fits := by
  refine cl_of D sc_law_move_fits (fun _ _ _ _ _ _ us hl => match us, hl with | [_, _], _ => rfl) (fun vs H Q E h => ?_) (fun f cdv A outer sh H vs Q E hr h => ?_)
  · obtain ⟨_, _, _, _, rfl, _⟩ := h; rfl
  obtain ⟨v, E, d, n, rfl, hv, k⟩ := h
  refine ⟨_, (pss_cons (ps_if (PW.pt (pw_or (pt_not (pt_val (pe_callB isi1 (by rfl) T.no_isinstance (by decide +kernel) (pa_cons (pv 0) (pa_cons (pe_bltn (by rfl) T.no_tuple (by decide +kernel) (show RelV (.ty "tuple") _ from rfl)) pa_nil))))) (pw_or1 (pt_cmpR op_gt (pe_callB len1 (by rfl) T.no_len (by decide +kernel) (pa_cons (pv 0) pa_nil)) pe_int (nomark _))))) (pss_one (ps_ret pe_bl)) pss_nil)
    (pss_cons (ps_if (PW.pt (pw_and (pt_cmpR op_ge (pv 1) pe_int (nomark _)) (pw_and1 (pt_cmpR op_ne (pe_callB len1 (by rfl) T.no_len (by decide +kernel) (pa_cons (pv 0) pa_nil)) (pv 1) (nomark _))))) (pss_one (ps_ret pe_bl)) pss_nil)
    (pss_cons (ps_set (i := 2) sc_law_move_fits.nd rfl (Or.inl rfl) pe_dnewK)
    (pss_cons (ps_for PassesOwn.never rfl (pi_sq (pv 0)) (pg_name (i := 3) sc_law_move_fits.nd rfl (Or.inl rfl)) (pss_cons (ps_if (PW.pt (pw_or (pt_not (pt_val (pe_cl C_law_is_whole hr (by rfl) (pa_cons (pv 3) pa_nil)))) (pw_or (pt_cmpR op_lt (pv 3) pe_int (nomark _)) (pw_or (pt_cmpR op_ge (pv 3) (pe_callB len1 (by rfl) T.no_len (by decide +kernel) (pa_cons (pv 0) pa_nil)) (nomark _)) (pw_or1 (pt_cmp (pc_din (hu_of hr) (pv 3) (pv 2)) rfl)))))) (pss_one (ps_ret pe_bl)) pss_nil)
    (pss_one (ps_asg pe_bl (pg_sub (pv 2) (pv 3) (set_dict (hu_of hr)))))))
    (pss_one (ps_ret pe_bl)))))), ?_⟩
  cases hv with
  | lf l =>
    have fin : Q (.bl false) H := by have := k H (Same.refl _); rw [not_move_leaf l] at this; exact this
    cases l <;> (rw [a_seq]; walk_at "wps")
  | lst ne h a =>
    have ht := ty_l h
    have fin : Q (.bl false) H := by have := k H (Same.refl _); rw [not_move_list] at this; exact this
    rw [a_seq]
    walk_at "wps"
  | @tup a xs ds m ne h da =>
    have ht := ty_t h
    have qa := sq_t h
    have hl := da.len.1
    walk_at "sq"
    split
    · rename_i hlt
      have := k H (Same.refl _)
      rw [isMove_f fun ⟨ns, e, h1, _⟩ => by have h5 := congrArg List.length (PyData.tuple.inj e); rw [List.length_map] at h5; omega] at this
      exact this
    rename_i hlt
    have hlt2 : xs.length ≤ 12 := by omega
    walk_at "sq"
    walk_at "sn"
    simp only [a_dnew]
    intro S H1 n1
    walk_at "sn"
    have q1 := sq_t (n1.k h)
    refine fs_by q1 (fun i σ H' => ∃ (v3 : Option V) (ms : List Int) (kvs : List (Key × V)), σ = [some (V.ref a), some (V.int (-1)), some (V.ref S), v3] ∧ Same H H' ∧ xs.take i = ms.map V.int ∧ ms.Nodup ∧ (∀ z ∈ ms, 0 ≤ z ∧ z < xs.length) ∧ H' S = some (.dK kvs) ∧ kvs.length ≤ i ∧ ∀ z : Int, (valV kvs (.inl z)).isSome = decide (z ∈ ms))
      ⟨_, [], [], rfl, n1.same, by simp, List.nodup_nil, by simp, n1.at_, by simp, fun z => by simp [valV]⟩ (fun i σ H' p o ho => by
        obtain ⟨_, _, _, _, s, _⟩ := p
        rw [n1.k h] at ho
        cases ho
        exact s _ _ h) ?_ ?_
    · rintro i x _ H2 N hN hx ⟨v3, ms, kvs, rfl, s2, hms, nd, hrange, eS, hkl, hkv⟩
      walk_at "wn"
      obtain ⟨ed, c, h1, h2, h3⟩ := da.get hx
      have bad : ¬ IsMoveP (.tuple ds) → Q (.bl false) H2 := fun z => by
        have := k H2 s2
        rw [isMove_f z] at this
        exact this
      rw [a_seq]
      walk_at "wn"
      refine ⟨x, ed, c, E, rfl, h2.same s2, ?_⟩
      walk_at "wn"
      split
      · rename_i hw
        exact bad fun ⟨ns, e1, _⟩ => by
          cases e1
          rw [dw_ints' da] at hx
          obtain ⟨z, _, rfl⟩ := map_at hx
          cases hw
      rename_i hw
      obtain ⟨z, rfl⟩ := isWh_int (v := x) (by simpa using hw)
      have inr : IsMoveP (.tuple ds) → (0 ≤ z ∧ z < xs.length) ∧ z ∉ ms := fun ⟨ns, e1, e2, e3⟩ => by
        cases e1
        have e4 := dw_ints' da
        rw [e4] at hx hms
        obtain ⟨z', hz', e5⟩ := map_at hx
        cases e5
        have := mem_rng.mp (e3.mem_iff.mp (List.mem_of_getElem? hz'))
        refine ⟨by rw [e4, List.length_map]; exact this, fun hm => ?_⟩
        have e6 : ns.take i = ms := by
          rw [← List.map_take] at hms
          exact map_int_inj hms
        rw [← e6] at hm
        have ndn : ns.Nodup := e3.nodup_iff.mpr (rng_nodup _)
        obtain ⟨j, hj⟩ := List.mem_iff_getElem?.mp hm
        have hji : j < i := by
          have := (List.getElem?_eq_some_iff.mp hj).1
          rw [List.length_take] at this
          omega
        rw [List.getElem?_take_of_lt hji] at hj
        have := (List.getElem?_inj ((List.getElem?_eq_some_iff.mp hj).1) ndn).mp (hj.trans hz'.symm)
        omega
      walk_at "wn"
      split
      · rename_i hlo
        exact bad fun z2 => by have := inr z2; omega
      rename_i hlo
      refine ⟨_, sq_t (s2 _ _ h), ?_⟩
      split
      · rename_i hhi
        exact bad fun z2 => by have := inr z2; omega
      rename_i hhi
      rw [a_din]
      walk_at "wn"
      refine ⟨valV kvs (.inl z), DGet.k (k := .inl z) eS, ?_⟩
      rw [hkv z]
      by_cases hm : z ∈ ms
      · rw [if_pos (by simpa using hm)]
        exact bad fun z2 => (inr z2).2 hm
      · rw [if_neg (by simpa using hm)]
        rw [b_setD]
        have hput := DPut.k (k := .inl z) (v := .bl true) eS (by rw [sizeLine_eq]; have := (List.getElem?_eq_some_iff.mp hx).1; omega)
        refine ⟨S, _, rfl, hput, ?_⟩
        refine hN _ _ ⟨_, ms ++ [z], _, rfl, fun b o hb => ?_, ?_, ?_, ?_, upd_same, ?_, fun y => ?_⟩
        · rw [upd_ne (ne_of_none hb n1.fr)]
          exact s2 b o hb
        · rw [List.take_add_one, hx, hms, List.map_append]
          rfl
        · rw [List.nodup_append]
          exact ⟨nd, by simp, fun y hy w hw => by rw [List.mem_singleton.mp hw]; intro e; exact hm (e ▸ hy)⟩
        · intro y hy
          rcases List.mem_append.mp hy with h | h
          · exact hrange y h
          · rw [List.mem_singleton.mp h]
            omega
        · rw [putK_new _ (by
            have := hkv z
            rw [decide_eq_false hm] at this
            cases e : valV kvs (.inl z) with
            | none => rfl
            | some u => rw [e] at this; cases this)]
          simp
          omega
        · rw [valV_put]
          by_cases hy : y = z
          · subst hy
            simp
          · rw [if_neg (fun e => hy (Sum.inl.inj e)), hkv y]
            simp [hy]
    · rintro _ H2 ⟨v3, ms, kvs, rfl, s2, hms, nd, hrange, eS, hkl, hkv⟩
      walk_at "wn"
      rw [List.take_length] at hms
      subst hms
      have ed := dw_ints da
      subst ed
      have := k H2 s2
      rw [isMove_t ⟨ms, rfl, by rw [List.length_map] at hlt2; exact hlt2, (sub_perm nd (fun z hz => mem_rng.mpr (by simpa using hrange z hz)) (by rw [rng_len]; exact Nat.le_refl _)).symm⟩] at this
      exact this
def sp_fitsH : HSp := fun _ _ _ vs H Q _ => ∃ (v : V) (E : List Addr) (d : PyData) (n : Nat), vs = [v, .int (-1)] ∧ Dw E H v d n ∧ ∀ H', Same H H' → Q (.bl (isMoveD d)) H'
theorem ok_law_move_fitsH (D : Df K mg "_law_move_fits" st_law_move_fits) (T : NoB mg) (C_law_is_wholeH : ClH P w K mg base 1 "_law_is_whole" ["value"] sp_iswH) : ClH P w K mg base 5 "_law_move_fits" ["value", "points"] sp_fitsH := by
  refine clH_of D sc_law_move_fits (fun _ _ _ _ _ _ us hl => match us, hl with | [_, _], _ => rfl) (fun _ _ _ vs H Q E h => ?_) (fun f cdv A outer sh H vs Q E p cls dd hot hz hc hr h => ?_)
  · obtain ⟨_, _, _, _, rfl, _⟩ := h; rfl
  have hf : ∃ vs, p.2.data = .fields vs := hot.2.imp fun _ h => h.1
  obtain ⟨v, E, d, n, rfl, hv, k⟩ := h
  refine ⟨_, (pss_cons (ps_if (PW.pt (pw_or (pt_not (pt_val (pe_callB isi1 (by rfl) T.no_isinstance (by decide +kernel) (pa_cons (pv 0) (pa_cons (pe_bltn (by rfl) T.no_tuple (by decide +kernel) (show RelV (.ty "tuple") _ from rfl)) pa_nil))))) (pw_or1 (pt_cmpR op_gt (pe_callB len1 (by rfl) T.no_len (by decide +kernel) (pa_cons (pv 0) pa_nil)) pe_int (nomark _))))) (pss_one (ps_ret pe_bl)) pss_nil)
    (pss_cons (ps_if (PW.pt (pw_and (pt_cmpR op_ge (pv 1) pe_int (nomark _)) (pw_and1 (pt_cmpR op_ne (pe_callB len1 (by rfl) T.no_len (by decide +kernel) (pa_cons (pv 0) pa_nil)) (pv 1) (nomark _))))) (pss_one (ps_ret pe_bl)) pss_nil)
    (pss_cons (ps_set (i := 2) sc_law_move_fits.nd rfl (Or.inl rfl) pe_dnewK)
    (pss_cons (L2H.ps_forH PassesOwn.never hc (pi_sqH (pv 0)) (pg_name (i := 3) sc_law_move_fits.nd rfl (Or.inl rfl)) (pss_cons (ps_if (PW.pt (pw_or (pt_not (pt_val (pe_clH C_law_is_wholeH hot List.mem_cons_self hz hr (by rfl) (pa_cons (pv 3) pa_nil)))) (pw_or (pt_cmpR op_lt (pv 3) pe_int (nomark _)) (pw_or (pt_cmpR op_ge (pv 3) (pe_callB len1 (by rfl) T.no_len (by decide +kernel) (pa_cons (pv 0) pa_nil)) (nomark _)) (pw_or1 (pt_cmp (pc_din (hu_ofH hr) (pv 3) (pv 2)) rfl)))))) (pss_one (ps_ret pe_bl)) pss_nil)
    (pss_one (ps_asg pe_bl (pg_sub (pv 2) (pv 3) (set_dict (hu_ofH hr)))))))
    (pss_one (ps_ret pe_bl)))))), ?_⟩
  cases hv with
  | lf l =>
    have fin : Q (.bl false) H := by have := k H (Same.refl _); rw [not_move_leaf l] at this; exact this
    cases l <;> (rw [a_seq]; walk_at "wps")
  | lst ne h a =>
    have ht := ty_l h
    have fin : Q (.bl false) H := by have := k H (Same.refl _); rw [not_move_list] at this; exact this
    rw [a_seq]
    walk_at "wps"
  | @tup a xs ds m ne h da =>
    have ht := ty_t h
    have qa := sq_t h
    have hl := da.len.1
    walk_at "sq"
    split
    · rename_i hlt
      have := k H (Same.refl _)
      rw [isMove_f fun ⟨ns, e, h1, _⟩ => by have h5 := congrArg List.length (PyData.tuple.inj e); rw [List.length_map] at h5; omega] at this
      exact this
    rename_i hlt
    have hlt2 : xs.length ≤ 12 := by omega
    walk_at "sq"
    walk_at "sn"
    simp only [a_dnew]
    intro S H1 n1
    walk_at "sn"
    have q1 := sq_t (n1.k h)
    refine fs_by q1 (fun i σ H' => ∃ (v3 : Option V) (ms : List Int) (kvs : List (Key × V)), σ = [some (V.ref a), some (V.int (-1)), some (V.ref S), v3] ∧ Same H H' ∧ xs.take i = ms.map V.int ∧ ms.Nodup ∧ (∀ z ∈ ms, 0 ≤ z ∧ z < xs.length) ∧ H' S = some (.dK kvs) ∧ kvs.length ≤ i ∧ ∀ z : Int, (valV kvs (.inl z)).isSome = decide (z ∈ ms))
      ⟨_, [], [], rfl, n1.same, by simp, List.nodup_nil, by simp, n1.at_, by simp, fun z => by simp [valV]⟩ (fun i σ H' p o ho => by
        obtain ⟨_, _, _, _, s, _⟩ := p
        rw [n1.k h] at ho
        cases ho
        exact s _ _ h) ?_ ?_
    · rintro i x _ H2 N hN hx ⟨v3, ms, kvs, rfl, s2, hms, nd, hrange, eS, hkl, hkv⟩
      walk_at "wn"
      obtain ⟨ed, c, h1, h2, h3⟩ := da.get hx
      have bad : ¬ IsMoveP (.tuple ds) → Q (.bl false) H2 := fun z => by
        have := k H2 s2
        rw [isMove_f z] at this
        exact this
      rw [a_seq]
      walk_at "wn"
      refine ⟨x, ed, c, E, rfl, h2.same s2, ?_⟩
      walk_at "wn"
      split
      · rename_i hw
        exact bad fun ⟨ns, e1, _⟩ => by
          cases e1
          rw [dw_ints' da] at hx
          obtain ⟨z, _, rfl⟩ := map_at hx
          cases hw
      rename_i hw
      obtain ⟨z, rfl⟩ := isWh_int (v := x) (by simpa using hw)
      have inr : IsMoveP (.tuple ds) → (0 ≤ z ∧ z < xs.length) ∧ z ∉ ms := fun ⟨ns, e1, e2, e3⟩ => by
        cases e1
        have e4 := dw_ints' da
        rw [e4] at hx hms
        obtain ⟨z', hz', e5⟩ := map_at hx
        cases e5
        have := mem_rng.mp (e3.mem_iff.mp (List.mem_of_getElem? hz'))
        refine ⟨by rw [e4, List.length_map]; exact this, fun hm => ?_⟩
        have e6 : ns.take i = ms := by
          rw [← List.map_take] at hms
          exact map_int_inj hms
        rw [← e6] at hm
        have ndn : ns.Nodup := e3.nodup_iff.mpr (rng_nodup _)
        obtain ⟨j, hj⟩ := List.mem_iff_getElem?.mp hm
        have hji : j < i := by
          have := (List.getElem?_eq_some_iff.mp hj).1
          rw [List.length_take] at this
          omega
        rw [List.getElem?_take_of_lt hji] at hj
        have := (List.getElem?_inj ((List.getElem?_eq_some_iff.mp hj).1) ndn).mp (hj.trans hz'.symm)
        omega
      walk_at "wn"
      split
      · rename_i hlo
        exact bad fun z2 => by have := inr z2; omega
      rename_i hlo
      refine ⟨_, sq_t (s2 _ _ h), ?_⟩
      split
      · rename_i hhi
        exact bad fun z2 => by have := inr z2; omega
      rename_i hhi
      rw [a_din]
      walk_at "wn"
      refine ⟨valV kvs (.inl z), DGet.k (k := .inl z) eS, ?_⟩
      rw [hkv z]
      by_cases hm : z ∈ ms
      · rw [if_pos (by simpa using hm)]
        exact bad fun z2 => (inr z2).2 hm
      · rw [if_neg (by simpa using hm)]
        rw [b_setD]
        have hput := DPut.k (k := .inl z) (v := .bl true) eS (by rw [sizeLine_eq]; have := (List.getElem?_eq_some_iff.mp hx).1; omega)
        refine ⟨S, _, rfl, hput, ?_⟩
        refine hN _ _ ⟨_, ms ++ [z], _, rfl, fun b o hb => ?_, ?_, ?_, ?_, upd_same, ?_, fun y => ?_⟩
        · rw [upd_ne (ne_of_none hb n1.fr)]
          exact s2 b o hb
        · rw [List.take_add_one, hx, hms, List.map_append]
          rfl
        · rw [List.nodup_append]
          exact ⟨nd, by simp, fun y hy w hw => by rw [List.mem_singleton.mp hw]; intro e; exact hm (e ▸ hy)⟩
        · intro y hy
          rcases List.mem_append.mp hy with h | h
          · exact hrange y h
          · rw [List.mem_singleton.mp h]
            omega
        · rw [putK_new _ (by
            have := hkv z
            rw [decide_eq_false hm] at this
            cases e : valV kvs (.inl z) with
            | none => rfl
            | some u => rw [e] at this; cases this)]
          simp
          omega
        · rw [valV_put]
          by_cases hy : y = z
          · subst hy
            simp
          · rw [if_neg (fun e => hy (Sum.inl.inj e)), hkv y]
            simp [hy]
    · rintro _ H2 ⟨v3, ms, kvs, rfl, s2, hms, nd, hrange, eS, hkl, hkv⟩
      walk_at "wn"
      rw [List.take_length] at hms
      subst hms
      have ed := dw_ints da
      subst ed
      have := k H2 s2
      rw [isMove_t ⟨ms, rfl, by rw [List.length_map] at hlt2; exact hlt2, (sub_perm nd (fun z hz => mem_rng.mpr (by simpa using hrange z hz)) (by rw [rng_len]; exact Nat.le_refl _)).symm⟩] at this
      exact this
def sp_fitsP : Sp := fun vs H Q _ => ∃ (a : Addr) (ns : List Int) (n : Int), vs = [.ref a, .int n] ∧ H a = some (.tup (ns.map V.int)) ∧ ns.length ≤ 12 ∧ ns.Perm (rng ns.length) ∧ n = ns.length ∧ ∀ H', Same H H' → Q (.bl true) H'
theorem ok_law_move_fitsP (D : Df K mg "_law_move_fits" st_law_move_fits) (T : NoB mg) (C_law_is_whole : Cl P w K mg base 1 "_law_is_whole" ["value"] sp_isw) : Cl P w K mg base 2 "_law_move_fits" ["value", "points"] sp_fitsP := by
  refine cl_of D sc_law_move_fits (fun _ _ _ _ _ _ us hl => match us, hl with | [_, _], _ => rfl) (fun vs H Q E h => ?_) (fun f cdv A outer sh H vs Q E hr h => ?_)
  · obtain ⟨_, _, _, rfl, _⟩ := h; rfl
  obtain ⟨a, ns, n, rfl, h, hl12, hp, rfl, k⟩ := h
  refine ⟨_, (pss_cons (ps_if (PW.pt (pw_or (pt_not (pt_val (pe_callB isi1 (by rfl) T.no_isinstance (by decide +kernel) (pa_cons (pv 0) (pa_cons (pe_bltn (by rfl) T.no_tuple (by decide +kernel) (show RelV (.ty "tuple") _ from rfl)) pa_nil))))) (pw_or1 (pt_cmpR op_gt (pe_callB len1 (by rfl) T.no_len (by decide +kernel) (pa_cons (pv 0) pa_nil)) pe_int (nomark _))))) (pss_one (ps_ret pe_bl)) pss_nil)
    (pss_cons (ps_if (PW.pt (pw_and (pt_cmpR op_ge (pv 1) pe_int (nomark _)) (pw_and1 (pt_cmpR op_ne (pe_callB len1 (by rfl) T.no_len (by decide +kernel) (pa_cons (pv 0) pa_nil)) (pv 1) (nomark _))))) (pss_one (ps_ret pe_bl)) pss_nil)
    (pss_cons (ps_set (i := 2) sc_law_move_fits.nd rfl (Or.inl rfl) pe_dnewK)
    (pss_cons (ps_for PassesOwn.never rfl (pi_sq (pv 0)) (pg_name (i := 3) sc_law_move_fits.nd rfl (Or.inl rfl)) (pss_cons (ps_if (PW.pt (pw_or (pt_not (pt_val (pe_cl C_law_is_whole hr (by rfl) (pa_cons (pv 3) pa_nil)))) (pw_or (pt_cmpR op_lt (pv 3) pe_int (nomark _)) (pw_or (pt_cmpR op_ge (pv 3) (pe_callB len1 (by rfl) T.no_len (by decide +kernel) (pa_cons (pv 0) pa_nil)) (nomark _)) (pw_or1 (pt_cmp (pc_din (hu_of hr) (pv 3) (pv 2)) rfl)))))) (pss_one (ps_ret pe_bl)) pss_nil)
    (pss_one (ps_asg pe_bl (pg_sub (pv 2) (pv 3) (set_dict (hu_of hr)))))))
    (pss_one (ps_ret pe_bl)))))), ?_⟩
  have ht := ty_t h
  have qa := sq_t h
  have hla : (ns.map V.int).length = ns.length := List.length_map _
  have m : Mv ns := ⟨hp⟩
  have ndn : ns.Nodup := hp.nodup_iff.mpr (rng_nodup _)
  rw [a_seq]
  walk_at "wps"
  rw [if_neg (by omega), if_pos (by omega)]
  simp only [a_dnew]
  intro S H1 n1
  refine fs_by (sq_t (n1.k h)) (fun i σ H' => ∃ (v3 : Option V) (kvs : List (Key × V)), σ = [some (V.ref a), some (V.int ns.length), some (V.ref S), v3] ∧ Same H H' ∧ H' S = some (.dK kvs) ∧ kvs.length ≤ i ∧ ∀ z : Int, (valV kvs (.inl z)).isSome = decide (z ∈ ns.take i))
    ⟨_, [], rfl, n1.same, n1.at_, by simp, fun z => by simp [valV]⟩ (fun i σ' H' p o ho => by
      obtain ⟨_, _, _, s, _⟩ := p
      rw [n1.k h] at ho
      cases ho
      exact s _ _ h) ?_ ?_
  · rintro i x _ H2 N hN hx ⟨v3, kvs, rfl, s2, eS, hkl, hkv⟩
    obtain ⟨z, hz, rfl⟩ := map_at hx
    have hr := mem_rng.mp (hp.mem_iff.mp (List.mem_of_getElem? hz))
    have hil := (List.getElem?_eq_some_iff.mp hz).1
    have hnm : z ∉ ns.take i := fun hm => by
      obtain ⟨j, hj⟩ := List.mem_iff_getElem?.mp hm
      have hji : j < i := by
        have := (List.getElem?_eq_some_iff.mp hj).1
        rw [List.length_take] at this
        omega
      rw [List.getElem?_take_of_lt hji] at hj
      have := (List.getElem?_inj ((List.getElem?_eq_some_iff.mp hj).1) ndn).mp (hj.trans hz.symm)
      omega
    walk_at "wn"
    rw [a_seq]
    walk_at "wn"
    refine ⟨.int z, .int z, 1, [], rfl, .lf (.int z), ?_⟩
    walk_at "wn"
    rw [if_neg (by omega)]
    refine ⟨_, sq_t (s2 _ _ h), ?_⟩
    rw [if_neg (by omega), a_din]
    walk_at "wn"
    refine ⟨valV kvs (.inl z), DGet.k (k := .inl z) eS, ?_⟩
    rw [hkv z, if_neg (by simpa using hnm), b_setD]
    have hput := DPut.k (k := .inl z) (v := .bl true) eS (by rw [sizeLine_eq]; omega)
    refine ⟨S, _, rfl, hput, hN _ _ ⟨_, _, rfl, fun b o hb => ?_, upd_same, ?_, fun y => ?_⟩⟩
    · rw [upd_ne (ne_of_none hb n1.fr)]
      exact s2 b o hb
    · rw [putK_new _ (by
        have := hkv z
        rw [decide_eq_false hnm] at this
        cases e : valV kvs (.inl z) with
        | none => rfl
        | some u => rw [e] at this; cases this)]
      simp
      omega
    · rw [valV_put, List.take_add_one, hz]
      by_cases hy : y = z
      · subst hy
        simp
      · rw [if_neg (fun e => hy (Sum.inl.inj e)), hkv y]
        simp [hy]
  · rintro _ H2 ⟨v3, kvs, rfl, s2, eS, hkl, hkv⟩
    walk_at "wn"
    exact k H2 s2
end

/-! ## N2 -/
local macro_rules | `(tactic| walk_at "wp") => `(tactic| (try simp only [a_var, a_c, a_op, a_un, a_test, a_b, a_and, a_or, a_not, a_andV, a_orV, a_notV, a_if, a_next, a_seq, a_break, a_cont, a_drop, a_ret, a_retN, a_ifS, a_asg, a_name, a_sub, a_nil, a_cons, a_tup, a_lst, a_call, a_cb, a_bm0, a_bm, a_sl, a_nopart, a_part, a_aug, b_rI, b_rI0, b_rU, b_eq, b_ne, b_isTF, b_int, b_intb, b_list, b_tuple, b_ix, b_len, b_setL, b_app, b_pop, b_popAt, b_sl, b_rep, b_cat, b_lstRg, b_tupRg, b_rg1, b_rg2, a_forR, a_forR2, a_forS, b_fsq, a_lcR, a_lcR2, a_lcS, b_csq, wipe_nil, wipe_cons, a_yes, wh_i, wh_s, wh_b, wh_r, wh_n, Bool.not_eq_true, eq_self, not_true_eq_false, not_false_eq_true, b_isi, kb_all, ty_non, ty_bl, ty_int, ty_str, a_m1, b_ixS, b_slS, List.cons.injEq, and_assoc, exists_and_left, cxK, List.getElem?_cons_zero, List.getElem?_cons_succ, List.set_cons_zero, List.set_cons_succ, Option.some.injEq, exists_eq_left', exists_eq_left, V.bl.injEq, V.int.injEq, V.ref.injEq, V.str.injEq, HO.lst.injEq, HO.tup.injEq, decide_eq_true_eq, true_and, and_true, L2.start, List.map_cons, List.map_nil, List.length_cons, List.length_nil, Nat.zero_add, Nat.reduceAdd, Nat.reduceSub, List.replicate_succ, List.replicate_zero, List.cons_append, List.nil_append, if_true, if_false, Bool.false_eq_true, Bool.not_true, Bool.not_false, decide_not, Bool.not_eq_true', decide_eq_false_iff_not, scal_ii, scal_bb, scal_ss, scal_is, scal_si, reduceCtorEq, Bool.true_eq_false, decide_false, decide_true, if_pos, ne_eq, Int.reduceNeg, atI_0, atI_1, atI_2, atI_3, atI_4, atI_5, atI_6, ixN_7, b_ins, a_revL, b_isT, V.ty.injEq, Bool.true_or, Bool.or_true, Bool.false_or, Bool.or_false, Bool.or_self, b_sorted, b_repT, a_err, a_callS, a_xp, a_isP, a_lcE, a_forE, a_isV, a_lcH, a_ch, a_forES, a_lcG]))
local macro_rules | `(tactic| walk_at "wps") => `(tactic| (try simp only [a_var, a_c, a_op, a_un, a_test, a_b, a_and, a_or, a_not, a_andV, a_orV, a_notV, a_if, a_next, a_seq, a_break, a_cont, a_drop, a_ret, a_retN, a_ifS, a_asg, a_name, a_sub, a_nil, a_cons, a_tup, a_lst, a_call, a_cb, a_bm0, a_bm, a_sl, a_nopart, a_part, a_aug, b_rI, b_rI0, b_rU, b_eq, b_ne, b_isTF, b_int, b_intb, b_list, b_tuple, b_ix, b_len, b_setL, b_app, b_pop, b_popAt, b_sl, b_rep, b_cat, b_lstRg, b_tupRg, b_rg1, b_rg2, a_forR, a_forR2, a_forS, b_fsq, a_lcR, a_lcR2, a_lcS, b_csq, wipe_nil, wipe_cons, a_yes, wh_i, wh_s, wh_b, wh_r, wh_n, Bool.not_eq_true, eq_self, not_true_eq_false, not_false_eq_true, b_isi, kb_all, ty_non, ty_bl, ty_int, ty_str, a_m1, b_ixS, b_slS, List.cons.injEq, and_assoc, exists_and_left, cxK, List.getElem?_cons_zero, List.getElem?_cons_succ, List.set_cons_zero, List.set_cons_succ, Option.some.injEq, exists_eq_left', exists_eq_left, V.bl.injEq, V.int.injEq, V.ref.injEq, V.str.injEq, HO.lst.injEq, HO.tup.injEq, decide_eq_true_eq, true_and, and_true, L2.start, List.map_cons, List.map_nil, List.length_cons, List.length_nil, Nat.zero_add, Nat.reduceAdd, Nat.reduceSub, List.replicate_succ, List.replicate_zero, List.cons_append, List.nil_append, if_true, if_false, Bool.false_eq_true, Bool.not_true, Bool.not_false, decide_not, Bool.not_eq_true', decide_eq_false_iff_not, scal_ii, scal_bb, scal_ss, scal_is, scal_si, reduceCtorEq, Bool.true_eq_false, decide_false, decide_true, if_pos, ne_eq, Int.reduceNeg, atI_0, atI_1, atI_2, atI_3, atI_4, atI_5, atI_6, ixN_7, b_ins, a_revL, b_isT, V.ty.injEq, Bool.true_or, Bool.or_true, Bool.false_or, Bool.or_false, Bool.or_self, b_sorted, b_repT, a_err, a_callS, a_xp, a_isP, a_lcE, a_forE, a_isV, a_lcH, a_ch, a_forES, a_lcG, *]))
local macro_rules | `(tactic| walk_at "wq") => `(tactic| (try simp only [a_var, a_c, a_op, a_un, a_test, a_b, a_and, a_or, a_not, a_andV, a_orV, a_notV, a_if, a_next, a_break, a_cont, a_drop, a_ret, a_retN, a_ifS, a_asg, a_name, a_sub, a_nil, a_cons, a_tup, a_lst, a_call, a_cb, a_bm0, a_bm, a_sl, a_nopart, a_part, a_aug, b_rI, b_rI0, b_rU, b_eq, b_ne, b_isTF, b_int, b_intb, b_list, b_tuple, b_ix, b_len, b_setL, b_app, b_pop, b_popAt, b_sl, b_rep, b_cat, b_lstRg, b_tupRg, b_rg1, b_rg2, a_forR, a_forR2, a_forS, b_fsq, a_lcR, a_lcR2, a_lcS, b_csq, wipe_nil, wipe_cons, a_yes, wh_i, wh_s, wh_b, wh_r, wh_n, Bool.not_eq_true, eq_self, not_true_eq_false, not_false_eq_true, b_isi, kb_all, ty_non, ty_bl, ty_int, ty_str, a_m1, b_ixS, b_slS, List.cons.injEq, and_assoc, exists_and_left, cxK, List.getElem?_cons_zero, List.getElem?_cons_succ, List.set_cons_zero, List.set_cons_succ, Option.some.injEq, exists_eq_left', exists_eq_left, V.bl.injEq, V.int.injEq, V.ref.injEq, V.str.injEq, HO.lst.injEq, HO.tup.injEq, decide_eq_true_eq, true_and, and_true, L2.start, List.map_cons, List.map_nil, List.length_cons, List.length_nil, Nat.zero_add, Nat.reduceAdd, Nat.reduceSub, List.replicate_succ, List.replicate_zero, List.cons_append, List.nil_append, if_true, if_false, Bool.false_eq_true, Bool.not_true, Bool.not_false, decide_not, Bool.not_eq_true', decide_eq_false_iff_not, scal_ii, scal_bb, scal_ss, scal_is, scal_si, reduceCtorEq, Bool.true_eq_false, decide_false, decide_true, if_pos, ne_eq, Int.reduceNeg, atI_0, atI_1, atI_2, atI_3, atI_4, atI_5, atI_6, ixN_7, b_ins, a_revL, b_isT, V.ty.injEq, Bool.true_or, Bool.or_true, Bool.false_or, Bool.or_false, Bool.or_self, b_sorted, b_repT, a_err, a_callS, a_xp, a_isP, a_lcE, a_forE, a_isV, a_lcH, a_ch, a_forES, a_lcG, *]))
local macro_rules | `(tactic| walk_at "wn") => `(tactic| (try simp only [a_var, a_c, a_op, a_un, a_test, a_b, a_and, a_or, a_not, a_andV, a_orV, a_notV, a_if, a_next, a_break, a_cont, a_drop, a_ret, a_retN, a_ifS, a_asg, a_name, a_sub, a_nil, a_cons, a_tup, a_lst, a_call, a_cb, a_bm0, a_bm, a_sl, a_nopart, a_part, a_aug, b_rI, b_rI0, b_rU, b_eq, b_ne, b_isTF, b_int, b_intb, b_list, b_tuple, b_ix, b_len, b_setL, b_app, b_pop, b_popAt, b_sl, b_rep, b_cat, b_lstRg, b_tupRg, b_rg1, b_rg2, a_forR, a_forR2, a_forS, b_fsq, a_lcR, a_lcR2, a_lcS, b_csq, wipe_nil, wipe_cons, a_yes, wh_i, wh_s, wh_b, wh_r, wh_n, Bool.not_eq_true, eq_self, not_true_eq_false, not_false_eq_true, b_isi, kb_all, ty_non, ty_bl, ty_int, ty_str, a_m1, b_ixS, b_slS, List.cons.injEq, and_assoc, exists_and_left, cxK, List.getElem?_cons_zero, List.getElem?_cons_succ, List.set_cons_zero, List.set_cons_succ, Option.some.injEq, exists_eq_left', exists_eq_left, V.bl.injEq, V.int.injEq, V.ref.injEq, V.str.injEq, HO.lst.injEq, HO.tup.injEq, decide_eq_true_eq, true_and, and_true, L2.start, List.map_cons, List.map_nil, List.length_cons, List.length_nil, Nat.zero_add, Nat.reduceAdd, Nat.reduceSub, List.replicate_succ, List.replicate_zero, List.cons_append, List.nil_append, if_true, if_false, Bool.false_eq_true, Bool.not_true, Bool.not_false, decide_not, Bool.not_eq_true', decide_eq_false_iff_not, scal_ii, scal_bb, scal_ss, scal_is, scal_si, reduceCtorEq, Bool.true_eq_false, decide_false, decide_true, if_pos, ne_eq, Int.reduceNeg, atI_0, atI_1, atI_2, atI_3, atI_4, atI_5, atI_6, ixN_7, b_ins, a_revL, b_isT, V.ty.injEq, Bool.true_or, Bool.or_true, Bool.false_or, Bool.or_false, Bool.or_self, b_sorted, b_repT, a_err, a_callS, a_xp, a_isP, a_lcE, a_forE, a_isV, a_lcH, a_ch, a_forES, a_lcG]))
local macro_rules | `(tactic| walk_at "sq") => `(tactic| ((try dsimp only); rw [a_seq]; walk_at "wq"))
local macro_rules | `(tactic| walk_at "sn") => `(tactic| ((try dsimp only); rw [a_seq]; walk_at "wn"))

/-- what is due of two values that shall be composed -/
noncomputable def cmpFlt (d1 d2 : PyData) : Option Flt := if isMoveD d1 = false then some (.mv 0) else if isMoveD d2 = false then some (.mv 1) else if dLen d1 ≠ dLen d2 then some (.sz (dLen d1) (dLen d2)) else none
theorem cmpFlt_none {d1 d2 : PyData} (h : cmpFlt d1 d2 = none) : isMoveD d1 = true ∧ isMoveD d2 = true ∧ dLen d1 = dLen d2 := by
  unfold cmpFlt at h
  by_cases c1 : isMoveD d1 = false
  · rw [if_pos c1] at h; cases h
  · rw [if_neg c1] at h
    by_cases c2 : isMoveD d2 = false
    · rw [if_pos c2] at h; cases h
    · rw [if_neg c2] at h
      by_cases c3 : dLen d1 = dLen d2
      · exact ⟨by simpa using c1, by simpa using c2, c3⟩
      · rw [if_pos c3] at h; cases h
theorem dLen_ints (ns : List Int) : dLen (.tuple (ns.map .int)) = ns.length := List.length_map _
/-- a move, held at v -/
structure MvA (H : Hp) (v : V) (a : Addr) (ns : List Int) : Prop where
  e : v = .ref a
  at_ : H a = some (.tup (ns.map V.int))
  le : ns.length ≤ 12
  p : ns.Perm (rng ns.length)
theorem MvA.same {H H' : Hp} {v : V} {a : Addr} {ns : List Int} (m : MvA H v a ns) (s : Same H H') : MvA H' v a ns := ⟨m.e, s _ _ m.at_, m.le, m.p⟩
theorem MvA.of {E : List Addr} {H : Hp} {v : V} {d : PyData} {n : Nat} (hd : isMoveD d = true) (hv : Dw E H v d n) : ∃ a ns, MvA H v a ns ∧ d = .tuple (ns.map .int) := by
  obtain ⟨a, ns, e1, e2, e3, e4, e5, _⟩ := move_at hd hv
  exact ⟨a, ns, ⟨e1, e2, e4, e5⟩, e3⟩
theorem MvA.d {H : Hp} {v : V} {a : Addr} {ns : List Int} (m : MvA H v a ns) : isMoveD (.tuple (ns.map .int)) = true := isMove_t ⟨ns, rfl, m.le, m.p⟩
theorem MvA.dw {H : Hp} {v : V} {a : Addr} {ns : List Int} (m : MvA H v a ns) : Dw [] H v (.tuple (ns.map .int)) (ns.length + 1) := by
  rw [m.e]
  exact dwT m.at_
theorem MvA.m {H : Hp} {v : V} {a : Addr} {ns : List Int} (m : MvA H v a ns) : Mv ns := ⟨m.p⟩
theorem MvA.rg {H : Hp} {v : V} {a : Addr} {ns : List Int} (m : MvA H v a ns) : ∀ z ∈ ns, 0 ≤ z ∧ z < ns.length := fun z hz => mem_rng.mp (m.p.mem_iff.mp hz)
section
variable {P : Program} {w : World} {K : PySem.W.Frag} {mg : Str → Option Value} {base : Heap}
def sp_ctwo (K : PySem.W.Frag) : Sp := fun vs H Q Er => ∃ (v1 v2 : V) (E1 E2 : List Addr) (d1 d2 : PyData) (n1 n2 : Nat), vs = [v1, v2] ∧ Dw E1 H v1 d1 n1 ∧ Dw E2 H v2 d2 n2 ∧ Ans K (cmpFlt d1 d2) H Er (∀ H', Same H H' → Q .non H')
abbrev stcheck_two_moves : Stmt := topS 40
theorem sccheck_two_moves : FnScope ["first", "second"] ["first", "second"] (defScope stcheck_two_moves) := ⟨rfl, rfl, rfl, by decide +kernel, rfl, by decide +kernel, by decide +kernel⟩
theorem okcheck_two_moves (D : Df K mg "check_two_moves" stcheck_two_moves) (T : NoB mg) (Ccheck_move : ClX P w K mg base 4 "check_move" ["value", "index"] (sp_chk K)) (Er_UnlikeSizes : ErT_UnlikeSizes P w K mg base): ClX P w K mg base 5 "check_two_moves" ["first", "second"] (sp_ctwo K) := by
  refine clX_of D sccheck_two_moves (fun _ _ _ _ _ _ us hl => match us, hl with | [_, _], _ => rfl) (fun vs H Q E h => ?_) (fun f cdv A outer sh H vs Q E hr tk h => ?_)
  · obtain ⟨_, _, _, _, _, _, _, _, rfl, _⟩ := h; rfl
  obtain ⟨v1, v2, E1, E2, d1, d2, n1, n2, rfl, hv1, hv2, k⟩ := h
  refine ⟨_, (pss_cons (ps_expr (pe_clX Ccheck_move tk hr (by rfl) (pa_cons (pv 0) (pa_cons pe_int pa_nil))))
    (pss_cons (ps_expr (pe_clX Ccheck_move tk hr (by rfl) (pa_cons (pv 1) (pa_cons pe_int pa_nil))))
    (pss_one (ps_if (pt_cmpR op_ne (pe_callB len1 (by rfl) T.no_len (by decide +kernel) (pa_cons (pv 0) pa_nil)) (pe_callB len1 (by rfl) T.no_len (by decide +kernel) (pa_cons (pv 1) pa_nil)) (nomark _)) (pss_one (L2N.ps_raise rfl tk (pmk_err Er_UnlikeSizes hr (by rfl) (pa_cons (pe_callB len1 (by rfl) T.no_len (by decide +kernel) (pa_cons (pv 0) pa_nil)) (pa_cons (pe_callB len1 (by rfl) T.no_len (by decide +kernel) (pa_cons (pv 1) pa_nil)) pa_nil))))) pss_nil)))), ?_⟩
  unfold cmpFlt at k
  walk_at "sn"
  refine ⟨v1, 0, E1, d1, n1, rfl, by decide, hv1, fun hd1 H1 s1 => ?_, fun hd1 => by (rw [if_pos hd1] at k; exact k)⟩
  rw [if_neg (by rw [hd1]; decide)] at k
  walk_at "sn"
  refine ⟨v2, 1, E2, d2, n2, rfl, by decide, hv2.same s1, fun hd2 H2 s2 => ?_, fun hd2 => by (rw [if_pos hd2] at k; exact Raises.same k s1)⟩
  rw [if_neg (by rw [hd2]; decide)] at k
  obtain ⟨a, as, ma, ea⟩ := MvA.of hd1 hv1
  obtain ⟨b, bs, mb, eb⟩ := MvA.of hd2 hv2
  have s12 := s1.trans s2
  have ma2 := ma.same s12
  have mb2 := mb.same s12
  obtain rfl := ma.e
  obtain rfl := mb.e
  subst ea eb
  rw [dLen_ints, dLen_ints] at k
  have hla : (as.map V.int).length = as.length := List.length_map _
  have hlb : (bs.map V.int).length = bs.length := List.length_map _
  have la := ma.le
  have lb := mb.le
  walk_at "wn"
  refine ⟨_, sq_t ma2.at_, _, sq_t mb2.at_, ?_⟩
  rw [hla, hlb]
  by_cases c : as.length = bs.length
  · rw [if_neg (by simpa using c)] at k
    rw [if_neg (by omega)]
    exact k H2 s12
  · rw [if_pos c] at k
    rw [if_pos (by omega)]
    walk_at "wn"
    refine ⟨_, sq_t ma2.at_, _, sq_t mb2.at_, ?_⟩
    rw [hla, hlb]
    have sm : ∀ n : Nat, n ≤ 12 → (n : Int).natAbs.log2 < 1920 := fun n hn => log_sm (Nat.lt_of_le_of_lt (show (n : Int).natAbs ≤ 12 by omega) (by decide))
    exact ⟨⟨.inl ⟨_, rfl, sm _ la⟩, .inl ⟨_, rfl, sm _ lb⟩, trivial⟩, fun d2 H3 n3 => k d2 H2 H3 s12 n3⟩
def sp_comp (K : PySem.W.Frag) : Sp := fun vs H Q Er => ∃ (v1 v2 : V) (E1 E2 : List Addr) (d1 d2 : PyData) (n1 n2 : Nat), vs = [v1, v2] ∧ Dw E1 H v1 d1 n1 ∧ Dw E2 H v2 d2 n2 ∧
  Ans K (cmpFlt d1 d2) H Er (∀ (a b : Addr) (as bs : List Int), MvA H v1 a as → MvA H v2 b bs → as.length = bs.length → ∀ p H1 H2, Same H H1 → New H1 p (.tup ((as.map (im bs)).map V.int)) H2 → Q (.ref p) H2)
abbrev stcompose : Stmt := topS 42
theorem sccompose : FnScope ["first", "second"] ["first", "second"] (defScope stcompose) := ⟨rfl, rfl, rfl, by decide +kernel, rfl, by decide +kernel, by decide +kernel⟩
theorem okcompose (D : Df K mg "compose" stcompose) (T : NoB mg) (Ccheck_two_moves : ClX P w K mg base 5 "check_two_moves" ["first", "second"] (sp_ctwo K)) (Cjoined : Cl P w K mg base 1 "joined" ["first", "second"] sp_joined) : ClX P w K mg base 6 "compose" ["first", "second"] (sp_comp K) := by
  refine clX_of D sccompose (fun _ _ _ _ _ _ us hl => match us, hl with | [_, _], _ => rfl) (fun vs H Q E h => ?_) (fun f cdv A outer sh H vs Q E hr tk h => ?_)
  · obtain ⟨_, _, _, _, _, _, _, _, rfl, _⟩ := h; rfl
  obtain ⟨v1, v2, E1, E2, d1, d2, n1, n2, rfl, hv1, hv2, k⟩ := h
  refine ⟨_, (pss_cons (ps_expr (pe_clX Ccheck_two_moves tk hr (by rfl) (pa_cons (pv 0) (pa_cons (pv 1) pa_nil))))
    (PSs.nox (pss_one (ps_ret (pe_cl Cjoined hr (by rfl) (pa_cons (pv 0) (pa_cons (pv 1) pa_nil))))))), ?_⟩
  walk_at "sn"
  refine ⟨v1, v2, E1, E2, d1, d2, n1, n2, rfl, hv1, hv2, ?_⟩
  unfold Ans at k ⊢
  cases hf : cmpFlt d1 d2 with
  | some f =>
    rw [hf] at k
    exact k
  | none =>
    rw [hf] at k
    intro H1 s1
    obtain ⟨c1, c2, c3⟩ := cmpFlt_none hf
    obtain ⟨a, as, ma, ea⟩ := MvA.of c1 hv1
    obtain ⟨b, bs, mb, eb⟩ := MvA.of c2 hv2
    rw [ea, eb, dLen_ints, dLen_ints] at c3
    have k2 := k a b as bs ma mb c3
    have ma1 := ma.same s1
    have mb1 := mb.same s1
    obtain rfl := ma.e
    obtain rfl := mb.e
    walk_at "wn"
    refine ⟨a, b, as, bs, rfl, ma1.at_, mb1.at_, by rw [← c3]; exact ma.rg, ma.le, fun p H2 H3 s2 n3 => k2 p H2 H3 (s1.trans s2) n3⟩
def sp_opp (K : PySem.W.Frag) : Sp := fun vs H Q Er => ∃ (v : V) (E : List Addr) (d : PyData) (n : Nat), vs = [v] ∧ Dw E H v d n ∧ (isMoveD d = false → Raises K (.mv 0) H Er) ∧
  ∀ (a : Addr) (ns : List Int), MvA H v a ns → d = .tuple (ns.map .int) → ∀ (p : Addr) (iv : List Int) H1 H2, Same H H1 → New H1 p (.tup (iv.map V.int)) H2 → iv.Perm (rng ns.length) → (∀ z, InR ns z → im iv (im ns z) = z) → Q (.ref p) H2
abbrev stopposite : Stmt := topS 43
theorem scopposite : FnScope ["move", "starts", "point", "image"] ["move"] (defScope stopposite) := ⟨rfl, rfl, rfl, by decide +kernel, rfl, by decide +kernel, by decide +kernel⟩
theorem okopposite (D : Df K mg "opposite" stopposite) (T : NoB mg) (Ccheck_move : ClX P w K mg base 4 "check_move" ["value", "index"] (sp_chk K)) : ClX P w K mg base 5 "opposite" ["move"] (sp_opp K) := by
  refine clX_of D scopposite (fun _ _ _ _ _ _ us hl => match us, hl with | [_], _ => rfl) (fun vs H Q E h => ?_) (fun f cdv A outer sh H vs Q E hr tk h => ?_)
  · obtain ⟨_, _, _, _, rfl, _⟩ := h; rfl
  obtain ⟨v, E', d, n, rfl, hv, kb, kg⟩ := h
  refine ⟨_, (pss_cons (ps_expr (pe_clX Ccheck_move tk hr (by rfl) (pa_cons (pv 0) (pa_cons pe_int pa_nil))))
    (PSs.nox (pss_cons (ps_set (i := 1) scopposite.nd rfl (Or.inl rfl) (pe_op op_rep (pe_lst (pa_cons pe_int pa_nil)) (pe_callB len1 (by rfl) T.no_len (by decide +kernel) (pa_cons (pv 0) pa_nil))))
    (pss_cons (ps_for PassesOwn.never rfl (pi_enumT (by rfl) T.no_enumerate (pa_cons (pv 0) pa_nil)) (pg_tup rfl (pgs_cons (pg_name (i := 2) scopposite.nd rfl (Or.inl rfl)) (pgs_cons (pg_name (i := 3) scopposite.nd rfl (Or.inl rfl)) pgs_nil))) (pss_one (ps_asg (pv 2) (pg_sub (pv 1) (pv 3) set_list))))
    (pss_one (ps_ret (pe_callTy tup1 (by rfl) T.no_tuple (by decide +kernel) (pa_cons (pv 1) pa_nil)))))))), ?_⟩
  walk_at "sn"
  refine ⟨v, 0, E', d, n, rfl, by decide, hv, fun hd1 H1 s1 => ?_, fun hd1 => kb hd1⟩
  obtain ⟨a, ns, ma, ea⟩ := MvA.of hd1 hv
  have k := kg a ns ma ea
  have ha := (ma.same s1).at_
  have hl := ma.le
  have hp := ma.p
  have m := ma.m
  obtain rfl := ma.e
  have hla : (ns.map V.int).length = ns.length := List.length_map _
  walk_at "sn"
  refine ⟨szl (by decide), fun z1 H2 n2 => ⟨_, sq_t (n2.k ha), _, n2.at_, by omega, by omega, by rw [hla, sizeLine_eq]; simp; omega, fun R H3 n3 => ?_⟩⟩
  have s13 := n2.same.trans n3.same
  have hR : H1 R = none := n2.same.free n3.fr
  have e3 := n3.at_
  rw [hla, show ((ns.length : Int)).toNat = ns.length by omega, repI] at e3
  walk_at "sn"
  have hzl : (ns.zip (rng ns.length)).length = ns.length := by rw [List.length_zip, rng_len, Nat.min_self]
  refine ⟨_, s13 _ _ ha, ?_⟩
  refine fe_by (i1 := 2) (i2 := 3) (fun i σ H' => Same H1 H' ∧ (∃ v2 v3, σ = [some (.ref a), some (.ref R), v2, v3]) ∧ H' R = some (.lst ((asg (List.replicate ns.length 0) ((ns.zip (rng ns.length)).take i)).map V.int))) ⟨s13, ⟨_, _, rfl⟩, e3⟩ (fun i σ' H' f => f.1 _ _ ha) ?_ ?_
  · rintro i x _ H4 N T H5 hN hx ⟨s4, ⟨v2, v3, rfl⟩, eR⟩ n5
    have hi' : i < ns.length := by have := (List.getElem?_eq_some_iff.mp hx).1; omega
    have ei := m.at (p := (i : Int)) ⟨by omega, by omega⟩
    rw [Int.toNat_natCast] at ei
    rw [List.getElem?_map, ei.1] at hx
    obtain rfl := Option.some.inj hx
    have eR5 := n5.k eR
    walk_at "wn"
    refine ⟨_, eR5, (im ns i).toNat, ixN_of ei.2.1 (by rw [List.length_map, asg_len, List.length_replicate]; exact ei.2.2), fun H6 p6 => hN _ _ ⟨p6.same (s4.trans n5.same) hR, ⟨_, _, rfl⟩, ?_⟩⟩
    have ep : (ns.zip (rng ns.length)).take (i + 1) = (ns.zip (rng ns.length)).take i ++ [(im ns i, (i : Int))] := by
      rw [List.take_add_one]
      congr 1
      rw [show (ns.zip (rng ns.length))[i]? = some (im ns i, (i : Int)) from List.getElem?_zip_eq_some.mpr ⟨ei.1, rng_get hi'⟩]
      rfl
    rw [p6.at_, ep, asg_snoc, List.map_set]
  · rintro _ H4 ⟨s4, ⟨v2, v3, rfl⟩, eR⟩
    have et : (ns.zip (rng ns.length)).take (ns.map V.int).length = ns.zip (rng ns.length) := List.take_of_length_le (by rw [hzl, hla]; omega)
    rw [et] at eR
    have nd : ((ns.zip (rng ns.length)).map fun q => q.1.toNat).Nodup := by
      have e : ((ns.zip (rng ns.length)).map fun q => q.1.toNat) = ((ns.zip (rng ns.length)).map Prod.fst).map Int.toNat := by rw [List.map_map]; rfl
      rw [e, List.map_fst_zip (by rw [rng_len]; exact Nat.le_refl _)]
      exact toNat_nd (hp.nodup_iff.mpr (rng_nodup _)) fun z hz => (mem_rng.mp (hp.mem_iff.mp hz)).1
    have back : ∀ z, InR ns z → (asg (List.replicate ns.length 0) (ns.zip (rng ns.length)))[(im ns z).toNat]? = some z := fun z hz => by
      have ez := m.at hz
      have hzn : z.toNat < ns.length := by have := hz.1; have := hz.2; omega
      refine asg_eq nd (List.mem_of_getElem? (i := z.toNat) (List.getElem?_zip_eq_some.mpr ⟨ez.1, ?_⟩)) (by rw [List.length_replicate]; omega)
      rw [rng_get hzn, Int.toNat_of_nonneg hz.1]
    walk_at "wn"
    refine ⟨_, eR, fun q H5 n5 => k q _ H4 H5 (s1.trans s4) n5 ?_ fun z hz => ?_⟩
    · refine sub_perm (rng_nodup _) (fun z hz => List.mem_of_getElem? (back z (mem_rng.mp hz))) (by rw [asg_len, List.length_replicate, rng_len]; exact Nat.le_refl _)
    · show ((asg _ _)[(im ns z).toNat]?).getD 0 = z
      rw [back z hz]
      rfl
end

/-! ## N3 -/

/-! moves composed and undone -/
theorem lst_im (ns : List Int) : (rng ns.length).map (im ns) = ns := by
  refine List.ext_getElem? fun k => ?_
  by_cases hk : k < ns.length
  · rw [List.getElem?_map, rng_get hk]
    show some ((ns[((k : Int)).toNat]?).getD 0) = ns[k]?
    rw [Int.toNat_natCast, List.getElem?_eq_getElem hk]
    rfl
  · rw [List.getElem?_eq_none (by rw [List.length_map, rng_len]; omega), List.getElem?_eq_none (by omega)]
theorem map_im {ns : List Int} {f g : Int → Int} (h : ∀ z, InR ns z → f (im ns z) = g z) : ns.map f = (rng ns.length).map g := by
  have e : ns.map f = ((rng ns.length).map (im ns)).map f := by rw [lst_im]
  rw [e, List.map_map]
  exact List.map_congr_left fun z hz => h z (mem_rng.mp hz)
theorem Mv.surj {ns : List Int} (m : Mv ns) {z : Int} (h : InR ns z) : ∃ y, InR ns y ∧ im ns y = z := by
  have hz : z ∈ ns := m.perm.mem_iff.mpr (mem_rng.mpr h)
  obtain ⟨i, hi⟩ := List.mem_iff_getElem?.mp hz
  have hl := (List.getElem?_eq_some_iff.mp hi).1
  refine ⟨i, ⟨by omega, by omega⟩, ?_⟩
  show (ns[((i : Int)).toNat]?).getD 0 = z
  rw [Int.toNat_natCast, hi]
  rfl
/-- iv undoes ns -/
structure Und (ns iv : List Int) : Prop where
  p : iv.Perm (rng ns.length)
  u : ∀ z, InR ns z → im iv (im ns z) = z
theorem Und.len {ns iv : List Int} (h : Und ns iv) : iv.length = ns.length := by rw [h.p.length_eq, rng_len]
theorem Und.m {ns iv : List Int} (h : Und ns iv) : Mv iv := ⟨by rw [h.len]; exact h.p⟩
theorem Und.r {ns iv : List Int} (h : Und ns iv) (m : Mv ns) : ∀ z, InR ns z → im ns (im iv z) = z := fun z hz => by
  obtain ⟨y, hy, rfl⟩ := m.surj hz
  rw [h.u y hy]
theorem Und.left {ns iv : List Int} (h : Und ns iv) : ns.map (im iv) = rng ns.length := by
  rw [map_im (g := id) h.u, List.map_id]
theorem Und.right {ns iv : List Int} (h : Und ns iv) (m : Mv ns) : iv.map (im ns) = rng ns.length := by
  have := map_im (ns := iv) (f := im ns) (g := id) fun z hz => h.r m z (by
    have := hz.1
    have := hz.2
    rw [h.len] at this
    exact ⟨by assumption, this⟩)
  rw [this, List.map_id, h.len]
theorem Und.uniq {ns a b : List Int} (x : Und ns a) (y : Und ns b) (m : Mv ns) : a = b := by
  have e : ∀ z, InR ns z → im a z = im b z := fun z hz => by
    obtain ⟨w, hw, rfl⟩ := m.surj hz
    rw [x.u w hw, y.u w hw]
  rw [← lst_im a, ← lst_im b, x.len, y.len]
  exact List.map_congr_left fun z hz => e z (mem_rng.mp hz)
theorem im_map {ns : List Int} {f : Int → Int} {z : Int} (hz : InR ns z) : im (ns.map f) z = f (im ns z) := by
  have hl : z.toNat < ns.length := by have := hz.1; have := hz.2; omega
  show ((ns.map f)[z.toNat]?).getD 0 = f ((ns[z.toNat]?).getD 0)
  rw [List.getElem?_map, List.getElem?_eq_getElem hl]
  rfl
/-- first as, then bs -/
def cmp (as bs : List Int) : List Int := as.map (im bs)
theorem cmp_len {as bs : List Int} : (cmp as bs).length = as.length := List.length_map _
theorem cmp_perm {as bs : List Int} (ma : Mv as) (mb : Mv bs) (e : as.length = bs.length) : (cmp as bs).Perm (rng as.length) := by
  have h := ma.perm.map (im bs)
  rw [e, lst_im] at h
  rw [e]
  exact h.trans mb.perm
theorem cmp_m {as bs : List Int} (ma : Mv as) (mb : Mv bs) (e : as.length = bs.length) : Mv (cmp as bs) := ⟨by rw [cmp_len]; exact cmp_perm ma mb e⟩
theorem cmp_assoc {as bs cs : List Int} (ma : Mv as) (e : as.length = bs.length) : cmp (cmp as bs) cs = cmp as (cmp bs cs) := by
  unfold cmp
  rw [List.map_map]
  refine List.map_congr_left fun z hz => ?_
  have := mem_rng.mp (ma.perm.mem_iff.mp hz)
  exact (im_map (ns := bs) ⟨this.1, by rw [← e]; exact this.2⟩).symm
theorem cmp_und {as bs ia ib : List Int} (ma : Mv as) (mb : Mv bs) (e : as.length = bs.length) (xa : Und as ia) (xb : Und bs ib) : Und (cmp as bs) (cmp ib ia) := by
  refine ⟨?_, fun z hz => ?_⟩
  · rw [cmp_len]
    have := cmp_perm xb.m xa.m (by rw [xa.len, xb.len, e])
    rw [xb.len, ← e] at this
    exact this
  · have hz' : InR as z := by
      have := hz.1
      have h2 := hz.2
      rw [cmp_len] at h2
      exact ⟨this, h2⟩
    have w := (ma.at hz').2
    have hw : InR bs (im as z) := ⟨w.1, by rw [← e]; exact w.2⟩
    have w2 := (mb.at hw).2
    rw [show im (cmp as bs) z = im bs (im as z) from im_map hz']
    rw [show im (cmp ib ia) (im bs (im as z)) = im ia (im ib (im bs (im as z))) from im_map ⟨w2.1, by rw [xb.len]; exact w2.2⟩]
    rw [xb.u _ hw, xa.u _ hz']
theorem MvA.uniq {H : Hp} {v : V} {a b : Addr} {as bs : List Int} (x : MvA H v a as) (y : MvA H v b bs) : a = b ∧ as = bs := by
  have e := x.e.symm.trans y.e
  cases e
  have h := x.at_.symm.trans y.at_
  simp only [Option.some.injEq, HO.tup.injEq] at h
  exact ⟨rfl, map_int_inj h⟩
theorem cmpFlt_ok {as bs : List Int} (a : isMoveD (.tuple (as.map .int)) = true) (b : isMoveD (.tuple (bs.map .int)) = true) (e : as.length = bs.length) : cmpFlt (.tuple (as.map .int)) (.tuple (bs.map .int)) = none := by
  unfold cmpFlt
  rw [if_neg (by rw [a]; decide), if_neg (by rw [b]; decide), dLen_ints, dLen_ints, if_neg (by simpa using e)]
theorem comp_ok {K : PySem.W.Frag} {H : Hp} {Q : VK} {Er : XK} {v1 v2 : V} {a b : Addr} {as bs : List Int} (ma : MvA H v1 a as) (mb : MvA H v2 b bs) (e : as.length = bs.length)
    (k : ∀ p H1 H2, Same H H1 → New H1 p (.tup ((cmp as bs).map V.int)) H2 → Q (.ref p) H2) : sp_comp K [v1, v2] H Q Er := by
  refine ⟨v1, v2, [], [], _, _, _, _, rfl, ma.dw, mb.dw, ?_⟩
  rw [cmpFlt_ok ma.d mb.d e]
  intro a' b' as' bs' ma' mb' _ p H1 H2 s1 n2
  obtain ⟨rfl, rfl⟩ := ma.uniq ma'
  obtain ⟨rfl, rfl⟩ := mb.uniq mb'
  exact k p H1 H2 s1 n2
theorem opp_ok {K : PySem.W.Frag} {H : Hp} {Q : VK} {Er : XK} {v : V} {a : Addr} {ns : List Int} (ma : MvA H v a ns)
    (k : ∀ p iv H1 H2, Same H H1 → New H1 p (.tup (iv.map V.int)) H2 → Und ns iv → Q (.ref p) H2) : sp_opp K [v] H Q Er := by
  refine ⟨v, [], _, _, rfl, ma.dw, fun h => by (rw [ma.d] at h; cases h), fun a' ns' ma' _ p iv H1 H2 s1 n2 hp hu => ?_⟩
  obtain ⟨rfl, rfl⟩ := ma.uniq ma'
  exact k p iv H1 H2 s1 n2 ⟨hp, hu⟩
theorem mva_new {H H' : Hp} {p : Addr} {ns : List Int} (n : New H p (.tup (ns.map V.int)) H') (hl : ns.length ≤ 12) (hp : ns.Perm (rng ns.length)) : MvA H' (.ref p) p ns := ⟨rfl, n.at_, hl, hp⟩
section
variable {P : Program} {w : World} {K : PySem.W.Frag} {mg : Str → Option Value} {base : Heap}
def DueO (o : Option Flt) (H : Hp) (Q : VK) : Prop := match o with
  | none => ∀ H', Same H H' → Q .non H'
  | some f => ∀ du H', Same H H' → DueAt H' du f → Q (.ref du) H'
def sp_fault2 : Sp := fun vs H Q _ => ∃ (v1 v2 : V) (E1 E2 : List Addr) (d1 d2 : PyData) (n1 n2 : Nat), vs = [v1, v2] ∧ Dw E1 H v1 d1 n1 ∧ Dw E2 H v2 d2 n2 ∧ DueO (cmpFlt d1 d2) H Q
theorem due_mvi {H : Hp} {du : Addr} {i : Int} (e : H du = some (.tup [.str "NotAMove", .int i])) : DueAt H du (.mv i) := by
  have l8 : ("NotAMove" : Str).length = 8 := by decide +kernel
  exact ⟨by show ("NotAMove" : Str) ∈ errL; decide +kernel, e, _, _, .cons (.lf (.str "NotAMove")) (.cons (.lf (.int i)) .nil), by omega⟩
theorem due_sz {H : Hp} {du : Addr} {i j : Int} (e : H du = some (.tup [.str "UnlikeSizes", .int i, .int j])) : DueAt H du (.sz i j) := by
  have l8 : ("UnlikeSizes" : Str).length = 11 := by decide +kernel
  exact ⟨by show ("UnlikeSizes" : Str) ∈ errL; decide +kernel, e, _, _, .cons (.lf (.str "UnlikeSizes")) (.cons (.lf (.int i)) (.cons (.lf (.int j)) .nil)), by omega⟩
abbrev st_law_fault : Stmt := topS 67
theorem sc_law_fault : FnScope ["one", "two"] ["one", "two"] (defScope st_law_fault) := ⟨rfl, rfl, rfl, by decide +kernel, rfl, by decide +kernel, by decide +kernel⟩
theorem ok_law_fault (D : Df K mg "_law_fault" st_law_fault) (T : NoB mg) (C_law_move_fits : Cl P w K mg base 2 "_law_move_fits" ["value", "points"] sp_fits) : Cl P w K mg base 3 "_law_fault" ["one", "two"] sp_fault2 := by
  refine cl_of D sc_law_fault (fun _ _ _ _ _ _ us hl => match us, hl with | [_, _], _ => rfl) (fun vs H Q E h => ?_) (fun f cdv A outer sh H vs Q E hr h => ?_)
  · obtain ⟨_, _, _, _, _, _, _, _, rfl, _⟩ := h; rfl
  obtain ⟨v1, v2, E1, E2, d1, d2, n1, n2, rfl, hv1, hv2, k⟩ := h
  refine ⟨_, (pss_cons (ps_if (pt_not (pt_val (pe_cl C_law_move_fits hr (by rfl) (pa_cons (pv 0) (pa_cons (pe_un un_neg pe_int) pa_nil))))) (pss_one (ps_ret (pe_tup (pa_cons pe_str (pa_cons pe_int pa_nil))))) pss_nil)
    (pss_cons (ps_if (pt_not (pt_val (pe_cl C_law_move_fits hr (by rfl) (pa_cons (pv 1) (pa_cons (pe_un un_neg pe_int) pa_nil))))) (pss_one (ps_ret (pe_tup (pa_cons pe_str (pa_cons pe_int pa_nil))))) pss_nil)
    (pss_cons (ps_if (pt_cmpR op_ne (pe_callB len1 (by rfl) T.no_len (by decide +kernel) (pa_cons (pv 0) pa_nil)) (pe_callB len1 (by rfl) T.no_len (by decide +kernel) (pa_cons (pv 1) pa_nil)) (nomark _)) (pss_one (ps_ret (pe_tup (pa_cons pe_str (pa_cons (pe_callB len1 (by rfl) T.no_len (by decide +kernel) (pa_cons (pv 0) pa_nil)) (pa_cons (pe_callB len1 (by rfl) T.no_len (by decide +kernel) (pa_cons (pv 1) pa_nil)) pa_nil)))))) pss_nil)
    (pss_one (ps_ret pe_non))))), ?_⟩
  unfold cmpFlt at k
  walk_at "sn"
  refine ⟨v1, E1, d1, n1, rfl, hv1, fun H1 s1 => ?_⟩
  cases hd1 : isMoveD d1 with
  | false =>
    rw [if_pos hd1] at k
    walk_at "wn"
    exact ⟨szl (by decide), fun du H2 m2 => k du H2 (s1.trans m2.same) (due_mvi m2.at_)⟩
  | true =>
  rw [if_neg (by rw [hd1]; decide)] at k
  walk_at "wn"
  rw [a_seq]
  walk_at "wn"
  refine ⟨v2, E2, d2, n2, rfl, hv2.same s1, fun H2 s2 => ?_⟩
  have s12 := s1.trans s2
  cases hd2 : isMoveD d2 with
  | false =>
    rw [if_pos hd2] at k
    walk_at "wn"
    exact ⟨szl (by decide), fun du H3 m3 => k du H3 (s12.trans m3.same) (due_mvi m3.at_)⟩
  | true =>
  rw [if_neg (by rw [hd2]; decide)] at k
  obtain ⟨a, as, ma, ea⟩ := MvA.of hd1 hv1
  obtain ⟨b, bs, mb, eb⟩ := MvA.of hd2 hv2
  have ma2 := ma.same s12
  have mb2 := mb.same s12
  obtain rfl := ma.e
  obtain rfl := mb.e
  subst ea eb
  rw [dLen_ints, dLen_ints] at k
  have hla : (as.map V.int).length = as.length := List.length_map _
  have hlb : (bs.map V.int).length = bs.length := List.length_map _
  walk_at "wn"
  rw [a_seq]
  walk_at "wn"
  refine ⟨_, sq_t ma2.at_, _, sq_t mb2.at_, ?_⟩
  rw [hla, hlb]
  by_cases c : as.length = bs.length
  · rw [if_neg (by simpa using c)] at k
    rw [if_neg (by omega)]
    walk_at "wn"
    exact k H2 s12
  · rw [if_pos c] at k
    rw [if_pos (by omega)]
    walk_at "wn"
    refine ⟨_, sq_t ma2.at_, _, sq_t mb2.at_, szl (by decide), fun du H3 m3 => ?_⟩
    rw [hla, hlb] at m3
    exact k du H3 (s12.trans m3.same) (due_sz m3.at_)
def sp_arg : Sp := fun vs H Q _ => ∃ (s l m : Addr) (E : List Addr) (ns : List Int), vs = [.ref s, .ref m] ∧ Sto s l H ∧ Lv E H ∧ s ∈ E ∧ m ∉ E ∧ H m = some (.tup (ns.map V.int)) ∧ ns.Perm (rng ns.length) ∧ ns.length ≤ 12 ∧ ∀ v H', Ge s l H H' → Db E H' 150 v → Q v H'
abbrev st_law_argument : Stmt := topS 66
theorem sc_law_argument : FnScope ["store", "move", "pick"] ["store", "move"] (defScope st_law_argument) := ⟨rfl, rfl, rfl, by decide +kernel, rfl, by decide +kernel, by decide +kernel⟩
theorem ok_law_argument (D : Df K mg "_law_argument" st_law_argument) (T : NoB mg) (C_law_bad_move : Cl P w K mg base 6 "_law_bad_move" ["store", "move"] sp_bad_move) (C_law_move : Cl P w K mg base 4 "_law_move" ["store", "points"] sp_move) (C_law_place : Cl P w K mg base 3 "_law_place" ["store", "size"] sp_place) (C_law_take : Cl P w K mg base 2 "_law_take" ["store", "many"] sp_take) (C_law_value : Cl P w K mg base 6 "_law_value" ["store", "deep"] sp_value) : Cl P w K mg base 7 "_law_argument" ["store", "move"] sp_arg := by
  refine cl_of D sc_law_argument (fun _ _ _ _ _ _ us hl => match us, hl with | [_, _], _ => rfl) (fun vs H Q E h => ?_) (fun f cdv A outer sh H vs Q E hr h => ?_)
  · obtain ⟨_, _, _, _, _, rfl, _⟩ := h; rfl
  obtain ⟨s, l, m, E, ns, rfl, st, lv, hsE, hmE, hm, hp, hl, k⟩ := h
  refine ⟨_, (pss_cons (ps_set (i := 2) sc_law_argument.nd rfl (Or.inl rfl) (pe_cl C_law_take hr (by rfl) (pa_cons (pv 0) (pa_cons pe_int pa_nil))))
    (pss_cons (ps_if (pt_cmpR op_lt (pv 2) pe_int (nomark _)) (pss_one (ps_ret (pv 1))) pss_nil)
    (pss_cons (ps_if (pt_cmpR op_eq (pv 2) pe_int (nomark _)) (pss_one (ps_ret (pe_cl C_law_move hr (by rfl) (pa_cons (pv 0) (pa_cons (pe_cl C_law_place hr (by rfl) (pa_cons (pv 0) (pa_cons pe_int pa_nil))) pa_nil))))) pss_nil)
    (pss_cons (ps_if (pt_cmpR op_eq (pv 2) pe_int (nomark _)) (pss_one (ps_ret (pe_cl C_law_bad_move hr (by rfl) (pa_cons (pv 0) (pa_cons (pv 1) pa_nil))))) pss_nil)
    (pss_one (ps_ret (pe_cl C_law_value hr (by rfl) (pa_cons (pv 0) (pa_cons (pe_op op_add pe_int (pe_cl C_law_take hr (by rfl) (pa_cons (pv 0) (pa_cons pe_int pa_nil)))) pa_nil))))))))), ?_⟩
  have hms : m ≠ s := fun e => hmE (e ▸ hsE)
  walk_at "sn"
  refine ⟨s, l, _, rfl, by decide, st, fun pk H1 g1 r0 r1 r2 => ?_⟩
  have hm1 := g1.k hms hm
  walk_at "sn"
  split
  · exact k _ H1 g1 ⟨_, _, .tup hmE hm1 (DwAll.ints ns), by omega⟩
  walk_at "wn"
  rw [a_seq]
  walk_at "wn"
  split
  · refine ⟨s, l, _, rfl, g1.st, by decide, by decide, fun n H2 g2 n0 n1 => ?_⟩
    refine ⟨s, l, n, rfl, g2.st, n0, by omega, fun q ms H3 g3 fq eq hpq => ?_⟩
    have hq : q ∉ E := (lv.ge (g1.trans g2)).out fq
    exact k _ H3 ((g1.trans g2).trans g3) ⟨_, _, .tup hq eq (DwAll.ints ms), by have := hpq.length_eq; rw [rng_len] at this; omega⟩
  walk_at "wn"
  rw [a_seq]
  walk_at "wn"
  split
  · refine ⟨s, l, m, E, ns.length, ns, rfl, g1.st, lv.ge g1, hsE, hms, hm1, hp, by omega, fun v H2 g2 hv => k v H2 (g1.trans g2) (hv.le (by decide))⟩
  walk_at "wn"
  refine ⟨s, l, _, rfl, by decide, g1.st, fun dp H2 g2 d0 d1 d2 => ?_⟩
  have := d1 (by decide)
  walk_at "wn"
  exact ⟨s, l, E, _, rfl, g2.st, lv.ge (g1.trans g2), hsE, by omega, by omega, fun v H3 g3 hv => k v H3 ((g1.trans g2).trans g3) hv⟩
end

/-! ## N4 -/

section
variable {P : Program} {w : World} {K : PySem.W.Frag} {mg : Str → Option Value} {base : Heap}
def sp_composes : Sp := fun vs H Q _ => ∃ (v1 v2 : V) (E : List Addr) (d1 d2 : PyData) (n1 n2 : Nat), vs = [v1, v2] ∧ Lv E H ∧ Dw E H v1 d1 n1 ∧ Dw E H v2 d2 n2 ∧ n1 ≤ 1000 ∧ n2 ≤ 1000 ∧ ∀ H', Same H H' → Q (.bl true) H'
abbrev st_law_composes : Stmt := topS 68
theorem sc_law_composes : FnScope ["one", "two", "due", "before", "actual", "e", "k"] ["one", "two"] (defScope st_law_composes) := ⟨rfl, rfl, rfl, by decide +kernel, rfl, by decide +kernel, by decide +kernel⟩
theorem ok_law_composes (D : Df K mg "_law_composes" st_law_composes) (T : NoB mg) (C_law_fault : Cl P w K mg base 3 "_law_fault" ["one", "two"] sp_fault2) (C_law_frozen : Cl P w K mg base 10 "_law_frozen" ["value", "deep"] (sp_frozen 10)) (C_law_frozenH : ClH P w K mg base 10 "_law_frozen" ["value", "deep"] (sp_frozenH 10)) (C_law_refusalH : ClH P w K mg base 3 "_law_refusal" ["error", "due"] (sp_refG K)) (C_law_same : Cl P w K mg base 2 "_law_same" ["actual", "due"] sp_same) (C_law_sameH : ClH P w K mg base 2 "_law_same" ["actual", "due"] sp_sameH) (Ccompose : ClX P w K mg base 6 "compose" ["first", "second"] (sp_comp K)) (EH : mg "HeldorderError" = some (.ref (He.ga K "HeldorderError"))) (exmF : ∀ f : Flt, f.cls ∈ errL → PySem.W.exmOne K (.ref (He.ga K f.cls)) (.ref (He.ga K "HeldorderError")) = some true): Cl P w K mg base 11 "_law_composes" ["one", "two"] sp_composes := by
  refine cl_of D sc_law_composes (fun _ _ _ _ _ _ us hl => match us, hl with | [_, _], _ => rfl) (fun vs H Q E h => ?_) (fun f cdv A outer sh H vs Q E hr h => ?_)
  · obtain ⟨_, _, _, _, _, _, _, rfl, _⟩ := h; rfl
  obtain ⟨v1, v2, E', d1, d2, n1, n2, rfl, lv, h1, h2, hn1, hn2, k⟩ := h
  refine ⟨_, (pss_cons (ps_set (i := 2) sc_law_composes.nd rfl (Or.inl rfl) (pe_cl C_law_fault hr (by rfl) (pa_cons (pv 0) (pa_cons (pv 1) pa_nil))))
    (pss_cons (ps_set (i := 3) sc_law_composes.nd rfl (Or.inl rfl) (pe_cl C_law_frozen hr (by rfl) (pa_cons (pe_tup (pa_cons (pv 0) (pa_cons (pv 1) pa_nil))) (pa_cons pe_int pa_nil))))
    (pss_cons (L2N.ps_try_as (i := 5) rfl rfl sc_law_composes.nd rfl rfl ⟨by rfl, by decide, .inl EH⟩ takesN0 (fun W pn xe tk po => (pss_one (ps_set (i := 4) sc_law_composes.nd rfl (Or.inl rfl) (pe_clX Ccompose tk hr (by rfl) (pa_cons (pv 0) (pa_cons (pv 1) pa_nil)))))) (fun a oe cls d pn hz hf => (pss_one (ps_ret (pe_and (pe_clU C_law_refusalH hz hf hr (by rfl) (pa_cons (pv 5) (pa_cons (pv 2) pa_nil))) (pe_one (pe_clU C_law_sameH hz hf hr (by rfl) (pa_cons (pe_clU C_law_frozenH hz hf hr (by rfl) (pa_cons (pe_tup (pa_cons (pv 0) (pa_cons (pv 1) pa_nil))) (pa_cons pe_int pa_nil))) (pa_cons (pv 3) pa_nil)))))))))
    (pss_cons (ps_if (PW.pt (pw_or (pt_cmpR op_notN (pv 2) pe_non (nomark _)) (pw_or1 (pt_not (pt_val (pe_cl C_law_same hr (by rfl) (pa_cons (pe_cl C_law_frozen hr (by rfl) (pa_cons (pe_tup (pa_cons (pv 0) (pa_cons (pv 1) pa_nil))) (pa_cons pe_int pa_nil))) (pa_cons (pv 3) pa_nil)))))))) (pss_one (ps_ret pe_bl)) pss_nil)
    (pss_one (ps_ret (pe_cl C_law_same hr (by rfl) (pa_cons (pv 4) (pa_cons (pe_callTy tup1 (by rfl) T.no_tuple (by decide +kernel) (pa_cons (pe_lc (own := [("k", 6)]) (g := gName 6) (tt := tYes) rfl sc_law_composes.nd (pi_range1 (by rfl) T.no_range (pa_cons (pe_callB len1 (by rfl) T.no_len (by decide +kernel) (pa_cons (pv 0) pa_nil)) pa_nil)) (blkOk_by (own := [("k", 6)]) (N := ["one", "two", "due", "before", "actual", "e", "k"]) (sc := defScope st_law_composes) (by decide +kernel)) (fun _ _ _ _ _ => (pg_name (i := 6) sc_law_composes.nd rfl (Or.inl rfl))) (fun _ _ _ _ _ => pts_nil) (fun _ _ _ _ _ => (pe_ix ix1 (pv 1) (pe_ix ix1 (pv 0) (pv 6) (fun _ _ => rfl)) (fun _ _ => rfl)))) pa_nil)) pa_nil))))))))), ?_⟩
  have pairD : ∀ {H' H2 : Hp} {t : Addr}, Same H H' → New H' t (.tup [v1, v2]) H2 → Dw E' H2 (.ref t) (.tuple [d1, d2]) (n1 + (n2 + 0) + 1) := fun s n =>
    .tup ((lv.same s).out n.fr) n.at_ (.cons (h1.same (s.trans n.same)) (.cons (h2.same (s.trans n.same)) .nil))
  walk_at "sn"
  refine ⟨v1, v2, E', E', d1, d2, n1, n2, rfl, h1, h2, ?_⟩
  unfold DueO
  cases hf : cmpFlt d1 d2 with
  | some f =>
    intro du H1 s1 hdue
    walk_at "sn"
    refine ⟨szl (by decide), fun t H2 nt => ⟨.ref t, 9, E', _, _, rfl, by decide, by decide, lv.same (s1.trans nt.same), pairD s1 nt, by omega, fun u mu H3 s3 hu hmu => ?_⟩⟩
    have hu0 := hu.sub (E' := []) (fun a z => absurd z (by simp))
    have t3 := (s1.trans nt.same).trans s3
    have hdue3 := hdue.same (nt.same.trans s3)
    walk_at "sn"
    refine ⟨v1, v2, E', E', d1, d2, n1, n2, rfl, h1.same t3, h2.same t3, ?_⟩
    rw [hf]
    intro dd G0 G1 s4 m4
    refine ⟨true, exmF f hdue.1, fun _ a1 ha1 => ?_, fun z => by cases z⟩
    have t4 := s4.trans m4.same
    walk_at "wn"
    refine (hdue3.same t4).ref m4.at_ fun H5 s5 => ?_
    walk_at "wn"
    have t5 := (t3.trans t4).trans s5
    refine ⟨szl (by decide), fun t2 H6 nt2 => ⟨.ref t2, 9, E', _, _, rfl, by decide, by decide, lv.same (t5.trans nt2.same), pairD t5 nt2, by omega, fun u2 m2 H7 s7 hu2 hm2 => ?_⟩⟩
    exact ⟨u2, u, _, m2, mu, rfl, hu2.sub (fun a z => absurd z (by simp)), hu0.same (((t4.trans s5).trans nt2.same).trans s7), by omega, fun H8 s8 => k H8 (((t5.trans nt2.same).trans s7).trans s8)⟩
  | none =>
    intro H1 s1
    obtain ⟨c1, c2, c3⟩ := cmpFlt_none hf
    obtain ⟨a, as, ma, ea⟩ := MvA.of c1 h1
    obtain ⟨b, bs, mb, eb⟩ := MvA.of c2 h2
    have hab : as.length = bs.length := by
      rw [ea, eb, dLen_ints, dLen_ints] at c3
      exact c3
    walk_at "sn"
    refine ⟨szl (by decide), fun t H2 nt => ⟨.ref t, 9, E', _, _, rfl, by decide, by decide, lv.same (s1.trans nt.same), pairD s1 nt, by omega, fun u mu H3 s3 hu hmu => ?_⟩⟩
    have hu0 := hu.sub (E' := []) (fun a z => absurd z (by simp))
    have t3 := (s1.trans nt.same).trans s3
    walk_at "sn"
    refine comp_ok (ma.same t3) (mb.same t3) hab fun p H4 H5 s4 n5 => ?_
    have t5 := (t3.trans s4).trans n5.same
    walk_at "sn"
    refine ⟨szl (by decide), fun t2 H6 nt2 => ⟨.ref t2, 9, E', _, _, rfl, by decide, by decide, lv.same (t5.trans nt2.same), pairD t5 nt2, by omega, fun u2 m2 H7 s7 hu2 hm2 => ?_⟩⟩
    refine ⟨u2, u, _, m2, mu, rfl, hu2.sub (fun a z => absurd z (by simp)), hu0.same ((((s4.trans n5.same)).trans nt2.same).trans s7), by omega, fun H8 s8 => ?_⟩
    have t8 := ((t5.trans nt2.same).trans s7).trans s8
    have ep := ((nt2.same.trans s7).trans s8) _ _ n5.at_
    obtain rfl := ma.e
    obtain rfl := mb.e
    have hla : (as.map V.int).length = as.length := List.length_map _
    have hl := ma.le
    walk_at "wn"
    refine ⟨_, sq_t (t8 _ _ ma.at_), by omega, by omega, ?_⟩
    refine cr_by (fun C i acc H' => Same H8 H' ∧ acc = ((as.take i).map (im bs)).map V.int) (fun C H0 n0 => ⟨n0.same, rfl⟩) ?_ ?_
    · rintro C i acc H9 N hC hi hacc ⟨s9, rfl⟩ hN
      have hi' : i < as.length := by rw [hla] at hi; omega
      have hz := List.getElem?_eq_getElem hi'
      generalize as[i] = z at hz
      have hzr := ma.rg z (List.mem_of_getElem? hz)
      have hy := List.getElem?_eq_getElem (show z.toNat < bs.length by omega)
      have eim : im bs z = bs[z.toNat] := by unfold im; rw [hy]; rfl
      refine ⟨rfl, ?_⟩
      walk_at "wn"
      have e0 : (0 : Int) + (i : Int) = i := by omega
      refine ⟨_, sq_t ((t8.trans s9) _ _ ma.at_), .int z, atI_of (by omega) (by rw [e0, Int.toNat_natCast, List.getElem?_map, hz]; rfl), ?_⟩
      walk_at "wn"
      refine ⟨_, sq_t ((t8.trans s9) _ _ mb.at_), .int bs[z.toNat], atI_of hzr.1 (by rw [List.getElem?_map, hy]; rfl), ?_⟩
      refine cst hacc (by rw [List.length_map, List.length_map, List.length_take, sizeLine_eq]; omega) fun H10 p10 => hN _ _ p10.at_ ⟨p10.same s9 hC, ?_⟩
      rw [List.take_add_one, hz, ← eim]
      simp
    · rintro C acc H9 hC hacc ⟨s9, rfl⟩
      have et : as.take (((as.map V.int).length : Int)).toNat = as := List.take_of_length_le (by rw [hla]; omega)
      rw [et] at hacc
      walk_at "wn"
      refine ⟨_, hacc, fun q H10 n10 => ?_⟩
      exact ⟨.ref p, .ref q, _, _, _, rfl, dwT (n10.k (s9 _ _ ep)), dwT n10.at_, by rw [cmp_len]; omega, fun H11 s11 => k H11 (((t8.trans s9).trans n10.same).trans s11)⟩
def sp_undoes : Sp := fun vs H Q _ => ∃ (v : V) (E : List Addr) (d : PyData) (n : Nat), vs = [v] ∧ Lv E H ∧ Dw E H v d n ∧ n ≤ 1000 ∧ ∀ H', Same H H' → Q (.bl true) H'
abbrev st_law_undoes : Stmt := topS 69
theorem sc_law_undoes : FnScope ["value", "before", "actual", "e", "still"] ["value"] (defScope st_law_undoes) := ⟨rfl, rfl, rfl, by decide +kernel, rfl, by decide +kernel, by decide +kernel⟩
theorem ok_law_undoes (D : Df K mg "_law_undoes" st_law_undoes) (T : NoB mg) (C_law_after : Cl P w K mg base 1 "_law_after" ["first", "second"] sp_joined) (C_law_frozen : Cl P w K mg base 10 "_law_frozen" ["value", "deep"] (sp_frozen 10)) (C_law_frozenH : ClH P w K mg base 10 "_law_frozen" ["value", "deep"] (sp_frozenH 10)) (C_law_move_fits : Cl P w K mg base 2 "_law_move_fits" ["value", "points"] sp_fits) (C_law_move_fitsH : ClH P w K mg base 5 "_law_move_fits" ["value", "points"] sp_fitsH) (C_law_move_fitsP : Cl P w K mg base 2 "_law_move_fits" ["value", "points"] sp_fitsP) (C_law_refusalH : ClH P w K mg base 3 "_law_refusal" ["error", "due"] (sp_refG K)) (C_law_same : Cl P w K mg base 2 "_law_same" ["actual", "due"] sp_same) (C_law_sameH : ClH P w K mg base 2 "_law_same" ["actual", "due"] sp_sameH) (Ccompose : ClX P w K mg base 6 "compose" ["first", "second"] (sp_comp K)) (Copposite : ClX P w K mg base 5 "opposite" ["move"] (sp_opp K)) (EH : mg "HeldorderError" = some (.ref (He.ga K "HeldorderError"))) (exmF : ∀ f : Flt, f.cls ∈ errL → PySem.W.exmOne K (.ref (He.ga K f.cls)) (.ref (He.ga K "HeldorderError")) = some true): Cl P w K mg base 11 "_law_undoes" ["value"] sp_undoes := by
  refine cl_of D sc_law_undoes (fun _ _ _ _ _ _ us hl => match us, hl with | [_], _ => rfl) (fun vs H Q E h => ?_) (fun f cdv A outer sh H vs Q E hr h => ?_)
  · obtain ⟨_, _, _, _, rfl, _⟩ := h; rfl
  obtain ⟨v, E', d, n, rfl, lv, hd, hn, k⟩ := h
  refine ⟨_, (pss_cons (ps_set (i := 1) sc_law_undoes.nd rfl (Or.inl rfl) (pe_cl C_law_frozen hr (by rfl) (pa_cons (pv 0) (pa_cons pe_int pa_nil))))
    (pss_cons (L2N.ps_try_as (i := 3) rfl rfl sc_law_undoes.nd rfl rfl ⟨by rfl, by decide, .inl EH⟩ takesN0 (fun W pn xe tk po => (pss_one (ps_set (i := 2) sc_law_undoes.nd rfl (Or.inl rfl) (pe_clX Copposite tk hr (by rfl) (pa_cons (pv 0) pa_nil))))) (fun a oe cls d pn hz hf => (pss_cons (ps_if (pt_val (pe_clU C_law_move_fitsH hz hf hr (by rfl) (pa_cons (pv 0) (pa_cons (pe_un un_neg pe_int) pa_nil)))) (pss_one (ps_ret pe_bl)) pss_nil)
    (pss_one (ps_ret (pe_and (pe_clU C_law_refusalH hz hf hr (by rfl) (pa_cons (pv 3) (pa_cons (pe_tup (pa_cons pe_str (pa_cons pe_int pa_nil))) pa_nil))) (pe_one (pe_clU C_law_sameH hz hf hr (by rfl) (pa_cons (pe_clU C_law_frozenH hz hf hr (by rfl) (pa_cons (pv 0) (pa_cons pe_int pa_nil))) (pa_cons (pv 1) pa_nil))))))))))
    (pss_cons (ps_if (PW.pt (pw_or (pt_not (pt_val (pe_cl C_law_move_fits hr (by rfl) (pa_cons (pv 0) (pa_cons (pe_un un_neg pe_int) pa_nil))))) (pw_or1 (pt_not (pt_val (pe_cl C_law_move_fitsP hr (by rfl) (pa_cons (pv 2) (pa_cons (pe_callB len1 (by rfl) T.no_len (by decide +kernel) (pa_cons (pv 0) pa_nil)) pa_nil)))))))) (pss_one (ps_ret pe_bl)) pss_nil)
    (pss_cons (ps_set (i := 4) sc_law_undoes.nd rfl (Or.inl rfl) (pe_tupRg rfl (by rfl) T.no_tuple (prg_1 (by rfl) T.no_range (pe_callB len1 (by rfl) T.no_len (by decide +kernel) (pa_cons (pv 0) pa_nil)))))
    (pss_cons (ps_if (pt_not (pt_val (pe_cl C_law_same hr (by rfl) (pa_cons (pe_cl C_law_after hr (by rfl) (pa_cons (pv 0) (pa_cons (pv 2) pa_nil))) (pa_cons (pv 4) pa_nil))))) (pss_one (ps_ret pe_bl)) pss_nil)
    (pss_one (ps_ret (pe_and (pe_cl C_law_same hr (by rfl) (pa_cons (pe_clX Ccompose takesN0 hr (by rfl) (pa_cons (pv 0) (pa_cons (pv 2) pa_nil))) (pa_cons (pv 4) pa_nil))) (pe_one (pe_cl C_law_same hr (by rfl) (pa_cons (pe_clX Ccompose takesN0 hr (by rfl) (pa_cons (pv 2) (pa_cons (pv 0) pa_nil))) (pa_cons (pv 4) pa_nil)))))))))))), ?_⟩
  walk_at "sn"
  refine ⟨v, 8, E', d, n, rfl, by decide, by decide, lv, hd, by omega, fun u mu H1 s1 hu hmu => ?_⟩
  have hu0 := hu.sub (E' := []) (fun a z => absurd z (by simp))
  walk_at "sn"
  cases hno : isMoveD d with
  | false =>
    refine ⟨v, E', d, n, rfl, hd.same s1, fun _ => ?_, fun a ns ma ed => by (rw [ed, ma.d] at hno; cases hno)⟩
    intro dd G0 G1 s4 m4
    have hL : (Flt.mv 0).cls ∈ errL := by show ("NotAMove" : Str) ∈ errL; decide +kernel
    refine ⟨true, exmF (.mv 0) hL, fun _ a1 ha1 => ?_, fun z => by cases z⟩
    have t4 := s4.trans m4.same
    have t14 := s1.trans t4
    walk_at "sn"
    refine ⟨v, E', d, n, rfl, hd.same t14, fun H5 s5 => ?_⟩
    rw [hno]
    walk_at "wn"
    refine ⟨szl (by decide), fun du H6 n6 => ?_⟩
    have t6 := (t14.trans s5).trans n6.same
    refine (due_mvi n6.at_).ref (n6.k (s5 _ _ m4.at_)) fun H7 s7 => ?_
    walk_at "wn"
    have t7 := t6.trans s7
    refine ⟨v, 8, E', d, n, rfl, by decide, by decide, lv.same t7, hd.same t7, by omega, fun u2 m2 H8 s8 hu2 hm2 => ?_⟩
    exact ⟨u2, u, _, m2, mu, rfl, hu2.sub (fun a z => absurd z (by simp)), hu0.same ((((t4.trans s5).trans n6.same).trans s7).trans s8), by omega, fun H9 s9 => k H9 ((t7.trans s8).trans s9)⟩
  | true =>
    obtain ⟨a, ns, ma, ea⟩ := MvA.of hno hd
    have hl := ma.le
    refine opp_ok (ma.same s1) fun p iv H2 H3 s2 n3 hi => ?_
    have t3 := (s1.trans s2).trans n3.same
    have mi : MvA H3 (.ref p) p iv := mva_new n3 (by rw [hi.len]; exact hl) (by rw [hi.len]; exact hi.p)
    walk_at "sn"
    refine ⟨v, E', d, n, rfl, hd.same t3, fun H4 s4 => ?_⟩
    rw [hno]
    have t4 := t3.trans s4
    obtain rfl := ma.e
    have hla : (ns.map V.int).length = ns.length := List.length_map _
    walk_at "wn"
    refine ⟨_, sq_t (t4 _ _ ma.at_), ?_⟩
    refine ⟨p, iv, _, rfl, (mi.same s4).at_, mi.le, mi.p, by rw [hla, hi.len], fun H5 s5 => ?_⟩
    have t5 := t4.trans s5
    have mi5 := mi.same (s4.trans s5)
    have ma5 := ma.same t5
    walk_at "sn"
    refine ⟨_, sq_t ma5.at_, .of_le (by decide) (by omega) (by decide) (by omega), fun q H6 n6 => ?_⟩
    have eq6 := n6.at_
    rw [rgV_rng (by omega), hla, Int.toNat_natCast] at eq6
    have dq : ∀ {H' : Hp}, Same H6 H' → Dw [] H' (.ref q) (.tuple ((rng ns.length).map .int)) ((rng ns.length).length + 1) := fun s => dwT (s _ _ eq6)
    have ma6 := ma5.same n6.same
    have mi6 := mi5.same n6.same
    have t6 := t5.trans n6.same
    walk_at "sn"
    refine ⟨a, p, ns, iv, rfl, ma6.at_, mi6.at_, by rw [hi.len]; exact ma6.rg, hl, fun q2 H7 H8 s7 n8 => ?_⟩
    rw [hi.left] at n8
    have t8 := s7.trans n8.same
    refine ⟨.ref q2, .ref q, _, _, _, rfl, dwT n8.at_, dq t8, by rw [rng_len]; omega, fun H9 s9 => ?_⟩
    have t9 := t8.trans s9
    walk_at "wn"
    refine comp_ok (ma6.same t9) (mi6.same t9) hi.len.symm fun q3 H10 H11 s10 n11 => ?_
    rw [show cmp ns iv = rng ns.length from hi.left] at n11
    have t11 := (t9.trans s10).trans n11.same
    refine ⟨.ref q3, .ref q, _, _, _, rfl, dwT n11.at_, dq t11, by rw [rng_len]; omega, fun H12 s12 => ?_⟩
    have t12 := t11.trans s12
    walk_at "wn"
    refine comp_ok (mi6.same t12) (ma6.same t12) hi.len fun q4 H13 H14 s13 n14 => ?_
    rw [show cmp iv ns = rng ns.length from hi.right ma.m] at n14
    have t14 := (t12.trans s13).trans n14.same
    exact ⟨.ref q4, .ref q, _, _, _, rfl, dwT n14.at_, dq t14, by rw [rng_len]; omega, fun H15 s15 => k H15 ((t6.trans t14).trans s15)⟩
end

/-! ## N5 -/
local macro_rules | `(tactic| walk_at "wp") => `(tactic| (try simp only [a_var, a_c, a_op, a_un, a_test, a_b, a_and, a_or, a_not, a_andV, a_orV, a_notV, a_if, a_next, a_seq, a_break, a_cont, a_drop, a_ret, a_retN, a_ifS, a_asg, a_name, a_sub, a_nil, a_cons, a_tup, a_lst, a_call, a_cb, a_bm0, a_bm, a_sl, a_nopart, a_part, a_aug, b_rI, b_rI0, b_rU, b_eq, b_ne, b_isTF, b_int, b_intb, b_list, b_tuple, b_ix, b_len, b_setL, b_app, b_pop, b_popAt, b_sl, b_rep, b_cat, b_lstRg, b_tupRg, b_rg1, b_rg2, a_forR, a_forR2, a_forS, b_fsq, a_lcR, a_lcR2, a_lcS, b_csq, wipe_nil, wipe_cons, a_yes, wh_i, wh_s, wh_b, wh_r, wh_n, Bool.not_eq_true, eq_self, not_true_eq_false, not_false_eq_true, b_isi, kb_all, ty_non, ty_bl, ty_int, ty_str, a_m1, b_ixS, b_slS, List.cons.injEq, and_assoc, exists_and_left, cxK, List.getElem?_cons_zero, List.getElem?_cons_succ, List.set_cons_zero, List.set_cons_succ, Option.some.injEq, exists_eq_left', exists_eq_left, V.bl.injEq, V.int.injEq, V.ref.injEq, V.str.injEq, HO.lst.injEq, HO.tup.injEq, decide_eq_true_eq, true_and, and_true, L2.start, List.map_cons, List.map_nil, List.length_cons, List.length_nil, Nat.zero_add, Nat.reduceAdd, Nat.reduceSub, List.replicate_succ, List.replicate_zero, List.cons_append, List.nil_append, if_true, if_false, Bool.false_eq_true, Bool.not_true, Bool.not_false, decide_not, Bool.not_eq_true', decide_eq_false_iff_not, scal_ii, scal_bb, scal_ss, scal_is, scal_si, reduceCtorEq, Bool.true_eq_false, decide_false, decide_true, if_pos, ne_eq, Int.reduceNeg, atI_0, atI_1, atI_2, atI_3, atI_4, atI_5, atI_6, ixN_7, b_ins, a_revL, b_isT, V.ty.injEq, Bool.true_or, Bool.or_true, Bool.false_or, Bool.or_false, Bool.or_self, b_sorted, b_repT, a_err, a_callS, a_xp, a_isP, a_lcE, a_forE, a_isV, a_lcH, a_ch, a_forES, a_lcG, a_isO, a_errV, a_errV0, a_xo]))
local macro_rules | `(tactic| walk_at "wps") => `(tactic| (try simp only [a_var, a_c, a_op, a_un, a_test, a_b, a_and, a_or, a_not, a_andV, a_orV, a_notV, a_if, a_next, a_seq, a_break, a_cont, a_drop, a_ret, a_retN, a_ifS, a_asg, a_name, a_sub, a_nil, a_cons, a_tup, a_lst, a_call, a_cb, a_bm0, a_bm, a_sl, a_nopart, a_part, a_aug, b_rI, b_rI0, b_rU, b_eq, b_ne, b_isTF, b_int, b_intb, b_list, b_tuple, b_ix, b_len, b_setL, b_app, b_pop, b_popAt, b_sl, b_rep, b_cat, b_lstRg, b_tupRg, b_rg1, b_rg2, a_forR, a_forR2, a_forS, b_fsq, a_lcR, a_lcR2, a_lcS, b_csq, wipe_nil, wipe_cons, a_yes, wh_i, wh_s, wh_b, wh_r, wh_n, Bool.not_eq_true, eq_self, not_true_eq_false, not_false_eq_true, b_isi, kb_all, ty_non, ty_bl, ty_int, ty_str, a_m1, b_ixS, b_slS, List.cons.injEq, and_assoc, exists_and_left, cxK, List.getElem?_cons_zero, List.getElem?_cons_succ, List.set_cons_zero, List.set_cons_succ, Option.some.injEq, exists_eq_left', exists_eq_left, V.bl.injEq, V.int.injEq, V.ref.injEq, V.str.injEq, HO.lst.injEq, HO.tup.injEq, decide_eq_true_eq, true_and, and_true, L2.start, List.map_cons, List.map_nil, List.length_cons, List.length_nil, Nat.zero_add, Nat.reduceAdd, Nat.reduceSub, List.replicate_succ, List.replicate_zero, List.cons_append, List.nil_append, if_true, if_false, Bool.false_eq_true, Bool.not_true, Bool.not_false, decide_not, Bool.not_eq_true', decide_eq_false_iff_not, scal_ii, scal_bb, scal_ss, scal_is, scal_si, reduceCtorEq, Bool.true_eq_false, decide_false, decide_true, if_pos, ne_eq, Int.reduceNeg, atI_0, atI_1, atI_2, atI_3, atI_4, atI_5, atI_6, ixN_7, b_ins, a_revL, b_isT, V.ty.injEq, Bool.true_or, Bool.or_true, Bool.false_or, Bool.or_false, Bool.or_self, b_sorted, b_repT, a_err, a_callS, a_xp, a_isP, a_lcE, a_forE, a_isV, a_lcH, a_ch, a_forES, a_lcG, a_isO, a_errV, a_errV0, a_xo, *]))
local macro_rules | `(tactic| walk_at "wq") => `(tactic| (try simp only [a_var, a_c, a_op, a_un, a_test, a_b, a_and, a_or, a_not, a_andV, a_orV, a_notV, a_if, a_next, a_break, a_cont, a_drop, a_ret, a_retN, a_ifS, a_asg, a_name, a_sub, a_nil, a_cons, a_tup, a_lst, a_call, a_cb, a_bm0, a_bm, a_sl, a_nopart, a_part, a_aug, b_rI, b_rI0, b_rU, b_eq, b_ne, b_isTF, b_int, b_intb, b_list, b_tuple, b_ix, b_len, b_setL, b_app, b_pop, b_popAt, b_sl, b_rep, b_cat, b_lstRg, b_tupRg, b_rg1, b_rg2, a_forR, a_forR2, a_forS, b_fsq, a_lcR, a_lcR2, a_lcS, b_csq, wipe_nil, wipe_cons, a_yes, wh_i, wh_s, wh_b, wh_r, wh_n, Bool.not_eq_true, eq_self, not_true_eq_false, not_false_eq_true, b_isi, kb_all, ty_non, ty_bl, ty_int, ty_str, a_m1, b_ixS, b_slS, List.cons.injEq, and_assoc, exists_and_left, cxK, List.getElem?_cons_zero, List.getElem?_cons_succ, List.set_cons_zero, List.set_cons_succ, Option.some.injEq, exists_eq_left', exists_eq_left, V.bl.injEq, V.int.injEq, V.ref.injEq, V.str.injEq, HO.lst.injEq, HO.tup.injEq, decide_eq_true_eq, true_and, and_true, L2.start, List.map_cons, List.map_nil, List.length_cons, List.length_nil, Nat.zero_add, Nat.reduceAdd, Nat.reduceSub, List.replicate_succ, List.replicate_zero, List.cons_append, List.nil_append, if_true, if_false, Bool.false_eq_true, Bool.not_true, Bool.not_false, decide_not, Bool.not_eq_true', decide_eq_false_iff_not, scal_ii, scal_bb, scal_ss, scal_is, scal_si, reduceCtorEq, Bool.true_eq_false, decide_false, decide_true, if_pos, ne_eq, Int.reduceNeg, atI_0, atI_1, atI_2, atI_3, atI_4, atI_5, atI_6, ixN_7, b_ins, a_revL, b_isT, V.ty.injEq, Bool.true_or, Bool.or_true, Bool.false_or, Bool.or_false, Bool.or_self, b_sorted, b_repT, a_err, a_callS, a_xp, a_isP, a_lcE, a_forE, a_isV, a_lcH, a_ch, a_forES, a_lcG, a_isO, a_errV, a_errV0, a_xo, *]))
local macro_rules | `(tactic| walk_at "wn") => `(tactic| (try simp only [a_var, a_c, a_op, a_un, a_test, a_b, a_and, a_or, a_not, a_andV, a_orV, a_notV, a_if, a_next, a_break, a_cont, a_drop, a_ret, a_retN, a_ifS, a_asg, a_name, a_sub, a_nil, a_cons, a_tup, a_lst, a_call, a_cb, a_bm0, a_bm, a_sl, a_nopart, a_part, a_aug, b_rI, b_rI0, b_rU, b_eq, b_ne, b_isTF, b_int, b_intb, b_list, b_tuple, b_ix, b_len, b_setL, b_app, b_pop, b_popAt, b_sl, b_rep, b_cat, b_lstRg, b_tupRg, b_rg1, b_rg2, a_forR, a_forR2, a_forS, b_fsq, a_lcR, a_lcR2, a_lcS, b_csq, wipe_nil, wipe_cons, a_yes, wh_i, wh_s, wh_b, wh_r, wh_n, Bool.not_eq_true, eq_self, not_true_eq_false, not_false_eq_true, b_isi, kb_all, ty_non, ty_bl, ty_int, ty_str, a_m1, b_ixS, b_slS, List.cons.injEq, and_assoc, exists_and_left, cxK, List.getElem?_cons_zero, List.getElem?_cons_succ, List.set_cons_zero, List.set_cons_succ, Option.some.injEq, exists_eq_left', exists_eq_left, V.bl.injEq, V.int.injEq, V.ref.injEq, V.str.injEq, HO.lst.injEq, HO.tup.injEq, decide_eq_true_eq, true_and, and_true, L2.start, List.map_cons, List.map_nil, List.length_cons, List.length_nil, Nat.zero_add, Nat.reduceAdd, Nat.reduceSub, List.replicate_succ, List.replicate_zero, List.cons_append, List.nil_append, if_true, if_false, Bool.false_eq_true, Bool.not_true, Bool.not_false, decide_not, Bool.not_eq_true', decide_eq_false_iff_not, scal_ii, scal_bb, scal_ss, scal_is, scal_si, reduceCtorEq, Bool.true_eq_false, decide_false, decide_true, if_pos, ne_eq, Int.reduceNeg, atI_0, atI_1, atI_2, atI_3, atI_4, atI_5, atI_6, ixN_7, b_ins, a_revL, b_isT, V.ty.injEq, Bool.true_or, Bool.or_true, Bool.false_or, Bool.or_false, Bool.or_self, b_sorted, b_repT, a_err, a_callS, a_xp, a_isP, a_lcE, a_forE, a_isV, a_lcH, a_ch, a_forES, a_lcG, a_isO, a_errV, a_errV0, a_xo]))
local macro_rules | `(tactic| walk_at "sq") => `(tactic| ((try dsimp only); rw [a_seq]; walk_at "wq"))
local macro_rules | `(tactic| walk_at "sn") => `(tactic| ((try dsimp only); rw [a_seq]; walk_at "wn"))

def aloneL : List Str := ["NotNeighbours", "NotAnOrder", "NotAChain", "NothingToUndo", "NothingToRedo", "NothingKept", "NotAPaper", "BadNumber", "NoSuchLength", "TooMany", "UnlikeSizes", "NotShorter", "UnknownName", "NotABase", "NotAColumn"]
/-- an own error stands with what was stored in it -/
structure XoF (a C d : Addr) (fs : List (Str × V)) (H : Hp) : Prop where
  a : H a = some (exo a C (some d))
  d : H d = some (exd d fs)
theorem XoF.same {a C d : Addr} {fs : List (Str × V)} {H H' : Hp} (h : XoF a C d fs H) (s : Same H H') : XoF a C d fs H' := ⟨s _ _ h.a, s _ _ h.d⟩
theorem XoF.mk' {a C d : Addr} {fs : List (Str × V)} {H Hm H2 : Hp} (n1 : New H a (exo a C (some d)) Hm) (n2 : New Hm d (exd d fs) H2) : XoF a C d fs H2 := ⟨n2.k n1.at_, n2.at_⟩
theorem XoF.at_ {a C d : Addr} {fs : List (Str × V)} {H : Hp} (h : XoF a C d fs H) : XoAt a C (some d) H := ⟨h.a, _, h.d⟩
/-- a value is among the errors that are of one class alone -/
def AlO (K : PySem.W.Frag) (H : Hp) (x : V) : Prop := ∃ (En : Str) (a : Addr) (d : Option Addr), En ∈ aloneL ∧ x = .ref a ∧ XoAt a (He.ga K En) d H
theorem AlO.same {K : PySem.W.Frag} {H H' : Hp} {x : V} (h : AlO K H x) (s : Same H H') : AlO K H' x := by
  obtain ⟨En, a, d, h1, h2, h3⟩ := h
  exact ⟨En, a, d, h1, h2, h3.same s⟩
/-- te gives v, whatever is new -/
def Yl (te : TE) (v : V) (σ : L2.St) (H0 : Hp) : Prop := ∀ (H : Hp) (Q : VK), Same H0 H → (∀ H', Same H H' → Q v H') → te σ H Q
def YlA (ta : TA) (vs : List V) (σ : L2.St) (H0 : Hp) : Prop := ∀ (H : Hp) (Q : List V → Hp → Prop), Same H0 H → (∀ H', Same H H' → Q vs H') → ta σ H Q
def YlP (K : PySem.W.Frag) (te : TE) (σ : L2.St) (H0 : Hp) : Prop := ∀ (H : Hp) (Q : VK), Same H0 H → (∀ v H', Same H H' → AlO K H' v → Q v H') → te σ H Q
def YlPA (K : PySem.W.Frag) (ta : TA) (n : Nat) (σ : L2.St) (H0 : Hp) : Prop := ∀ (H : Hp) (Q : List V → Hp → Prop), Same H0 H → (∀ vs H', Same H H' → vs.length = n → (∀ v ∈ vs, AlO K H' v) → Q vs H') → ta σ H Q
section
variable {K : PySem.W.Frag} {te : TE} {ta : TA} {v : V} {vs us : List V} {σ : L2.St} {H0 H : Hp} {n : Nat} {i j : Nat} {p : Addr} {D : Ends}
theorem yl_nil : YlA tNil [] σ H0 := fun H Q _ q => q H (Same.refl _)
theorem yl_cons (a : Yl te v σ H0) (b : YlA ta vs σ H0) : YlA (tCons te ta) (v :: vs) σ H0 := fun H Q s q => by
  rw [a_cons]
  exact a H _ s fun H1 s1 => b H1 _ (s.trans s1) fun H2 s2 => q H2 (s1.trans s2)
theorem ylp_nil : YlPA K tNil 0 σ H0 := fun H Q _ q => q [] H (Same.refl _) rfl (by simp)
theorem ylp_cons (a : YlP K te σ H0) (b : YlPA K ta n σ H0) : YlPA K (tCons te ta) (n + 1) σ H0 := fun H Q s q => by
  rw [a_cons]
  exact a H _ s fun v H1 s1 av => b H1 _ (s.trans s1) fun vs H2 s2 hl hv => q _ H2 (s1.trans s2) (by rw [List.length_cons, hl]) fun u hu => by
    rcases List.mem_cons.mp hu with e | hu
    · rw [e]; exact av.same s2
    · exact hv u hu
theorem yl_att {a C d : Addr} {fs : List (Str × V)} {m : Str} (hj : σ[j]? = some (some (.ref a))) (x : XoF a C d fs H0) (l : fs.lookup m = some v) (t : XfC K C) (no : PySem.W.findIn K (.ref C) m = some none) : Yl (tXo K m (tVar j)) v σ H0 := fun H Q s q => by
  rw [a_xo, a_var]
  exact ⟨_, hj, a, C, d, fs, v, rfl, (x.same s).a, (x.same s).d, l, t, no, q H (Same.refl _)⟩
theorem ylp_var {a : Addr} {d : Option Addr} {En : Str} (hj : σ[j]? = some (some (.ref a))) (x : XoAt a (He.ga K En) d H0) (hE : En ∈ aloneL) : YlP K (tVar j) σ H0 := fun H Q s q => by
  rw [a_var]
  exact ⟨_, hj, q _ H (Same.refl _) ⟨En, a, d, hE, rfl, x.same s⟩⟩
theorem asg_lst (y : YlA ta vs σ H) (hl : vs.length ≤ 1000) (q : ∀ p H1 H2, Same H H1 → New H1 p (.lst vs) H2 → D.nx (σ.set i (some (.ref p))) H2) : tAsg (tLst ta) (gName i) D σ H := by
  rw [a_asg, a_lst]
  refine y H _ (Same.refl _) fun H1 s1 => ⟨by rw [sizeLine_eq]; omega, fun p H2 n2 => ?_⟩
  dsimp only
  rw [a_name]
  exact q p H1 H2 s1 n2
theorem asg_cat (y : YlA ta vs σ H) (hj : σ[j]? = some (some (.ref p))) (hp : H p = some (.lst us)) (hl : us.length + vs.length ≤ 1000) (q : ∀ p' H1 H2, Same H H1 → New H1 p' (.lst (us ++ vs)) H2 → D.nx (σ.set i (some (.ref p'))) H2) : tAsg (tOp rCat (tVar j) (tLst ta)) (gName i) D σ H := by
  rw [a_asg, a_op, a_var]
  refine ⟨_, hj, ?_⟩
  rw [a_lst]
  refine y H _ (Same.refl _) fun H1 s1 => ⟨by rw [sizeLine_eq]; omega, fun p2 H2 n2 => ?_⟩
  dsimp only
  rw [b_cat]
  refine ⟨us, n2.k (s1 _ _ hp), vs, n2.at_, by rw [sizeLine_eq]; omega, fun p3 H3 n3 => ?_⟩
  dsimp only
  rw [a_name]
  exact q p3 H2 H3 (s1.trans n2.same) n3
theorem asg_lstP (y : YlPA K ta n σ H) (hl : n ≤ 1000) (q : ∀ p vs H1 H2, vs.length = n → (∀ v ∈ vs, AlO K H1 v) → Same H H1 → New H1 p (.lst vs) H2 → D.nx (σ.set i (some (.ref p))) H2) : tAsg (tLst ta) (gName i) D σ H := by
  rw [a_asg, a_lst]
  refine y H _ (Same.refl _) fun vs H1 s1 hv ha => ⟨by rw [sizeLine_eq]; omega, fun p H2 n2 => ?_⟩
  dsimp only
  rw [a_name]
  exact q p vs H1 H2 hv ha s1 n2
theorem asg_catP (y : YlPA K ta n σ H) (hj : σ[j]? = some (some (.ref p))) (hp : H p = some (.lst us)) (hl : us.length + n ≤ 1000) (q : ∀ p' vs H1 H2, vs.length = n → (∀ v ∈ vs, AlO K H1 v) → Same H H1 → New H1 p' (.lst (us ++ vs)) H2 → D.nx (σ.set i (some (.ref p'))) H2) : tAsg (tOp rCat (tVar j) (tLst ta)) (gName i) D σ H := by
  rw [a_asg, a_op, a_var]
  refine ⟨_, hj, ?_⟩
  rw [a_lst]
  refine y H _ (Same.refl _) fun vs H1 s1 hv ha => ⟨by rw [sizeLine_eq]; omega, fun p2 H2 n2 => ?_⟩
  dsimp only
  rw [b_cat]
  refine ⟨us, n2.k (s1 _ _ hp), vs, n2.at_, by rw [sizeLine_eq]; omega, fun p3 H3 n3 => ?_⟩
  dsimp only
  rw [a_name]
  exact q p3 vs H2 H3 hv (fun v hv' => (ha v hv').same n2.same) (s1.trans n2.same) n3
end
section
variable {P : Program} {w : World} {K : PySem.W.Frag} {mg : Str → Option Value} {base : Heap}
theorem yl_new {k : Nat} {x m : Str} {C : Addr} {ok : List V → Hp → Prop} {i : Nat} {σ : L2.St} {H0 : Hp} {v : V} (D : ErrC P w K mg base k x C ok [m]) (hi : σ[i]? = some (some v)) (o : ∀ H, ok [v] H) : Yl (tXo K m (tErrV C ok [m] (tCons (tVar i) tNil))) v σ H0 := fun H Q s q => by
  rw [a_xo, a_errV, a_cons, a_var]
  refine ⟨_, hi, ?_⟩
  rw [a_nil]
  refine ⟨rfl, o H, fun a d Hm H2 n1 n2 => ?_⟩
  have x := XoF.mk' n1 n2
  exact ⟨a, C, d, _, v, rfl, x.a, x.d, by simp [List.zip, List.lookup], D.xf, D.no m (by simp), q H2 (n1.same.trans n2.same)⟩
theorem ylp_new {m : Str} {En : Str} {ok : List V → Hp → Prop} {te : TE} {σ : L2.St} {H0 : Hp} {v : V} (hE : En ∈ aloneL) (hv : ∀ H Q, Q v H → te σ H Q) (o : ∀ H, ok [v] H) : YlP K (tErrV (He.ga K En) ok [m] (tCons te tNil)) σ H0 := fun H Q s q => by
  rw [a_errV, a_cons]
  refine hv _ _ ?_
  rw [a_nil]
  refine ⟨rfl, o H, fun a d Hm H2 n1 n2 => q _ H2 (n1.same.trans n2.same) ⟨En, a, some d, hE, rfl, (XoF.mk' n1 n2).at_⟩⟩
theorem ylp_new0 {En : Str} {σ : L2.St} {H0 : Hp} (hE : En ∈ aloneL) : YlP K (tErrV0 (He.ga K En)) σ H0 := fun H Q s q => by
  rw [a_errV0]
  exact fun a H' n => q _ H' n.same ⟨En, a, none, hE, rfl, n.at_, trivial⟩
def sp_kept : Sp := fun vs H Q _ => ∃ (x y z : V) (dx dy dz : PyData) (nx ny nz : Nat), vs = [x, y, z] ∧ Lf x dx nx ∧ Lf y dy ny ∧ Lf z dz nz ∧ Sm x ∧ Sm y ∧ Sm z ∧ nx ≤ 100 ∧ ny ≤ 100 ∧ nz ≤ 100 ∧ ∀ H', Same H H' → Q (.bl true) H'
abbrev st_law_errors_kept : Stmt := topS 70
theorem sc_law_errors_kept : FnScope ["a", "b", "c", "number", "far", "many", "sizes", "short", "found", "due", "alone", "error"] ["a", "b", "c"] (defScope st_law_errors_kept) := ⟨rfl, rfl, rfl, by decide +kernel, rfl, by decide +kernel, by decide +kernel⟩
theorem ok_law_errors_kept (D : Df K mg "_law_errors_kept" st_law_errors_kept) (T : NoB mg) (C_law_aloneC : Cl P w K mg base 1 "_law_alone" ["error"] (sp_aloneO K mg)) (C_law_same : Cl P w K mg base 2 "_law_same" ["actual", "due"] sp_same) (ENL : ∀ x ∈ aloneL, ErN K mg x) (Er_BadNumber : ErT_BadNumber P w K mg base) (Er_NotAPoint : ErT_NotAPoint P w K mg base) (Er_NotAMove : ErT_NotAMove P w K mg base) (Er_TooMany : ErT_TooMany P w K mg base) (Er_UnlikeSizes : ErT_UnlikeSizes P w K mg base) (Er_RepeatedPoint : ErT_RepeatedPoint P w K mg base) (Er_BadText : ErT_BadText P w K mg base) (Er_NotMade : ErT_NotMade P w K mg base) (Er_NotTight : ErT_NotTight P w K mg base) (Er_NotFull : ErT_NotFull P w K mg base) (Er_NotAFailing : ErT_NotAFailing P w K mg base) (Er_NotNeighbours : ErT_NotNeighbours P w K mg base) (Er_NotShorter : ErT_NotShorter P w K mg base) (Er_SameLength : ErT_SameLength P w K mg base) (Er_NoSuchLength : ErT_NoSuchLength P w K mg base) (Er_NotAnOrder : ErT_NotAnOrder P w K mg base) (Er_NotAChain : ErT_NotAChain P w K mg base) (Er_NotABase : ErT_NotABase P w K mg base) (Er_NotInside : ErT_NotInside P w K mg base) (Er_OrderMatters : ErT_OrderMatters P w K mg base) (Er_FullLot : ErT_FullLot P w K mg base) (Er_NotAWord : ErT_NotAWord P w K mg base) (Er_NotAColumn : ErT_NotAColumn P w K mg base) (Er_NotACount : ErT_NotACount P w K mg base) (Er_GameOver : ErT_GameOver P w K mg base) (Er_NotAllowed : ErT_NotAllowed P w K mg base) (Er_NothingToUndo : ErT_NothingToUndo P w K mg base) (Er_NothingToRedo : ErT_NothingToRedo P w K mg base) (Er_NothingKept : ErT_NothingKept P w K mg base) (Er_BadEdit : ErT_BadEdit P w K mg base) (Er_UnknownName : ErT_UnknownName P w K mg base) (Er_NotAPaper : ErT_NotAPaper P w K mg base): Cl P w K mg base 5 "_law_errors_kept" ["a", "b", "c"] sp_kept := by
  refine cl_of D sc_law_errors_kept (fun _ _ _ _ _ _ us hl => match us, hl with | [_, _, _], _ => rfl) (fun vs H Q E h => ?_) (fun f cdv A outer sh H vs Q E hr h => ?_)
  · obtain ⟨_, _, _, _, _, _, _, _, _, rfl, _⟩ := h; rfl
  obtain ⟨x, y, z, dx, dy, dz, nx, ny, nz, rfl, lx, ly, lz, sx, sy, sz, hx, hy, hz, k⟩ := h
  refine ⟨_, (pss_cons (ps_set (i := 3) sc_law_errors_kept.nd rfl (Or.inl rfl) (pe_errV Er_BadNumber hr (by rfl) (pa_cons (pv 0) (pa_cons (pv 1) (pa_cons (pv 2) pa_nil)))))
    (pss_cons (ps_set (i := 4) sc_law_errors_kept.nd rfl (Or.inl rfl) (pe_errV Er_NoSuchLength hr (by rfl) (pa_cons (pv 2) (pa_cons (pv 1) (pa_cons (pv 0) pa_nil)))))
    (pss_cons (ps_set (i := 5) sc_law_errors_kept.nd rfl (Or.inl rfl) (pe_errV Er_TooMany hr (by rfl) (pa_cons pe_str (pa_cons (pv 1) pa_nil))))
    (pss_cons (ps_set (i := 6) sc_law_errors_kept.nd rfl (Or.inl rfl) (pe_errV Er_UnlikeSizes hr (by rfl) (pa_cons (pv 0) (pa_cons (pv 2) pa_nil))))
    (pss_cons (ps_set (i := 7) sc_law_errors_kept.nd rfl (Or.inl rfl) (pe_errV Er_NotShorter hr (by rfl) (pa_cons (pv 1) (pa_cons (pv 0) pa_nil))))
    (pss_cons (ps_set (i := 8) sc_law_errors_kept.nd rfl (Or.inl rfl) (pe_lst (pa_cons (pe_xO (pv 3)) (pa_cons (pe_xO (pv 3)) (pa_cons (pe_xO (pv 3)) (pa_cons (pe_xO (pv 4)) (pa_cons (pe_xO (pv 4)) (pa_cons (pe_xO (pv 4)) (pa_cons (pe_xO (pv 5)) (pa_cons (pe_xO (pv 5)) pa_nil))))))))))
    (pss_cons (ps_set (i := 8) sc_law_errors_kept.nd rfl (Or.inl rfl) (pe_op op_cat (pv 8) (pe_lst (pa_cons (pe_xO (pv 6)) (pa_cons (pe_xO (pv 6)) (pa_cons (pe_xO (pv 7)) (pa_cons (pe_xO (pv 7)) (pa_cons (pe_xO (pe_errV Er_NotAPoint hr (by rfl) (pa_cons (pv 0) pa_nil))) (pa_cons (pe_xO (pe_errV Er_NotAMove hr (by rfl) (pa_cons (pv 1) pa_nil))) pa_nil)))))))))
    (pss_cons (ps_set (i := 8) sc_law_errors_kept.nd rfl (Or.inl rfl) (pe_op op_cat (pv 8) (pe_lst (pa_cons (pe_xO (pe_errV Er_RepeatedPoint hr (by rfl) (pa_cons (pv 2) pa_nil))) (pa_cons (pe_xO (pe_errV Er_BadText hr (by rfl) (pa_cons (pv 0) pa_nil))) (pa_cons (pe_xO (pe_errV Er_NotMade hr (by rfl) (pa_cons (pv 1) pa_nil))) (pa_cons (pe_xO (pe_errV Er_NotTight hr (by rfl) (pa_cons (pv 2) pa_nil))) (pa_cons (pe_xO (pe_errV Er_NotFull hr (by rfl) (pa_cons (pv 0) pa_nil))) pa_nil))))))))
    (pss_cons (ps_set (i := 8) sc_law_errors_kept.nd rfl (Or.inl rfl) (pe_op op_cat (pv 8) (pe_lst (pa_cons (pe_xO (pe_errV Er_NotAFailing hr (by rfl) (pa_cons (pv 1) pa_nil))) (pa_cons (pe_xO (pe_errV Er_SameLength hr (by rfl) (pa_cons (pv 2) pa_nil))) (pa_cons (pe_xO (pe_errV Er_NotABase hr (by rfl) (pa_cons (pv 0) pa_nil))) (pa_cons (pe_xO (pe_errV Er_NotInside hr (by rfl) (pa_cons (pv 1) pa_nil))) pa_nil)))))))
    (pss_cons (ps_set (i := 8) sc_law_errors_kept.nd rfl (Or.inl rfl) (pe_op op_cat (pv 8) (pe_lst (pa_cons (pe_xO (pe_errV Er_OrderMatters hr (by rfl) (pa_cons (pv 2) pa_nil))) (pa_cons (pe_xO (pe_errV Er_FullLot hr (by rfl) (pa_cons (pv 0) pa_nil))) (pa_cons (pe_xO (pe_errV Er_NotAWord hr (by rfl) (pa_cons (pv 1) pa_nil))) (pa_cons (pe_xO (pe_errV Er_NotAColumn hr (by rfl) (pa_cons (pv 2) pa_nil))) pa_nil)))))))
    (pss_cons (ps_set (i := 8) sc_law_errors_kept.nd rfl (Or.inl rfl) (pe_op op_cat (pv 8) (pe_lst (pa_cons (pe_xO (pe_errV Er_NotACount hr (by rfl) (pa_cons (pv 0) pa_nil))) (pa_cons (pe_xO (pe_errV Er_GameOver hr (by rfl) (pa_cons (pv 1) pa_nil))) (pa_cons (pe_xO (pe_errV Er_NotAllowed hr (by rfl) (pa_cons (pv 2) pa_nil))) (pa_cons (pe_xO (pe_errV Er_BadEdit hr (by rfl) (pa_cons (pv 0) pa_nil))) pa_nil)))))))
    (pss_cons (ps_set (i := 9) sc_law_errors_kept.nd rfl (Or.inl rfl) (pe_op op_cat (pe_op op_cat (pe_lst (pa_cons (pv 0) (pa_cons (pv 1) (pa_cons (pv 2) (pa_cons (pv 2) (pa_cons (pv 1) (pa_cons (pv 0) (pa_cons pe_str (pa_cons (pv 1) (pa_cons (pv 0) (pa_cons (pv 2) (pa_cons (pv 1) (pa_cons (pv 0) pa_nil))))))))))))) (pe_op op_rep (pe_lst (pa_cons (pv 0) (pa_cons (pv 1) (pa_cons (pv 2) pa_nil)))) pe_int)) (pe_lst (pa_cons (pv 0) pa_nil))))
    (pss_cons (ps_set (i := 10) sc_law_errors_kept.nd rfl (Or.inl rfl) (pe_lst (pa_cons (pe_errV0 Er_NotNeighbours hr (by rfl)) (pa_cons (pe_errV0 Er_NotAnOrder hr (by rfl)) (pa_cons (pe_errV0 Er_NotAChain hr (by rfl)) (pa_cons (pe_errV0 Er_NothingToUndo hr (by rfl)) (pa_cons (pe_errV0 Er_NothingToRedo hr (by rfl)) (pa_cons (pe_errV0 Er_NothingKept hr (by rfl)) (pa_cons (pe_errV0 Er_NotAPaper hr (by rfl)) pa_nil)))))))))
    (pss_cons (ps_set (i := 10) sc_law_errors_kept.nd rfl (Or.inl rfl) (pe_op op_cat (pv 10) (pe_lst (pa_cons (pv 3) (pa_cons (pv 4) (pa_cons (pv 5) (pa_cons (pv 6) (pa_cons (pv 7) (pa_cons (pe_errV Er_UnknownName hr (by rfl) (pa_cons pe_str pa_nil)) (pa_cons (pe_errV Er_NotABase hr (by rfl) (pa_cons (pv 0) pa_nil)) (pa_cons (pe_errV Er_NotAColumn hr (by rfl) (pa_cons (pv 1) pa_nil)) pa_nil)))))))))))
    (pss_cons (ps_for PassesOwn.never rfl (pi_sq (pv 10)) (pg_name (i := 11) sc_law_errors_kept.nd rfl (Or.inl rfl)) (pss_one (ps_if (pt_not (pt_val (pe_cl C_law_aloneC hr (by rfl) (pa_cons (pv 11) pa_nil)))) (pss_one (ps_ret pe_bl)) pss_nil)))
    (pss_one (ps_ret (pe_and (pe_cl C_law_same hr (by rfl) (pa_cons (pv 8) (pa_cons (pv 9) pa_nil))) (pe_one (pe_cl C_law_same hr (by rfl) (pa_cons (pe_xO (pe_errV Er_UnknownName hr (by rfl) (pa_cons pe_str pa_nil))) (pa_cons pe_str pa_nil)))))))))))))))))))))), ?_⟩
  have shx : ∀ H : Hp, ShOk x H := fun H => dw_show (E := []) (.lf lx) sx
  have shy : ∀ H : Hp, ShOk y H := fun H => dw_show (E := []) (.lf ly) sy
  have shz : ∀ H : Hp, ShOk z H := fun H => dw_show (E := []) (.lf lz) sz
  walk_at "sn"
  refine ⟨⟨shx _, shy _, shz _, trivial⟩, fun a0 d0 M0 G0 p0 q0 => ?_⟩
  have x0 := XoF.mk' p0 q0
  have s0 := p0.same.trans q0.same
  walk_at "sn"
  refine ⟨⟨shz _, shy _, shx _, trivial⟩, fun a1 d1 M1 G1 p1 q1 => ?_⟩
  have x1 := XoF.mk' p1 q1
  have x0 := x0.same (p1.same.trans q1.same)
  have s1 := p1.same.trans q1.same
  walk_at "sn"
  refine ⟨⟨⟨_, rfl, by decide⟩, shy _, trivial⟩, fun a2 d2 M2 G2 p2 q2 => ?_⟩
  have x2 := XoF.mk' p2 q2
  have x0 := x0.same (p2.same.trans q2.same)
  have x1 := x1.same (p2.same.trans q2.same)
  have s2 := p2.same.trans q2.same
  walk_at "sn"
  refine ⟨⟨shx _, shz _, trivial⟩, fun a3 d3 M3 G3 p3 q3 => ?_⟩
  have x3 := XoF.mk' p3 q3
  have x0 := x0.same (p3.same.trans q3.same)
  have x1 := x1.same (p3.same.trans q3.same)
  have x2 := x2.same (p3.same.trans q3.same)
  have s3 := p3.same.trans q3.same
  walk_at "sn"
  refine ⟨⟨shy _, shx _, trivial⟩, fun a4 d4 M4 G4 p4 q4 => ?_⟩
  have x4 := XoF.mk' p4 q4
  have x0 := x0.same (p4.same.trans q4.same)
  have x1 := x1.same (p4.same.trans q4.same)
  have x2 := x2.same (p4.same.trans q4.same)
  have x3 := x3.same (p4.same.trans q4.same)
  have s4 := p4.same.trans q4.same
  have t4 := (((s0.trans s1).trans s2).trans s3).trans s4
  (try dsimp only); rw [a_seq]
  refine asg_lst (yl_cons (yl_att rfl x0 rfl Er_BadNumber.xf (Er_BadNumber.no _ (by decide))) (yl_cons (yl_att rfl x0 rfl Er_BadNumber.xf (Er_BadNumber.no _ (by decide))) (yl_cons (yl_att rfl x0 rfl Er_BadNumber.xf (Er_BadNumber.no _ (by decide))) (yl_cons (yl_att rfl x1 rfl Er_NoSuchLength.xf (Er_NoSuchLength.no _ (by decide))) (yl_cons (yl_att rfl x1 rfl Er_NoSuchLength.xf (Er_NoSuchLength.no _ (by decide))) (yl_cons (yl_att rfl x1 rfl Er_NoSuchLength.xf (Er_NoSuchLength.no _ (by decide))) (yl_cons (yl_att rfl x2 rfl Er_TooMany.xf (Er_TooMany.no _ (by decide))) (yl_cons (yl_att rfl x2 rfl Er_TooMany.xf (Er_TooMany.no _ (by decide))) yl_nil)))))))) (by simp) fun f0 G5 G6 s5 n6 => ?_
  have t6 := (t4.trans s5).trans n6.same
  have ef := n6.at_
  have x0 := x0.same (s5.trans n6.same)
  have x1 := x1.same (s5.trans n6.same)
  have x2 := x2.same (s5.trans n6.same)
  have x3 := x3.same (s5.trans n6.same)
  have x4 := x4.same (s5.trans n6.same)
  simp only [List.set_cons_zero, List.set_cons_succ]
  (try dsimp only); rw [a_seq]
  refine asg_cat (yl_cons (yl_att rfl x3 rfl Er_UnlikeSizes.xf (Er_UnlikeSizes.no _ (by decide))) (yl_cons (yl_att rfl x3 rfl Er_UnlikeSizes.xf (Er_UnlikeSizes.no _ (by decide))) (yl_cons (yl_att rfl x4 rfl Er_NotShorter.xf (Er_NotShorter.no _ (by decide))) (yl_cons (yl_att rfl x4 rfl Er_NotShorter.xf (Er_NotShorter.no _ (by decide))) (yl_cons (yl_new Er_NotAPoint rfl fun _ => ⟨shx _, trivial⟩) (yl_cons (yl_new Er_NotAMove rfl fun _ => ⟨shy _, trivial⟩) yl_nil)))))) rfl ef (by simp) fun f1 G7 G8 s7 n8 => ?_
  have t8 := (t6.trans s7).trans n8.same
  have ef := n8.at_
  have x0 := x0.same (s7.trans n8.same)
  have x1 := x1.same (s7.trans n8.same)
  have x2 := x2.same (s7.trans n8.same)
  have x3 := x3.same (s7.trans n8.same)
  have x4 := x4.same (s7.trans n8.same)
  simp only [List.set_cons_zero, List.set_cons_succ]
  (try dsimp only); rw [a_seq]
  refine asg_cat (yl_cons (yl_new Er_RepeatedPoint rfl fun _ => ⟨shz _, trivial⟩) (yl_cons (yl_new Er_BadText rfl fun _ => ⟨shx _, trivial⟩) (yl_cons (yl_new Er_NotMade rfl fun _ => ⟨trivial, trivial⟩) (yl_cons (yl_new Er_NotTight rfl fun _ => ⟨shz _, trivial⟩) (yl_cons (yl_new Er_NotFull rfl fun _ => ⟨shx _, trivial⟩) yl_nil))))) rfl ef (by simp) fun f2 G9 G10 s9 n10 => ?_
  have t10 := (t8.trans s9).trans n10.same
  have ef := n10.at_
  have x0 := x0.same (s9.trans n10.same)
  have x1 := x1.same (s9.trans n10.same)
  have x2 := x2.same (s9.trans n10.same)
  have x3 := x3.same (s9.trans n10.same)
  have x4 := x4.same (s9.trans n10.same)
  simp only [List.set_cons_zero, List.set_cons_succ]
  (try dsimp only); rw [a_seq]
  refine asg_cat (yl_cons (yl_new Er_NotAFailing rfl fun _ => ⟨shy _, trivial⟩) (yl_cons (yl_new Er_SameLength rfl fun _ => ⟨shz _, trivial⟩) (yl_cons (yl_new Er_NotABase rfl fun _ => ⟨shx _, trivial⟩) (yl_cons (yl_new Er_NotInside rfl fun _ => ⟨shy _, trivial⟩) yl_nil)))) rfl ef (by simp) fun f3 G11 G12 s11 n12 => ?_
  have t12 := (t10.trans s11).trans n12.same
  have ef := n12.at_
  have x0 := x0.same (s11.trans n12.same)
  have x1 := x1.same (s11.trans n12.same)
  have x2 := x2.same (s11.trans n12.same)
  have x3 := x3.same (s11.trans n12.same)
  have x4 := x4.same (s11.trans n12.same)
  simp only [List.set_cons_zero, List.set_cons_succ]
  (try dsimp only); rw [a_seq]
  refine asg_cat (yl_cons (yl_new Er_OrderMatters rfl fun _ => ⟨trivial, trivial⟩) (yl_cons (yl_new Er_FullLot rfl fun _ => ⟨trivial, trivial⟩) (yl_cons (yl_new Er_NotAWord rfl fun _ => ⟨shy _, trivial⟩) (yl_cons (yl_new Er_NotAColumn rfl fun _ => ⟨shz _, trivial⟩) yl_nil)))) rfl ef (by simp) fun f4 G13 G14 s13 n14 => ?_
  have t14 := (t12.trans s13).trans n14.same
  have ef := n14.at_
  have x0 := x0.same (s13.trans n14.same)
  have x1 := x1.same (s13.trans n14.same)
  have x2 := x2.same (s13.trans n14.same)
  have x3 := x3.same (s13.trans n14.same)
  have x4 := x4.same (s13.trans n14.same)
  simp only [List.set_cons_zero, List.set_cons_succ]
  (try dsimp only); rw [a_seq]
  refine asg_cat (yl_cons (yl_new Er_NotACount rfl fun _ => ⟨shx _, trivial⟩) (yl_cons (yl_new Er_GameOver rfl fun _ => ⟨shy _, trivial⟩) (yl_cons (yl_new Er_NotAllowed rfl fun _ => ⟨shz _, trivial⟩) (yl_cons (yl_new Er_BadEdit rfl fun _ => ⟨shx _, trivial⟩) yl_nil)))) rfl ef (by simp) fun f5 G15 G16 s15 n16 => ?_
  have t16 := (t14.trans s15).trans n16.same
  have ef := n16.at_
  have x0 := x0.same (s15.trans n16.same)
  have x1 := x1.same (s15.trans n16.same)
  have x2 := x2.same (s15.trans n16.same)
  have x3 := x3.same (s15.trans n16.same)
  have x4 := x4.same (s15.trans n16.same)
  simp only [List.set_cons_zero, List.set_cons_succ]
  have ef0 := ef
  walk_at "sn"
  refine ⟨szl (by decide), fun l1 B1 b1 => ⟨szl (by decide), fun l2 B2 b2 => ⟨_, b2.at_, by decide, by decide, by rw [sizeLine_eq]; simp, fun l3 B3 b3 => ?_⟩⟩⟩
  have w3 := (b1.same.trans b2.same).trans b3.same
  walk_at "wn"
  refine ⟨_, b3.k (b2.k b1.at_), _, b3.at_, by rw [sizeLine_eq]; simp, fun l4 B4 b4 => ⟨szl (by decide), fun l5 B5 b5 => ⟨_, b5.k b4.at_, _, b5.at_, by rw [sizeLine_eq]; simp, fun l6 B6 b6 => ?_⟩⟩⟩
  have ed := b6.at_
  have w6 := ((w3.trans b4.same).trans b5.same).trans b6.same
  have ef := w6 _ _ ef0
  have x0 := x0.same w6
  have x1 := x1.same w6
  have x2 := x2.same w6
  have x3 := x3.same w6
  have x4 := x4.same w6
  have t0 := t16.trans w6
  (try dsimp only); rw [a_seq]
  refine asg_lstP (n := 7) (ylp_cons (ylp_new0 (by decide)) (ylp_cons (ylp_new0 (by decide)) (ylp_cons (ylp_new0 (by decide)) (ylp_cons (ylp_new0 (by decide)) (ylp_cons (ylp_new0 (by decide)) (ylp_cons (ylp_new0 (by decide)) (ylp_cons (ylp_new0 (by decide)) ylp_nil))))))) (by decide) fun l7 vs7 C1 C2 hl7 al7 u1 c2 => ?_
  have u2 := u1.trans c2.same
  have al7 := fun v hv => (al7 v hv).same c2.same
  have ed := u2 _ _ ed
  have ef := u2 _ _ ef
  have x0 := x0.same u2
  have x1 := x1.same u2
  have x2 := x2.same u2
  have x3 := x3.same u2
  have x4 := x4.same u2
  simp only [List.set_cons_zero, List.set_cons_succ]
  (try dsimp only); rw [a_seq]
  refine asg_catP (n := 8) (ylp_cons (ylp_var rfl x0.at_ (by decide)) (ylp_cons (ylp_var rfl x1.at_ (by decide)) (ylp_cons (ylp_var rfl x2.at_ (by decide)) (ylp_cons (ylp_var rfl x3.at_ (by decide)) (ylp_cons (ylp_var rfl x4.at_ (by decide)) (ylp_cons (ylp_new (by decide) (fun H Q q => q) fun _ => ⟨trivial, trivial⟩) (ylp_cons (ylp_new (by decide) (fun H Q q => ⟨_, rfl, q⟩) fun _ => ⟨shx _, trivial⟩) (ylp_cons (ylp_new (by decide) (fun H Q q => ⟨_, rfl, q⟩) fun _ => ⟨shy _, trivial⟩) ylp_nil)))))))) rfl c2.at_ (by rw [hl7]; decide) fun l8 vs8 C3 C4 hl8 al8 u3 c4 => ?_
  have u4 := u3.trans c4.same
  have al : ∀ v ∈ vs7 ++ vs8, AlO K C4 v := fun v hv => by
    rcases List.mem_append.mp hv with h | h
    · exact (al7 v h).same u4
    · exact (al8 v h).same c4.same
  have ed := u4 _ _ ed
  have ef := u4 _ _ ef
  have t9 := (t0.trans u2).trans u4
  have one : ∀ En ∈ aloneL, (errNames.filter fun z => decide (z = En)).length = 1 := by decide +kernel
  simp only [List.set_cons_zero, List.set_cons_succ]
  walk_at "sn"
  refine fs_by (sq_l c4.at_) (fun i σ H' => Same C4 H' ∧ ∃ v11 : Option V, σ = [some x, some y, some z, some (.ref a0), some (.ref a1), some (.ref a2), some (.ref a3), some (.ref a4), some (.ref f5), some (.ref l6), some (.ref l8), v11]) ⟨Same.refl _, _, rfl⟩ (fun i σ' H' f o ho => by rw [c4.at_] at ho; cases ho; exact f.1 _ _ c4.at_) ?_ ?_
  · rintro i v _ H5 N hN hv ⟨s5', v11, rfl⟩
    obtain ⟨En, ea, ed', hE, rfl, hxo⟩ := al v (List.mem_of_getElem? hv)
    walk_at "wn"
    refine ⟨En, ea, ed', ENL En hE, one En hE, rfl, hxo.same s5', fun H6 s6' => ?_⟩
    walk_at "wn"
    exact hN _ _ ⟨s5'.trans s6', _, rfl⟩
  · rintro _ H5 ⟨s5', v11, rfl⟩
    have ed := s5' _ _ ed
    have ef := s5' _ _ ef
    have dv : ∀ (H : Hp) (v : V), v ∈ [x, y, z, .str "row"] → ∃ d n, Dw [] H v d n ∧ n ≤ 100 := fun H v hv => by
      simp only [List.mem_cons, List.not_mem_nil, or_false] at hv
      rcases hv with rfl | rfl | rfl | rfl
      · exact ⟨_, _, .lf lx, hx⟩
      · exact ⟨_, _, .lf ly, hy⟩
      · exact ⟨_, _, .lf lz, hz⟩
      · exact ⟨_, _, .lf (.str "row"), by decide⟩
    walk_at "wn"
    have ef2 : H5 f5 = some (.lst [x, y, z, z, y, x, V.str "row", y, x, z, y, x, x, y, z, x, y, z, x, y, z, x, y, z, x, y, z, x, y, z, x]) := ef
    have ed2 : H5 l6 = some (.lst [x, y, z, z, y, x, V.str "row", y, x, z, y, x, x, y, z, x, y, z, x, y, z, x, y, z, x, y, z, x, y, z, x]) := ed
    obtain ⟨ds, nw, hw1, hw2⟩ := DwAll.of (E := []) (H := H5) (b := 100) (v := [x, y, z, z, y, x, V.str "row", y, x, z, y, x, x, y, z, x, y, z, x, y, z, x, y, z, x, y, z, x, y, z, x]) (fun v hv => dv H5 v (by
      simp only [List.mem_cons, List.not_mem_nil, or_false] at hv ⊢
      rcases hv with h | h | h | h | h | h | h | h | h | h | h | h | h | h | h | h | h | h | h | h | h | h | h | h | h | h | h | h | h | h | h <;> first | exact .inl h | exact .inr (.inl h) | exact .inr (.inr (.inl h)) | exact .inr (.inr (.inr h))))
    refine ⟨.ref f5, .ref l6, .list ds, nw + 1, nw + 1, rfl, .lst (by simp) ef2 hw1, .lst (by simp) ed2 hw1, by simp at hw2; omega, fun H6 s6' => ?_⟩
    refine ⟨true, rfl, ?_⟩
    rw [if_pos rfl]
    refine ⟨⟨trivial, trivial⟩, fun e d Hm H7 p7 q7 => ?_⟩
    have x7 := XoF.mk' p7 q7
    refine ⟨_, _, x7.a, _, x7.d, .str "ab", by simp [List.zip, List.lookup], Er_UnknownName.xf, Er_UnknownName.no _ (by decide), ?_⟩
    exact ⟨.str "ab", .str "ab", .str "ab", _, _, rfl, .lf (.str "ab"), .lf (.str "ab"), by decide, fun H8 s8' => k H8 (((((t9.trans s5').trans s6').trans p7.same).trans q7.same).trans s8')⟩
end

/-! ## N6 -/
local macro_rules | `(tactic| walk_at "wp") => `(tactic| (try simp only [a_var, a_c, a_op, a_un, a_test, a_b, a_and, a_or, a_not, a_andV, a_orV, a_notV, a_if, a_next, a_seq, a_break, a_cont, a_drop, a_ret, a_retN, a_ifS, a_asg, a_name, a_sub, a_nil, a_cons, a_tup, a_lst, a_call, a_cb, a_bm0, a_bm, a_sl, a_nopart, a_part, a_aug, b_rI, b_rI0, b_rU, b_eq, b_ne, b_isTF, b_int, b_intb, b_list, b_tuple, b_ix, b_len, b_setL, b_app, b_pop, b_popAt, b_sl, b_rep, b_cat, b_lstRg, b_tupRg, b_rg1, b_rg2, a_forR, a_forR2, a_forS, b_fsq, a_lcR, a_lcR2, a_lcS, b_csq, wipe_nil, wipe_cons, a_yes, wh_i, wh_s, wh_b, wh_r, wh_n, Bool.not_eq_true, eq_self, not_true_eq_false, not_false_eq_true, b_isi, kb_all, ty_non, ty_bl, ty_int, ty_str, a_m1, b_ixS, b_slS, List.cons.injEq, and_assoc, exists_and_left, cxK, List.getElem?_cons_zero, List.getElem?_cons_succ, List.set_cons_zero, List.set_cons_succ, Option.some.injEq, exists_eq_left', exists_eq_left, V.bl.injEq, V.int.injEq, V.ref.injEq, V.str.injEq, HO.lst.injEq, HO.tup.injEq, decide_eq_true_eq, true_and, and_true, L2.start, List.map_cons, List.map_nil, List.length_cons, List.length_nil, Nat.zero_add, Nat.reduceAdd, Nat.reduceSub, List.replicate_succ, List.replicate_zero, List.cons_append, List.nil_append, if_true, if_false, Bool.false_eq_true, Bool.not_true, Bool.not_false, decide_not, Bool.not_eq_true', decide_eq_false_iff_not, scal_ii, scal_bb, scal_ss, scal_is, scal_si, reduceCtorEq, Bool.true_eq_false, decide_false, decide_true, if_pos, ne_eq, Int.reduceNeg, atI_0, atI_1, atI_2, atI_3, atI_4, atI_5, atI_6, ixN_7, b_ins, a_revL, b_isT, V.ty.injEq, Bool.true_or, Bool.or_true, Bool.false_or, Bool.or_false, Bool.or_self, b_sorted, b_repT, a_err, a_callS, a_xp, a_isP, a_lcE, a_forE, a_isV, a_lcH, a_ch, a_forES, a_lcG]))
local macro_rules | `(tactic| walk_at "wps") => `(tactic| (try simp only [a_var, a_c, a_op, a_un, a_test, a_b, a_and, a_or, a_not, a_andV, a_orV, a_notV, a_if, a_next, a_seq, a_break, a_cont, a_drop, a_ret, a_retN, a_ifS, a_asg, a_name, a_sub, a_nil, a_cons, a_tup, a_lst, a_call, a_cb, a_bm0, a_bm, a_sl, a_nopart, a_part, a_aug, b_rI, b_rI0, b_rU, b_eq, b_ne, b_isTF, b_int, b_intb, b_list, b_tuple, b_ix, b_len, b_setL, b_app, b_pop, b_popAt, b_sl, b_rep, b_cat, b_lstRg, b_tupRg, b_rg1, b_rg2, a_forR, a_forR2, a_forS, b_fsq, a_lcR, a_lcR2, a_lcS, b_csq, wipe_nil, wipe_cons, a_yes, wh_i, wh_s, wh_b, wh_r, wh_n, Bool.not_eq_true, eq_self, not_true_eq_false, not_false_eq_true, b_isi, kb_all, ty_non, ty_bl, ty_int, ty_str, a_m1, b_ixS, b_slS, List.cons.injEq, and_assoc, exists_and_left, cxK, List.getElem?_cons_zero, List.getElem?_cons_succ, List.set_cons_zero, List.set_cons_succ, Option.some.injEq, exists_eq_left', exists_eq_left, V.bl.injEq, V.int.injEq, V.ref.injEq, V.str.injEq, HO.lst.injEq, HO.tup.injEq, decide_eq_true_eq, true_and, and_true, L2.start, List.map_cons, List.map_nil, List.length_cons, List.length_nil, Nat.zero_add, Nat.reduceAdd, Nat.reduceSub, List.replicate_succ, List.replicate_zero, List.cons_append, List.nil_append, if_true, if_false, Bool.false_eq_true, Bool.not_true, Bool.not_false, decide_not, Bool.not_eq_true', decide_eq_false_iff_not, scal_ii, scal_bb, scal_ss, scal_is, scal_si, reduceCtorEq, Bool.true_eq_false, decide_false, decide_true, if_pos, ne_eq, Int.reduceNeg, atI_0, atI_1, atI_2, atI_3, atI_4, atI_5, atI_6, ixN_7, b_ins, a_revL, b_isT, V.ty.injEq, Bool.true_or, Bool.or_true, Bool.false_or, Bool.or_false, Bool.or_self, b_sorted, b_repT, a_err, a_callS, a_xp, a_isP, a_lcE, a_forE, a_isV, a_lcH, a_ch, a_forES, a_lcG, *]))
local macro_rules | `(tactic| walk_at "wq") => `(tactic| (try simp only [a_var, a_c, a_op, a_un, a_test, a_b, a_and, a_or, a_not, a_andV, a_orV, a_notV, a_if, a_next, a_break, a_cont, a_drop, a_ret, a_retN, a_ifS, a_asg, a_name, a_sub, a_nil, a_cons, a_tup, a_lst, a_call, a_cb, a_bm0, a_bm, a_sl, a_nopart, a_part, a_aug, b_rI, b_rI0, b_rU, b_eq, b_ne, b_isTF, b_int, b_intb, b_list, b_tuple, b_ix, b_len, b_setL, b_app, b_pop, b_popAt, b_sl, b_rep, b_cat, b_lstRg, b_tupRg, b_rg1, b_rg2, a_forR, a_forR2, a_forS, b_fsq, a_lcR, a_lcR2, a_lcS, b_csq, wipe_nil, wipe_cons, a_yes, wh_i, wh_s, wh_b, wh_r, wh_n, Bool.not_eq_true, eq_self, not_true_eq_false, not_false_eq_true, b_isi, kb_all, ty_non, ty_bl, ty_int, ty_str, a_m1, b_ixS, b_slS, List.cons.injEq, and_assoc, exists_and_left, cxK, List.getElem?_cons_zero, List.getElem?_cons_succ, List.set_cons_zero, List.set_cons_succ, Option.some.injEq, exists_eq_left', exists_eq_left, V.bl.injEq, V.int.injEq, V.ref.injEq, V.str.injEq, HO.lst.injEq, HO.tup.injEq, decide_eq_true_eq, true_and, and_true, L2.start, List.map_cons, List.map_nil, List.length_cons, List.length_nil, Nat.zero_add, Nat.reduceAdd, Nat.reduceSub, List.replicate_succ, List.replicate_zero, List.cons_append, List.nil_append, if_true, if_false, Bool.false_eq_true, Bool.not_true, Bool.not_false, decide_not, Bool.not_eq_true', decide_eq_false_iff_not, scal_ii, scal_bb, scal_ss, scal_is, scal_si, reduceCtorEq, Bool.true_eq_false, decide_false, decide_true, if_pos, ne_eq, Int.reduceNeg, atI_0, atI_1, atI_2, atI_3, atI_4, atI_5, atI_6, ixN_7, b_ins, a_revL, b_isT, V.ty.injEq, Bool.true_or, Bool.or_true, Bool.false_or, Bool.or_false, Bool.or_self, b_sorted, b_repT, a_err, a_callS, a_xp, a_isP, a_lcE, a_forE, a_isV, a_lcH, a_ch, a_forES, a_lcG, *]))
local macro_rules | `(tactic| walk_at "wn") => `(tactic| (try simp only [a_var, a_c, a_op, a_un, a_test, a_b, a_and, a_or, a_not, a_andV, a_orV, a_notV, a_if, a_next, a_break, a_cont, a_drop, a_ret, a_retN, a_ifS, a_asg, a_name, a_sub, a_nil, a_cons, a_tup, a_lst, a_call, a_cb, a_bm0, a_bm, a_sl, a_nopart, a_part, a_aug, b_rI, b_rI0, b_rU, b_eq, b_ne, b_isTF, b_int, b_intb, b_list, b_tuple, b_ix, b_len, b_setL, b_app, b_pop, b_popAt, b_sl, b_rep, b_cat, b_lstRg, b_tupRg, b_rg1, b_rg2, a_forR, a_forR2, a_forS, b_fsq, a_lcR, a_lcR2, a_lcS, b_csq, wipe_nil, wipe_cons, a_yes, wh_i, wh_s, wh_b, wh_r, wh_n, Bool.not_eq_true, eq_self, not_true_eq_false, not_false_eq_true, b_isi, kb_all, ty_non, ty_bl, ty_int, ty_str, a_m1, b_ixS, b_slS, List.cons.injEq, and_assoc, exists_and_left, cxK, List.getElem?_cons_zero, List.getElem?_cons_succ, List.set_cons_zero, List.set_cons_succ, Option.some.injEq, exists_eq_left', exists_eq_left, V.bl.injEq, V.int.injEq, V.ref.injEq, V.str.injEq, HO.lst.injEq, HO.tup.injEq, decide_eq_true_eq, true_and, and_true, L2.start, List.map_cons, List.map_nil, List.length_cons, List.length_nil, Nat.zero_add, Nat.reduceAdd, Nat.reduceSub, List.replicate_succ, List.replicate_zero, List.cons_append, List.nil_append, if_true, if_false, Bool.false_eq_true, Bool.not_true, Bool.not_false, decide_not, Bool.not_eq_true', decide_eq_false_iff_not, scal_ii, scal_bb, scal_ss, scal_is, scal_si, reduceCtorEq, Bool.true_eq_false, decide_false, decide_true, if_pos, ne_eq, Int.reduceNeg, atI_0, atI_1, atI_2, atI_3, atI_4, atI_5, atI_6, ixN_7, b_ins, a_revL, b_isT, V.ty.injEq, Bool.true_or, Bool.or_true, Bool.false_or, Bool.or_false, Bool.or_self, b_sorted, b_repT, a_err, a_callS, a_xp, a_isP, a_lcE, a_forE, a_isV, a_lcH, a_ch, a_forES, a_lcG]))
local macro_rules | `(tactic| walk_at "sq") => `(tactic| ((try dsimp only); rw [a_seq]; walk_at "wq"))
local macro_rules | `(tactic| walk_at "sn") => `(tactic| ((try dsimp only); rw [a_seq]; walk_at "wn"))

def sp_law (K : PySem.W.Frag) : Sp := fun vs H Q _ => ∃ (a : Addr) (ns : List Int), vs = [.ref a] ∧ SqL K H a (ns.map V.int) ∧ ns.length ≤ 63 ∧ ∀ H', Q (.bl true) H'
/-- a pair of values that may be composed -/
def PairOk (s : Addr) (H : Hp) (x : V) : Prop := ∃ (t : Addr) (u v : V), x = .ref t ∧ H t = some (.tup [u, v]) ∧ Db [s] H 150 u ∧ Db [s] H 150 v
theorem PairOk.same {s : Addr} {H H' : Hp} {x : V} (h : PairOk s H x) (f : Same H H') : PairOk s H' x := by
  obtain ⟨t, u, v, h1, h2, h3, h4⟩ := h
  exact ⟨t, u, v, h1, f _ _ h2, h3.same f, h4.same f⟩
theorem sto_lv {s l : Addr} {H : Hp} (h : Sto s l H) : Lv [s] H := fun x hx => by
  obtain ⟨cs, i1, i2, i3, i4, i5, i6, e, _⟩ := h
  rw [List.mem_singleton.mp hx, e]; exact fun z => by cases z
section
variable {P : Program} {w : World} {K : PySem.W.Frag} {mg : Str → Option Value} {base : Heap}
abbrev stlaw : Stmt := topS 71
theorem sclaw : FnScope ["script", "store", "points", "moves", "one", "two", "near", "pair", "value", "both", "back", "k"] ["script"] (defScope stlaw) := ⟨rfl, rfl, rfl, by decide +kernel, rfl, by decide +kernel, by decide +kernel⟩
theorem oklaw {f : Addr} {fd : FuncData} (F : FnP K "law" stlaw f fd) (T : NoB mg) (C_law_argument : Cl P w K mg base 7 "_law_argument" ["store", "move"] sp_arg) (C_law_composes : Cl P w K mg base 11 "_law_composes" ["one", "two"] sp_composes) (C_law_errors_kept : Cl P w K mg base 5 "_law_errors_kept" ["a", "b", "c"] sp_kept) (C_law_leaf : Cl P w K mg base 5 "_law_leaf" ["store"] sp_leaf) (C_law_move : Cl P w K mg base 4 "_law_move" ["store", "points"] sp_move) (C_law_move_fitsP : Cl P w K mg base 2 "_law_move_fits" ["value", "points"] sp_fitsP) (C_law_place : Cl P w K mg base 3 "_law_place" ["store", "size"] sp_place) (C_law_same : Cl P w K mg base 2 "_law_same" ["actual", "due"] sp_same) (C_law_store : Cl P w K mg base 1 "_law_store" ["script"] (sp_store K)) (C_law_undoes : Cl P w K mg base 11 "_law_undoes" ["value"] sp_undoes) (C_law_whole : Cl P w K mg base 4 "_law_whole" ["store"] sp_whole) (Ccompose : ClX P w K mg base 6 "compose" ["first", "second"] (sp_comp K)) (Copposite : ClX P w K mg base 5 "opposite" ["move"] (sp_opp K)) : FnOk P w K mg base CX0 13 f fd ["script"] (sp_law K) := by
  refine fn_ofF F sclaw (fun vs H Q E h => ?_) (fun f cdv A outer sh H vs Q E hr h => ?_)
  · obtain ⟨_, _, rfl, _⟩ := h; rfl
  obtain ⟨a, cells, rfl, hs, hn, k⟩ := h
  refine ⟨_, (pss_cons (ps_set (i := 1) sclaw.nd rfl (Or.inr rfl) (pe_cl C_law_store hr (by rfl) (pa_cons (pv 0) pa_nil)))
    (pss_cons (ps_set (i := 2) sclaw.nd rfl (Or.inr rfl) (pe_cl C_law_place hr (by rfl) (pa_cons (pv 1) (pa_cons pe_int pa_nil))))
    (pss_cons (ps_setLc (i := 3) (own := [("k", 11)]) (g := gName 11) (tt := tYes) rfl sclaw.nd rfl rfl (sw_true rfl rfl rfl (by decide +kernel)) (pi_range1 (by rfl) T.no_range (pa_cons pe_int pa_nil)) (blkOk_by (own := [("k", 11)]) (N := ["script", "store", "points", "moves", "one", "two", "near", "pair", "value", "both", "back", "k"]) (sc := defScope stlaw) (by decide +kernel)) (fun _ _ _ _ _ => (pg_name (i := 11) sclaw.nd rfl (Or.inl rfl))) (fun _ _ _ _ _ => pts_nil) (fun _ _ _ _ _ => (pe_cl C_law_move hr (by rfl) (pa_cons (pv 1) (pa_cons (pv 2) pa_nil)))))
    (pss_cons (ps_set (i := 4) sclaw.nd rfl (Or.inl rfl) (pe_cl C_law_argument hr (by rfl) (pa_cons (pv 1) (pa_cons (pe_ix ix1 (pv 3) pe_int (fun _ _ => rfl)) pa_nil))))
    (pss_cons (ps_set (i := 5) sclaw.nd rfl (Or.inl rfl) (pe_cl C_law_argument hr (by rfl) (pa_cons (pv 1) (pa_cons (pe_ix ix1 (pv 3) pe_int (fun _ _ => rfl)) pa_nil))))
    (pss_cons (ps_set (i := 6) sclaw.nd rfl (Or.inl rfl) (pe_lst (pa_cons (pe_tup (pa_cons (pv 4) (pa_cons (pv 5) pa_nil))) (pa_cons (pe_tup (pa_cons (pe_ix ix1 (pv 3) pe_int (fun _ _ => rfl)) (pa_cons (pe_ix ix1 (pv 3) pe_int (fun _ _ => rfl)) pa_nil))) (pa_cons (pe_tup (pa_cons (pv 4) (pa_cons (pe_ix ix1 (pv 3) pe_int (fun _ _ => rfl)) pa_nil))) (pa_cons (pe_tup (pa_cons (pe_ix ix1 (pv 3) pe_int (fun _ _ => rfl)) (pa_cons (pv 5) pa_nil))) (pa_cons (pe_tup (pa_cons (pv 5) (pa_cons (pv 4) pa_nil))) (pa_cons (pe_tup (pa_cons (pe_ix ix1 (pv 3) pe_int (fun _ _ => rfl)) (pa_cons (pe_ix ix1 (pv 3) pe_int (fun _ _ => rfl)) pa_nil))) pa_nil))))))))
    (pss_cons (ps_for PassesOwn.never rfl (pi_sq (pe_op op_cat (pv 6) (pe_lst (pa_cons (pe_tup (pa_cons (pe_ix ix1 (pv 3) pe_int (fun _ _ => rfl)) (pa_cons (pe_ix ix1 (pv 3) pe_int (fun _ _ => rfl)) pa_nil))) (pa_cons (pe_tup (pa_cons (pv 4) (pa_cons (pv 4) pa_nil))) (pa_cons (pe_tup (pa_cons (pe_ix ix1 (pv 3) pe_int (fun _ _ => rfl)) (pa_cons (pe_ix ix1 (pv 3) pe_int (fun _ _ => rfl)) pa_nil))) pa_nil)))))) (pg_name (i := 7) sclaw.nd rfl (Or.inl rfl)) (pss_one (ps_if (pt_not (pt_val (pe_cl C_law_composes hr (by rfl) (pa_cons (pe_ix ix1 (pv 7) pe_int (fun _ _ => rfl)) (pa_cons (pe_ix ix1 (pv 7) pe_int (fun _ _ => rfl)) pa_nil))))) (pss_one (ps_ret pe_bl)) pss_nil)))
    (pss_cons (ps_for PassesOwn.never rfl (pi_sq (pe_op op_cat (pe_op op_cat (pe_lst (pa_cons (pv 4) (pa_cons (pv 5) pa_nil))) (pv 3)) (pe_lst (pa_cons (pv 4) pa_nil)))) (pg_name (i := 8) sclaw.nd rfl (Or.inl rfl)) (pss_one (ps_if (pt_not (pt_val (pe_cl C_law_undoes hr (by rfl) (pa_cons (pv 8) pa_nil)))) (pss_one (ps_ret pe_bl)) pss_nil)))
    (pss_cons (ps_set (i := 9) sclaw.nd rfl (Or.inl rfl) (pe_clX Ccompose takesN0 hr (by rfl) (pa_cons (pe_ix ix1 (pv 3) pe_int (fun _ _ => rfl)) (pa_cons (pe_ix ix1 (pv 3) pe_int (fun _ _ => rfl)) pa_nil))))
    (pss_cons (ps_if (pt_not (pt_val (pe_cl C_law_same hr (by rfl) (pa_cons (pe_clX Ccompose takesN0 hr (by rfl) (pa_cons (pv 9) (pa_cons (pe_ix ix1 (pv 3) pe_int (fun _ _ => rfl)) pa_nil))) (pa_cons (pe_clX Ccompose takesN0 hr (by rfl) (pa_cons (pe_ix ix1 (pv 3) pe_int (fun _ _ => rfl)) (pa_cons (pe_clX Ccompose takesN0 hr (by rfl) (pa_cons (pe_ix ix1 (pv 3) pe_int (fun _ _ => rfl)) (pa_cons (pe_ix ix1 (pv 3) pe_int (fun _ _ => rfl)) pa_nil))) pa_nil))) pa_nil))))) (pss_one (ps_ret pe_bl)) pss_nil)
    (pss_cons (ps_set (i := 10) sclaw.nd rfl (Or.inl rfl) (pe_clX Ccompose takesN0 hr (by rfl) (pa_cons (pe_clX Copposite takesN0 hr (by rfl) (pa_cons (pe_ix ix1 (pv 3) pe_int (fun _ _ => rfl)) pa_nil)) (pa_cons (pe_clX Copposite takesN0 hr (by rfl) (pa_cons (pe_ix ix1 (pv 3) pe_int (fun _ _ => rfl)) pa_nil)) pa_nil))))
    (pss_cons (ps_if (PW.pt (pw_or (pt_not (pt_val (pe_cl C_law_move_fitsP hr (by rfl) (pa_cons (pv 10) (pa_cons (pv 2) pa_nil))))) (pw_or1 (pt_not (pt_val (pe_cl C_law_same hr (by rfl) (pa_cons (pe_clX Copposite takesN0 hr (by rfl) (pa_cons (pv 9) pa_nil)) (pa_cons (pv 10) pa_nil)))))))) (pss_one (ps_ret pe_bl)) pss_nil)
    (pss_cons (ps_if (pt_not (pt_val (pe_cl C_law_errors_kept hr (by rfl) (pa_cons (pe_cl C_law_whole hr (by rfl) (pa_cons (pv 1) pa_nil)) (pa_cons (pe_cl C_law_leaf hr (by rfl) (pa_cons (pv 1) pa_nil)) (pa_cons (pv 2) pa_nil)))))) (pss_one (ps_ret pe_bl)) pss_nil)
    (pss_one (ps_ret (pe_cl C_law_same hr (by rfl) (pa_cons (pe_clX Ccompose takesN0 hr (by rfl) (pa_cons (pv 9) (pa_cons (pv 10) pa_nil))) (pa_cons (pe_tupRg rfl (by rfl) T.no_tuple (prg_1 (by rfl) T.no_range (pv 2))) pa_nil)))))))))))))))))), ?_⟩
  walk_at "sn"
  refine ⟨a, cells, rfl, hs, by omega, fun s l H1 s1 hs1 st => ?_⟩
  walk_at "sn"
  refine ⟨s, l, _, rfl, st, by decide, by decide, fun n H2 g2 n0 n1 => ?_⟩
  walk_at "sn"
  refine ⟨by decide, by decide, ?_⟩
  refine cr_by (fun C i acc H' => Ge s l H2 H' ∧ ∃ ms : List (Addr × List Int), acc = ms.map (fun q => V.ref q.1) ∧ ms.length = i ∧ ∀ q ∈ ms, H2 q.1 = none ∧ H' q.1 = some (.tup (q.2.map V.int)) ∧ q.2.Perm (rng n.toNat)) (fun C H0 n0' => ⟨(Ge.refl g2.st).new n0', [], rfl, rfl, by simp⟩) ?_ ?_
  · rintro C i acc H3 N hC hi hacc ⟨g3, ms, rfl, hml, hm⟩ hN
    refine ⟨rfl, ?_⟩
    walk_at "wn"
    refine ⟨s, l, n, rfl, g3.st, n0, by omega, fun q ns H4 g34 hq eq hp => ?_⟩
    have eC := g34.at g2.st hC hacc
    refine cst eC (by rw [List.length_map, sizeLine_eq]; omega) fun H5 p5 => hN _ _ p5.at_ ⟨(g3.trans g34).put g2.st hC p5, ms ++ [(q, ns)], by rw [List.map_append]; rfl, by simp [hml], fun z hz => ?_⟩
    have hk : ∀ (b : Addr) (o : HO), b ≠ C → H4 b = some o → H5 b = some o := fun b o e h => p5.k e h
    rcases List.mem_append.mp hz with hz | hz
    · obtain ⟨z1, z2, z3⟩ := hm z hz
      have zs := (g2.st.ne z1).1
      have z4 := g34.k zs z2
      exact ⟨z1, hk _ _ (ne_of z4 eC (by intro z; cases z)) z4, z3⟩
    · rw [List.mem_singleton.mp hz]
      exact ⟨g3.fr hq, hk _ _ (ne_of eq eC (by intro z; cases z)) eq, hp⟩
  rintro M acc H3 hM eM ⟨g23, ms, rfl, hml, hm⟩
  obtain ⟨q0, q1, q2, rfl⟩ : ∃ q0 q1 q2, ms = [q0, q1, q2] := by
    match ms, hml with
    | [q0, q1, q2], _ => exact ⟨q0, q1, q2, rfl⟩
  obtain ⟨m0, as⟩ := q0
  obtain ⟨m1, bs⟩ := q1
  obtain ⟨m2, cs⟩ := q2
  obtain ⟨fa, ea, pa⟩ := hm (m0, as) (by simp)
  obtain ⟨fb, eb, pb⟩ := hm (m1, bs) (by simp)
  obtain ⟨fc, ec, pc⟩ := hm (m2, cs) (by simp)
  dsimp only at fa ea pa fb eb pb fc ec pc
  clear hm hml
  have g3 := g2.trans g23
  have la : as.length = n.toNat := by rw [pa.length_eq, rng_len]
  have lb : bs.length = n.toNat := by rw [pb.length_eq, rng_len]
  have lc : cs.length = n.toNat := by rw [pc.length_eq, rng_len]
  have ss : s ∈ [s] := by simp
  have na : m0 ∉ [s] := by simpa using (g2.st.ne fa).1
  have nb : m1 ∉ [s] := by simpa using (g2.st.ne fb).1
  have nc : m2 ∉ [s] := by simpa using (g2.st.ne fc).1
  have qM := sq_l eM
  walk_at "sn"
  refine ⟨_, qM, _, atI_0, ?_⟩
  refine ⟨s, l, m0, [s], as, rfl, g3.st, sto_lv g3.st, ss, na, ea, by rw [la]; exact pa, by omega, fun one H4 g34 h1 => ?_⟩
  have g4 := g3.trans g34
  have Ms := (g2.st.ne hM).1
  have eM4 := g34.k Ms eM
  walk_at "sn"
  refine ⟨_, sq_l eM4, _, atI_1, ?_⟩
  refine ⟨s, l, m1, [s], bs, rfl, g4.st, sto_lv g4.st, ss, nb, g34.k (by simpa using nb) eb, by rw [lb]; exact pb, by omega, fun two H5 g45 h2 => ?_⟩
  have g35 := g34.trans g45
  have g5 := g3.trans g35
  have h1 := h1.ge g45 ss
  have ma : MvA H5 (.ref m0) m0 as := ⟨rfl, g35.k (by simpa using na) ea, by omega, by rw [la]; exact pa⟩
  have mb : MvA H5 (.ref m1) m1 bs := ⟨rfl, g35.k (by simpa using nb) eb, by omega, by rw [lb]; exact pb⟩
  have mc : MvA H5 (.ref m2) m2 cs := ⟨rfl, g35.k (by simpa using nc) ec, by omega, by rw [lc]; exact pc⟩
  have eM5 := g35.k Ms eM
  have qM5 := sq_l eM5
  have da : Db [s] H5 150 (.ref m0) := ⟨_, _, .tup na ma.at_ (DwAll.ints as), by omega⟩
  have db : Db [s] H5 150 (.ref m1) := ⟨_, _, .tup nb mb.at_ (DwAll.ints bs), by omega⟩
  have dc : Db [s] H5 150 (.ref m2) := ⟨_, _, .tup nc mc.at_ (DwAll.ints cs), by omega⟩
  clear ea eb ec fa fb fc eM eM4 qM
  walk_at "sn"
  refine ⟨szl (by decide), fun t1 G1 k1 => ?_⟩
  have eM := k1.k eM5
  have s1 := k1.same
  refine ⟨_, sq_l eM, _, atI_0, _, sq_l eM, _, atI_1, szl (by decide), fun t2 G2 k2 => ?_⟩
  have eM := k2.k eM
  have s2 := s1.trans k2.same
  refine ⟨_, sq_l eM, _, atI_1, szl (by decide), fun t3 G3 k3 => ?_⟩
  have eM := k3.k eM
  have s3 := s2.trans k3.same
  refine ⟨_, sq_l eM, _, atI_0, szl (by decide), fun t4 G4 k4 => ⟨szl (by decide), fun t5 G5 k5 => ?_⟩⟩
  have s4 := s3.trans k4.same
  have s5 := s4.trans k5.same
  have eM := k5.k (k4.k eM)
  refine ⟨_, sq_l eM, _, atI_1, _, sq_l eM, _, atI_0, szl (by decide), fun t6 G6 k6 => ⟨szl (by decide), fun L G7 k7 => ?_⟩⟩
  have s6 := s5.trans k6.same
  have s7 := s6.trans k7.same
  have eM := k7.k (k6.k eM)
  have eL := k7.at_
  walk_at "sn"
  refine ⟨_, sq_l eM, _, atI_2, _, sq_l eM, _, atI_2, szl (by decide), fun t7 G8 k8 => ⟨szl (by decide), fun t8 G9 k9 => ?_⟩⟩
  have s8 := s7.trans k8.same
  have s9 := s8.trans k9.same
  have eM := k9.k (k8.k eM)
  refine ⟨_, sq_l eM, _, atI_0, _, sq_l eM, _, atI_1, szl (by decide), fun t9 G10 k10 => ⟨szl (by decide), fun R G11 k11 => ?_⟩⟩
  have s10 := s9.trans k10.same
  have s11 := s10.trans k11.same
  have eM := k11.k (k10.k eM)
  have eL := k11.k (k10.k (k9.k (k8.k eL)))
  refine ⟨_, eL, _, k11.at_, by rw [sizeLine_eq]; simp, fun W G12 k12 => ?_⟩
  have s12 := s11.trans k12.same
  have eM := k12.k eM
  have pr : ∀ x ∈ ([V.ref t1, V.ref t2, V.ref t3, V.ref t4, V.ref t5, V.ref t6] ++ [V.ref t7, V.ref t8, V.ref t9] : List V), PairOk s G12 x := by
    intro x hx
    simp only [List.cons_append, List.nil_append, List.mem_cons, List.not_mem_nil, or_false] at hx
    have mk : ∀ {t : Addr} {u v : V}, G12 t = some (.tup [u, v]) → Db [s] H5 150 u → Db [s] H5 150 v → PairOk s G12 (.ref t) := fun e a b => ⟨_, _, _, rfl, e, a.same s12, b.same s12⟩
    rcases hx with rfl | rfl | rfl | rfl | rfl | rfl | rfl | rfl | rfl
    · exact mk (k12.k (k11.k (k10.k (k9.k (k8.k (k7.k (k6.k (k5.k (k4.k (k3.k (k2.k k1.at_))))))))))) h1 h2
    · exact mk (k12.k (k11.k (k10.k (k9.k (k8.k (k7.k (k6.k (k5.k (k4.k (k3.k k2.at_)))))))))) da db
    · exact mk (k12.k (k11.k (k10.k (k9.k (k8.k (k7.k (k6.k (k5.k (k4.k k3.at_))))))))) h1 db
    · exact mk (k12.k (k11.k (k10.k (k9.k (k8.k (k7.k (k6.k (k5.k k4.at_)))))))) da h2
    · exact mk (k12.k (k11.k (k10.k (k9.k (k8.k (k7.k (k6.k k5.at_))))))) h2 h1
    · exact mk (k12.k (k11.k (k10.k (k9.k (k8.k (k7.k k6.at_)))))) db da
    · exact mk (k12.k (k11.k (k10.k (k9.k k8.at_)))) dc dc
    · exact mk (k12.k (k11.k (k10.k k9.at_))) h1 h1
    · exact mk (k12.k (k11.k k10.at_)) da db
  walk_at "wn"
  have lvs : ∀ {H' : Hp}, Same H5 H' → Lv [s] H' := fun f => (sto_lv g5.st).same f
  refine fs_by (sq_l k12.at_) (fun i σ H' => Same G12 H' ∧ ∃ v7 : Option V, σ = [some (.ref a), some (.ref s), some (.int n), some (.ref M), some one, some two, some (.ref L), v7, none, none, none, none]) ⟨Same.refl _, _, rfl⟩ (fun i σ' H' f o ho => by rw [k12.at_] at ho; cases ho; exact f.1 _ _ k12.at_) ?_ ?_
  · rintro i x _ I1 N hN hx ⟨sg, v7, rfl⟩
    obtain ⟨t, u, v, rfl, et, ⟨du, nu, hu, hub⟩, ⟨dv, nv, hv, hvb⟩⟩ := (pr x (List.mem_of_getElem? hx)).same sg
    walk_at "wn"
    refine ⟨_, sq_t et, _, atI_0, _, sq_t et, _, atI_1, ?_⟩
    refine ⟨u, v, [s], du, dv, nu, nv, rfl, lvs (s12.trans sg), hu, hv, by omega, by omega, fun I2 sg2 => ?_⟩
    walk_at "wn"
    exact hN _ _ ⟨sg.trans sg2, _, rfl⟩
  rintro _ I1 ⟨sg, v7, rfl⟩
  have eM := sg _ _ eM
  have s13 := s12.trans sg
  clear pr eL s1 s2 s3 s4 s5 s6 s7 s8 s9 s10 s11 s12 sg k1 k2 k3 k4 k5 k6 k7 k8 k9 k10 k11 k12
  walk_at "sn"
  refine ⟨szl (by decide), fun u1 J1 j1 => ⟨_, j1.at_, _, j1.k eM, by rw [sizeLine_eq]; simp, fun u2 J2 j2 => ⟨szl (by decide), fun u3 J3 j3 => ⟨_, j3.k j2.at_, _, j3.at_, by rw [sizeLine_eq]; simp, fun u4 J4 j4 => ?_⟩⟩⟩⟩
  have s14 := (((s13.trans j1.same).trans j2.same).trans j3.same).trans j4.same
  have eM := j4.k (j3.k (j2.k (j1.k eM)))
  have vr : ∀ x ∈ ([one, two] ++ [V.ref m0, V.ref m1, V.ref m2] ++ [one] : List V), Db [s] J4 150 x := by
    intro x hx
    simp only [List.cons_append, List.nil_append, List.mem_cons, List.not_mem_nil, or_false] at hx
    rcases hx with rfl | rfl | rfl | rfl | rfl | rfl
    · exact h1.same s14
    · exact h2.same s14
    · exact da.same s14
    · exact db.same s14
    · exact dc.same s14
    · exact h1.same s14
  walk_at "wn"
  refine fs_by (sq_l j4.at_) (fun i σ H' => Same J4 H' ∧ ∃ v8 : Option V, σ = [some (.ref a), some (.ref s), some (.int n), some (.ref M), some one, some two, some (.ref L), v7, v8, none, none, none]) ⟨Same.refl _, _, rfl⟩ (fun i σ' H' f o ho => by rw [j4.at_] at ho; cases ho; exact f.1 _ _ j4.at_) ?_ ?_
  · rintro i x _ I2 N hN hx ⟨sg, v8, rfl⟩
    obtain ⟨du, nu, hu, hub⟩ := (vr x (List.mem_of_getElem? hx)).same sg
    walk_at "wn"
    refine ⟨x, [s], du, nu, rfl, lvs (s14.trans sg), hu, by omega, fun I3 sg2 => ?_⟩
    walk_at "wn"
    exact hN _ _ ⟨sg.trans sg2, _, rfl⟩
  rintro _ I2 ⟨sg, v8, rfl⟩
  have eM := sg _ _ eM
  have s15 := s14.trans sg
  clear vr s13 s14 sg j1 j2 j3 j4
  have la12 := ma.le
  have ma := ma.same s15
  have mb := mb.same s15
  have mc := mc.same s15
  have eab : as.length = bs.length := by omega
  have ebc : bs.length = cs.length := by omega
  have pboth := cmp_perm ma.m mb.m eab
  walk_at "sn"
  refine ⟨_, sq_l eM, _, atI_0, _, sq_l eM, _, atI_1, comp_ok ma mb eab fun p0 J1 J2 f1 j2 => ?_⟩
  have f2 := f1.trans j2.same
  have mab : MvA J2 (.ref p0) p0 (cmp as bs) := mva_new j2 (by rw [cmp_len]; exact la12) (by rw [cmp_len]; exact pboth)
  have eM := f2 _ _ eM
  have ma := ma.same f2
  have mb := mb.same f2
  have mc := mc.same f2
  have s16 := s15.trans f2
  walk_at "sn"
  refine ⟨_, sq_l eM, _, atI_2, comp_ok mab mc (by rw [cmp_len]; omega) fun p1 J3 J4 f3 j4 => ?_⟩
  have f4 := f3.trans j4.same
  have eM4 := f4 _ _ eM
  walk_at "wn"
  refine ⟨_, sq_l eM4, _, atI_0, _, sq_l eM4, _, atI_1, _, sq_l eM4, _, atI_2, comp_ok (mb.same f4) (mc.same f4) ebc fun p2 J5 J6 f5 j6 => ?_⟩
  have f6 := f4.trans (f5.trans j6.same)
  have mbc : MvA J6 (.ref p2) p2 (cmp bs cs) := mva_new j6 (by rw [cmp_len]; omega) (by rw [cmp_len]; exact cmp_perm mb.m mc.m ebc)
  walk_at "wn"
  refine comp_ok (ma.same f6) mbc (by rw [cmp_len]; omega) fun p3 J7 J8 f7 j8 => ?_
  rw [← cmp_assoc ma.m eab] at j8
  have f8 := f6.trans (f7.trans j8.same)
  refine ⟨.ref p1, .ref p3, _, _, _, rfl, dwT ((((f5.trans j6.same).trans f7).trans j8.same) _ _ j4.at_), dwT j8.at_, by rw [cmp_len, cmp_len]; omega, fun J9 f9 => ?_⟩
  have f9 := f8.trans f9
  have eM := f9 _ _ eM
  have ma := ma.same f9
  have mb := mb.same f9
  have mab := mab.same f9
  have s17 := s16.trans f9
  walk_at "wn"
  walk_at "sn"
  refine ⟨_, sq_l eM, _, atI_1, opp_ok mb fun p4 ib J10 J11 f11 j11 ub => ?_⟩
  have f11 := f11.trans j11.same
  have mib : MvA J11 (.ref p4) p4 ib := mva_new j11 (by rw [ub.len]; exact mb.le) (by rw [ub.len]; exact ub.p)
  walk_at "wn"
  refine ⟨_, sq_l (f11 _ _ eM), _, atI_0, opp_ok (ma.same f11) fun p5 ia J12 J13 f13 j13 ua => ?_⟩
  have f13 := f13.trans j13.same
  have mia : MvA J13 (.ref p5) p5 ia := mva_new j13 (by rw [ua.len]; exact la12) (by rw [ua.len]; exact ua.p)
  walk_at "wn"
  have eba : ib.length = ia.length := by rw [ua.len, ub.len]; omega
  refine comp_ok (mib.same f13) mia eba fun p6 J14 J15 f15 j15 => ?_
  have f15 := (f11.trans f13).trans (f15.trans j15.same)
  have lback : (cmp ib ia).length = n.toNat := by rw [cmp_len, ub.len]; omega
  have hu : Und (cmp as bs) (cmp ib ia) := cmp_und ma.m mb.m eab ua ub
  have mback : MvA J15 (.ref p6) p6 (cmp ib ia) := mva_new j15 (by omega) (by
    have := hu.p
    rw [cmp_len] at this
    rw [lback, ← la]
    exact this)
  have mab := mab.same f15
  have s18 := s17.trans f15
  walk_at "sn"
  refine ⟨p6, _, n, rfl, mback.at_, mback.le, mback.p, by rw [lback]; omega, fun J16 f16 => ?_⟩
  have mab := mab.same f16
  have mback := mback.same f16
  walk_at "wn"
  refine opp_ok mab fun p7 iv J17 J18 f18 j18 uv => ?_
  have f18 := f18.trans j18.same
  obtain rfl := hu.uniq uv mab.m
  refine ⟨.ref p7, .ref p6, _, _, _, rfl, dwT j18.at_, dwT (mback.same f18).at_, by omega, fun J19 f19 => ?_⟩
  have f19 := f18.trans f19
  have mab := mab.same f19
  have mback := mback.same f19
  have s19 := (s18.trans f16).trans f19
  have st19 := g5.st.same s19
  have np0 : p0 ≠ s := fun e => by
    have h := mab.at_
    obtain ⟨cs, i1, i2, i3, i4, i5, i6, h2, _⟩ := st19
    rw [e, h2] at h
    cases h
  have np6 : p6 ≠ s := fun e => by
    have h := mback.at_
    obtain ⟨cs, i1, i2, i3, i4, i5, i6, h2, _⟩ := st19
    rw [e, h2] at h
    cases h
  walk_at "wn"
  walk_at "sn"
  refine ⟨s, l, rfl, st19, fun r J20 g20 r0 r1 => ?_⟩
  walk_at "wn"
  refine ⟨s, l, rfl, g20.st, fun v d m J21 g21 lf hm hv => ?_⟩
  have g22 := g20.trans g21
  have big : ∀ i : Int, -(10 ^ 30) < i → i < 10 ^ 30 → i.natAbs.log2 < 1920 := fun i i0 i1 => log_sm (Nat.lt_of_le_of_lt (show i.natAbs ≤ 10 ^ 30 by omega) (by decide))
  have mab : MvA J21 (.ref p0) p0 (cmp as bs) := ⟨rfl, g22.k np0 mab.at_, mab.le, mab.p⟩
  have mback : MvA J21 (.ref p6) p6 (cmp ib ia) := ⟨rfl, g22.k np6 mback.at_, mback.le, mback.p⟩
  walk_at "wn"
  refine ⟨.int r, v, .int n, _, d, _, 1, m, 1, rfl, .int r, lf, .int n, fun i e => by (cases e; exact big _ r0 r1), fun i e => big _ (hv i e).1 (hv i e).2, fun i e => by (cases e; exact big _ (by omega) (by omega)), by decide, by omega, by decide, fun J22 f22 => ?_⟩
  walk_at "wn"
  refine comp_ok (mab.same f22) (mback.same f22) (by rw [lback, cmp_len]; omega) fun q J23 J24 f23 j24 => ?_
  walk_at "wn"
  refine ⟨.of_le (by decide) (by omega) (by decide) (by omega), fun q2 J25 j25 => ?_⟩
  have e25 := j25.at_
  rw [rgV_rng n0] at e25
  have el : cmp (cmp as bs) (cmp ib ia) = rng n.toNat := by
    have := hu.left
    rw [cmp_len, la] at this
    exact this
  rw [el] at j24
  exact ⟨.ref q, .ref q2, _, _, _, rfl, dwT (j25.k j24.at_), dwT e25, by rw [rng_len]; omega, fun H' _ => k H'⟩
end

/-! ## N7 -/
set_option maxHeartbeats 4000000 in
theorem hfacts {P : Program} {w : World} {K : PySem.W.Frag} {h : Heap} {mg : Str → Option Value} {f : Addr} (hfl : P.main.file = hfile) (htop : (P.main.scope.names.lookup ("super" : Str)).isSome = false) (X : K.In h) (G : h.Ns mainGlobals mg) (hf : mg ("law" : Str) = some (.ref f)) (ce : SaysE hfa hfn hfile hdi hks K) :
    ∃ fd : FuncData, (∀ (s : Shared) (v : Value), BindsTo s fd ⟨[v], []⟩ [("script", v)]) ∧ ∀ base : Heap, K.In base → base.Ns mainGlobals mg → FnOk P w K mg base CX0 13 f fd ["script"] (sp_law K) := by
  have c := ce.d
  have D_shown : Df K mg "shown" stshown := by
    obtain ⟨fd, F⟩ := c.def_ 0 (d := d_shown) rfl
    exact ⟨_, fd, F, He.glo_ok X G (c.fact 0 (f := .glo "shown") rfl)⟩
  have D_is_whole : Df K mg "is_whole" stis_whole := by
    obtain ⟨fd, F⟩ := c.def_ 1 (d := d_is_whole) rfl
    exact ⟨_, fd, F, He.glo_ok X G (c.fact 1 (f := .glo "is_whole") rfl)⟩
  have D_is_move : Df K mg "is_move" stis_move := by
    obtain ⟨fd, F⟩ := c.def_ 2 (d := d_is_move) rfl
    exact ⟨_, fd, F, He.glo_ok X G (c.fact 2 (f := .glo "is_move") rfl)⟩
  have D_check_move : Df K mg "check_move" stcheck_move := by
    obtain ⟨fd, F⟩ := c.def_ 3 (d := d_check_move) rfl
    exact ⟨_, fd, F, He.glo_ok X G (c.fact 3 (f := .glo "check_move") rfl)⟩
  have D_check_two_moves : Df K mg "check_two_moves" stcheck_two_moves := by
    obtain ⟨fd, F⟩ := c.def_ 4 (d := d_check_two_moves) rfl
    exact ⟨_, fd, F, He.glo_ok X G (c.fact 4 (f := .glo "check_two_moves") rfl)⟩
  have D_joined : Df K mg "joined" stjoined := by
    obtain ⟨fd, F⟩ := c.def_ 5 (d := d_joined) rfl
    exact ⟨_, fd, F, He.glo_ok X G (c.fact 5 (f := .glo "joined") rfl)⟩
  have D_compose : Df K mg "compose" stcompose := by
    obtain ⟨fd, F⟩ := c.def_ 6 (d := d_compose) rfl
    exact ⟨_, fd, F, He.glo_ok X G (c.fact 6 (f := .glo "compose") rfl)⟩
  have D_opposite : Df K mg "opposite" stopposite := by
    obtain ⟨fd, F⟩ := c.def_ 7 (d := d_opposite) rfl
    exact ⟨_, fd, F, He.glo_ok X G (c.fact 7 (f := .glo "opposite") rfl)⟩
  have D_law_store : Df K mg "_law_store" st_law_store := by
    obtain ⟨fd, F⟩ := c.def_ 8 (d := d_law_store) rfl
    exact ⟨_, fd, F, He.glo_ok X G (c.fact 8 (f := .glo "_law_store") rfl)⟩
  have D_law_mixed : Df K mg "_law_mixed" st_law_mixed := by
    obtain ⟨fd, F⟩ := c.def_ 9 (d := d_law_mixed) rfl
    exact ⟨_, fd, F, He.glo_ok X G (c.fact 9 (f := .glo "_law_mixed") rfl)⟩
  have D_law_take : Df K mg "_law_take" st_law_take := by
    obtain ⟨fd, F⟩ := c.def_ 10 (d := d_law_take) rfl
    exact ⟨_, fd, F, He.glo_ok X G (c.fact 10 (f := .glo "_law_take") rfl)⟩
  have D_law_pick : Df K mg "_law_pick" st_law_pick := by
    obtain ⟨fd, F⟩ := c.def_ 11 (d := d_law_pick) rfl
    exact ⟨_, fd, F, He.glo_ok X G (c.fact 11 (f := .glo "_law_pick") rfl)⟩
  have D_law_place : Df K mg "_law_place" st_law_place := by
    obtain ⟨fd, F⟩ := c.def_ 12 (d := d_law_place) rfl
    exact ⟨_, fd, F, He.glo_ok X G (c.fact 12 (f := .glo "_law_place") rfl)⟩
  have D_law_drawn : Df K mg "_law_drawn" st_law_drawn := by
    obtain ⟨fd, F⟩ := c.def_ 13 (d := d_law_drawn) rfl
    exact ⟨_, fd, F, He.glo_ok X G (c.fact 13 (f := .glo "_law_drawn") rfl)⟩
  have D_law_either : Df K mg "_law_either" st_law_either := by
    obtain ⟨fd, F⟩ := c.def_ 14 (d := d_law_either) rfl
    exact ⟨_, fd, F, He.glo_ok X G (c.fact 14 (f := .glo "_law_either") rfl)⟩
  have D_law_whole : Df K mg "_law_whole" st_law_whole := by
    obtain ⟨fd, F⟩ := c.def_ 15 (d := d_law_whole) rfl
    exact ⟨_, fd, F, He.glo_ok X G (c.fact 15 (f := .glo "_law_whole") rfl)⟩
  have D_law_sign : Df K mg "_law_sign" st_law_sign := by
    obtain ⟨fd, F⟩ := c.def_ 16 (d := d_law_sign) rfl
    exact ⟨_, fd, F, He.glo_ok X G (c.fact 16 (f := .glo "_law_sign") rfl)⟩
  have D_law_text : Df K mg "_law_text" st_law_text := by
    obtain ⟨fd, F⟩ := c.def_ 17 (d := d_law_text) rfl
    exact ⟨_, fd, F, He.glo_ok X G (c.fact 17 (f := .glo "_law_text") rfl)⟩
  have D_law_leaf : Df K mg "_law_leaf" st_law_leaf := by
    obtain ⟨fd, F⟩ := c.def_ 18 (d := d_law_leaf) rfl
    exact ⟨_, fd, F, He.glo_ok X G (c.fact 18 (f := .glo "_law_leaf") rfl)⟩
  have D_law_value : Df K mg "_law_value" st_law_value := by
    obtain ⟨fd, F⟩ := c.def_ 19 (d := d_law_value) rfl
    exact ⟨_, fd, F, He.glo_ok X G (c.fact 19 (f := .glo "_law_value") rfl)⟩
  have D_law_is_whole : Df K mg "_law_is_whole" st_law_is_whole := by
    obtain ⟨fd, F⟩ := c.def_ 20 (d := d_law_is_whole) rfl
    exact ⟨_, fd, F, He.glo_ok X G (c.fact 20 (f := .glo "_law_is_whole") rfl)⟩
  have D_law_same : Df K mg "_law_same" st_law_same := by
    obtain ⟨fd, F⟩ := c.def_ 21 (d := d_law_same) rfl
    exact ⟨_, fd, F, He.glo_ok X G (c.fact 21 (f := .glo "_law_same") rfl)⟩
  have D_law_frozen : Df K mg "_law_frozen" st_law_frozen := by
    obtain ⟨fd, F⟩ := c.def_ 22 (d := d_law_frozen) rfl
    exact ⟨_, fd, F, He.glo_ok X G (c.fact 22 (f := .glo "_law_frozen") rfl)⟩
  have D_law_after : Df K mg "_law_after" st_law_after := by
    obtain ⟨fd, F⟩ := c.def_ 23 (d := d_law_after) rfl
    exact ⟨_, fd, F, He.glo_ok X G (c.fact 23 (f := .glo "_law_after") rfl)⟩
  have D_law_move : Df K mg "_law_move" st_law_move := by
    obtain ⟨fd, F⟩ := c.def_ 24 (d := d_law_move) rfl
    exact ⟨_, fd, F, He.glo_ok X G (c.fact 24 (f := .glo "_law_move") rfl)⟩
  have D_law_move_fits : Df K mg "_law_move_fits" st_law_move_fits := by
    obtain ⟨fd, F⟩ := c.def_ 25 (d := d_law_move_fits) rfl
    exact ⟨_, fd, F, He.glo_ok X G (c.fact 25 (f := .glo "_law_move_fits") rfl)⟩
  have D_law_bad_move : Df K mg "_law_bad_move" st_law_bad_move := by
    obtain ⟨fd, F⟩ := c.def_ 26 (d := d_law_bad_move) rfl
    exact ⟨_, fd, F, He.glo_ok X G (c.fact 26 (f := .glo "_law_bad_move") rfl)⟩
  have D_law_alone : Df K mg "_law_alone" st_law_alone := by
    obtain ⟨fd, F⟩ := c.def_ 27 (d := d_law_alone) rfl
    exact ⟨_, fd, F, He.glo_ok X G (c.fact 27 (f := .glo "_law_alone") rfl)⟩
  have D_law_refusal : Df K mg "_law_refusal" st_law_refusal := by
    obtain ⟨fd, F⟩ := c.def_ 28 (d := d_law_refusal) rfl
    exact ⟨_, fd, F, He.glo_ok X G (c.fact 28 (f := .glo "_law_refusal") rfl)⟩
  have D_law_argument : Df K mg "_law_argument" st_law_argument := by
    obtain ⟨fd, F⟩ := c.def_ 29 (d := d_law_argument) rfl
    exact ⟨_, fd, F, He.glo_ok X G (c.fact 29 (f := .glo "_law_argument") rfl)⟩
  have D_law_fault : Df K mg "_law_fault" st_law_fault := by
    obtain ⟨fd, F⟩ := c.def_ 30 (d := d_law_fault) rfl
    exact ⟨_, fd, F, He.glo_ok X G (c.fact 30 (f := .glo "_law_fault") rfl)⟩
  have D_law_composes : Df K mg "_law_composes" st_law_composes := by
    obtain ⟨fd, F⟩ := c.def_ 31 (d := d_law_composes) rfl
    exact ⟨_, fd, F, He.glo_ok X G (c.fact 31 (f := .glo "_law_composes") rfl)⟩
  have D_law_undoes : Df K mg "_law_undoes" st_law_undoes := by
    obtain ⟨fd, F⟩ := c.def_ 32 (d := d_law_undoes) rfl
    exact ⟨_, fd, F, He.glo_ok X G (c.fact 32 (f := .glo "_law_undoes") rfl)⟩
  have D_law_errors_kept : Df K mg "_law_errors_kept" st_law_errors_kept := by
    obtain ⟨fd, F⟩ := c.def_ 33 (d := d_law_errors_kept) rfl
    exact ⟨_, fd, F, He.glo_ok X G (c.fact 33 (f := .glo "_law_errors_kept") rfl)⟩
  have D_law : Df K mg "law" stlaw := by
    obtain ⟨fd, F⟩ := c.def_ 34 (d := d_law) rfl
    exact ⟨_, fd, F, He.glo_ok X G (c.fact 34 (f := .glo "law") rfl)⟩
  have T : NoB mg := ⟨He.free_ok X G (c.fact 35 (f := .free "len") rfl), He.free_ok X G (c.fact 36 (f := .free "int") rfl), He.free_ok X G (c.fact 37 (f := .free "bool") rfl), He.free_ok X G (c.fact 38 (f := .free "str") rfl), He.free_ok X G (c.fact 39 (f := .free "range") rfl), He.free_ok X G (c.fact 40 (f := .free "isinstance") rfl), He.free_ok X G (c.fact 41 (f := .free "tuple") rfl), He.free_ok X G (c.fact 42 (f := .free "list") rfl), He.free_ok X G (c.fact 43 (f := .free "min") rfl), He.free_ok X G (c.fact 44 (f := .free "max") rfl), He.free_ok X G (c.fact 45 (f := .free "sorted") rfl), He.free_ok X G (c.fact 46 (f := .free "enumerate") rfl), He.free_ok X G (c.fact 47 (f := .free "sum") rfl), He.free_ok X G (c.fact 48 (f := .free "any") rfl), He.free_ok X G (c.fact 49 (f := .free "all") rfl), He.free_ok X G (c.fact 50 (f := .free "zip") rfl), He.free_ok X G (c.fact 51 (f := .free "reversed") rfl), He.free_ok X G (c.fact 52 (f := .free "super") rfl), He.free_ok X G (c.fact 53 (f := .free "set") rfl), He.free_ok X G (c.fact 54 (f := .free "dict") rfl), He.free_ok X G (c.fact 55 (f := .free "ValueError") rfl), He.free_ok X G (c.fact 56 (f := .free "abs") rfl)⟩
  obtain ⟨tk_MOST_POINTS, G_MOST_POINTS⟩ := He.int_ok X G (c.fact 57 (f := .int "MOST_POINTS" 12) rfl)
  have EH := ce.gH X G
  have EN_BadNumber : ErN K mg "BadNumber" := ce.erN X G T.no_ValueError (i := 0) (d := di_BadNumber) rfl (by decide)
  have exm_BadNumber := ce.exm (x := "BadNumber") (by decide)
  have EN_NotAPoint : ErN K mg "NotAPoint" := ce.erN X G T.no_ValueError (i := 1) (d := di_NotAPoint) rfl (by decide)
  have exm_NotAPoint := ce.exm (x := "NotAPoint") (by decide)
  have EN_NotAMove : ErN K mg "NotAMove" := ce.erN X G T.no_ValueError (i := 2) (d := di_NotAMove) rfl (by decide)
  have exm_NotAMove := ce.exm (x := "NotAMove") (by decide)
  have EN_TooMany : ErN K mg "TooMany" := ce.erN X G T.no_ValueError (i := 3) (d := di_TooMany) rfl (by decide)
  have exm_TooMany := ce.exm (x := "TooMany") (by decide)
  have EN_UnlikeSizes : ErN K mg "UnlikeSizes" := ce.erN X G T.no_ValueError (i := 4) (d := di_UnlikeSizes) rfl (by decide)
  have exm_UnlikeSizes := ce.exm (x := "UnlikeSizes") (by decide)
  have EN_RepeatedPoint : ErN K mg "RepeatedPoint" := ce.erN X G T.no_ValueError (i := 5) (d := di_RepeatedPoint) rfl (by decide)
  have exm_RepeatedPoint := ce.exm (x := "RepeatedPoint") (by decide)
  have EN_BadText : ErN K mg "BadText" := ce.erN X G T.no_ValueError (i := 6) (d := di_BadText) rfl (by decide)
  have exm_BadText := ce.exm (x := "BadText") (by decide)
  have EN_NotMade : ErN K mg "NotMade" := ce.erN X G T.no_ValueError (i := 7) (d := di_NotMade) rfl (by decide)
  have exm_NotMade := ce.exm (x := "NotMade") (by decide)
  have EN_NotTight : ErN K mg "NotTight" := ce.erN X G T.no_ValueError (i := 8) (d := di_NotTight) rfl (by decide)
  have exm_NotTight := ce.exm (x := "NotTight") (by decide)
  have EN_NotFull : ErN K mg "NotFull" := ce.erN X G T.no_ValueError (i := 9) (d := di_NotFull) rfl (by decide)
  have exm_NotFull := ce.exm (x := "NotFull") (by decide)
  have EN_NotAFailing : ErN K mg "NotAFailing" := ce.erN X G T.no_ValueError (i := 10) (d := di_NotAFailing) rfl (by decide)
  have exm_NotAFailing := ce.exm (x := "NotAFailing") (by decide)
  have EN_NotNeighbours : ErN K mg "NotNeighbours" := ce.erN X G T.no_ValueError (i := 11) (d := di_NotNeighbours) rfl (by decide)
  have exm_NotNeighbours := ce.exm (x := "NotNeighbours") (by decide)
  have EN_NotShorter : ErN K mg "NotShorter" := ce.erN X G T.no_ValueError (i := 12) (d := di_NotShorter) rfl (by decide)
  have exm_NotShorter := ce.exm (x := "NotShorter") (by decide)
  have EN_SameLength : ErN K mg "SameLength" := ce.erN X G T.no_ValueError (i := 13) (d := di_SameLength) rfl (by decide)
  have exm_SameLength := ce.exm (x := "SameLength") (by decide)
  have EN_NoSuchLength : ErN K mg "NoSuchLength" := ce.erN X G T.no_ValueError (i := 14) (d := di_NoSuchLength) rfl (by decide)
  have exm_NoSuchLength := ce.exm (x := "NoSuchLength") (by decide)
  have EN_NotAnOrder : ErN K mg "NotAnOrder" := ce.erN X G T.no_ValueError (i := 15) (d := di_NotAnOrder) rfl (by decide)
  have exm_NotAnOrder := ce.exm (x := "NotAnOrder") (by decide)
  have EN_NotAChain : ErN K mg "NotAChain" := ce.erN X G T.no_ValueError (i := 16) (d := di_NotAChain) rfl (by decide)
  have exm_NotAChain := ce.exm (x := "NotAChain") (by decide)
  have EN_NotABase : ErN K mg "NotABase" := ce.erN X G T.no_ValueError (i := 17) (d := di_NotABase) rfl (by decide)
  have exm_NotABase := ce.exm (x := "NotABase") (by decide)
  have EN_NotInside : ErN K mg "NotInside" := ce.erN X G T.no_ValueError (i := 18) (d := di_NotInside) rfl (by decide)
  have exm_NotInside := ce.exm (x := "NotInside") (by decide)
  have EN_OrderMatters : ErN K mg "OrderMatters" := ce.erN X G T.no_ValueError (i := 19) (d := di_OrderMatters) rfl (by decide)
  have exm_OrderMatters := ce.exm (x := "OrderMatters") (by decide)
  have EN_FullLot : ErN K mg "FullLot" := ce.erN X G T.no_ValueError (i := 20) (d := di_FullLot) rfl (by decide)
  have exm_FullLot := ce.exm (x := "FullLot") (by decide)
  have EN_NotAWord : ErN K mg "NotAWord" := ce.erN X G T.no_ValueError (i := 21) (d := di_NotAWord) rfl (by decide)
  have exm_NotAWord := ce.exm (x := "NotAWord") (by decide)
  have EN_NotAColumn : ErN K mg "NotAColumn" := ce.erN X G T.no_ValueError (i := 22) (d := di_NotAColumn) rfl (by decide)
  have exm_NotAColumn := ce.exm (x := "NotAColumn") (by decide)
  have EN_NotACount : ErN K mg "NotACount" := ce.erN X G T.no_ValueError (i := 23) (d := di_NotACount) rfl (by decide)
  have exm_NotACount := ce.exm (x := "NotACount") (by decide)
  have EN_GameOver : ErN K mg "GameOver" := ce.erN X G T.no_ValueError (i := 24) (d := di_GameOver) rfl (by decide)
  have exm_GameOver := ce.exm (x := "GameOver") (by decide)
  have EN_NotAllowed : ErN K mg "NotAllowed" := ce.erN X G T.no_ValueError (i := 25) (d := di_NotAllowed) rfl (by decide)
  have exm_NotAllowed := ce.exm (x := "NotAllowed") (by decide)
  have EN_NothingToUndo : ErN K mg "NothingToUndo" := ce.erN X G T.no_ValueError (i := 26) (d := di_NothingToUndo) rfl (by decide)
  have exm_NothingToUndo := ce.exm (x := "NothingToUndo") (by decide)
  have EN_NothingToRedo : ErN K mg "NothingToRedo" := ce.erN X G T.no_ValueError (i := 27) (d := di_NothingToRedo) rfl (by decide)
  have exm_NothingToRedo := ce.exm (x := "NothingToRedo") (by decide)
  have EN_NothingKept : ErN K mg "NothingKept" := ce.erN X G T.no_ValueError (i := 28) (d := di_NothingKept) rfl (by decide)
  have exm_NothingKept := ce.exm (x := "NothingKept") (by decide)
  have EN_BadEdit : ErN K mg "BadEdit" := ce.erN X G T.no_ValueError (i := 29) (d := di_BadEdit) rfl (by decide)
  have exm_BadEdit := ce.exm (x := "BadEdit") (by decide)
  have EN_UnknownName : ErN K mg "UnknownName" := ce.erN X G T.no_ValueError (i := 30) (d := di_UnknownName) rfl (by decide)
  have exm_UnknownName := ce.exm (x := "UnknownName") (by decide)
  have EN_NotAPaper : ErN K mg "NotAPaper" := ce.erN X G T.no_ValueError (i := 31) (d := di_NotAPaper) rfl (by decide)
  have exm_NotAPaper := ce.exm (x := "NotAPaper") (by decide)
  have ENL : ∀ x ∈ aloneL, ErN K mg x := fun x hx => by
    simp only [aloneL, List.mem_cons, List.not_mem_nil, or_false] at hx
    rcases hx with rfl | rfl | rfl | rfl | rfl | rfl | rfl | rfl | rfl | rfl | rfl | rfl | rfl | rfl | rfl
    · exact EN_NotNeighbours
    · exact EN_NotAnOrder
    · exact EN_NotAChain
    · exact EN_NothingToUndo
    · exact EN_NothingToRedo
    · exact EN_NothingKept
    · exact EN_NotAPaper
    · exact EN_BadNumber
    · exact EN_NoSuchLength
    · exact EN_TooMany
    · exact EN_UnlikeSizes
    · exact EN_NotShorter
    · exact EN_UnknownName
    · exact EN_NotABase
    · exact EN_NotAColumn
  have ENF : ∀ f : Flt, f.cls ∈ errL → ErN K mg f.cls := fun f h => by cases f with | num => exact EN_BadNumber | mv => exact EN_NotAMove | many => exact EN_TooMany | pt => exact EN_NotAPoint | rep => exact EN_RepeatedPoint | sz => exact EN_UnlikeSizes | txt => exact EN_BadText
  have exmF : ∀ f : Flt, f.cls ∈ errL → PySem.W.exmOne K (.ref (He.ga K f.cls)) (.ref (He.ga K "HeldorderError")) = some true := fun f h => by cases f with | num => exact exm_BadNumber | mv => exact exm_NotAMove | many => exact exm_TooMany | pt => exact exm_NotAPoint | rep => exact exm_RepeatedPoint | sz => exact exm_UnlikeSizes | txt => exact exm_BadText
  obtain ⟨fd, F⟩ := c.def_ 34 (d := d_law) rfl
  have e := hf.symm.trans (He.glo_ok X G (c.fact 34 (f := .glo "law") rfl))
  cases e
  refine ⟨fd, fun s v => FunD.bindsA (ps := ["script"]) F (fun _ _ _ _ _ _ us hl => match us, hl with | [_], _ => rfl) s [v] rfl, fun base _ _ => ?_⟩
  have C_law_mixed : Cl P w K mg base 1 "_law_mixed" ["seed", "turn"] sp_mixed := ok_law_mixed D_law_mixed T  
  have C_law_take : Cl P w K mg base 2 "_law_take" ["store", "many"] sp_take := ok_law_take D_law_take T C_law_mixed 
  have C_law_place : Cl P w K mg base 3 "_law_place" ["store", "size"] sp_place := ok_law_place D_law_place T C_law_take 
  have C_law_sign : Cl P w K mg base 3 "_law_sign" ["store"] sp_sign := ok_law_sign D_law_sign T C_law_take 
  have C_law_text : Cl P w K mg base 4 "_law_text" ["store", "most"] sp_text := ok_law_text D_law_text T C_law_place C_law_sign 
  have C_law_pick : Cl P w K mg base 3 "_law_pick" ["store", "things"] sp_pick := ok_law_pick D_law_pick T C_law_take 
  have C_law_whole : Cl P w K mg base 4 "_law_whole" ["store"] sp_whole := ok_law_whole D_law_whole T C_law_pick C_law_take 
  have C_law_leaf : Cl P w K mg base 5 "_law_leaf" ["store"] sp_leaf := ok_law_leaf D_law_leaf T C_law_take C_law_text C_law_whole 
  have C_law_bad_move : Cl P w K mg base 6 "_law_bad_move" ["store", "move"] sp_bad_move := ok_law_bad_move D_law_bad_move T C_law_leaf C_law_place C_law_take 
  have C_law_drawn : Cl P w K mg base 3 "_law_drawn" ["store", "things", "many"] sp_drawn := ok_law_drawn D_law_drawn T C_law_take 
  have C_law_move : Cl P w K mg base 4 "_law_move" ["store", "points"] sp_move := ok_law_move D_law_move T C_law_drawn C_law_take 
  have C_law_either : Cl P w K mg base 3 "_law_either" ["store", "entries"] sp_either := ok_law_either D_law_either T C_law_take 
  have C_law_value : Cl P w K mg base 6 "_law_value" ["store", "deep"] sp_value := ok_law_value D_law_value T C_law_either C_law_leaf C_law_take 
  have C_law_argument : Cl P w K mg base 7 "_law_argument" ["store", "move"] sp_arg := ok_law_argument D_law_argument T C_law_bad_move C_law_move C_law_place C_law_take C_law_value 
  have C_law_is_whole : Cl P w K mg base 1 "_law_is_whole" ["value"] sp_isw := ok_law_is_whole D_law_is_whole T  
  have C_law_move_fits : Cl P w K mg base 2 "_law_move_fits" ["value", "points"] sp_fits := ok_law_move_fits D_law_move_fits T C_law_is_whole 
  have C_law_fault : Cl P w K mg base 3 "_law_fault" ["one", "two"] sp_fault2 := ok_law_fault D_law_fault T C_law_move_fits 
  have C_law_frozen : Cl P w K mg base 10 "_law_frozen" ["value", "deep"] (sp_frozen 10) := frozen_all D_law_frozen T 10
  have C_law_frozenH : ClH P w K mg base 10 "_law_frozen" ["value", "deep"] (sp_frozenH 10) := frozen_allH D_law_frozen T 10
  have C_law_aloneH : ClH P w K mg base 1 "_law_alone" ["error"] (sp_aloneH K mg) := ok_law_aloneH D_law_alone T  
  have C_law_is_wholeH : ClH P w K mg base 1 "_law_is_whole" ["value"] sp_iswH := ok_law_is_wholeH D_law_is_whole T  
  have C_law_sameH : ClH P w K mg base 2 "_law_same" ["actual", "due"] sp_sameH := ok_law_sameH D_law_same T C_law_is_wholeH 
  have Cshown : Cl P w K mg base 1 "shown" ["value"] sp_shown := okshown D_shown T  
  have Er_NotAMove : ErrC P w K mg base 2 "NotAMove" (He.ga K "NotAMove") (okP [0]) ["index"] := by
    obtain ⟨cc, cda, fi, S, B, i1, i2, x1, x2, x3, x4⟩ := ce.sup hfl htop T.no_super (i := 2) (d := di_NotAMove) (ps := ["self", "index"]) rfl (fun _ _ _ _ _ _ _ us hl => match us, hl with | [_, _], _ => rfl)
    exact ⟨ce.g X G _ (by decide), x1, ⟨_, fi, ["self", "index"], i1, i2, B, okini_NotAMove S (x4 _ (by decide)) Cshown⟩, x2, x3, x4, by decide, okP_mono _⟩
  have Er_UnlikeSizes : ErrC P w K mg base 2 "UnlikeSizes" (He.ga K "UnlikeSizes") (okP [0, 0]) ["first", "second"] := by
    obtain ⟨cc, cda, fi, S, B, i1, i2, x1, x2, x3, x4⟩ := ce.sup hfl htop T.no_super (i := 4) (d := di_UnlikeSizes) (ps := ["self", "first", "second"]) rfl (fun _ _ _ _ _ _ _ us hl => match us, hl with | [_, _, _], _ => rfl)
    exact ⟨ce.g X G _ (by decide), x1, ⟨_, fi, ["self", "first", "second"], i1, i2, B, okini_UnlikeSizes S (x4 _ (by decide)) (x4 _ (by decide)) Cshown⟩, x2, x3, x4, by decide, okP_mono _⟩
  have C_law_refusalH : ClH P w K mg base 3 "_law_refusal" ["error", "due"] (sp_refG K) := ok_law_refusalH D_law_refusal T C_law_aloneH C_law_sameH ENF Er_NotAMove Er_UnlikeSizes
  have C_law_same : Cl P w K mg base 2 "_law_same" ["actual", "due"] sp_same := ok_law_same D_law_same T C_law_is_whole 
  have Cis_whole : Cl P w K mg base 1 "is_whole" ["value"] sp_isw := okis_whole D_is_whole T  
  have Cis_move : Cl P w K mg base 2 "is_move" ["value"] sp_is_move := okis_move D_is_move T Cis_whole G_MOST_POINTS
  have Ccheck_move : ClX P w K mg base 4 "check_move" ["value", "index"] (sp_chk K) := okcheck_move D_check_move T Cis_move Er_NotAMove
  have Ccheck_two_moves : ClX P w K mg base 5 "check_two_moves" ["first", "second"] (sp_ctwo K) := okcheck_two_moves D_check_two_moves T Ccheck_move Er_UnlikeSizes
  have Cjoined : Cl P w K mg base 1 "joined" ["first", "second"] sp_joined := okjoined D_joined T  
  have Ccompose : ClX P w K mg base 6 "compose" ["first", "second"] (sp_comp K) := okcompose D_compose T Ccheck_two_moves Cjoined 
  have C_law_composes : Cl P w K mg base 11 "_law_composes" ["one", "two"] sp_composes := ok_law_composes D_law_composes T C_law_fault C_law_frozen C_law_frozenH C_law_refusalH C_law_same C_law_sameH Ccompose EH exmF
  have C_law_aloneC : Cl P w K mg base 1 "_law_alone" ["error"] (sp_aloneO K mg) := ok_law_aloneC D_law_alone T  
  have Er_BadNumber : ErrC P w K mg base 2 "BadNumber" (He.ga K "BadNumber") (okP [0, 0, 0]) ["value", "low", "high"] := by
    obtain ⟨cc, cda, fi, S, B, i1, i2, x1, x2, x3, x4⟩ := ce.sup hfl htop T.no_super (i := 0) (d := di_BadNumber) (ps := ["self", "value", "low", "high"]) rfl (fun _ _ _ _ _ _ _ us hl => match us, hl with | [_, _, _, _], _ => rfl)
    exact ⟨ce.g X G _ (by decide), x1, ⟨_, fi, ["self", "value", "low", "high"], i1, i2, B, okini_BadNumber S (x4 _ (by decide)) (x4 _ (by decide)) (x4 _ (by decide)) Cshown⟩, x2, x3, x4, by decide, okP_mono _⟩
  have Er_NotAPoint : ErrC P w K mg base 2 "NotAPoint" (He.ga K "NotAPoint") (okP [0]) ["value"] := by
    obtain ⟨cc, cda, fi, S, B, i1, i2, x1, x2, x3, x4⟩ := ce.sup hfl htop T.no_super (i := 1) (d := di_NotAPoint) (ps := ["self", "value"]) rfl (fun _ _ _ _ _ _ _ us hl => match us, hl with | [_, _], _ => rfl)
    exact ⟨ce.g X G _ (by decide), x1, ⟨_, fi, ["self", "value"], i1, i2, B, okini_NotAPoint S (x4 _ (by decide)) Cshown⟩, x2, x3, x4, by decide, okP_mono _⟩
  have Er_TooMany : ErrC P w K mg base 2 "TooMany" (He.ga K "TooMany") (okP [1, 0]) ["what", "limit"] := by
    obtain ⟨cc, cda, fi, S, B, i1, i2, x1, x2, x3, x4⟩ := ce.sup hfl htop T.no_super (i := 3) (d := di_TooMany) (ps := ["self", "what", "limit"]) rfl (fun _ _ _ _ _ _ _ us hl => match us, hl with | [_, _, _], _ => rfl)
    exact ⟨ce.g X G _ (by decide), x1, ⟨_, fi, ["self", "what", "limit"], i1, i2, B, okini_TooMany S (x4 _ (by decide)) (x4 _ (by decide)) Cshown⟩, x2, x3, x4, by decide, okP_mono _⟩
  have Er_RepeatedPoint : ErrC P w K mg base 2 "RepeatedPoint" (He.ga K "RepeatedPoint") (okP [0]) ["value"] := by
    obtain ⟨cc, cda, fi, S, B, i1, i2, x1, x2, x3, x4⟩ := ce.sup hfl htop T.no_super (i := 5) (d := di_RepeatedPoint) (ps := ["self", "value"]) rfl (fun _ _ _ _ _ _ _ us hl => match us, hl with | [_, _], _ => rfl)
    exact ⟨ce.g X G _ (by decide), x1, ⟨_, fi, ["self", "value"], i1, i2, B, okini_RepeatedPoint S (x4 _ (by decide)) Cshown⟩, x2, x3, x4, by decide, okP_mono _⟩
  have Er_BadText : ErrC P w K mg base 2 "BadText" (He.ga K "BadText") (okP [0]) ["line"] := by
    obtain ⟨cc, cda, fi, S, B, i1, i2, x1, x2, x3, x4⟩ := ce.sup hfl htop T.no_super (i := 6) (d := di_BadText) (ps := ["self", "line"]) rfl (fun _ _ _ _ _ _ _ us hl => match us, hl with | [_, _], _ => rfl)
    exact ⟨ce.g X G _ (by decide), x1, ⟨_, fi, ["self", "line"], i1, i2, B, okini_BadText S (x4 _ (by decide)) Cshown⟩, x2, x3, x4, by decide, okP_mono _⟩
  have Er_NotMade : ErrC P w K mg base 2 "NotMade" (He.ga K "NotMade") (okP [2]) ["move"] := by
    obtain ⟨cc, cda, fi, S, B, i1, i2, x1, x2, x3, x4⟩ := ce.sup hfl htop T.no_super (i := 7) (d := di_NotMade) (ps := ["self", "move"]) rfl (fun _ _ _ _ _ _ _ us hl => match us, hl with | [_, _], _ => rfl)
    exact ⟨ce.g X G _ (by decide), x1, ⟨_, fi, ["self", "move"], i1, i2, B, okini_NotMade S (x4 _ (by decide)) Cshown⟩, x2, x3, x4, by decide, okP_mono _⟩
  have Er_NotTight : ErrC P w K mg base 2 "NotTight" (He.ga K "NotTight") (okP [0]) ["index"] := by
    obtain ⟨cc, cda, fi, S, B, i1, i2, x1, x2, x3, x4⟩ := ce.sup hfl htop T.no_super (i := 8) (d := di_NotTight) (ps := ["self", "index"]) rfl (fun _ _ _ _ _ _ _ us hl => match us, hl with | [_, _], _ => rfl)
    exact ⟨ce.g X G _ (by decide), x1, ⟨_, fi, ["self", "index"], i1, i2, B, okini_NotTight S (x4 _ (by decide)) Cshown⟩, x2, x3, x4, by decide, okP_mono _⟩
  have Er_NotFull : ErrC P w K mg base 2 "NotFull" (He.ga K "NotFull") (okP [0]) ["point"] := by
    obtain ⟨cc, cda, fi, S, B, i1, i2, x1, x2, x3, x4⟩ := ce.sup hfl htop T.no_super (i := 9) (d := di_NotFull) (ps := ["self", "point"]) rfl (fun _ _ _ _ _ _ _ us hl => match us, hl with | [_, _], _ => rfl)
    exact ⟨ce.g X G _ (by decide), x1, ⟨_, fi, ["self", "point"], i1, i2, B, okini_NotFull S (x4 _ (by decide)) Cshown⟩, x2, x3, x4, by decide, okP_mono _⟩
  have Er_NotAFailing : ErrC P w K mg base 2 "NotAFailing" (He.ga K "NotAFailing") (okP [0]) ["condition"] := by
    obtain ⟨cc, cda, fi, S, B, i1, i2, x1, x2, x3, x4⟩ := ce.sup hfl htop T.no_super (i := 10) (d := di_NotAFailing) (ps := ["self", "condition"]) rfl (fun _ _ _ _ _ _ _ us hl => match us, hl with | [_, _], _ => rfl)
    exact ⟨ce.g X G _ (by decide), x1, ⟨_, fi, ["self", "condition"], i1, i2, B, okini_NotAFailing S (x4 _ (by decide)) Cshown⟩, x2, x3, x4, by decide, okP_mono _⟩
  have Er_NotNeighbours : ErrC0 P w K mg base 2 "NotNeighbours" (He.ga K "NotNeighbours") := by
    obtain ⟨cc, cda, fi, S, B, i1, i2, x1, x2, x3, x4⟩ := ce.sup hfl htop T.no_super (i := 11) (d := di_NotNeighbours) (ps := ["self"]) rfl (fun _ _ _ _ _ _ _ us hl => match us, hl with | [_], _ => rfl)
    exact ⟨ce.g X G _ (by decide), x1, ⟨_, fi, ["self"], i1, i2, B, okini_NotNeighbours S⟩, x2, x3⟩
  have Er_NotShorter : ErrC P w K mg base 2 "NotShorter" (He.ga K "NotShorter") (okP [0, 0]) ["first", "second"] := by
    obtain ⟨cc, cda, fi, S, B, i1, i2, x1, x2, x3, x4⟩ := ce.sup hfl htop T.no_super (i := 12) (d := di_NotShorter) (ps := ["self", "first", "second"]) rfl (fun _ _ _ _ _ _ _ us hl => match us, hl with | [_, _, _], _ => rfl)
    exact ⟨ce.g X G _ (by decide), x1, ⟨_, fi, ["self", "first", "second"], i1, i2, B, okini_NotShorter S (x4 _ (by decide)) (x4 _ (by decide)) Cshown⟩, x2, x3, x4, by decide, okP_mono _⟩
  have Er_SameLength : ErrC P w K mg base 2 "SameLength" (He.ga K "SameLength") (okP [0]) ["length"] := by
    obtain ⟨cc, cda, fi, S, B, i1, i2, x1, x2, x3, x4⟩ := ce.sup hfl htop T.no_super (i := 13) (d := di_SameLength) (ps := ["self", "length"]) rfl (fun _ _ _ _ _ _ _ us hl => match us, hl with | [_, _], _ => rfl)
    exact ⟨ce.g X G _ (by decide), x1, ⟨_, fi, ["self", "length"], i1, i2, B, okini_SameLength S (x4 _ (by decide)) Cshown⟩, x2, x3, x4, by decide, okP_mono _⟩
  have Er_NoSuchLength : ErrC P w K mg base 2 "NoSuchLength" (He.ga K "NoSuchLength") (okP [0, 0, 0]) ["length", "least", "greatest"] := by
    obtain ⟨cc, cda, fi, S, B, i1, i2, x1, x2, x3, x4⟩ := ce.sup hfl htop T.no_super (i := 14) (d := di_NoSuchLength) (ps := ["self", "length", "least", "greatest"]) rfl (fun _ _ _ _ _ _ _ us hl => match us, hl with | [_, _, _, _], _ => rfl)
    exact ⟨ce.g X G _ (by decide), x1, ⟨_, fi, ["self", "length", "least", "greatest"], i1, i2, B, okini_NoSuchLength S (x4 _ (by decide)) (x4 _ (by decide)) (x4 _ (by decide)) Cshown⟩, x2, x3, x4, by decide, okP_mono _⟩
  have Er_NotAnOrder : ErrC0 P w K mg base 2 "NotAnOrder" (He.ga K "NotAnOrder") := by
    obtain ⟨cc, cda, fi, S, B, i1, i2, x1, x2, x3, x4⟩ := ce.sup hfl htop T.no_super (i := 15) (d := di_NotAnOrder) (ps := ["self"]) rfl (fun _ _ _ _ _ _ _ us hl => match us, hl with | [_], _ => rfl)
    exact ⟨ce.g X G _ (by decide), x1, ⟨_, fi, ["self"], i1, i2, B, okini_NotAnOrder S⟩, x2, x3⟩
  have Er_NotAChain : ErrC0 P w K mg base 2 "NotAChain" (He.ga K "NotAChain") := by
    obtain ⟨cc, cda, fi, S, B, i1, i2, x1, x2, x3, x4⟩ := ce.sup hfl htop T.no_super (i := 16) (d := di_NotAChain) (ps := ["self"]) rfl (fun _ _ _ _ _ _ _ us hl => match us, hl with | [_], _ => rfl)
    exact ⟨ce.g X G _ (by decide), x1, ⟨_, fi, ["self"], i1, i2, B, okini_NotAChain S⟩, x2, x3⟩
  have Er_NotABase : ErrC P w K mg base 2 "NotABase" (He.ga K "NotABase") (okP [0]) ["place"] := by
    obtain ⟨cc, cda, fi, S, B, i1, i2, x1, x2, x3, x4⟩ := ce.sup hfl htop T.no_super (i := 17) (d := di_NotABase) (ps := ["self", "place"]) rfl (fun _ _ _ _ _ _ _ us hl => match us, hl with | [_, _], _ => rfl)
    exact ⟨ce.g X G _ (by decide), x1, ⟨_, fi, ["self", "place"], i1, i2, B, okini_NotABase S (x4 _ (by decide)) Cshown⟩, x2, x3, x4, by decide, okP_mono _⟩
  have Er_NotInside : ErrC P w K mg base 2 "NotInside" (He.ga K "NotInside") (okP [0]) ["point"] := by
    obtain ⟨cc, cda, fi, S, B, i1, i2, x1, x2, x3, x4⟩ := ce.sup hfl htop T.no_super (i := 18) (d := di_NotInside) (ps := ["self", "point"]) rfl (fun _ _ _ _ _ _ _ us hl => match us, hl with | [_, _], _ => rfl)
    exact ⟨ce.g X G _ (by decide), x1, ⟨_, fi, ["self", "point"], i1, i2, B, okini_NotInside S (x4 _ (by decide)) Cshown⟩, x2, x3, x4, by decide, okP_mono _⟩
  have Er_OrderMatters : ErrC P w K mg base 2 "OrderMatters" (He.ga K "OrderMatters") (okP [2]) ["failing"] := by
    obtain ⟨cc, cda, fi, S, B, i1, i2, x1, x2, x3, x4⟩ := ce.sup hfl htop T.no_super (i := 19) (d := di_OrderMatters) (ps := ["self", "failing"]) rfl (fun _ _ _ _ _ _ _ us hl => match us, hl with | [_, _], _ => rfl)
    exact ⟨ce.g X G _ (by decide), x1, ⟨_, fi, ["self", "failing"], i1, i2, B, okini_OrderMatters S (x4 _ (by decide)) Cshown⟩, x2, x3, x4, by decide, okP_mono _⟩
  have Er_FullLot : ErrC P w K mg base 2 "FullLot" (He.ga K "FullLot") (okP [2]) ["lot"] := by
    obtain ⟨cc, cda, fi, S, B, i1, i2, x1, x2, x3, x4⟩ := ce.sup hfl htop T.no_super (i := 20) (d := di_FullLot) (ps := ["self", "lot"]) rfl (fun _ _ _ _ _ _ _ us hl => match us, hl with | [_, _], _ => rfl)
    exact ⟨ce.g X G _ (by decide), x1, ⟨_, fi, ["self", "lot"], i1, i2, B, okini_FullLot S (x4 _ (by decide)) Cshown⟩, x2, x3, x4, by decide, okP_mono _⟩
  have Er_NotAWord : ErrC P w K mg base 2 "NotAWord" (He.ga K "NotAWord") (okP [0]) ["index"] := by
    obtain ⟨cc, cda, fi, S, B, i1, i2, x1, x2, x3, x4⟩ := ce.sup hfl htop T.no_super (i := 21) (d := di_NotAWord) (ps := ["self", "index"]) rfl (fun _ _ _ _ _ _ _ us hl => match us, hl with | [_, _], _ => rfl)
    exact ⟨ce.g X G _ (by decide), x1, ⟨_, fi, ["self", "index"], i1, i2, B, okini_NotAWord S (x4 _ (by decide)) Cshown⟩, x2, x3, x4, by decide, okP_mono _⟩
  have Er_NotAColumn : ErrC P w K mg base 2 "NotAColumn" (He.ga K "NotAColumn") (okP [0]) ["value"] := by
    obtain ⟨cc, cda, fi, S, B, i1, i2, x1, x2, x3, x4⟩ := ce.sup hfl htop T.no_super (i := 22) (d := di_NotAColumn) (ps := ["self", "value"]) rfl (fun _ _ _ _ _ _ _ us hl => match us, hl with | [_, _], _ => rfl)
    exact ⟨ce.g X G _ (by decide), x1, ⟨_, fi, ["self", "value"], i1, i2, B, okini_NotAColumn S (x4 _ (by decide)) Cshown⟩, x2, x3, x4, by decide, okP_mono _⟩
  have Er_NotACount : ErrC P w K mg base 2 "NotACount" (He.ga K "NotACount") (okP [0]) ["index"] := by
    obtain ⟨cc, cda, fi, S, B, i1, i2, x1, x2, x3, x4⟩ := ce.sup hfl htop T.no_super (i := 23) (d := di_NotACount) (ps := ["self", "index"]) rfl (fun _ _ _ _ _ _ _ us hl => match us, hl with | [_, _], _ => rfl)
    exact ⟨ce.g X G _ (by decide), x1, ⟨_, fi, ["self", "index"], i1, i2, B, okini_NotACount S (x4 _ (by decide)) Cshown⟩, x2, x3, x4, by decide, okP_mono _⟩
  have Er_GameOver : ErrC P w K mg base 2 "GameOver" (He.ga K "GameOver") (okP [0]) ["locks"] := by
    obtain ⟨cc, cda, fi, S, B, i1, i2, x1, x2, x3, x4⟩ := ce.sup hfl htop T.no_super (i := 24) (d := di_GameOver) (ps := ["self", "locks"]) rfl (fun _ _ _ _ _ _ _ us hl => match us, hl with | [_, _], _ => rfl)
    exact ⟨ce.g X G _ (by decide), x1, ⟨_, fi, ["self", "locks"], i1, i2, B, okini_GameOver S (x4 _ (by decide)) Cshown⟩, x2, x3, x4, by decide, okP_mono _⟩
  have Er_NotAllowed : ErrC P w K mg base 2 "NotAllowed" (He.ga K "NotAllowed") (okP [0]) ["point"] := by
    obtain ⟨cc, cda, fi, S, B, i1, i2, x1, x2, x3, x4⟩ := ce.sup hfl htop T.no_super (i := 25) (d := di_NotAllowed) (ps := ["self", "point"]) rfl (fun _ _ _ _ _ _ _ us hl => match us, hl with | [_, _], _ => rfl)
    exact ⟨ce.g X G _ (by decide), x1, ⟨_, fi, ["self", "point"], i1, i2, B, okini_NotAllowed S (x4 _ (by decide)) Cshown⟩, x2, x3, x4, by decide, okP_mono _⟩
  have Er_NothingToUndo : ErrC0 P w K mg base 2 "NothingToUndo" (He.ga K "NothingToUndo") := by
    obtain ⟨cc, cda, fi, S, B, i1, i2, x1, x2, x3, x4⟩ := ce.sup hfl htop T.no_super (i := 26) (d := di_NothingToUndo) (ps := ["self"]) rfl (fun _ _ _ _ _ _ _ us hl => match us, hl with | [_], _ => rfl)
    exact ⟨ce.g X G _ (by decide), x1, ⟨_, fi, ["self"], i1, i2, B, okini_NothingToUndo S⟩, x2, x3⟩
  have Er_NothingToRedo : ErrC0 P w K mg base 2 "NothingToRedo" (He.ga K "NothingToRedo") := by
    obtain ⟨cc, cda, fi, S, B, i1, i2, x1, x2, x3, x4⟩ := ce.sup hfl htop T.no_super (i := 27) (d := di_NothingToRedo) (ps := ["self"]) rfl (fun _ _ _ _ _ _ _ us hl => match us, hl with | [_], _ => rfl)
    exact ⟨ce.g X G _ (by decide), x1, ⟨_, fi, ["self"], i1, i2, B, okini_NothingToRedo S⟩, x2, x3⟩
  have Er_NothingKept : ErrC0 P w K mg base 2 "NothingKept" (He.ga K "NothingKept") := by
    obtain ⟨cc, cda, fi, S, B, i1, i2, x1, x2, x3, x4⟩ := ce.sup hfl htop T.no_super (i := 28) (d := di_NothingKept) (ps := ["self"]) rfl (fun _ _ _ _ _ _ _ us hl => match us, hl with | [_], _ => rfl)
    exact ⟨ce.g X G _ (by decide), x1, ⟨_, fi, ["self"], i1, i2, B, okini_NothingKept S⟩, x2, x3⟩
  have Er_BadEdit : ErrC P w K mg base 2 "BadEdit" (He.ga K "BadEdit") (okP [0]) ["index"] := by
    obtain ⟨cc, cda, fi, S, B, i1, i2, x1, x2, x3, x4⟩ := ce.sup hfl htop T.no_super (i := 29) (d := di_BadEdit) (ps := ["self", "index"]) rfl (fun _ _ _ _ _ _ _ us hl => match us, hl with | [_, _], _ => rfl)
    exact ⟨ce.g X G _ (by decide), x1, ⟨_, fi, ["self", "index"], i1, i2, B, okini_BadEdit S (x4 _ (by decide)) Cshown⟩, x2, x3, x4, by decide, okP_mono _⟩
  have Er_UnknownName : ErrC P w K mg base 2 "UnknownName" (He.ga K "UnknownName") (okP [2]) ["name"] := by
    obtain ⟨cc, cda, fi, S, B, i1, i2, x1, x2, x3, x4⟩ := ce.sup hfl htop T.no_super (i := 30) (d := di_UnknownName) (ps := ["self", "name"]) rfl (fun _ _ _ _ _ _ _ us hl => match us, hl with | [_, _], _ => rfl)
    exact ⟨ce.g X G _ (by decide), x1, ⟨_, fi, ["self", "name"], i1, i2, B, okini_UnknownName S (x4 _ (by decide)) Cshown⟩, x2, x3, x4, by decide, okP_mono _⟩
  have Er_NotAPaper : ErrC0 P w K mg base 2 "NotAPaper" (He.ga K "NotAPaper") := by
    obtain ⟨cc, cda, fi, S, B, i1, i2, x1, x2, x3, x4⟩ := ce.sup hfl htop T.no_super (i := 31) (d := di_NotAPaper) (ps := ["self"]) rfl (fun _ _ _ _ _ _ _ us hl => match us, hl with | [_], _ => rfl)
    exact ⟨ce.g X G _ (by decide), x1, ⟨_, fi, ["self"], i1, i2, B, okini_NotAPaper S⟩, x2, x3⟩
  have C_law_errors_kept : Cl P w K mg base 5 "_law_errors_kept" ["a", "b", "c"] sp_kept := ok_law_errors_kept D_law_errors_kept T C_law_aloneC C_law_same ENL Er_BadNumber Er_NotAPoint Er_NotAMove Er_TooMany Er_UnlikeSizes Er_RepeatedPoint Er_BadText Er_NotMade Er_NotTight Er_NotFull Er_NotAFailing Er_NotNeighbours Er_NotShorter Er_SameLength Er_NoSuchLength Er_NotAnOrder Er_NotAChain Er_NotABase Er_NotInside Er_OrderMatters Er_FullLot Er_NotAWord Er_NotAColumn Er_NotACount Er_GameOver Er_NotAllowed Er_NothingToUndo Er_NothingToRedo Er_NothingKept Er_BadEdit Er_UnknownName Er_NotAPaper
  have C_law_move_fitsP : Cl P w K mg base 2 "_law_move_fits" ["value", "points"] sp_fitsP := ok_law_move_fitsP D_law_move_fits T C_law_is_whole 
  have C_law_store : Cl P w K mg base 1 "_law_store" ["script"] (sp_store K) := ok_law_store D_law_store T  
  have C_law_after : Cl P w K mg base 1 "_law_after" ["first", "second"] sp_joined := ok_law_after D_law_after T  
  have C_law_move_fitsH : ClH P w K mg base 5 "_law_move_fits" ["value", "points"] sp_fitsH := ok_law_move_fitsH D_law_move_fits T C_law_is_wholeH 
  have Copposite : ClX P w K mg base 5 "opposite" ["move"] (sp_opp K) := okopposite D_opposite T Ccheck_move 
  have C_law_undoes : Cl P w K mg base 11 "_law_undoes" ["value"] sp_undoes := ok_law_undoes D_law_undoes T C_law_after C_law_frozen C_law_frozenH C_law_move_fits C_law_move_fitsH C_law_move_fitsP C_law_refusalH C_law_same C_law_sameH Ccompose Copposite EH exmF
  exact oklaw (P := P) (w := w) (base := base) F T C_law_argument C_law_composes C_law_errors_kept C_law_leaf C_law_move C_law_move_fitsP C_law_place C_law_same C_law_store C_law_undoes C_law_whole Ccompose Copposite 
end Ho
open PySem PySem.W PySem.Calls PyProof.Rows
set_option maxRecDepth 100000 in
set_option maxHeartbeats 0 in
theorem PySem.Challenge.cw_heldorder_k01_moves_composed_holds : PySem.Challenge.rw_heldorder_k01_moves_composed.Holds := by
  w_on; o_law
  refine HandSHeadRun.head_any (r := OpenLaw.row PySem.Challenge.rw_heldorder_k01_moves_composed) (q := view (OpenLaw.row PySem.Challenge.rw_heldorder_k01_moves_composed).prog [71]) (H := Ho.hhk) (ob := Ho.hob) (M := 30000) (loose := Ho.hloose) (d := HandSHeadRun.topDef (OpenLaw.row PySem.Challenge.rw_heldorder_k01_moves_composed).prog 71) (kwd := []) Ho.hob_eq
    (by kernel_rfl) (fun s => by kernel_rfl) Ho.hrun (by kernel_rfl) (by kernel_rfl) (by kernel_rfl) (by rfl) (by first | assumption | decide +kernel) (by decide +kernel) ⟨rfl, rfl, rfl, rfl, rfl, by decide +kernel⟩ ?hw ?hc
  case hw => w_witness2
  case hc =>
    refine L2.walk_ofE (l := PySem.Challenge.rw_heldorder_k01_moves_composed) (n := 63) (k := 13) (x := "script") (CX := L2.CX0) rfl (by decide) (by kernel_rfl) ⟨rfl, by decide, by decide⟩ ?F (fun _ _ _ _ z => z)
    intro w mg fa h Y G hmg0
    obtain ⟨K, KX, c⟩ := Y
    have hmg : mg ("law" : PySem.Str) = some (.ref fa) := by
      have e : (HandSHeadRun.topDef (OpenLaw.row PySem.Challenge.rw_heldorder_k01_moves_composed).prog 71).name = ("law" : PySem.Str) := by kernel_rfl
      rw [← e]
      exact hmg0
    obtain ⟨fd, hb, hF⟩ := Ho.hfacts (P := (PySem.Challenge.rw_heldorder_k01_moves_composed).prog) (w := w) rfl (by kernel_rfl) KX G hmg c
    exact ⟨K, fd, (Ho.sp_law K), KX, hb, fun H a ns hl _ hS => ⟨a, ns, rfl, hS, hl, fun _ => rfl⟩, hF⟩

