import PyProof.Rows.All
import Wide.All
import OpenK.AllK
import Wide.FinOn
import KE.KStateDown
import Lean
import HandS.ForMost
import HandS.IsInst
import HandS.Style
import HandS.Wide
import HandS.TupMul
import HandS.Conv
import HandS.TupAny
import HandS.TupLe
import HandS.SortInts
import HandS.Codes
import HandS.StrMore
import HandS.FStr
import HandS.Walk
import HandS.More
import HandS.Defaults
import HandS.Head0
import HandS.Head1
import HandS.Head2
import HandS.HeadEnd
import HandS.HeadHook1
import HandS.HeadHook2
import PySem.Challenge.RW_heldorder_k07_loose_reading
import KE.KExcSuper
import KE.KSuper
import HandS.ExcInit
import HandS.NestedK
import HandS.ExcField
import HandS.TryOnly
import HandS.ExcIs
import HandS.HotCalls
import HandS.ExcCtx
import HandS.RaiseFrom
import HandS.ExcInitHot
import KE.KExcIs
import HandS.ExcOwn
import KE.GoesEnum
import HandS.Iter
import HandS.List
import HandS.MakeKwOnly
import HandS.DictComp
import HandS.Dict
import HandS.Text
import PyProof.Rows.Chain
import KE.DataAny
import HandS.Small
set_option Elab.async false
set_option linter.all false
set_option maxRecDepth 100000
set_option maxHeartbeats 4000000
namespace Ho
open PySem PySem.Spec PyProof.Rows L2
/-! ## HoA -/


/-- the items of a tracked list or tuple -/
def sq (H : Hp) (p : Addr) : Option (List V) := match H p with
  | some (.lst xs) => some xs
  | some (.tup xs) => some xs
  | _ => none
theorem sq_l {H : Hp} {p : Addr} {xs : List V} (h : H p = some (.lst xs)) : sq H p = some xs := by unfold sq; rw [h]
theorem sq_t {H : Hp} {p : Addr} {xs : List V} (h : H p = some (.tup xs)) : sq H p = some xs := by unfold sq; rw [h]
theorem sq_or {H : Hp} {p : Addr} {xs : List V} (h : sq H p = some xs) : H p = some (.lst xs) ∨ H p = some (.tup xs) := by
  unfold sq at h
  cases e : H p with
  | none => rw [e] at h; cases h
  | some o => rw [e] at h; cases o <;> first | (cases h; first | exact .inl rfl | exact .inr rfl) | cases h

def rIx1 : R2 := fun x y H Q => ∃ p i xs v, x = .ref p ∧ y = .int i ∧ sq H p = some xs ∧ atI xs i = some v ∧ Q v H
def rLen1 : List V → Hp → VK → Prop := fun vs H Q => ∃ p xs, vs = [.ref p] ∧ sq H p = some xs ∧ Q (.int xs.length) H
def tyN (H : Hp) (x : V) : Option String := match x with
  | .non => some "NoneType"
  | .bl _ => some "bool"
  | .int _ => some "int"
  | .str _ => some "str"
  | .ref p => match H p with
    | some (.lst _) => some "list"
    | some (.tup _) => some "tuple"
    | some (.dK _) => some "dict"
    | some (.dT _) => some "dict"
    | _ => none
  | _ => none
def rIsi1 : List V → Hp → VK → Prop := fun vs H Q => ∃ x T t b, vs = [x, .ty T] ∧ tyN H x = some t ∧ kitB t T = some b ∧ Q (.bl b) H
def rIsTF : R2 := fun x y H Q => ∃ b, y = .bl b ∧ Q (.bl (decide (x = .bl b))) H
section
variable {X : Cx}
theorem ix1 : IxR X rIx1 := by
  intro value slice pins s σ H x y v u Q I rx ry h hs
  obtain ⟨p, i, xs, z, rfl, rfl, hq, he, q⟩ := h
  rcases sq_or hq with hq | hq
  · exact ix_list value slice pins s σ H _ _ v u Q I rx ry ⟨p, xs, i, z, rfl, rfl, SqL.of hq, he, q⟩ hs
  · exact ix_tup value slice pins s σ H _ _ v u Q I rx ry ⟨p, xs, i, z, rfl, rfl, SqT.of hq, he, q⟩ hs
theorem len1 : CallR X (.builtin "len") rLen1 := by
  intro pins s σ H xs us Q I r h
  obtain ⟨p, ys, rfl, hq, q⟩ := h
  rcases sq_or hq with hq | hq
  · exact call_len pins s σ H _ us Q I r ⟨_, _, rfl, .inl ⟨_, SqL.of hq, rfl⟩, q⟩
  · exact call_len pins s σ H _ us Q I r ⟨_, _, rfl, .inr ⟨_, SqT.of hq, rfl⟩, q⟩
theorem tyN_ty {K : PySem.W.Frag} {H : Hp} {x : V} {t : String} (h : tyN H x = some t) : TyX K H x (.type t) := by
  cases x with
  | non => cases h; exact .base .non
  | bl b => cases h; exact .base (.bl b)
  | int i => cases h; exact .base (.int i)
  | str z => cases h; exact .base (.str z)
  | byt b => cases h
  | flt b => cases h
  | ty n => cases h
  | ref p =>
    unfold tyN at h
    simp only at h
    cases e : H p with
    | none => rw [e] at h; cases h
    | some o =>
      rw [e] at h
      cases o <;> first
        | (cases h; first | exact .base (.lst e) | exact .base (.tup e) | exact .base (.dK e) | exact .base (.dT e))
        | cases h
theorem isi1 : CallR X (.builtin "isinstance") rIsi1 := by
  intro pins s σ H xs us Q I r h
  obtain ⟨x, T, t, b, rfl, ht, hk, q⟩ := h
  exact call_isi pins s σ H _ us Q I r ⟨x, .ty T, .type t, .type T, b, rfl, .ty T, tyN_ty ht, kit_ty hk, q⟩
end

section
variable {X : Cx}
theorem is_plain_bl {x : V} {v : Value} {b : Bool} (r : RelV x v) : plainIs v (.bool b) = true ∧ (v == Value.bool b) = decide (x = .bl b) := by
  cases x with
  | bl a => cases (show v = Value.bool a from r); exact ⟨rfl, by cases a <;> cases b <;> rfl⟩
  | non => cases (show v = Value.none from r); exact ⟨rfl, by simp⟩
  | ref a => cases (show v = Value.ref a from r); exact ⟨rfl, by simp⟩
  | ty a => cases (show v = Value.type a from r); exact ⟨rfl, by simp⟩
  | int i => obtain ⟨t, rfl⟩ := r; exact ⟨rfl, by simp⟩
  | str i => obtain ⟨t, rfl⟩ := r; exact ⟨rfl, by simp⟩
  | byt i => obtain ⟨t, rfl⟩ := r; exact ⟨rfl, by simp⟩
  | flt i => obtain ⟨t, rfl⟩ := r; exact ⟨rfl, by simp⟩
theorem op_isTF : OpR X (compareOp .Is) rIsTF := by
  intro pins s σ H x y v u Q I rx ry h
  obtain ⟨b, rfl, q⟩ := h
  cases (show u = Value.bool b from ry)
  obtain ⟨h1, h2⟩ := is_plain_bl (b := b) rx
  exact wpAny_is_plain h1 (by rw [h2]; exact ⟨.bl _, H, I, rfl, q⟩)
def iSq (K : PySem.W.Frag) (tl : TE) : TI := fun σ H R => tl σ H fun x H1 => ∃ a xs, x = .ref a ∧ ((H1 a = some (.lst xs) ∧ R (Itl K a) H1) ∨ (H1 a = some (.tup xs) ∧ R (Itt K a) H1))
theorem pi_sq {tg l : Expr} {tl : TE} (hl : PE X l tl) : PI X tg l (iSq X.K tl) := by
  refine ⟨fun pins s σ H R I h => ?_⟩
  refine thn (hl.run pins s σ H _ I h) fun v s1 ⟨x, H1, I1, r1, q1⟩ => ?_
  obtain ⟨a, xs, rfl, ⟨hq, q⟩ | ⟨hq, q⟩⟩ := q1
  · cases r1
    obtain ⟨its, rv, p, hz⟩ := I1.list (SqL.of hq)
    refine wpAny_pyIter_list p.isList ?_
    refine ⟨s1.heap.objs.size, [s1.heap.objs.size], _, _, H1, rfl, I1.kept (t' := s1.toks) fun b o e => Heap.get?_push_of_some _ e, turn_list a _, ⟨_, Heap.get?_push_size _ rfl, rfl, rfl⟩, fun b hb => ?_, q⟩
    have e : b = s1.heap.objs.size := by simpa using hb
    subst e
    exact I1.fpOk (Nat.le_refl _) (I1.hok.fresh (Nat.le_refl _))
  · cases r1
    obtain ⟨its, rv, p, hz⟩ := I1.tuple (SqT.of hq)
    refine wpAny_pyIter_tuple (show s1.heap.IsTuple a its.toArray from p) ?_
    refine ⟨s1.heap.objs.size, [s1.heap.objs.size], _, _, H1, rfl, I1.kept (t' := s1.toks) fun b o e => Heap.get?_push_of_some _ e, turn_tuple a _, ⟨_, Heap.get?_push_size _ rfl, rfl, rfl⟩, fun b hb => ?_, q⟩
    have e : b = s1.heap.objs.size := by simpa using hb
    subst e
    exact I1.fpOk (Nat.le_refl _) (I1.hok.fresh (Nat.le_refl _))
end
/-! ### defs that let nothing out -/
def Cl (P : Program) (w : World) (K : PySem.W.Frag) (mg : Str → Option Value) (base : Heap) (k : Nat) (x : Str) (ps : List Str) (sp : Sp) : Prop :=
  ∃ f fd, mg x = some (.ref f) ∧ PySem.W.keepIn K (.ref f) = true ∧ (∀ (s : Shared) (us : List Value), us.length = ps.length → BindsTo s fd ⟨us, []⟩ (ps.zip us)) ∧ FnOk P w K mg base CX0 k f fd ps sp
abbrev FnP (K : PySem.W.Frag) (x : Str) (st : Stmt) (f : Addr) (fd : FuncData) : Prop := FunD K x x (defArgs st) (defBody st) (defScope st) [] [] f fd
def Df (K : PySem.W.Frag) (mg : Str → Option Value) (x : Str) (st : Stmt) : Prop := ∃ f fd, FnP K x st f fd ∧ mg x = some (.ref f)
section
variable {P : Program} {w : World} {K : PySem.W.Frag} {mg : Str → Option Value} {base : Heap}
theorem Cl.mono {j k : Nat} {x : Str} {ps : List Str} {sp : Sp} (C : Cl P w K mg base j x ps sp) (h : j ≤ k) : Cl P w K mg base k x ps sp := by
  obtain ⟨f, fd, a, b, c, d⟩ := C
  exact ⟨f, fd, a, b, c, d.mono h⟩
theorem cl_of {x : Str} {st : Stmt} {N ps : List Str} {k : Nat} {sp : Sp} (D : Df K mg x st) (S : FnScope N ps (defScope st))
    (hb : ∀ (kV doc pm : Value) (an : Option Addr) (cdv ct : Value) (us : List Value), us.length = ps.length → bindArgs (PySem.W.fnOf x x (defArgs st) (defBody st) (defScope st) .none kV doc pm an cdv ct) ⟨us, []⟩ = pure (ps.zip us))
    (len : ∀ vs H Q E, sp vs H Q E → vs.length = ps.length)
    (hbody : ∀ (f : Addr) (cdv : Value) (A : Around) (outer : List Env) (s : Shared) (H : Hp) (vs : List V) (Q : VK) (E : XK), Room k (A.deeper (envOfC x (defScope st) s.heap.objs.size f cdv)) → sp vs H Q E →
      ∃ t, PSs (cxOf CX0 P w K mg base N x (defScope st) f cdv A outer s H E).nox (defBody st) t ∧ t { nx := fun _ H' => Q .non H', rt := Q } (start N vs) H) : Cl P w K mg base (k + 1) x ps sp := by
  obtain ⟨f, fd, F, g⟩ := D
  refine ⟨f, fd, g, F.kp, F.bindsA hb, F.ok S len fun cdv A outer s H vs Q E hr hsp => ?_⟩
  obtain ⟨t, h, q⟩ := hbody f cdv A outer s H vs Q E hr hsp
  exact ⟨t, h.nox, q⟩
end
theorem fn_ofF {P : Program} {w : World} {K : PySem.W.Frag} {mg : Str → Option Value} {base : Heap} {x : Str} {st : Stmt} {N ps : List Str} {k : Nat} {sp : Sp} {f : Addr} {fd : FuncData} (F : FnP K x st f fd) (S : FnScope N ps (defScope st))
    (len : ∀ vs H Q E, sp vs H Q E → vs.length = ps.length)
    (hbody : ∀ (f : Addr) (cdv : Value) (A : Around) (outer : List Env) (s : Shared) (H : Hp) (vs : List V) (Q : VK) (E : XK), Room k (A.deeper (envOfC x (defScope st) s.heap.objs.size f cdv)) → sp vs H Q E →
      ∃ t, PSs (cxOf CX0 P w K mg base N x (defScope st) f cdv A outer s H E).nox (defBody st) t ∧ t { nx := fun _ H' => Q .non H', rt := Q } (start N vs) H) : FnOk P w K mg base CX0 (k + 1) f fd ps sp := by
  refine F.ok S len fun cdv A outer s H vs Q E hr hsp => ?_
  obtain ⟨t, h, q⟩ := hbody f cdv A outer s H vs Q E hr hsp
  exact ⟨t, h.nox, q⟩
section
variable {X : Cx}
theorem pe_cl {j k : Nat} {x : Str} {ps : List Str} {sp : Sp} {p pos : Pos} {e : Expr} {es : List Expr} {t : TA} (C : Cl X.prog X.w X.K X.mg X.base j x ps sp) (hr : Room k X.A) (hg : Gl X x) (ha : PA X (e :: es) t) (hjk : j ≤ k := by decide)
    (hdb : (x == ("__debug__" : Str)) = false := by decide) (he : starEach (e :: es) X.env = (false, eval e X.env) :: starEach es X.env := by rfl) (hpl : (backTo pos (starEach es X.env)).any (·.1) = false := by rfl) :
    PE X (.Call (.Name x p) (e :: es) [] pos) (tCall sp [] E0 t) := by
  obtain ⟨f, fd, a, b, c, d⟩ := C
  exact pe_call d (hr.mono hjk) hg a b (fun s us _ hl => by rw [List.append_nil] at hl ⊢; exact c s us hl) .nil pass0 ha hdb he hpl
end
/-! ### heaps that have grown, heaps that have changed -/
structure New (H : Hp) (p : Addr) (o : HO) (H' : Hp) : Prop where
  fr : H p = none
  at_ : H' p = some o
  old : ∀ b, b ≠ p → H' b = H b
structure Put (H : Hp) (p : Addr) (o : HO) (H' : Hp) : Prop where
  at_ : H' p = some o
  old : ∀ b, b ≠ p → H' b = H b
theorem New.eq {H H' : Hp} {p : Addr} {o : HO} (n : New H p o H') : H' = upd H p o := by
  funext b
  by_cases e : b = p
  · rw [e, n.at_, upd_same]
  · rw [n.old b e, upd_ne e]
theorem Put.eq {H H' : Hp} {p : Addr} {o : HO} (n : Put H p o H') : H' = upd H p o := by
  funext b
  by_cases e : b = p
  · rw [e, n.at_, upd_same]
  · rw [n.old b e, upd_ne e]
theorem New.mk' {H : Hp} {p : Addr} {o : HO} (h : H p = none) : New H p o (upd H p o) := ⟨h, upd_same, fun _ e => upd_ne e⟩
theorem Put.mk' {H : Hp} {p : Addr} {o : HO} : Put H p o (upd H p o) := ⟨upd_same, fun _ e => upd_ne e⟩
theorem New.ne {H H' : Hp} {p b : Addr} {o u : HO} (n : New H p o H') (h : H b = some u) : b ≠ p := ne_of_none h n.fr
theorem New.k {H H' : Hp} {p b : Addr} {o u : HO} (n : New H p o H') (h : H b = some u) : H' b = some u := (n.old b (n.ne h)).trans h
theorem New.same {H H' : Hp} {p : Addr} {o : HO} (n : New H p o H') : Same H H' := fun _ _ h => n.k h
theorem Put.k {H H' : Hp} {p b : Addr} {o u : HO} (n : Put H p o H') (ne : b ≠ p) (h : H b = some u) : H' b = some u := (n.old b ne).trans h
def Nw (H : Hp) (o : HO) (Q : Addr → Hp → Prop) : Prop := ∀ p H', New H p o H' → Q p H'
def Wr (H : Hp) (p : Addr) (o : HO) (Q : Hp → Prop) : Prop := ∀ H', Put H p o H' → Q H'
theorem nw_eq {H : Hp} {o : HO} {Q : VK} : (∀ p, H p = none → Q (.ref p) (upd H p o)) = Nw H o fun p H' => Q (.ref p) H' := by
  apply propext; constructor
  · intro h p H' n; rw [n.eq]; exact h p n.fr
  · intro h p hp; exact h p _ (New.mk' hp)
theorem wr_eq {H : Hp} {p : Addr} {o : HO} {Q : Hp → Prop} : Q (upd H p o) = Wr H p o Q := by
  apply propext; constructor
  · intro h H' n; rw [n.eq]; exact h
  · intro h; exact h _ Put.mk'
/-- what stood is as it was, but what stands at s -/
def Kp (s : Addr) (H H' : Hp) : Prop := ∀ b o, b ≠ s → H b = some o → H' b = some o
theorem Kp.refl {s : Addr} {H : Hp} : Kp s H H := fun _ _ _ h => h
theorem Kp.trans {s : Addr} {H H1 H2 : Hp} (a : Kp s H H1) (b : Kp s H1 H2) : Kp s H H2 := fun c o ne h => b c o ne (a c o ne h)
theorem Kp.same {s : Addr} {H H1 : Hp} (a : Same H H1) : Kp s H H1 := fun c o _ h => a c o h
theorem Kp.put {s : Addr} {H H1 : Hp} {o : HO} (a : Put H s o H1) : Kp s H H1 := fun c u ne h => a.k ne h
theorem Kp.k {s b : Addr} {H H' : Hp} {o : HO} (a : Kp s H H') (ne : b ≠ s) (h : H b = some o) : H' b = some o := a b o ne h
theorem Kp.fresh {s b : Addr} {H H' : Hp} (a : Kp s H H') (ne : b ≠ s) (h : H' b = none) : H b = none := by
  cases e : H b with
  | none => rfl
  | some o => rw [a b o ne e] at h; cases h
/-! ### rules of my own, and what the library's say -/
section
variable {X : Cx}
theorem CallR_imp {f : Value} {r r' : List V → Hp → VK → Prop} (h : CallR X f r) (i : ∀ xs H Q, r' xs H Q → r xs H Q) : CallR X f r' := fun pins s σ H xs us Q I rv q => h pins s σ H xs us Q I rv (i _ _ _ q)
theorem OpR_imp {f : Value → Value → Sem Value} {r r' : R2} (h : OpR X f r) (i : ∀ x y H Q, r' x y H Q → r x y H Q) : OpR X f r' := fun pins s σ H x y v u Q I rx ry q => h pins s σ H x y v u Q I rx ry (i _ _ _ _ q)
theorem MtR_imp {id : String} {r r' : V → List V → Hp → VK → Prop} (h : MtR X id r) (i : ∀ x xs H Q, r' x xs H Q → r x xs H Q) : MtR X id r' := fun pins s σ H x xs v us Q I rx rv q => h pins s σ H x xs v us Q I rx rv (i _ _ _ _ q)
def qInt : List V → Hp → VK → Prop := fun xs H Q => match xs with
  | [.int i] => Q (.int i) H
  | [.bl b] => Q (.int (if b then 1 else 0)) H
  | _ => False
theorem int1 : CallR X (.type "int") qInt := CallR_imp call_int1 fun xs H Q h => by
  unfold qInt at h
  split at h
  · exact .inl ⟨_, rfl, h⟩
  · exact .inr ⟨_, rfl, h⟩
  · exact h.elim
/-- list(x), x a list or a tuple -/
def qLst : List V → Hp → VK → Prop := fun xs H Q => match xs with
  | [.ref p] => ∃ ys, sq H p = some ys ∧ Nw H (.lst ys) fun l H' => Q (.ref l) H'
  | _ => False
theorem lst1 : CallR X (.type "list") qLst := CallR_imp call_list_of fun xs H Q h => by
  unfold qLst at h
  split at h
  · obtain ⟨ys, hs, q⟩ := h
    refine ⟨_, ys, rfl, ?_, ?_⟩
    · rcases sq_or hs with h | h
      · exact .inl (SqL.of h)
      · exact .inr (SqT.of h)
    · rw [nw_eq]; exact q
  · exact h.elim
/-- tuple(x), x a list -/
def qTup : List V → Hp → VK → Prop := fun xs H Q => match xs with
  | [.ref p] => ∃ ys, H p = some (.lst ys) ∧ Nw H (.tup ys) fun l H' => Q (.ref l) H'
  | _ => False
theorem tup1 : CallR X (.type "tuple") qTup := CallR_imp call_tuple_of fun xs H Q h => by
  unfold qTup at h
  split at h
  · obtain ⟨ys, hs, q⟩ := h
    refine ⟨_, ys, rfl, .inl ⟨SqL.of hs, ?_⟩⟩
    rw [nw_eq]; exact q
  · exact h.elim
end
section
variable {H : Hp} {Q : VK} {K : PySem.W.Frag}
theorem b_int {i : Int} : qInt [.int i] H Q = Q (.int i) H := rfl
theorem b_intb {b : Bool} : qInt [.bl b] H Q = Q (.int (if b then 1 else 0)) H := rfl
theorem b_list {p : Addr} : qLst [.ref p] H Q = ∃ ys, sq H p = some ys ∧ Nw H (.lst ys) fun l H' => Q (.ref l) H' := rfl
theorem b_tuple {p : Addr} : qTup [.ref p] H Q = ∃ ys, H p = some (.lst ys) ∧ Nw H (.tup ys) fun l H' => Q (.ref l) H' := rfl
theorem b_ix {p : Addr} {i : Int} : rIx1 (.ref p) (.int i) H Q = ∃ xs, sq H p = some xs ∧ ∃ v, atI xs i = some v ∧ Q v H := by
  unfold rIx1; apply propext; constructor
  · rintro ⟨_, _, xs, v, h1, h2, h⟩; cases h1; cases h2; exact ⟨xs, h.1, v, h.2⟩
  · rintro ⟨xs, h0, v, h⟩; exact ⟨_, _, xs, v, rfl, rfl, h0, h⟩
theorem b_len {p : Addr} : rLen1 [.ref p] H Q = ∃ xs, sq H p = some xs ∧ Q (.int xs.length) H := by
  unfold rLen1; apply propext; constructor
  · rintro ⟨_, xs, h1, h⟩; cases h1; exact ⟨xs, h⟩
  · rintro ⟨xs, h⟩; exact ⟨_, xs, rfl, h⟩
theorem b_setL {p : Addr} {k : Int} {v : V} {Q : Hp → Prop} : rSetL (.ref p) (.int k) v H Q = ∃ xs, H p = some (.lst xs) ∧ ∃ j, ixN xs.length k = some j ∧ Wr H p (.lst (xs.set j v)) Q := by
  unfold rSetL; apply propext; constructor
  · rintro ⟨_, xs, _, j, h1, h2, h3, h4, h⟩; cases h1; cases h2; rw [wr_eq (Q := Q)] at h; exact ⟨xs, h3, j, h4, h⟩
  · rintro ⟨xs, h3, j, h4, h⟩; rw [← wr_eq (Q := Q)] at h; exact ⟨_, xs, _, j, rfl, rfl, h3, h4, h⟩
theorem b_app {p : Addr} {y : V} : rAppend (.ref p) [y] H Q = ∃ xs, H p = some (.lst xs) ∧ xs.length < sizeLine ∧ Wr H p (.lst (xs ++ [y])) fun H' => Q .non H' := by
  unfold rAppend; apply propext; constructor
  · rintro ⟨_, xs, _, h1, h2, h3, h4, h⟩; cases h1; cases h2; rw [wr_eq (Q := fun H' => Q .non H')] at h; exact ⟨xs, h3, h4, h⟩
  · rintro ⟨xs, h3, h4, h⟩; rw [← wr_eq (Q := fun H' => Q .non H')] at h; exact ⟨_, xs, _, rfl, rfl, h3, h4, h⟩
theorem b_pop {p : Addr} : rPop (.ref p) [] H Q = ∃ xs, H p = some (.lst xs) ∧ ∃ y, xs[xs.length - 1]? = some y ∧ Wr H p (.lst xs.dropLast) fun H' => Q y H' := by
  unfold rPop; apply propext; constructor
  · rintro ⟨_, xs, y, h1, h2, h3, h4, h⟩; cases h1; rw [wr_eq (Q := fun H' => Q y H')] at h; exact ⟨xs, h3, y, h4, h⟩
  · rintro ⟨xs, h3, y, h4, h⟩; rw [← wr_eq (Q := fun H' => Q y H')] at h; exact ⟨_, xs, y, rfl, rfl, h3, h4, h⟩
theorem b_popAt {p : Addr} {i : Int} : rPopAt (.ref p) [.int i] H Q = ∃ xs, H p = some (.lst xs) ∧ ∃ k y, -(2 ^ 63) ≤ i ∧ i < 2 ^ 63 ∧ seqIndex? i xs.length = some k ∧ xs[k]? = some y ∧ Wr H p (.lst (xs.eraseIdx k)) fun H' => Q y H' := by
  unfold rPopAt; apply propext; constructor
  · rintro ⟨_, xs, _, k, y, h1, h2, h3, a, b, c, d, h⟩; cases h1; cases h2; rw [wr_eq (Q := fun H' => Q y H')] at h; exact ⟨xs, h3, k, y, a, b, c, d, h⟩
  · rintro ⟨xs, h3, k, y, a, b, c, d, h⟩; rw [← wr_eq (Q := fun H' => Q y H')] at h; exact ⟨_, xs, _, k, y, rfl, rfl, h3, a, b, c, d, h⟩
theorem b_sl {p : Addr} {lo hi : Option Int} : rSlL K (.ref p) lo hi H Q = ∃ xs, SqL K H p xs ∧ Nw H (.lst (cutV xs lo hi)) fun q H' => Q (.ref q) H' := by
  unfold rSlL; apply propext; constructor
  · rintro ⟨_, xs, h1, h2, h⟩; cases h1; rw [nw_eq] at h; exact ⟨xs, h2, h⟩
  · rintro ⟨xs, h2, h⟩; rw [← nw_eq] at h; exact ⟨_, xs, rfl, h2, h⟩
theorem b_rep {p : Addr} {k : Int} : rRep (.ref p) (.int k) H Q = ∃ xs, H p = some (.lst xs) ∧ -(2 ^ 63) ≤ k ∧ k < 2 ^ 63 ∧ xs.length * k.toNat ≤ sizeLine ∧ Nw H (.lst (List.replicate k.toNat xs).flatten) fun q H' => Q (.ref q) H' := by
  unfold rRep; apply propext; constructor
  · rintro ⟨_, _, xs, h1, h2, h3, a, b, c, h⟩; cases h1; cases h2; rw [nw_eq] at h; exact ⟨xs, h3, a, b, c, h⟩
  · rintro ⟨xs, h3, a, b, c, h⟩; rw [← nw_eq] at h; exact ⟨_, _, xs, rfl, rfl, h3, a, b, c, h⟩
theorem b_cat {p q : Addr} : rCat (.ref p) (.ref q) H Q = ∃ xs, H p = some (.lst xs) ∧ ∃ zs, H q = some (.lst zs) ∧ xs.length + zs.length ≤ sizeLine ∧ Nw H (.lst (xs ++ zs)) fun q H' => Q (.ref q) H' := by
  unfold rCat; apply propext; constructor
  · rintro ⟨_, _, xs, zs, h1, h2, h3, h4, a, h⟩; cases h1; cases h2; rw [nw_eq] at h; exact ⟨xs, h3, zs, h4, a, h⟩
  · rintro ⟨xs, h3, zs, h4, a, h⟩; rw [← nw_eq] at h; exact ⟨_, _, xs, zs, rfl, rfl, h3, h4, a, h⟩
theorem b_lstRg {σ : L2.St} {te : L2.St → Hp → (Int → Int → Hp → Prop) → Prop} : tLstRg te σ H Q = te σ H fun a b H1 => RgOk a b ∧ Nw H1 (.lst (rgV a b)) fun q H' => Q (.ref q) H' := by
  unfold tLstRg; simp only [nw_eq]
theorem b_tupRg {σ : L2.St} {te : L2.St → Hp → (Int → Int → Hp → Prop) → Prop} : tTupRg te σ H Q = te σ H fun a b H1 => RgOk a b ∧ Nw H1 (.tup (rgV a b)) fun q H' => Q (.ref q) H' := by
  unfold tTupRg; simp only [nw_eq]
theorem b_rg1 {σ : L2.St} {ta : TE} {Q : Int → Int → Hp → Prop} : tRg1 ta σ H Q = ta σ H fun x H1 => ∃ n, x = .int n ∧ Q 0 n H1 := rfl
theorem b_rg2 {σ : L2.St} {ta tb : TE} {Q : Int → Int → Hp → Prop} : tRg2 ta tb σ H Q = ta σ H fun x H1 => tb σ H1 fun y H2 => ∃ i j, x = .int i ∧ y = .int j ∧ Q i j H2 := rfl
theorem tyl {p : Addr} {xs : List V} (h : H p = some (.lst xs)) : tyV K "list" (.ref p) H := .inl ⟨rfl, _, SqL.of h⟩
end
structure NoB (mg : Str → Option Value) : Prop where
  no_len : mg "len" = none
  no_int : mg "int" = none
  no_bool : mg "bool" = none
  no_str : mg "str" = none
  no_range : mg "range" = none
  no_isinstance : mg "isinstance" = none
  no_tuple : mg "tuple" = none
  no_list : mg "list" = none
  no_min : mg "min" = none
  no_max : mg "max" = none
  no_sorted : mg "sorted" = none
  no_enumerate : mg "enumerate" = none
  no_sum : mg "sum" = none
  no_any : mg "any" = none
  no_all : mg "all" = none
  no_zip : mg "zip" = none
  no_reversed : mg "reversed" = none
  no_super : mg "super" = none
  no_set : mg "set" = none
  no_dict : mg "dict" = none
  no_ValueError : mg "ValueError" = none
  no_abs : mg "abs" = none
/-! ### what readings say, applied -/
section
variable {σ : L2.St} {H : Hp} {Q : VK} {D : Ends} {K : PySem.W.Frag}
theorem a_var {i : Nat} : tVar i σ H Q = ∃ v, σ[i]? = some (some v) ∧ Q v H := rfl
theorem a_c {v : V} : tC v σ H Q = Q v H := rfl
theorem a_op {r : R2} {a b : TE} : tOp r a b σ H Q = a σ H fun x H1 => b σ H1 fun y H2 => r x y H2 Q := rfl
theorem a_un {r : V → Hp → VK → Prop} {a : TE} : tUn r a σ H Q = a σ H fun x H1 => r x H1 Q := rfl
theorem a_test {a : TE} {Q : Bool → Hp → Prop} : tTest a σ H Q = a σ H fun x H1 => ∃ k, x = .bl k ∧ Q k H1 := rfl
theorem a_b {a : TE} {Q : Bool → Hp → Prop} : tB a σ H Q = a σ H fun x H1 => ∃ k, x = .bl k ∧ Q k H1 := rfl
theorem a_and {t u : TT} {Q : Bool → Hp → Prop} : tAnd t u σ H Q = t σ H fun c H1 => if c = true then u σ H1 Q else Q false H1 := rfl
theorem a_or {t u : TT} {Q : Bool → Hp → Prop} : tOr t u σ H Q = t σ H fun c H1 => if c = true then Q true H1 else u σ H1 Q := rfl
theorem a_not {t : TT} {Q : Bool → Hp → Prop} : tNot t σ H Q = t σ H fun c H1 => Q (!c) H1 := rfl
theorem a_andV {a b : TE} : tAndV a b σ H Q = a σ H fun x H1 => ∃ c, x = .bl c ∧ if c = true then b σ H1 Q else Q (.bl false) H1 := rfl
theorem a_orV {a b : TE} : tOrV a b σ H Q = a σ H fun x H1 => ∃ c, x = .bl c ∧ if c = true then Q (.bl true) H1 else b σ H1 Q := rfl
theorem a_notV {a : TE} : tNotV a σ H Q = a σ H fun x H1 => ∃ c, x = .bl c ∧ Q (.bl (!c)) H1 := rfl
theorem a_if {t : TT} {a b : TE} : tIf t a b σ H Q = t σ H fun c H1 => if c = true then a σ H1 Q else b σ H1 Q := rfl
theorem a_next : tNext D σ H = D.nx σ H := rfl
theorem a_seq {t u : TS} : tSeq t u D σ H = t { D with nx := u D } σ H := rfl
theorem a_break : tBreak D σ H = D.bk σ H := rfl
theorem a_cont : tCont D σ H = D.ct σ H := rfl
theorem a_drop {a : TE} : tDrop a D σ H = a σ H fun _ H1 => D.nx σ H1 := rfl
theorem a_ret {a : TE} : tRet a D σ H = a σ H D.rt := rfl
theorem a_retN : tRetN D σ H = D.rt .non H := rfl
theorem a_ifS {c : TT} {t u : TS} : tIfS c t u D σ H = c σ H fun b H1 => if b = true then t D σ H1 else u D σ H1 := rfl
theorem a_asg {a : TE} {g : TG} : tAsg a g D σ H = a σ H fun x H1 => g x σ H1 D.nx := rfl
theorem a_name {i : Nat} {v : V} {Q : L2.St → Hp → Prop} : gName i v σ H Q = Q (σ.set i (some v)) H := rfl
theorem a_sub {o i : TE} {t : TSet} {v : V} {Q : L2.St → Hp → Prop} : gSub o i t v σ H Q = o σ H fun o H1 => i σ H1 fun i H2 => t o i v H2 fun H3 => Q σ H3 := rfl
theorem a_nil {Q : List V → Hp → Prop} : tNil σ H Q = Q [] H := rfl
theorem a_cons {a : TE} {r : TA} {Q : List V → Hp → Prop} : tCons a r σ H Q = a σ H fun x H1 => r σ H1 fun xs H2 => Q (x :: xs) H2 := rfl
theorem a_tup {t : TA} : tTup t σ H Q = t σ H fun xs H1 => xs.length ≤ sizeLine ∧ Nw H1 (.tup xs) fun p H' => Q (.ref p) H' := by unfold tTup; simp only [nw_eq]
theorem a_lst {t : TA} : tLst t σ H Q = t σ H fun xs H1 => xs.length ≤ sizeLine ∧ Nw H1 (.lst xs) fun p H' => Q (.ref p) H' := by unfold tLst; simp only [nw_eq]
theorem a_call {sp : Sp} {E : XK} {t : TA} : tCall sp [] E t σ H Q = t σ H fun vs H1 => sp vs H1 Q E := by
  unfold tCall; simp only [List.append_nil]
theorem a_cb {r : List V → Hp → VK → Prop} {t : TA} : tCB r t σ H Q = t σ H fun vs H1 => r vs H1 Q := rfl
theorem a_bm0 {T : String} {r : V → List V → Hp → VK → Prop} {to : TE} : tBM0 K T r to σ H Q = to σ H fun x H1 => tyV K T x H1 ∧ r x [] H1 Q := rfl
theorem a_bm {T : String} {r : V → List V → Hp → VK → Prop} {to : TE} {t : TA} : tBM K T r to t σ H Q = to σ H fun x H1 => tyV K T x H1 ∧ t σ H1 fun xs H2 => r x xs H2 Q := rfl
theorem a_sl {r : V → Option Int → Option Int → Hp → VK → Prop} {te : TE} {tl th : TO} : tSl r te tl th σ H Q = te σ H fun x H1 => tl σ H1 fun l H2 => th σ H2 fun u H3 => r x l u H3 Q := rfl
theorem a_nopart {Q : Option Int → Hp → Prop} : tNoPart σ H Q = Q none H := rfl
theorem a_part {t : TE} {Q : Option Int → Hp → Prop} : tPart t σ H Q = t σ H fun x H1 => ∃ i, x = .int i ∧ Q (some i) H1 := rfl
theorem a_aug {i : Nat} {te : TE} {ti : TIp} : tAug i te ti D σ H = ∃ x, σ[i]? = some (some x) ∧ te σ H fun y H1 => ti x y H1 fun z H2 => D.nx (σ.set i (some z)) H2 := rfl
theorem b_rI {C : Int → Int → Prop} {g : Int → Int → V} {x y : Int} : rI C g (.int x) (.int y) H Q = (C x y ∧ Q (g x y) H) := by
  unfold rI; apply propext; constructor
  · rintro ⟨i, j, h1, h2, h⟩; cases h1; cases h2; exact h
  · intro h; exact ⟨x, y, rfl, rfl, h⟩
theorem b_rI0 {g : Int → Int → V} {x y : Int} : rI0 g (.int x) (.int y) H Q = Q (g x y) H := by
  unfold rI0; apply propext; constructor
  · rintro ⟨i, j, h1, h2, h⟩; cases h1; cases h2; exact h
  · intro h; exact ⟨x, y, rfl, rfl, h⟩
theorem b_rU {g : Int → V} {x : Int} : rU g (.int x) H Q = Q (g x) H := by
  unfold rU; apply propext; constructor
  · rintro ⟨i, h1, h⟩; cases h1; exact h
  · intro h; exact ⟨x, rfl, h⟩
theorem b_eq {x y : V} : rEq x y H Q = (scal x y = true ∧ Q (.bl (decide (x = y))) H) := rfl
theorem b_ne {x y : V} : rNe x y H Q = (scal x y = true ∧ Q (.bl (!decide (x = y))) H) := rfl
theorem b_isTF {x : V} {b : Bool} : rIsTF x (.bl b) H Q = Q (.bl (decide (x = .bl b))) H := by
  unfold rIsTF; apply propext; constructor
  · rintro ⟨i, h1, h⟩; cases h1; exact h
  · intro h; exact ⟨b, rfl, h⟩
end
theorem seq_join {t u : TS} {D : Ends} {σ : L2.St} {H : Hp} (M : L2.St → Hp → Prop) (h2 : ∀ N : L2.St → Hp → Prop, (∀ σ H, M σ H → N σ H) → t { D with nx := N } σ H) (h1 : ∀ σ H, M σ H → u D σ H) : tSeq t u D σ H := h2 (u D) h1
theorem ixN_7 : ixN 7 1 = some 1 ∧ ixN 7 2 = some 2 ∧ ixN 7 3 = some 3 ∧ ixN 7 4 = some 4 ∧ ixN 7 5 = some 5 ∧ ixN 7 6 = some 6 := by decide
theorem atI_of {α : Type} {xs : List α} {i : Int} {v : α} (h0 : 0 ≤ i) (h : xs[i.toNat]? = some v) : atI xs i = some v := by
  have hl := (List.getElem?_eq_some_iff.mp h).1
  unfold atI ixN
  rw [if_pos h0, if_pos (by omega)]
  exact h
theorem atI_0 {α : Type} {a : α} {r : List α} : atI (a :: r) 0 = some a := atI_of (by decide) rfl
theorem atI_1 {α : Type} {a b : α} {r : List α} : atI (a :: b :: r) 1 = some b := atI_of (by decide) rfl
theorem atI_2 {α : Type} {a b c : α} {r : List α} : atI (a :: b :: c :: r) 2 = some c := atI_of (by decide) rfl
theorem atI_3 {α : Type} {a b c d : α} {r : List α} : atI (a :: b :: c :: d :: r) 3 = some d := atI_of (by decide) rfl
theorem atI_4 {α : Type} {a b c d e : α} {r : List α} : atI (a :: b :: c :: d :: e :: r) 4 = some e := atI_of (by decide) rfl
theorem atI_5 {α : Type} {a b c d e f : α} {r : List α} : atI (a :: b :: c :: d :: e :: f :: r) 5 = some f := atI_of (by decide) rfl
theorem atI_6 {α : Type} {a b c d e f g : α} {r : List α} : atI (a :: b :: c :: d :: e :: f :: g :: r) 6 = some g := atI_of (by decide) rfl
theorem ixN_of {n : Nat} {i : Int} (h0 : 0 ≤ i) (h : i < n) : ixN n i = some i.toNat := by
  unfold ixN
  rw [if_pos h0, if_pos h]
theorem fm_bound {x m : Int} (h : 0 < m) : 0 ≤ x.fmod m ∧ x.fmod m < m := ⟨Int.fmod_nonneg_of_pos x h, Int.fmod_lt_of_pos x h⟩
theorem cm_lit {i j : Int} (h : -(2 ^ 64) < j ∧ j < 2 ^ 64) : CMul i j := .inr h
theorem cm_fm {x y m : Int} (h : 0 < m) (h2 : m < 2 ^ 64) : CMul (x.fmod m) y := .inl (by have := fm_bound (x := x) h; omega)
theorem scal_ii {i j : Int} : scal (.int i) (.int j) = true := rfl
theorem scal_bb {i j : Bool} : scal (.bl i) (.bl j) = true := rfl
theorem scal_ss {i j : Str} : scal (.str i) (.str j) = true := rfl
theorem scal_is {i : Int} {j : Str} : scal (.int i) (.str j) = true := rfl
theorem scal_si {i : Int} {j : Str} : scal (.str j) (.int i) = true := rfl
/-! ### loops -/
section
variable {σ : L2.St} {H : Hp} {Q : VK} {D : Ends} {K : PySem.W.Frag} {g : TG} {tb : TS} {tt : TT} {te : TE} {vs : List Nat} {ta : TA} {tl : TE}
def FRg (lo : Int) (n : Nat) (g : TG) (tb : TS) (D : Ends) (σ : L2.St) (H : Hp) : Prop := ∃ W : Nat → Nat → L2.St → Hp → Prop, (∃ m, W 0 m σ H) ∧ ∀ i m σ H, W i m σ H →
      ((Itr lo n).stop i H ∧ D.nx σ H) ∨ ((Itr lo n).go i H ∧ ∃ N : L2.St → Hp → Prop, (∀ σ' H', N σ' H' → ∃ m', m' < m ∧ W (i + 1) m' σ' H') ∧ ∀ x H', (Itr lo n).yld i H x H' → g x σ H' fun σ2 H2 => tb { D with nx := N, ct := N, bk := D.nx } σ2 H2)
theorem a_forR : tFor (iRng1 ta) g tb D σ H = ta σ H fun vs H1 => ∃ j : Int, vs = [.int j] ∧ -(2 ^ 62) ≤ j ∧ j < 2 ^ 62 ∧ FRg 0 j.toNat g tb D σ H1 := rfl
theorem a_forR2 : tFor (iRng2 ta) g tb D σ H = ta σ H fun vs H1 => ∃ i j : Int, vs = [.int i, .int j] ∧ (-(2 ^ 62) ≤ i ∧ i < 2 ^ 62 ∧ -(2 ^ 62) ≤ j ∧ j < 2 ^ 62) ∧ FRg i (j - i).toNat g tb D σ H1 := rfl
theorem fr_by {lo : Int} {n : Nat} (Pv : Nat → L2.St → Hp → Prop) (h0 : Pv 0 σ H)
    (hs : ∀ i σ H (N : L2.St → Hp → Prop), (∀ σ' H', Pv (i + 1) σ' H' → N σ' H') → i < n → Pv i σ H → g (.int (lo + i)) σ H fun σ2 H2 => tb { D with nx := N, ct := N, bk := D.nx } σ2 H2) (hd : ∀ σ H, Pv n σ H → D.nx σ H) : FRg lo n g tb D σ H := for_range Pv h0 (fun i σ H => hs i σ H _ fun _ _ z => z) hd
def FSq (K : PySem.W.Frag) (a : Addr) (g : TG) (tb : TS) (D : Ends) (σ : L2.St) (H : Hp) : Prop := ∃ xs, (H a = some (.lst xs) ∧ tFor (fun _ H R => R (Itl K a) H) g tb D σ H) ∨ (H a = some (.tup xs) ∧ tFor (fun _ H R => R (Itt K a) H) g tb D σ H)
def FSqV (K : PySem.W.Frag) (x : V) (g : TG) (tb : TS) (D : Ends) (σ : L2.St) (H : Hp) : Prop := ∃ a xs, x = .ref a ∧ ((H a = some (.lst xs) ∧ tFor (fun _ H R => R (Itl K a) H) g tb D σ H) ∨ (H a = some (.tup xs) ∧ tFor (fun _ H R => R (Itt K a) H) g tb D σ H))
theorem a_forS : tFor (iSq K tl) g tb D σ H = tl σ H fun x H1 => FSqV K x g tb D σ H1 := rfl
theorem b_fsq {a : Addr} : FSqV K (.ref a) g tb D σ H = FSq K a g tb D σ H := by
  unfold FSqV FSq; apply propext; constructor
  · rintro ⟨b, xs, e, h⟩; cases e; exact ⟨xs, h⟩
  · rintro ⟨xs, h⟩; exact ⟨a, xs, rfl, h⟩
theorem fs_by {a : Addr} {xs : List V} (hq : sq H a = some xs) (Pv : Nat → L2.St → Hp → Prop) (h0 : Pv 0 σ H) (hl : ∀ i σ' H', Pv i σ' H' → ∀ o, H a = some o → H' a = some o)
    (hs : ∀ i x σ H (N : L2.St → Hp → Prop), (∀ σ' H', Pv (i + 1) σ' H' → N σ' H') → xs[i]? = some x → Pv i σ H → g x σ H fun σ2 H2 => tb { D with nx := N, ct := N, bk := D.nx } σ2 H2) (hd : ∀ σ H, Pv xs.length σ H → D.nx σ H) : FSq K a g tb D σ H := by
  rcases sq_or hq with h | h
  · exact ⟨xs, .inl ⟨h, for_list Pv h0 (fun i σ' H' _ p => SqL.of (hl i σ' H' p _ h)) (fun i x σ H => hs i x σ H _ fun _ _ z => z) hd⟩⟩
  · exact ⟨xs, .inr ⟨h, for_tup Pv h0 (fun i σ' H' _ p => SqT.of (hl i σ' H' p _ h)) (fun i x σ H => hs i x σ H _ fun _ _ z => z) hd⟩⟩
/-! ### comprehensions -/
def CRg (lo : Int) (n : Nat) (g : TG) (tt : TT) (te : TE) (vs : List Nat) (σ : L2.St) (H : Hp) (Q : VK) : Prop := tLc (fun _ H R => R (Itr lo n) H) g tt te vs σ H Q
theorem a_lcR : tLc (iRng1 ta) g tt te vs σ H Q = ta σ H fun ws H1 => ∃ j : Int, ws = [.int j] ∧ -(2 ^ 62) ≤ j ∧ j < 2 ^ 62 ∧ CRg 0 j.toNat g tt te vs σ H1 Q := rfl
theorem a_lcR2 : tLc (iRng2 ta) g tt te vs σ H Q = ta σ H fun ws H1 => ∃ i j : Int, ws = [.int i, .int j] ∧ (-(2 ^ 62) ≤ i ∧ i < 2 ^ 62 ∧ -(2 ^ 62) ≤ j ∧ j < 2 ^ 62) ∧ CRg i (j - i).toNat g tt te vs σ H1 Q := rfl
/-- the end of a comprehension's turn -/
def CSt (C : Addr) (N : Hp → Prop) (y : V) (H : Hp) : Prop := ∃ acc, H C = some (.lst acc) ∧ acc.length < sizeLine ∧ N (upd H C (.lst (acc ++ [y])))
theorem cst {C : Addr} {N : Hp → Prop} {y : V} {H : Hp} {acc : List V} (h : H C = some (.lst acc)) (hl : acc.length < sizeLine) (hn : ∀ H5, Put H C (.lst (acc ++ [y])) H5 → N H5) : CSt C N y H := ⟨acc, h, hl, hn _ Put.mk'⟩
theorem cr_by {lo : Int} {n : Nat} (Pv : Addr → Nat → List V → Hp → Prop) (h0 : ∀ C H0, New H C (.lst []) H0 → Pv C 0 [] H0)
    (hs : ∀ C i acc H1 N, H C = none → i < n → H1 C = some (.lst acc) → Pv C i acc H1 → (∀ acc' H5, H5 C = some (.lst acc') → Pv C (i + 1) acc' H5 → N H5) → g (.int (lo + i)) (wipe σ vs) H1 fun σ2 H2 => wipe σ2 vs = wipe σ vs ∧ tt σ2 H2 fun b H3 =>
      if b = true then te σ2 H3 fun y H4 => CSt C N y H4 else N H3)
    (hd : ∀ C acc H1, H C = none → H1 C = some (.lst acc) → Pv C n acc H1 → Q (.ref C) H1) : CRg lo n g tt te vs σ H Q := by
  intro C hC
  refine lc_range (fun i H1 => ∃ acc, H1 C = some (.lst acc) ∧ Pv C i acc H1) ⟨[], upd_same, h0 C _ (New.mk' hC)⟩ (fun i H1 hi ⟨acc, ha, p⟩ => ?_) (fun H1 ⟨acc, ha, p⟩ => hd C acc H1 hC ha p)
  exact hs C i acc H1 _ hC hi ha p fun acc' H5 h5 p5 => ⟨acc', h5, p5⟩
def CSq (K : PySem.W.Frag) (a : Addr) (g : TG) (tt : TT) (te : TE) (vs : List Nat) (σ : L2.St) (H : Hp) (Q : VK) : Prop := ∃ xs, (H a = some (.lst xs) ∧ tLc (fun _ H R => R (Itl K a) H) g tt te vs σ H Q) ∨ (H a = some (.tup xs) ∧ tLc (fun _ H R => R (Itt K a) H) g tt te vs σ H Q)
def CSqV (K : PySem.W.Frag) (x : V) (g : TG) (tt : TT) (te : TE) (vs : List Nat) (σ : L2.St) (H : Hp) (Q : VK) : Prop := ∃ a xs, x = .ref a ∧ ((H a = some (.lst xs) ∧ tLc (fun _ H R => R (Itl K a) H) g tt te vs σ H Q) ∨ (H a = some (.tup xs) ∧ tLc (fun _ H R => R (Itt K a) H) g tt te vs σ H Q))
theorem a_lcS : tLc (iSq K tl) g tt te vs σ H Q = tl σ H fun x H1 => CSqV K x g tt te vs σ H1 Q := rfl
theorem b_csq {a : Addr} : CSqV K (.ref a) g tt te vs σ H Q = CSq K a g tt te vs σ H Q := by
  unfold CSqV CSq; apply propext; constructor
  · rintro ⟨b, xs, e, h⟩; cases e; exact ⟨xs, h⟩
  · rintro ⟨xs, h⟩; exact ⟨a, xs, rfl, h⟩
theorem cs_by {a : Addr} {xs : List V} (hq : sq H a = some xs) (Pv : Addr → Nat → List V → Hp → Prop) (h0 : ∀ C H0, New H C (.lst []) H0 → Pv C 0 [] H0) (hl : ∀ C i acc H', H C = none → Pv C i acc H' → ∀ o, H a = some o → H' a = some o)
    (hs : ∀ C i x acc H1 N, H C = none → xs[i]? = some x → H1 C = some (.lst acc) → Pv C i acc H1 → (∀ acc' H5, H5 C = some (.lst acc') → Pv C (i + 1) acc' H5 → N H5) → g x (wipe σ vs) H1 fun σ2 H2 => wipe σ2 vs = wipe σ vs ∧ tt σ2 H2 fun b H3 =>
      if b = true then te σ2 H3 fun y H4 => CSt C N y H4 else N H3)
    (hd : ∀ C acc H1, H C = none → H1 C = some (.lst acc) → Pv C xs.length acc H1 → Q (.ref C) H1) : CSq K a g tt te vs σ H Q := by
  rcases sq_or hq with h | h
  · refine ⟨xs, .inl ⟨h, fun C hC => ?_⟩⟩
    refine lc_list (fun i H1 => ∃ acc, H1 C = some (.lst acc) ∧ Pv C i acc H1) ⟨[], upd_same, h0 C _ (New.mk' hC)⟩ (fun i H1 _ ⟨acc, ha, p⟩ => SqL.of (hl C i acc H1 hC p _ h)) (fun i x H1 hi ⟨acc, ha, p⟩ => ?_) (fun H1 ⟨acc, ha, p⟩ => hd C acc H1 hC ha p)
    exact hs C i x acc H1 _ hC hi ha p fun acc' H5 h5 p5 => ⟨acc', h5, p5⟩
  · refine ⟨xs, .inr ⟨h, fun C hC => ?_⟩⟩
    refine lc_tup (fun i H1 => ∃ acc, H1 C = some (.lst acc) ∧ Pv C i acc H1) ⟨[], upd_same, h0 C _ (New.mk' hC)⟩ (fun i H1 _ ⟨acc, ha, p⟩ => SqT.of (hl C i acc H1 hC p _ h)) (fun i x H1 hi ⟨acc, ha, p⟩ => ?_) (fun H1 ⟨acc, ha, p⟩ => hd C acc H1 hC ha p)
    exact hs C i x acc H1 _ hC hi ha p fun acc' H5 h5 p5 => ⟨acc', h5, p5⟩
/-! ### while -/
def WSt (N : L2.St → Hp → Prop) (tb : TS) (D : Ends) (σ : L2.St) (b : Bool) (H : Hp) : Prop := if b = true then tb { D with nx := N, ct := N, bk := D.nx } σ H else D.nx σ H
theorem wh_by {c : TT} (Pv : Nat → L2.St → Hp → Prop) (m : Nat) (h0 : Pv m σ H) (hs : ∀ m σ H (N : L2.St → Hp → Prop) (R : Bool → Hp → Prop), (∀ m' σ' H', m' < m → Pv m' σ' H' → N σ' H') → (∀ b H1, WSt N tb D σ b H1 → R b H1) → Pv m σ H → c σ H R) : tWhile c tb D σ H := by
  refine ⟨Pv, ⟨m, h0⟩, fun m σ H p => ?_⟩
  refine hs m σ H (fun σ' H' => ∃ m', m' < m ∧ Pv m' σ' H') _ (fun m' σ' H' h p => ⟨m', h, p⟩) (fun b H1 h => ?_) p
  unfold WSt at h
  cases b with
  | true => exact ⟨_, fun _ _ z => z, h⟩
  | false => exact h
theorem wst {N : L2.St → Hp → Prop} {b : Bool} (ht : b = true → tb { D with nx := N, ct := N, bk := D.nx } σ H) (hf : b = false → D.nx σ H) : WSt N tb D σ b H := by
  cases b with
  | true => exact ht rfl
  | false => exact hf rfl
end
theorem wipe_nil {σ : L2.St} : wipe σ [] = σ := rfl
theorem wipe_cons {σ : L2.St} {v : Nat} {vs : List Nat} : wipe σ (v :: vs) = (wipe σ vs).set v none := rfl
theorem a_yes {σ : L2.St} {H : Hp} {Q : Bool → Hp → Prop} : tYes σ H Q = Q true H := rfl
/-! ### data -/
inductive Lf : V → PyData → Nat → Prop
  | non : Lf .non .none 1
  | bl (b : Bool) : Lf (.bl b) (.bool b) 1
  | int (i : Int) : Lf (.int i) (.int i) 1
  | str (x : Str) : Lf (.str x) (.str x) (x.length + 1)
theorem Lf.pos {v : V} {d : PyData} {n : Nat} (h : Lf v d n) : 0 < n := by cases h <;> omega
mutual
inductive Dw (E : List Addr) (H : Hp) : V → PyData → Nat → Prop
  | lf {v : V} {d : PyData} {n : Nat} : Lf v d n → Dw E H v d n
  | lst {a : Addr} {xs : List V} {ds : List PyData} {n : Nat} : a ∉ E → H a = some (.lst xs) → DwAll E H xs ds n → Dw E H (.ref a) (.list ds) (n + 1)
  | tup {a : Addr} {xs : List V} {ds : List PyData} {n : Nat} : a ∉ E → H a = some (.tup xs) → DwAll E H xs ds n → Dw E H (.ref a) (.tuple ds) (n + 1)
inductive DwAll (E : List Addr) (H : Hp) : List V → List PyData → Nat → Prop
  | nil : DwAll E H [] [] 0
  | cons {v : V} {vs : List V} {d : PyData} {ds : List PyData} {n m : Nat} : Dw E H v d n → DwAll E H vs ds m → DwAll E H (v :: vs) (d :: ds) (n + m)
end
mutual
theorem Dw.kp {E : List Addr} {H H' : Hp} (k : ∀ a o, a ∉ E → H a = some o → H' a = some o) : ∀ {v : V} {d : PyData} {n : Nat}, Dw E H v d n → Dw E H' v d n
  | _, _, _, .lf l => .lf l
  | _, _, _, .lst ne h a => .lst ne (k _ _ ne h) (DwAll.kp k a)
  | _, _, _, .tup ne h a => .tup ne (k _ _ ne h) (DwAll.kp k a)
theorem DwAll.kp {E : List Addr} {H H' : Hp} (k : ∀ a o, a ∉ E → H a = some o → H' a = some o) : ∀ {v : List V} {d : List PyData} {n : Nat}, DwAll E H v d n → DwAll E H' v d n
  | _, _, _, .nil => .nil
  | _, _, _, .cons a b => .cons (Dw.kp k a) (DwAll.kp k b)
end
theorem Dw.pos {E : List Addr} {H : Hp} {v : V} {d : PyData} {n : Nat} (h : Dw E H v d n) : 0 < n := by
  cases h with
  | lf l => exact l.pos
  | lst => omega
  | tup => omega
theorem DwAll.len {E : List Addr} {H : Hp} : ∀ {v : List V} {d : List PyData} {n : Nat}, DwAll E H v d n → v.length = d.length ∧ v.length ≤ n
  | _, _, _, .nil => ⟨rfl, Nat.le_refl _⟩
  | _, _, _, .cons a b => by
    have h1 := DwAll.len b
    have h2 := a.pos
    simp only [List.length_cons]
    omega
theorem DwAll.app {E : List Addr} {H : Hp} : ∀ {v : List V} {d : List PyData} {n : Nat} {v' : List V} {d' : List PyData} {n' : Nat}, DwAll E H v d n → DwAll E H v' d' n' → DwAll E H (v ++ v') (d ++ d') (n + n')
  | _, _, _, _, _, n', .nil, b => by rw [Nat.zero_add]; exact b
  | _, _, _, _, _, _, .cons (n := n) (m := m) a r, b => by rw [Nat.add_assoc]; exact .cons a (DwAll.app r b)
theorem DwAll.one {E : List Addr} {H : Hp} {v : V} {d : PyData} {n : Nat} (h : Dw E H v d n) : DwAll E H [v] [d] n := .cons h .nil
theorem DwAll.get {E : List Addr} {H : Hp} : ∀ {v : List V} {d : List PyData} {n i : Nat} {x : V}, DwAll E H v d n → v[i]? = some x → ∃ e m, d[i]? = some e ∧ Dw E H x e m ∧ m ≤ n
  | _, _, _, _, _, .nil, h => by simp at h
  | _, _, _, 0, x, .cons (n := n) (m := m) a r, h => by
    simp at h; subst h
    exact ⟨_, _, rfl, a, by omega⟩
  | _, _, _, i + 1, x, .cons (n := n) (m := m) a r, h => by
    obtain ⟨e, k, h1, h2, h3⟩ := DwAll.get (i := i) (x := x) r (by simpa using h)
    exact ⟨e, k, by simpa using h1, h2, by omega⟩
theorem DwAll.mem {E : List Addr} {H : Hp} {v : List V} {d : List PyData} {n : Nat} {x : V} (h : DwAll E H v d n) (hx : x ∈ v) : ∃ e m, e ∈ d ∧ Dw E H x e m ∧ m ≤ n := by
  obtain ⟨i, hi⟩ := List.getElem?_of_mem hx
  obtain ⟨e, m, h1, h2, h3⟩ := h.get hi
  exact ⟨e, m, List.mem_of_getElem? h1, h2, h3⟩
/-- any list of data -/
theorem DwAll.of {E : List Addr} {H : Hp} {b : Nat} : ∀ {v : List V}, (∀ x ∈ v, ∃ d n, Dw E H x d n ∧ n ≤ b) → ∃ ds n, DwAll E H v ds n ∧ n ≤ b * v.length
  | [], _ => ⟨[], 0, .nil, by simp⟩
  | x :: r, h => by
    obtain ⟨d, n, h1, h2⟩ := h x List.mem_cons_self
    obtain ⟨ds, m, h3, h4⟩ := DwAll.of (v := r) fun y hy => h y (List.mem_cons_of_mem _ hy)
    refine ⟨d :: ds, n + m, .cons h1 h3, ?_⟩
    rw [List.length_cons, Nat.mul_add]
    omega
theorem DwAll.ints {E : List Addr} {H : Hp} : ∀ ns : List Int, DwAll E H (ns.map V.int) (ns.map PyData.int) ns.length
  | [] => .nil
  | n :: r => by
    have := DwAll.cons (E := E) (H := H) (Dw.lf (.int n)) (DwAll.ints r)
    rw [List.length_cons, Nat.add_comm]
    exact this
/-- the law's store at s, its list of cells at l -/
def Sto (s l : Addr) (H : Hp) : Prop := ∃ (ns : List Int) (i1 i2 i3 i4 i5 i6 : Int), H s = some (.lst [.ref l, .int i1, .int i2, .int i3, .int i4, .int i5, .int i6]) ∧ H l = some (.lst (ns.map V.int)) ∧ l ≠ s ∧ 0 ≤ i1
theorem Sto.put {s l : Addr} {H H' : Hp} {ns : List Int} {i1 i2 i3 i4 i5 i6 : Int} (hl : H l = some (.lst (ns.map V.int))) (ne : l ≠ s) (n : Put H s (.lst [.ref l, .int i1, .int i2, .int i3, .int i4, .int i5, .int i6]) H') (h1 : 0 ≤ i1) : Sto s l H' :=
  ⟨ns, i1, i2, i3, i4, i5, i6, n.at_, n.k ne hl, ne, h1⟩
theorem Sto.ne {s l p : Addr} {H : Hp} (h : Sto s l H) (hp : H p = none) : p ≠ s ∧ p ≠ l := by
  obtain ⟨ns, i1, i2, i3, i4, i5, i6, hs, hl, ne, h1⟩ := h
  exact ⟨(ne_of_none hs hp).symm, (ne_of_none hl hp).symm⟩
theorem Sto.keep {s l : Addr} {H H' : Hp} (h : Sto s l H) (a : ∀ o, H s = some o → H' s = some o) (b : ∀ o, H l = some o → H' l = some o) : Sto s l H' := by
  obtain ⟨ns, i1, i2, i3, i4, i5, i6, hs, hl, ne, h1⟩ := h
  exact ⟨ns, i1, i2, i3, i4, i5, i6, a _ hs, b _ hl, ne, h1⟩
theorem Sto.same {s l : Addr} {H H' : Hp} (h : Sto s l H) (a : Same H H') : Sto s l H' := h.keep (fun _ => a _ _) fun _ => a _ _
structure Ge (s l : Addr) (H H' : Hp) : Prop where
  kp : Kp s H H'
  st : Sto s l H'
section
variable {s l p : Addr} {H H1 H2 : Hp} {o : HO}
theorem Ge.refl (h : Sto s l H) : Ge s l H H := ⟨Kp.refl, h⟩
theorem Ge.trans (a : Ge s l H H1) (b : Ge s l H1 H2) : Ge s l H H2 := ⟨a.kp.trans b.kp, b.st⟩
theorem Ge.same (a : Ge s l H H1) (b : Same H1 H2) : Ge s l H H2 := ⟨a.kp.trans (Kp.same b), a.st.same b⟩
theorem Ge.new (a : Ge s l H H1) (n : New H1 p o H2) : Ge s l H H2 := a.same n.same
theorem Ge.fr (a : Ge s l H H1) (h : H1 p = none) : H p = none := a.kp.fresh (a.st.ne h).1 h
/-- a store to an object that is new since H -/
theorem Ge.put (a : Ge s l H H1) (h0 : Sto s l H) (hp : H p = none) (n : Put H1 p o H2) : Ge s l H H2 := by
  have e := h0.ne hp
  exact ⟨fun b u hb hu => n.k (ne_of_none hu hp) (a.kp b u hb hu), a.st.keep (fun _ h => n.k e.1.symm h) fun _ h => n.k e.2.symm h⟩
theorem Ge.at (a : Ge s l H1 H2) (h0 : Sto s l H) (hp : H p = none) (h : H1 p = some o) : H2 p = some o := a.kp.k (h0.ne hp).1 h
theorem Ge.k (a : Ge s l H1 H2) (ne : p ≠ s) (h : H1 p = some o) : H2 p = some o := a.kp.k ne h
end
theorem Kp.sq {s p : Addr} {H H' : Hp} {xs : List V} (a : Kp s H H') (ne : p ≠ s) (h : sq H p = some xs) : sq H' p = some xs := by
  rcases sq_or h with h | h
  · exact sq_l (a.k ne h)
  · exact sq_t (a.k ne h)
theorem cxK {CX : CXT} {P : Program} {w : World} {K : PySem.W.Frag} {mg : Str → Option Value} {base : Heap} {N : List Str} {q : Str} {sc : Scope} {f : Addr} {cd : Value} {A : Around} {outer : List Env} {s : Shared} {H : Hp} {E : XK} : (cxOf CX P w K mg base N q sc f cd A outer s H E).K = K := rfl
theorem Sto.ne' {s l p : Addr} {H : Hp} {o : HO} (h : Sto s l H) (hp : H p = some o) (hb : ∀ m i1 i2 i3 i4 i5 i6, o ≠ .lst [.ref m, .int i1, .int i2, .int i3, .int i4, .int i5, .int i6]) : p ≠ s := by
  obtain ⟨ns, i1, i2, i3, i4, i5, i6, hs, hl, ne, h1⟩ := h
  rintro rfl
  rw [hp] at hs
  exact hb _ _ _ _ _ _ _ (Option.some.inj hs)
section
variable {σ : L2.St} {H : Hp} {Q : VK}
theorem a_m1 {r : V → List V → Hp → VK → Prop} {a b : TE} : tM1 r a b σ H Q = a σ H fun x H1 => (∃ z, x = .str z) ∧ b σ H1 fun y H2 => r x [y] H2 Q := rfl
theorem b_ixS {z : Str} {i : Int} : rIxS (.str z) (.int i) H Q = (z.length ≤ sizeLine ∧ ∃ c, atI z.cps.toList i = some c ∧ Q (.str ⟨#[c]⟩) H) := by
  unfold rIxS; apply propext; constructor
  · rintro ⟨_, _, c, h1, h2, h3, h4, h⟩; cases h1; cases h2; exact ⟨h3, c, h4, h⟩
  · rintro ⟨h3, c, h4, h⟩; exact ⟨_, _, c, rfl, rfl, h3, h4, h⟩
theorem b_slS {z : Str} {lo hi : Option Int} : rSlS (.str z) lo hi H Q = (z.length ≤ sizeLine ∧ Q (.str (cutS z lo hi)) H) := by
  unfold rSlS; apply propext; constructor
  · rintro ⟨_, h1, h3, h⟩; cases h1; exact ⟨h3, h⟩
  · rintro ⟨h3, h⟩; exact ⟨_, rfl, h3, h⟩
end
theorem len_app (a b : Str) : (a ++ b).length = a.length + b.length := by
  show (Array.size (a.cps ++ b.cps)) = _
  rw [Array.size_append]
  rfl
theorem tl_app (a b : Str) : (a ++ b).cps.toList = a.cps.toList ++ b.cps.toList := by
  show (a.cps ++ b.cps).toList = _
  rw [Array.toList_append]
theorem len_tl (a : Str) : a.cps.toList.length = a.length := by simp [Str.length]
/-- signs from the space to the tilde and line feeds -/
def Vis (z : Str) : Prop := ∀ c ∈ z.cps.toList, c = 10 ∨ (32 ≤ c ∧ c < 127)
theorem Vis.app {a b : Str} (h : Vis a) (h' : Vis b) : Vis (a ++ b) := by
  intro c hc
  rw [tl_app] at hc
  rcases List.mem_append.mp hc with z | z
  · exact h c z
  · exact h' c z
theorem Vis.cut {a : Str} (h : Vis a) (lo hi : Option Int) : Vis (cutS a lo hi) := by
  intro c hc
  unfold cutS at hc
  exact h c (List.mem_of_mem_drop (List.mem_of_mem_take (by simpa using hc)))
theorem joinL_nil : ∀ ps : List (List Nat), TL.joinL [] ps = ps.flatten
  | [] => rfl
  | [p] => by simp [TL.joinL]
  | p :: q :: r => by
    have e := joinL_nil (q :: r)
    show p ++ ([] ++ TL.joinL [] (q :: r)) = _
    rw [e] <;> simp
theorem join_tl (ys : List Str) : (Txt.join ("" : Str) ys).cps.toList = (ys.map fun z => z.cps.toList).flatten := by
  have e := TL.tl_join ("" : Str) ys
  rw [← TL.join_eq] at e
  have e0 : TL.tl ("" : Str) = [] := by decide +kernel
  rw [e0, joinL_nil] at e
  exact e
mutual
theorem Dw.sub {E E' : List Addr} {H : Hp} (k : ∀ a, a ∈ E' → a ∈ E) : ∀ {v : V} {d : PyData} {n : Nat}, Dw E H v d n → Dw E' H v d n
  | _, _, _, .lf l => .lf l
  | _, _, _, .lst ne h a => .lst (fun z => ne (k _ z)) h (DwAll.sub k a)
  | _, _, _, .tup ne h a => .tup (fun z => ne (k _ z)) h (DwAll.sub k a)
theorem DwAll.sub {E E' : List Addr} {H : Hp} (k : ∀ a, a ∈ E' → a ∈ E) : ∀ {v : List V} {d : List PyData} {n : Nat}, DwAll E H v d n → DwAll E' H v d n
  | _, _, _, .nil => .nil
  | _, _, _, .cons a b => .cons (Dw.sub k a) (DwAll.sub k b)
end
/-- these addresses are taken -/
def Lv (E : List Addr) (H : Hp) : Prop := ∀ a ∈ E, H a ≠ none
section
variable {s l p : Addr} {E : List Addr} {H H1 H2 : Hp} {o : HO} {v : V} {d : PyData} {n : Nat}
theorem Lv.out (h : Lv E H) (hp : H p = none) : p ∉ E := fun z => h p z hp
theorem Lv.cons (h : Lv E H) (hp : H p = some o) : Lv (p :: E) H := fun a ha => by
  rcases List.mem_cons.mp ha with z | z
  · rw [z, hp]; exact fun q => by cases q
  · exact h a z
theorem Lv.ge (h : Lv E H) (g : Ge s l H H1) : Lv E H1 := fun a ha => by
  by_cases e : a = s
  · obtain ⟨ns, i1, i2, i3, i4, i5, i6, hs, _⟩ := g.st
    rw [e, hs]; exact fun q => by cases q
  · have := h a ha
    cases q : H a with
    | none => exact absurd q this
    | some o => rw [g.k e q]; exact fun z => by cases z
theorem Lv.same (h : Lv E H) (g : Same H H1) : Lv E H1 := fun a ha => by
  have := h a ha
  cases q : H a with
  | none => exact absurd q this
  | some o => rw [g _ _ q]; exact fun z => by cases z
theorem Dw.ge (h : Dw E H v d n) (g : Ge s l H H1) (hs : s ∈ E) : Dw E H1 v d n := h.kp fun a o ha e => g.k (fun z => ha (z ▸ hs)) e
theorem Dw.same (h : Dw E H v d n) (g : Same H H1) : Dw E H1 v d n := h.kp fun a o _ e => g a o e
theorem Dw.new (h : Dw E H v d n) (g : New H p o H1) : Dw E H1 v d n := h.same g.same
theorem Dw.put (h : Dw E H v d n) (g : Put H p o H1) (hp : p ∈ E) : Dw E H1 v d n := h.kp fun a o ha e => g.k (fun z => ha (z ▸ hp)) e
theorem DwAll.ge {vs : List V} {ds : List PyData} (h : DwAll E H vs ds n) (g : Ge s l H H1) (hs : s ∈ E) : DwAll E H1 vs ds n := h.kp fun a o ha e => g.k (fun z => ha (z ▸ hs)) e
theorem DwAll.same {vs : List V} {ds : List PyData} (h : DwAll E H vs ds n) (g : Same H H1) : DwAll E H1 vs ds n := h.kp fun a o _ e => g a o e
theorem DwAll.put {vs : List V} {ds : List PyData} (h : DwAll E H vs ds n) (g : Put H p o H1) (hp : p ∈ E) : DwAll E H1 vs ds n := h.kp fun a o ha e => g.k (fun z => ha (z ▸ hp)) e
end
/-- data of at most so much weight -/
def Db (E : List Addr) (H : Hp) (b : Nat) (v : V) : Prop := ∃ d n, Dw E H v d n ∧ n ≤ b
section
variable {s l p : Addr} {E E' : List Addr} {H H1 H2 : Hp} {o : HO} {v : V} {b b' : Nat} {xs : List V}
theorem Db.le (h : Db E H b v) (hb : b ≤ b') : Db E H b' v := by
  obtain ⟨d, n, h, hn⟩ := h
  exact ⟨d, n, h, Nat.le_trans hn hb⟩
theorem Db.sub (h : Db E H b v) (k : ∀ a, a ∈ E' → a ∈ E) : Db E' H b v := by
  obtain ⟨d, n, h, hn⟩ := h
  exact ⟨d, n, h.sub k, hn⟩
theorem Db.ge (h : Db E H b v) (g : Ge s l H H1) (hs : s ∈ E) : Db E H1 b v := by
  obtain ⟨d, n, h, hn⟩ := h
  exact ⟨d, n, h.ge g hs, hn⟩
theorem Db.same (h : Db E H b v) (g : Same H H1) : Db E H1 b v := by
  obtain ⟨d, n, h, hn⟩ := h
  exact ⟨d, n, h.same g, hn⟩
theorem Db.put (h : Db E H b v) (g : Put H p o H1) (hp : p ∈ E) : Db E H1 b v := by
  obtain ⟨d, n, h, hn⟩ := h
  exact ⟨d, n, h.put g hp, hn⟩
theorem Db.seq (h : ∀ x ∈ xs, Db E H b x) (hp : p ∉ E) (hq : H p = some (.tup xs) ∨ H p = some (.lst xs)) : Db E H (b * xs.length + 1) (.ref p) := by
  obtain ⟨ds, n, h1, h2⟩ := DwAll.of h
  rcases hq with q | q
  · exact ⟨_, _, .tup hp q h1, by omega⟩
  · exact ⟨_, _, .lst hp q h1, by omega⟩
end
theorem all_app {p : V → Prop} {xs : List V} {y : V} (h : ∀ x ∈ xs, p x) (hy : p y) : ∀ x ∈ xs ++ [y], p x := fun x hx => by
  rcases List.mem_append.mp hx with q | q
  · exact h x q
  · rw [List.mem_singleton.mp q]; exact hy
mutual
theorem Dw.fresh {E : List Addr} {C : Addr} {H : Hp} (k : H C = none) : ∀ {v : V} {d : PyData} {n : Nat}, Dw E H v d n → Dw (C :: E) H v d n
  | _, _, _, .lf l => .lf l
  | _, _, _, .lst ne h a => .lst (fun z => by
      rcases List.mem_cons.mp z with q | q
      · rw [q, k] at h; cases h
      · exact ne q) h (DwAll.fresh k a)
  | _, _, _, .tup ne h a => .tup (fun z => by
      rcases List.mem_cons.mp z with q | q
      · rw [q, k] at h; cases h
      · exact ne q) h (DwAll.fresh k a)
theorem DwAll.fresh {E : List Addr} {C : Addr} {H : Hp} (k : H C = none) : ∀ {v : List V} {d : List PyData} {n : Nat}, DwAll E H v d n → DwAll (C :: E) H v d n
  | _, _, _, .nil => .nil
  | _, _, _, .cons a b => .cons (Dw.fresh k a) (DwAll.fresh k b)
end
theorem kb_all : kitB "NoneType" "int" = some false ∧ kitB "bool" "int" = some true ∧ kitB "int" "int" = some true ∧ kitB "str" "int" = some false ∧ kitB "list" "int" = some false ∧ kitB "tuple" "int" = some false ∧ kitB "dict" "int" = some false ∧ kitB "NoneType" "bool" = some false ∧ kitB "bool" "bool" = some true ∧ kitB "int" "bool" = some false ∧ kitB "str" "bool" = some false ∧ kitB "list" "bool" = some false ∧ kitB "tuple" "bool" = some false ∧ kitB "dict" "bool" = some false ∧ kitB "NoneType" "str" = some false ∧ kitB "bool" "str" = some false ∧ kitB "int" "str" = some false ∧ kitB "str" "str" = some true ∧ kitB "list" "str" = some false ∧ kitB "tuple" "str" = some false ∧ kitB "dict" "str" = some false ∧ kitB "NoneType" "list" = some false ∧ kitB "bool" "list" = some false ∧ kitB "int" "list" = some false ∧ kitB "str" "list" = some false ∧ kitB "list" "list" = some true ∧ kitB "tuple" "list" = some false ∧ kitB "dict" "list" = some false ∧ kitB "NoneType" "tuple" = some false ∧ kitB "bool" "tuple" = some false ∧ kitB "int" "tuple" = some false ∧ kitB "str" "tuple" = some false ∧ kitB "list" "tuple" = some false ∧ kitB "tuple" "tuple" = some true ∧ kitB "dict" "tuple" = some false := by decide +kernel
theorem b_isi {x : V} {T : String} {H : Hp} {Q : VK} : rIsi1 [x, .ty T] H Q = ∃ t, tyN H x = some t ∧ ∃ b, kitB t T = some b ∧ Q (.bl b) H := by
  unfold rIsi1; apply propext; constructor
  · rintro ⟨_, _, t, b, h1, h2, h3, h⟩; cases h1; exact ⟨t, h2, b, h3, h⟩
  · rintro ⟨t, h2, b, h3, h⟩; exact ⟨_, _, t, b, rfl, h2, h3, h⟩
theorem ty_non {H : Hp} : tyN H .non = some "NoneType" := rfl
theorem ty_bl {H : Hp} {b : Bool} : tyN H (.bl b) = some "bool" := rfl
theorem ty_int {H : Hp} {b : Int} : tyN H (.int b) = some "int" := rfl
theorem ty_str {H : Hp} {b : Str} : tyN H (.str b) = some "str" := rfl
theorem ty_l {H : Hp} {p : Addr} {xs : List V} (h : H p = some (.lst xs)) : tyN H (.ref p) = some "list" := by unfold tyN; simp only [h]
theorem ty_t {H : Hp} {p : Addr} {xs : List V} (h : H p = some (.tup xs)) : tyN H (.ref p) = some "tuple" := by unfold tyN; simp only [h]
theorem cl_false {P : Program} {w : World} {K : PySem.W.Frag} {mg : Str → Option Value} {base : Heap} {x : Str} {st : Stmt} {ps : List Str} (D : Df K mg x st)
    (hb : ∀ (kV doc pm : Value) (an : Option Addr) (cdv ct : Value) (us : List Value), us.length = ps.length → bindArgs (PySem.W.fnOf x x (defArgs st) (defBody st) (defScope st) .none kV doc pm an cdv ct) ⟨us, []⟩ = pure (ps.zip us)) (k : Nat) {sp : Sp} (hf : ∀ vs H Q E, ¬ sp vs H Q E) : Cl P w K mg base k x ps sp := by
  obtain ⟨f, fd, F, g⟩ := D
  exact ⟨f, fd, g, F.kp, F.bindsA hb, fun vs H Q E h => (hf _ _ _ _ h).elim, fun A outer s H args us vs Q E _ _ _ _ h => (hf _ _ _ _ h).elim⟩
def isWh : V → Bool
  | .int _ => true
  | _ => false
theorem wh_i {i : Int} : isWh (.int i) = true := rfl
theorem wh_s {i : Str} : isWh (.str i) = false := rfl
theorem wh_b {i : Bool} : isWh (.bl i) = false := rfl
theorem wh_r {i : Addr} : isWh (.ref i) = false := rfl
theorem wh_n : isWh .non = false := rfl
theorem same_sq {p : Addr} {H H' : Hp} {xs : List V} (a : Same H H') (h : sq H p = some xs) : sq H' p = some xs := by
  rcases sq_or h with h | h
  · exact sq_l (a _ _ h)
  · exact sq_t (a _ _ h)
theorem Put.same {H H1 H2 : Hp} {p : Addr} {o : HO} (n : Put H1 p o H2) (a : Same H H1) (hp : H p = none) : Same H H2 := fun b u e => n.k (ne_of_none e hp) (a _ _ e)
def qIns : V → List V → Hp → VK → Prop := fun x vs H Q => match x, vs with
  | .ref l, [.int i, y] => ∃ xs, H l = some (.lst xs) ∧ xs.length < sizeLine ∧ 0 ≤ i ∧ i < 2 ^ 63 ∧ Wr H l (.lst (xs.take i.toNat ++ [y] ++ xs.drop i.toNat)) fun H' => Q .non H'
  | _, _ => False
theorem ins1 {X : Cx} : MtR X "list.insert" qIns := MtR_imp mt_insert fun x vs H Q h => by
  unfold qIns at h
  split at h
  · obtain ⟨xs, h1, h2, h3, h4, q⟩ := h
    refine ⟨_, xs, _, _, rfl, rfl, h1, h2, h3, h4, ?_⟩
    rw [wr_eq (Q := fun H' => Q .non H')]
    exact q
  · exact h.elim
section
variable {σ : L2.St} {H : Hp} {Q : VK} {K : PySem.W.Frag}
theorem b_ins {l : Addr} {i : Int} {y : V} : qIns (.ref l) [.int i, y] H Q = ∃ xs, H l = some (.lst xs) ∧ xs.length < sizeLine ∧ 0 ≤ i ∧ i < 2 ^ 63 ∧ Wr H l (.lst (xs.take i.toNat ++ [y] ++ xs.drop i.toNat)) fun H' => Q .non H' := rfl
theorem a_revL {te : TE} : tRevL K te σ H Q = te σ H fun x H1 => ∃ a xs, x = .ref a ∧ SqL K H1 a xs ∧ Nw H1 (.lst xs.reverse) fun q H' => Q (.ref q) H' := by
  unfold tRevL; simp only [nw_eq]
theorem idx_ints {p : Addr} {ns : List Int} {c : Int} (h : H p = some (.lst (ns.map V.int))) (hc : c ∈ ns) (hq : ∀ j : Nat, j < ns.length → ns[j]? = some c → Q (.int j) H) : rIndex K (.ref p) [.int c] H Q := by
  have hl := List.idxOf_lt_length_of_mem hc
  have hg : ns[ns.idxOf c]? = some c := by
    rw [List.getElem?_eq_getElem hl, List.getElem_idxOf hl]
  refine ⟨p, ns.map V.int, .int c, ns.idxOf c, .int c, rfl, rfl, SqL.of h, rfl, ?_, by rw [List.getElem?_map, hg]; rfl, ?_, fun m z hm hz => ?_, hq _ hl hg⟩
  · rw [List.all_map]; exact List.all_eq_true.mpr fun _ _ => rfl
  · simp [eqV]
  · rw [List.getElem?_map] at hz
    have hml : m < ns.length := by omega
    rw [List.getElem?_eq_getElem hml] at hz
    cases hz
    have : ns[m] ≠ c := fun e => by
      have := List.not_of_lt_findIdx (p := (· == c)) (xs := ns) (i := m) (by simpa [List.idxOf] using hm)
      simp [e] at this
    simp [eqV, this]
theorem cut_le (z : Str) (lo hi : Option Int) : (cutS z lo hi).length ≤ z.length := cutS_length z lo hi
end
theorem str_len10 {a : Int} {k : Nat} (hk : 0 < k) (h : a.natAbs < 10 ^ k) : (Str.ofString (toString a)).length ≤ k + 1 := by
  rw [PySem.ofString_length]; exact int_text_length_le10 hk h
def qIsT : List V → Hp → VK → Prop := fun vs H Q => match vs with
  | [x, .ref tp] => ∃ a b, H tp = some (.tup [.ty a, .ty b]) ∧ ∃ t, tyN H x = some t ∧ ∃ r1, kitB t a = some r1 ∧ ∃ r2, kitB t b = some r2 ∧ Q (.bl (r1 || r2)) H
  | _ => False
theorem isiT1 {X : Cx} : CallR X (.builtin "isinstance") qIsT := by
  intro pins s σ H xs us Q I r h
  unfold qIsT at h
  split at h
  · obtain ⟨a, b, hT, t, ht, r1, h1, r2, h2, q⟩ := h
    refine call_isiT pins s σ H _ us Q I r ⟨_, _, [.ty a, .ty b], .type t, [.type a, .type b], r1 || r2, rfl, hT, .cons (.ty a) (.cons (.ty b) .nil), tyN_ty ht, ?_, q⟩
    refine kitAny_cons (kit_ty h1) (fun e => ?_) (fun e => by rw [e]; rfl)
    refine kitAny_cons (kit_ty h2) (fun e' => by rw [e, e']; exact kitAny_nil) (fun e' => by rw [e, e']; rfl)
  · exact h.elim
theorem b_isT {x : V} {tp : Addr} {H : Hp} {Q : VK} : qIsT [x, .ref tp] H Q = ∃ a b, H tp = some (.tup [.ty a, .ty b]) ∧ ∃ t, tyN H x = some t ∧ ∃ r1, kitB t a = some r1 ∧ ∃ r2, kitB t b = some r2 ∧ Q (.bl (r1 || r2)) H := rfl
section
open PySem AutoSeq1 PyProof.Rows
variable {prog : Program} {w : World} {A : Around} {E : Value → Shared → Prop} {s : Shared}
theorem collect_seq2 {Q : List Value → Shared → Prop} (it : Addr) {T : String} {o : Obj} {items : Array Value} {n : Nat} (hT : T = "list" ∨ T = "tuple")
    (ho : s.heap.get? it = some o) (hc : o.cls = .type T) (hd : o.data = .seq items n)
    (hQ : ∀ h', (∀ b o', s.heap.get? b = some o' → h'.get? b = some o') → s.heap.objs.size < h'.objs.size → Q items.toList { s with heap := h' }) (hsz : items.size ≤ sizeLine := by size_fits) :
    wpAny (model prog w) A (collect (.ref it)) Q E s := by
  unfold collect
  refine wpAny_bind (wpAny_runValue (codeAny_builtin F.entry_proto_collect ?_))
  rw [Around.under_plainId F.plain_proto_collect _]
  show wpAny _ A.in1 (newList [] >>= fun l => again (.builtin "list.__iadd__" ⟨[l, .ref it], []⟩)) _ _ s
  refine wpAny_bind (wpAny_newObj_type ?_)
  refine wpAny_pure ⟨plainId_quiet F.plain_list_iadd _, codeAny_builtin F.entry_list_iadd ?_⟩
  rw [Around.under_plainId F.plain_list_iadd _]
  show wpAny _ A.in1 (Builtin.List.listExtendWith (.ref s.heap.objs.size) (.ref it) (.ref s.heap.objs.size)) _ _ _
  have hS : (s.heap.push { cls := .type "list", data := .seq ([] : List Value).toArray }).get? s.heap.objs.size = some { cls := .type "list", data := .seq #[] 0 } := Heap.get?_push_size _ rfl
  have hS₂ := Heap.get?_update_self (Obj.mapSeq (· ++ items)) hS rfl
  have fin' : wpAny (model prog w) A (match Value.ref s.heap.objs.size with
      | Value.ref a => do
        match (← load a).data with
          | Data.seq xs _ => pure xs.toList
          | _ => unsupported "internal:collect"
      | _ => unsupported "internal:collect") Q E { s with heap := (s.heap.push { cls := .type "list", data := .seq ([] : List Value).toArray }).update s.heap.objs.size (Obj.mapSeq (· ++ items)) } := by
    show wpAny _ A (load s.heap.objs.size >>= _) _ _ _
    refine wpAny_bind (wpAny_load hS₂ ?_)
    refine wpAny_pure ?_
    have e : ((#[] : Array Value) ++ items).toList = items.toList := by simp
    show Q ((#[] : Array Value) ++ items).toList _
    rw [e]
    refine hQ _ (fun b o' hb => ?_) (by rw [Heap.size_update, size_push']; exact Nat.lt_succ_self _)
    exact (Heap.get?_update_other _ _ (Nat.ne_of_gt (Heap.lt_size hb))).trans (Heap.get?_push_of_some _ hb)
  refine wpAny_mono (wpAny_extend_seq (hsz := hsz) (A := A) (R := fun r s' => r = .ok (.ret (.ref s.heap.objs.size)) ∧ s' = { s with heap := (s.heap.push { cls := .type "list", data := .seq ([] : List Value).toArray }).update s.heap.objs.size (Obj.mapSeq (· ++ items)) })
    (s := { s with heap := s.heap.push { cls := .type "list", data := .seq ([] : List Value).toArray } }) _ it _ 0 hT hS (Heap.get?_push_of_some _ ho) hc hd ⟨rfl, rfl⟩) (fun fin s' h => ?_) (fun e s' h => ?_)
  · cases fin with
    | done f =>
      obtain ⟨e, rfl⟩ := h
      cases e
      exact fin'
    | again c' => exact ⟨h.1, codeAny_mono h.2 fun r s'' hr => by obtain ⟨rfl, rfl⟩ := hr; exact fin'⟩
  · exact absurd h.1 (by simp)

end
open PySem PySem.Spec PyProof.Rows L2
section
variable {prog : Program} {w : World} {A : Around} {E : Value → Shared → Prop} {s : Shared}
/-- sorted of a list or a tuple of ints -/
theorem sorted_seq {a : Addr} {T : String} {o : Obj} {vs : List Value} {ns : List Int} {n : Nat} {Q : Value → Shared → Prop} (hT : T = "list" ∨ T = "tuple") (ho : s.heap.get? a = some o) (hc : o.cls = .type T) (hd : o.data = .seq vs.toArray n)
    (hI : IntsAre vs ns) (h64 : vs.length < 64)
    (h : ∀ (h' : Heap) (p : Addr) (out : Array Value) (ns' : List Int) (e : Nat), (∀ b u, s.heap.get? b = some u → h'.get? b = some u) → s.heap.objs.size ≤ p → h'.get? p = some (seqObj "list" out e) → IntsAre out.toList ns' → ns'.Perm ns → ns'.Pairwise (· ≤ ·) → Q (.ref p) { s with heap := h' }) :
    wpAny (model prog w) A (call (.builtin "sorted") [.ref a]) Q E s := by
  refine Calls.call_function_entry kind_sorted plain_sorted entry_sorted (args_sorted1 _) ?_
  unfold Builtin.«sorted»
  refine wpAny_bind (m := checkCount "sorted" 1 1 _) (wpAny_pure ?_)
  refine wpAny_bind (collect_seq2 a hT ho hc hd (fun h1 k1 big0 => ?_) (by rw [sizeLine_eq]; simp only [List.size_toArray]; omega))
  refine wpAny_bind (wpAny_newList ?_)
  have hoL : (h1.push (seqObj "list" vs.toArray 0)).get? h1.objs.size = some (seqObj "list" vs.toArray 0) := Heap.get?_push_size _ rfl
  have big : s.heap.objs.size ≤ h1.objs.size := Nat.le_of_lt big0
  refine wpAny_bind (wpAny_holding (wpAny_call_entry slot_list_sort ⟨_, hoL, rfl⟩ entry_list_sort (list_sort_tree hoL hI h64 fun out ns' a1 a2 a3 => ⟨_, rfl, ?_⟩) (args_list_sort _)))
  obtain ⟨e, he⟩ := sortedHeap_at (out := out) hoL
  refine wpAny_pure ⟨_, rfl, h _ _ out ns' e (fun b u hb => ?_) big he a1 a2 a3⟩
  have hlt := Heap.lt_size (k1 _ _ hb)
  rw [sortedHeap_old (Nat.ne_of_lt hlt) (by rw [size_push']; exact Nat.lt_succ_of_lt hlt)]
  exact Heap.get?_push_of_some _ (k1 _ _ hb)
end
def qSorted : List V → Hp → VK → Prop := fun vs H Q => ∃ (a : Addr) (ns : List Int), vs = [.ref a] ∧ sq H a = some (ns.map V.int) ∧ ns.length < 64 ∧ ∀ (ns' : List Int) (p : Addr) (H' : Hp), ns'.Perm ns → ns'.Pairwise (· ≤ ·) → New H p (.lst (ns'.map V.int)) H' → Q (.ref p) H'
theorem sorted1 {X : Cx} : CallR X (.builtin "sorted") qSorted := by
  intro pins s σ H vs us Q I r h
  obtain ⟨a, ns, rfl, hs, h64, q⟩ := h
  rw [Vals.ref1 r]
  have fin : ∀ (its : List Value), Vals (ns.map V.int) its → ∀ (T : String) (o : Obj) (n : Nat), (T = "list" ∨ T = "tuple") → s.heap.get? a = some o → o.cls = .type T → o.data = .seq its.toArray n → wpAny (model X.prog X.w) X.A (call (.builtin "sorted") [.ref a]) (EP X pins σ Q) X.xe s := by
    intro its rv T o n hT ho hc hd
    have hi := rv.ints
    refine sorted_seq hT ho hc hd hi (by rw [hi.length]; exact h64) fun h' p out ns' e kp hp he h1 h2 h3 => ?_
    have hlen : (ns'.map V.int).length ≤ sizeLine := by rw [List.length_map, h2.length_eq]; exact small64 h64
    exact ⟨.ref p, upd H p (.lst (ns'.map V.int)), I.laid (t' := s.toks) kp hp ⟨hlen, out.toList, e, vals_of_ints h1, he⟩, rfl, q ns' p _ h2 h3 (New.mk' (I.hok.fresh hp))⟩
  rcases sq_or hs with hq | hq
  · obtain ⟨its, rv, pl, _⟩ := I.list (SqL.of hq)
    obtain ⟨o, ho, hc, n, hd⟩ := pl.isList
    exact fin its rv _ o n (.inl rfl) ho hc hd
  · obtain ⟨its, rv, pl, _⟩ := I.tuple (SqT.of hq)
    obtain ⟨o, ho, hc, n, hd⟩ := pl
    exact fin its rv _ o n (.inr rfl) ho hc hd
theorem b_sorted {p : Addr} {H : Hp} {Q : VK} : qSorted [.ref p] H Q = ∃ ns : List Int, sq H p = some (ns.map V.int) ∧ ns.length < 64 ∧ ∀ (ns' : List Int) (p : Addr) (H' : Hp), ns'.Perm ns → ns'.Pairwise (· ≤ ·) → New H p (.lst (ns'.map V.int)) H' → Q (.ref p) H' := by
  unfold qSorted; apply propext; constructor
  · rintro ⟨_, ns, h1, h⟩; cases h1; exact ⟨ns, h⟩
  · rintro ⟨ns, h⟩; exact ⟨_, ns, rfl, h⟩
/-! ### tuple * int -/
theorem tuple_mul_self (l : Addr) (items : Array Value) (n : Nat) (dd : Option Addr) (sl : Array (Option Value)) (x : Int) (u : Tok) (c0 : (decide (x < -(2 ^ 63)) || decide (x ≥ 2 ^ 63)) = false) (c1 : (items.isEmpty || x == 1) = true) :
    Meets (Builtin.«tuple.__mul__» ⟨[.ref l, .int x u], []⟩) (fun _ R s => s.heap.get? l = some { cls := .type "tuple", dict := dd, data := .seq items n, slots := sl } ∧ R (.ok (.ret (Value.ref l))) s) :=
  .of_wp fun prog w A R s h => by
    obtain ⟨hp, g, d, tk, os⟩ := s
    obtain ⟨hl, h⟩ := h
    have f1 := AutoSeq1.idx_int
    have hex : Shared.TypeIs ⟨hp, g, d, tk, os⟩ (.ref l) "tuple" := ⟨_, hl, rfl⟩
    wp_walk using AutoSeq1.wpAny_loadPart' hl, wpAny_typeOf hex
    refine wpAny_ite_false (decide_eq_false (by rw [c0]; exact Bool.false_ne_true)) ?_
    wp_walk using AutoSeq1.wpAny_loadPart' hl, wpAny_typeOf hex
    exact ⟨_, rfl, h⟩
def qRepT : R2 := fun x y H Q => match x, y with
  | .ref l, .int k => ∃ xs, H l = some (.tup xs) ∧ 1 ≤ k ∧ (xs.length : Int) * k ≤ 4000000 ∧ k ≤ 4000000 ∧ (k = 1 ∨ xs = [] → Q (.ref l) H) ∧ (∀ p H', New H p (.tup (List.replicate k.toNat xs).flatten) H' → Q (.ref p) H')
  | _, _ => False
section
variable {X : Cx}
theorem op_repT1 : OpR X (binaryOp .Mult) qRepT := by
  intro pins s σ H x y v u Q I rx ry h
  unfold qRepT at h
  split at h
  · rename_i l k
    obtain ⟨xs, hT, h1, h2, hk, qs, q⟩ := h
    cases rx
    obtain ⟨t, rfl⟩ := ry
    obtain ⟨its, r, ⟨⟨cls, dd, data, sl⟩, ho, hc, n, hd⟩, hs⟩ := I.tuple (SqT.of hT)
    simp only at hc hd
    subst hc hd
    have hle : its.length = xs.length := r.length.symm
    have hsz0 : its.toArray.size = xs.length := by rw [List.size_toArray, hle]
    have c0 : (decide (k < -(2 ^ 63)) || decide (k ≥ 2 ^ 63)) = false := by
      rw [decide_eq_false (by omega), decide_eq_false (by omega)] <;> rfl
    by_cases hz : k = 1 ∨ xs = []
    · have c1 : (its.toArray.isEmpty || k == 1) = true := by
        rcases hz with e | e
        · rw [e]; simp
        · subst e
          have : its = [] := List.eq_nil_of_length_eq_zero hle
          rw [this]; rfl
      refine wpAny_binaryOp_repeat_ref (T := "tuple") (U := "int") (by decide) ⟨_, ho, rfl⟩ (fun s' => typeIs_int s' k t) noFill_tuple_mul F.fills_int_mul F.slot_int_rmul repeat_tuple F.slot_int_index.lookup
        (call_meets F.slot_int_rmul (typeIs_int s k t) F.entry_int_rmul (F.args_int_rmul_2 _ _) (int_rmul_tuple k t l its.toArray n dd sl)
          ⟨ho, rfl, ⟨_, ho, rfl⟩, call_meets F.slot_tuple_mul ⟨_, ho, rfl⟩ F.entry_tuple_mul (F.args_tuple_mul_2 _ _) (tuple_mul_self l its.toArray n dd sl k t c0 c1) ⟨ho, ?_⟩⟩)
      exact ⟨.ref l, H, I, rfl, qs hz⟩
    · have hk2 : 2 ≤ k := by
        rcases Int.lt_or_le k 2 with z | z
        · exact absurd (.inl (by omega)) hz
        · exact z
      have hne : xs ≠ [] := fun e => hz (.inr e)
      have hi : its.toArray.isEmpty = false := by
        cases its with
        | nil => exact absurd (List.eq_nil_of_length_eq_zero hle.symm) hne
        | cons a b => rfl
      have e2 : ((its.toArray.size : Nat) : Int) * k ≤ 4000000 := by rw [hsz0]; exact h2
      have flen : (List.replicate k.toNat its).flatten.length ≤ sizeLine := by
        rw [PyProof.Rows.lm_len_rep_flat, hle, sizeLine_eq]
        have : ((k.toNat * xs.length : Nat) : Int) ≤ 4000000 := by
          rw [Int.natCast_mul, Int.mul_comm, show ((k.toNat : Nat) : Int) = k by omega]; exact h2
        omega
      have c1 : (its.toArray.isEmpty || k == 1) = false := by
        rw [hi, Bool.false_or]
        exact beq_eq_false_iff_ne.mpr (by omega)
      have c2 : (decide (k ≤ 0) || its.toArray.isEmpty) = false := by
        rw [hi, Bool.or_false]
        exact decide_eq_false (by omega)
      have c4 : Builtin.Tuple.tupleTooMany (((its.toArray.size : Nat) : Int) * k) = false := by
        unfold Builtin.Tuple.tupleTooMany
        rw [sizeLine_eq]
        exact decide_eq_false (by omega)
      refine wpAny_binaryOp_repeat_ref (T := "tuple") (U := "int") (by decide) ⟨_, ho, rfl⟩ (fun s' => typeIs_int s' k t) noFill_tuple_mul F.fills_int_mul F.slot_int_rmul repeat_tuple F.slot_int_index.lookup
        (call_meets F.slot_int_rmul (typeIs_int s k t) F.entry_int_rmul (F.args_int_rmul_2 _ _) (int_rmul_tuple k t l its.toArray n dd sl)
          ⟨ho, rfl, ⟨_, ho, rfl⟩, call_meets F.slot_tuple_mul ⟨_, ho, rfl⟩ F.entry_tuple_mul (F.args_tuple_mul_2 _ _) (tuple_mulW l its.toArray n dd sl k t c0 c1 c2 (by omega) c4 (by rw [size_rep, List.size_toArray]; exact flen)) ⟨ho, ?_⟩⟩)
      rw [size_rep]
      refine ⟨.ref s.heap.objs.size, upd H s.heap.objs.size (.tup (List.replicate k.toNat xs).flatten), I.laid (t' := s.toks) (o := .tup (List.replicate k.toNat xs).flatten) (fun b ob q => Heap.get?_push_of_some _ q) (Nat.le_refl _) ?_, rfl, q _ _ (New.mk' (I.hok.fresh (Nat.le_refl _)))⟩
      refine ⟨?_, _, r.rep k.toNat, IsTup.new _ _⟩
      rw [(r.rep k.toNat).length]
      exact flen
  · exact h.elim
end
theorem b_repT {l : Addr} {k : Int} {H : Hp} {Q : VK} : qRepT (.ref l) (.int k) H Q = ∃ xs, H l = some (.tup xs) ∧ 1 ≤ k ∧ (xs.length : Int) * k ≤ 4000000 ∧ k ≤ 4000000 ∧ (k = 1 ∨ xs = [] → Q (.ref l) H) ∧ (∀ p H', New H p (.tup (List.replicate k.toNat xs).flatten) H' → Q (.ref p) H') := rfl

/-! ## HoM -/
/-- 0, 1, .. n - 1 -/
def rng (n : Nat) : List Int := (List.range n).map fun (i : Nat) => (i : Int)
theorem rng_len (n : Nat) : (rng n).length = n := by simp [rng]
theorem mem_rng {n : Nat} {x : Int} : x ∈ rng n ↔ 0 ≤ x ∧ x < n := by
  unfold rng
  rw [List.mem_map]
  constructor
  · rintro ⟨i, h, rfl⟩; have := List.mem_range.mp h; omega
  · intro h; exact ⟨x.toNat, List.mem_range.mpr (by omega), by omega⟩
theorem rng_nodup (n : Nat) : (rng n).Nodup := by
  unfold rng
  exact List.Pairwise.map _ (fun (a b : Nat) (h : a ≠ b) (e : (a : Int) = b) => h (by omega)) List.nodup_range
theorem rgV_rng {j : Int} (h : 0 ≤ j) : rgV 0 j = (rng j.toNat).map V.int := by
  unfold rgV rng
  rw [List.map_map]
  have : (j - 0).toNat = j.toNat := by omega
  rw [this]
  refine List.map_congr_left fun i _ => ?_
  simp
theorem rng_get {n i : Nat} (h : i < n) : (rng n)[i]? = some (i : Int) := by simp [rng, h]
def unV : V → Int
  | .int i => i
  | _ => 0
theorem perm_ints {xs : List V} {L : List Int} (h : xs.Perm (L.map V.int)) : ∃ L' : List Int, xs = L'.map V.int ∧ L'.Perm L := by
  refine ⟨xs.map unV, ?_, ?_⟩
  · rw [List.map_map]
    have : xs.map (V.int ∘ unV) = xs.map id := List.map_congr_left fun x hx => by
      have := h.mem_iff.mp hx
      obtain ⟨i, _, rfl⟩ := List.mem_map.mp this
      rfl
    rw [this, List.map_id]
  · have := h.map unV
    rw [List.map_map] at this
    have e : L.map (unV ∘ V.int) = L := by
      have : L.map (unV ∘ V.int) = L.map id := List.map_congr_left fun x _ => rfl
      rw [this, List.map_id]
    rwa [e] at this
theorem append_ints {xs ys : List V} {L : List Int} (h : xs ++ ys = L.map V.int) : ∃ a b, xs = a.map V.int ∧ ys = b.map V.int ∧ L = a ++ b := by
  obtain ⟨a, b, rfl, rfl, rfl⟩ := List.map_eq_append_iff.mp h.symm
  exact ⟨a, b, rfl, rfl, rfl⟩
/-- a ring of points, each carried to the next -/
theorem ring_perm {n : Nat} {r rest ns : List Int} (hp : (r ++ rest).Perm (rng n)) (hl : ns.length = n)
    (h1 : ∀ k, k < r.length → ∃ x y, r[k]? = some x ∧ r[(k + 1) % r.length]? = some y ∧ ns[x.toNat]? = some y) (h2 : ∀ p, p < n → (p : Int) ∉ r → ns[p]? = some (p : Int)) : ns.Perm (rng n) := by
  let f : Int → Int := fun x => (ns[x.toNat]?).getD 0
  have e : ns = (rng n).map f := by
    apply List.ext_getElem?
    intro i
    by_cases hi : i < n
    · rw [List.getElem?_map, rng_get hi]
      show _ = some ((ns[((i : Nat) : Int).toNat]?).getD 0)
      rw [Int.toNat_natCast, List.getElem?_eq_getElem (by omega)]
      rfl
    · rw [List.getElem?_eq_none (by omega), List.getElem?_eq_none (by simp [rng_len]; omega)]
  have nd : (r ++ rest).Nodup := (hp.nodup_iff).mpr (rng_nodup n)
  have er : rest.map f = rest := by
    have : rest.map f = rest.map id := List.map_congr_left fun x hx => by
      have hm := mem_rng.mp (hp.mem_iff.mp (List.mem_append_right r hx))
      have hr : x ∉ r := fun z => (List.nodup_append.mp nd).2.2 _ z _ hx rfl
      have := h2 x.toNat (by omega) (by rw [show ((x.toNat : Nat) : Int) = x by omega]; exact hr)
      show (ns[x.toNat]?).getD 0 = x
      rw [this]
      show ((x.toNat : Nat) : Int) = x
      omega
    rw [this, List.map_id]
  have err : (r.map f).Perm r := by
    cases r with
    | nil => exact .refl _
    | cons a t =>
      have : (a :: t).map f = t ++ [a] := by
        apply List.ext_getElem?
        intro k
        by_cases hk : k < t.length + 1
        · obtain ⟨x, y, e1, e2, e3⟩ := h1 k hk
          rw [List.getElem?_map, e1]
          show some ((ns[x.toNat]?).getD 0) = _
          rw [e3]
          show some y = _
          rw [← e2]
          by_cases hk2 : k < t.length
          · rw [List.getElem?_append_left hk2, List.length_cons, Nat.mod_eq_of_lt (by omega)]
            simp
          · have : k = t.length := by omega
            subst this
            rw [List.length_cons, Nat.mod_self]
            simp
        · rw [List.getElem?_eq_none (by simp; omega), List.getElem?_eq_none (by simp; omega)]
      rw [this]
      exact List.perm_append_singleton a t
  rw [e]
  refine (hp.symm.map f).trans ?_
  rw [List.map_append, er]
  exact (err.append_right rest).trans hp
theorem rev_perm {n : Nat} : ((rng n).map fun k => (n : Int) - 1 - k).Perm (rng n) := by
  have : ((rng n).map fun k => (n : Int) - 1 - k) = (rng n).reverse := by
    apply List.ext_getElem?
    intro i
    by_cases hi : i < n
    · rw [List.getElem?_map, rng_get hi, List.getElem?_reverse (by rw [rng_len]; exact hi), rng_len, rng_get (by omega)]
      simp only [Option.map_some]
      congr 1
      omega
    · rw [List.getElem?_eq_none (by simp [rng_len]; omega), List.getElem?_eq_none (by simp [rng_len]; omega)]
  rw [this]
  exact List.reverse_perm _
theorem rot_perm {n s : Nat} (hs : s ≤ n) : ((rng n).map fun k => (k + (s : Int)).fmod n).Perm (rng n) := by
  have : ((rng n).map fun k => (k + (s : Int)).fmod n) = (rng n).drop s ++ (rng n).take s := by
    apply List.ext_getElem?
    intro i
    by_cases hi : i < n
    · rw [List.getElem?_map, rng_get hi]
      simp only [Option.map_some]
      have ef : (((i : Nat) : Int) + s).fmod n = (((i + s) % n : Nat) : Int) := by
        rw [Int.fmod_eq_emod_of_nonneg _ (by omega)]
        push_cast
        rfl
      rw [ef]
      by_cases hk : i + s < n
      · rw [List.getElem?_append_left (by rw [List.length_drop, rng_len]; omega), List.getElem?_drop, rng_get (by omega), Nat.mod_eq_of_lt hk]
        congr 1
        omega
      · rw [List.getElem?_append_right (by rw [List.length_drop, rng_len]; omega), List.length_drop, rng_len, List.getElem?_take]
        rw [if_pos (by omega), rng_get (by omega)]
        congr 1
        have : (i + s) % n = i + s - n := by rw [Nat.mod_eq_sub_mod (by omega), Nat.mod_eq_of_lt (by omega)]
        omega
    · rw [List.getElem?_eq_none (by simp [rng_len]; omega), List.getElem?_eq_none (by simp [rng_len]; omega)]
  rw [this]
  exact List.perm_append_comm.trans (by rw [List.take_append_drop])
theorem sub_perm {α : Type} [DecidableEq α] : ∀ {R xs : List α}, R.Nodup → (∀ a ∈ R, a ∈ xs) → xs.length ≤ R.length → xs.Perm R
  | [], xs, _, _, hl => by
    have : xs = [] := List.eq_nil_of_length_eq_zero (by simpa using hl)
    rw [this]
  | a :: R, xs, nd, h, hl => by
    have ha := h a List.mem_cons_self
    have e := List.perm_cons_erase ha
    have nd' := List.nodup_cons.mp nd
    refine e.trans (.cons a (sub_perm nd'.2 (fun b hb => ?_) ?_))
    · have : b ≠ a := fun z => nd'.1 (z ▸ hb)
      exact (List.mem_erase_of_ne this).mpr (h b (List.mem_cons_of_mem _ hb))
    · have := e.length_eq
      simp only [List.length_cons] at this hl
      omega
theorem eqvAll_ints : ∀ a b : List Int, PyData.eqvAll (a.map .int) (b.map .int) = decide (a = b)
  | [], [] => rfl
  | [], _ :: _ => by simp [PyData.eqvAll]
  | _ :: _, [] => by simp [PyData.eqvAll]
  | x :: a, y :: b => by
    simp only [List.map_cons, PyData.eqvAll, PyData.eqv, eqvAll_ints a b]
    by_cases h : x = y <;> simp [h]
theorem eqv_ints (a b : List Int) : PyData.eqv (.list (a.map .int)) (.list (b.map .int)) = decide (a = b) := by
  simp only [PyData.eqv, eqvAll_ints]
theorem eqv_intsT (a b : List Int) : PyData.eqv (.tuple (a.map .int)) (.tuple (b.map .int)) = decide (a = b) := by
  simp only [PyData.eqv, eqvAll_ints]
theorem lay_ints : ∀ a : List Int, PyData.canLayAll0 (a.map .int) = true
  | [] => rfl
  | x :: a => by simp only [List.map_cons, PyData.canLayAll0, PyData.canLay0, lay_ints a, Bool.and_self]
theorem depth_ints : ∀ a : List Int, PyData.depthAll (a.map .int) ≤ 1
  | [] => by simp [PyData.depthAll]
  | x :: a => by
    have := depth_ints a
    simp only [List.map_cons, PyData.depthAll, PyData.depth]
    omega
theorem shaped_ints (a : List Int) : SeqAt.shaped (.list (a.map .int)) = true := by
  have := depth_ints a
  unfold SeqAt.shaped
  rw [Bool.and_eq_true, decide_eq_true_eq]
  refine ⟨lay_ints a, ?_⟩
  simp only [PyData.depth]
  omega
theorem shaped_intsT (a : List Int) : SeqAt.shaped (.tuple (a.map .int)) = true := by
  have := depth_ints a
  unfold SeqAt.shaped
  rw [Bool.and_eq_true, decide_eq_true_eq]
  refine ⟨lay_ints a, ?_⟩
  simp only [PyData.depth]
  omega
theorem dpAll_ints {K : PySem.W.Frag} {H : Hp} : ∀ a : List Int, DpAll K H (a.map V.int) (a.map .int)
  | [] => .nil
  | x :: a => .cons (.int x) (dpAll_ints a)
theorem perm_sorted_eq : ∀ {a b : List Int}, a.Perm b → a.Pairwise (· ≤ ·) → b.Pairwise (· ≤ ·) → a = b := by
  intro a b h ha hb
  exact h.eq_of_pairwise (fun x y _ _ h1 h2 => Int.le_antisymm h1 h2) ha hb
theorem rng_sorted (n : Nat) : (rng n).Pairwise (· ≤ ·) := by
  unfold rng
  rw [List.pairwise_map]
  exact List.pairwise_lt_range.imp fun h => by omega
theorem dw_ints {E : List Addr} {H : Hp} : ∀ {ns : List Int} {ds : List PyData} {n : Nat}, DwAll E H (ns.map V.int) ds n → ds = ns.map .int
  | [], _, _, .nil => rfl
  | x :: ns, _, _, .cons a b => by
    cases a with
    | lf l => cases l; rw [dw_ints (ns := ns) b]; rfl
theorem dw_ints' {E : List Addr} {H : Hp} : ∀ {ns : List Int} {xs : List V} {n : Nat}, DwAll E H xs (ns.map .int) n → xs = ns.map V.int
  | [], _, _, .nil => rfl
  | x :: ns, _, _, .cons a b => by
    cases a with
    | lf l => cases l; rw [dw_ints' (ns := ns) b]; rfl
/-- is such data a move -/
def IsMoveP (d : PyData) : Prop := ∃ ns : List Int, d = .tuple (ns.map .int) ∧ ns.length ≤ 12 ∧ ns.Perm (rng ns.length)
open Classical in
noncomputable def isMoveD (d : PyData) : Bool := decide (IsMoveP d)
theorem isMove_t {d : PyData} (h : IsMoveP d) : isMoveD d = true := by unfold isMoveD; exact @decide_eq_true _ (Classical.propDecidable _) h
theorem isMove_f {d : PyData} (h : ¬ IsMoveP d) : isMoveD d = false := by unfold isMoveD; exact @decide_eq_false _ (Classical.propDecidable _) h

/-! ## HoE -/
section
variable {M : Model} {prog : Program} {w : World} {A : Around} {E : Value → Shared → Prop} {h : Heap} {g : Array GenState} {d : Drawn} {t : Nat} {os : OsState}
/-- a bound ValueError.__init__ called -/
theorem call_mw {nm q : Str} {C N : Addr} {bs bm : List Value} {hdct : Bool} {sn : List Str} {sub : List Value} {ab : Bool} {col : Option Bool} {dd : Option Addr} {k0 k1 k2 k3 k5 : Option Value} {u e t0 : Addr} {rest : List Value} {Q : Value → Shared → Prop}
    (hC : h.get? C = some (excClassObj nm q C N bs bm hdct sn sub ab col dd k0 k1 k2 k3 k5 "ValueError.__new__")) (he : h.get? e = some (PySem.HandSPX.excO C t0)) (hu : h.get? u = some (PySem.W.kxs_mw "ValueError.__init__" e)) (hz : rest.length ≤ sizeLine)
    (hq : ∀ h' t1, (∀ b o, b ≠ e → h.get? b = some o → h'.get? b = some o) → h'.get? e = some (PySem.HandSPX.excO C t1) → Q .none ⟨h', g, d, t, os⟩) :
    wpAny (model prog w) A (call (.ref u) rest) Q E ⟨h, g, d, t, os⟩ := by
  refine wpAny_call (codeAny_of_tree ?_)
  show wpAny _ A.in1 (callAny (.ref u) ⟨rest, []⟩) _ _ _
  simp only [callAny]
  refine wpAny_bind (wpAny_load hu ?_)
  simp only [show (Value.type "method-wrapper" == Value.type "method" || Value.type "method-wrapper" == Value.type "builtin_function_or_method" || Value.type "method-wrapper" == Value.type "method-wrapper") = true by decide, if_true]
  refine PySem.W.KFB.if_so (by decide) ?_
  refine wpAny_bind (PySem.W.check_bound_init F.excBase_ValueError.toExcCallFacts hC he rfl ?_)
  refine wpAny_bind (wpAny_pure (wpAny_pure ?_))
  refine ⟨plainId_quiet F.excBase_ValueError.init.plain _, codeAny_builtin F.excBase_ValueError.initEntry ?_⟩
  exact PySem.W.exc_init_tree (cls := .ref C) (t0 := t0) (dv := none) (c2 := .none) (c3 := .none) (b4 := .bool false) he hz fun h' k e' _ => hq h' _ k e'
end

section
open NdefX
/-- what the written part says of an __init__ with super() in it -/
structure SupTxt (P : Program) (K : PySem.W.Frag) (mg : Str → Option Value) (C f c cda : Addr) (name qual : Str) (params : Arguments) (body : List Stmt) (scope : Scope) (fd : FuncData) : Prop where
  lk : ∃ (oc : Value) (od : Option Addr) (dV kV doc pm ct : Value) (an : Option Addr) (osl : Array (Option Value)), fd = PySem.W.ksFn name qual params body scope dV kV doc pm an (.ref cda) ct c ∧ K.lookup f = some ⟨oc, od, .func fd, osl⟩
  hcd : PySem.W.codeIn K (.ref cda) qual = true
  hco : ∃ (ccl : Value) (cdd : Option Addr) (vs : Array Value) (ccs : Array (Option Value)) (file : Str) (tf : Tok), K.lookup cda = some ⟨ccl, cdd, .fields vs, ccs⟩ ∧ vs[2]? = some (.str file tf) ∧ ((P.main.file : Str) == file) = true
  hcell : ∃ (cl : Value) (cld : Option Addr) (csl : Array (Option Value)), K.lookup c = some ⟨cl, cld, .cell (some (.ref C)), csl⟩
  hsu : mg "super" = none
  htop : (P.main.scope.names.lookup ("super" : Str)).isSome = false
  T : OexC K C
  hm : PySem.W.ks_superIn K C C "__init__" = some (some (.builtin "ValueError.__init__"))
  hB : PySem.W.subIn K (.ref C) (.type "ValueError") = some true
  hop : PySem.W.nsIn K cStatics "thirdparty.any" = some none
  hself : PySem.W.mroIn K C (.ref C) = some true

def sNF (name qual : Str) (params : Arguments) (body : List Stmt) (scope : Scope) (c cda : Addr) : NF := ⟨name, qual, params, body, scope, [("__class__", c)], cda⟩

theorem in_base {K : PySem.W.Frag} {mg : Str → Option Value} {base : Heap} {P : Program} {w : World} {A : Around} {outer : List Env} {s : Shared} {H : Hp} (e0 : Env0 P w K mg base A outer s H) {a : Addr} {o : Obj} (e : K.lookup a = some o) : s.heap.get? a = some o ∧ H a = none :=
  e0.bs a o (e0.mod.kin _ _ e)

theorem fn_super {CX : CXT} {P : Program} {w : World} {K : PySem.W.Frag} {mg : Str → Option Value} {base : Heap} {k : Nat} {C f c cda : Addr} {name qual : Str} {params : Arguments} {body rest : List Stmt} {scope : Scope} {fd : FuncData} {N ps : List Str} {sp : Sp} {ar : Arg} {e : Expr} {p0 p1 p2 p3 p4 : Pos}
    (D : SupTxt P K mg C f c cda name qual params body scope fd) (S : NScope N ps ["__class__"] scope) (hp : (params.posonlyargs ++ params.args).head? = some ar) (har : ∃ pr, ps = ar.arg :: pr) (hnd : ps.Nodup)
    (hbo : body = .Expr (.Call (.Attribute (.Call (.Name "super" p0) [] [] p1) "__init__" p2) [e] [] p3) p4 :: rest) (hks : scope.names.lookup ("super" : Str) = some .globalImplicit)
    (hev : ∀ env : Env, eval (.Call (.Attribute (.Call (.Name "super" p0) [] [] p1) "__init__" p2) [e] [] p3) env = (do
      let ov ← attributeBase (.Call (.Name "super" p0) [] [] p1) "__init__" env (eval (.Call (.Name "super" p0) [] [] p1) env)
      standAt p2.atName
      let (f, first) ← holding [ov] (getMethod ov "__init__" (pure false))
      callWith p3 f first (backTo p3 (starEach [e] env)) [])) (hse : ∀ env : Env, starEach [e] env = (false, eval e env) :: starEach [] env) (hsw : ∀ env : Env, swapsWith (.Call (.Attribute (.Call (.Name "super" p0) [] [] p1) "__init__" p2) [e] [] p3) none p4.line env = pure false)
    (len : ∀ vs H Q E, sp vs H Q E → vs.length = ps.length)
    (hbody : ∀ (A : Around) (outer : List Env) (s : Shared) (H : Hp) (vs : List V) (ws : List (Option V)) (Q : VK) (E : XK), Room k (A.deeper (envF (sNF name qual params body scope c cda) f s.heap.objs.size)) → ws.length = 1 → sp vs H Q E →
      ∃ (x : Addr) (us : List V) (ta : TA) (t : TS), vs = .ref x :: us ∧ H x = some (exo x C none) ∧ PA (ncx CX P w K mg base N (sNF name qual params body scope c cda) f A outer s H E) [e] ta ∧ PSs (ncx CX P w K mg base N (sNF name qual params body scope c cda) f A outer s H E) rest t ∧
        ta (startF N vs ws) H fun vs1 H1 => vs1.length ≤ 1000 ∧ H1 x = some (exo x C none) ∧ t { nx := fun _ H' => Q .non H', rt := Q } (startF N vs ws) H1) :
    FnOk P w K mg base CX (k + 1) f fd ps sp := by
  refine ⟨len, fun A outer s H args us vs Q E hr e0 hb r hsp => ?_⟩
  have hl := len _ _ _ _ hsp
  obtain ⟨oc, od, dV, kV, doc, pm, ct, an, osl, rfl, lk⟩ := D.lk
  obtain ⟨ccl, cdd, fvs, ccs, file, tf, hcode, hvs, hfile⟩ := D.hco
  obtain ⟨cl, cld, csl, hcell⟩ := D.hcell
  have KX : K.In s.heap := e0.mod.kin.keeps fun b o e => (e0.bs b o e).1
  have lim : s.heap.NoLimit := e0.mod.nolimit.keeps fun b o e => (e0.bs b o e).1
  have Cc : CellsAt [("__class__", c)] ["__class__"] [none] s.heap H := by
    have hlook : ∀ (y : Str) (b : Addr), List.lookup y [(("__class__" : Str), c)] = some b → y = "__class__" ∧ b = c := fun y b z => by
      by_cases hy : y = "__class__"
      · subst hy
        simp [List.lookup] at z
        exact ⟨rfl, z.symm⟩
      · have hy' : (y == ("__class__" : Str)) = false := by simpa using hy
        simp [List.lookup, hy'] at z
    refine ⟨rfl, fun y b z => ?_, fun y z b h1 h2 => ?_, fun i y hi => ?_⟩
    · obtain ⟨rfl, rfl⟩ := hlook y b z
      exact ⟨(in_base e0 hcell).2, _, _, (in_base e0 hcell).1, rfl⟩
    · exact (hlook _ _ h1).1.trans (hlook _ _ h2).1.symm
    · cases i with
      | succ i => simp at hi
      | zero =>
        simp at hi
        subst hi
        exact ⟨c, by simp [List.lookup], fun v z => by simp at z⟩
  refine PySem.ks_codeAny_call_defAt (body := body) (binds := ps.zip us) hr.depth (KX _ _ lk) rfl lim (PySem.W.codeRec_of KX D.hcd) rfl hb S.nocell (fun y hy => S.par y.1 (List.of_mem_zip hy).1) (fun h₁ hns kp => ?_) S.co S.gen S.kind
  obtain ⟨x, us', te, ts, ev, ex, he, ht, hq⟩ := hbody A outer s H vs [none] Q E (hr.deeper _) rfl hsp
  have I : Inv (ncx CX P w K mg base N (sNF name qual params body scope c cda) f A outer s H E) [] (startF N vs [none]) H { s with heap := h₁, toks := s.toks + (ps.zip us).length } := inv_startN (F := sNF name qual params body scope c cda) S hr.hd e0 hl r Cc hns kp
  subst ev
  subst hbo
  obtain ⟨pr, hps⟩ := har
  subst hps
  cases r with
  | @cons _ u0 _ ur ra rw' =>
  obtain rfl : u0 = Value.ref x := ra
  obtain ⟨nm, q, N', bs, bm, sn, sub, ab, col, dd, k0, k1, k2, k3, k5, hC, hbm⟩ := D.T.cls
  have hcl : PySem.W.clsIn K C = some { name := nm, bases := bs, mro := .ref C :: bm, ns := N', qualname := q, hasDict := true, slotNames := sn, subclasses := sub, abstract := ab, collection := col, hasDel := false } := by unfold PySem.W.clsIn; rw [hC] <;> rfl
  obtain ⟨t1, ho⟩ := exo_at I.hok ex
  have K1 : K.In h₁ := KX.keeps kp
  have hself : (((ar.arg :: pr).zip (Value.ref x :: ur)).reverse.lookup ar.arg) = some (.ref x) := zip_look (i := 0) hnd rfl rfl
  have hCo := K1 _ _ hC
  have II : PySem.W.InstAt h₁ x { cls := .ref C, dict := none, data := .fields #[.ref t1, .none, .none, .none, .bool false, .none] } C none := ⟨ho, rfl, rfl, True.intro⟩
  show _root_.PySem.wpAt _ _ _ (execs (_ :: rest) (PySem.W.envX qual scope s.heap.objs.size f (.ref cda) [("__class__", c)])) _ _ _
  refine PySem.ks_wpAt_execs_cons (PySem.ks_wpAt_Expr_any (PySem.ks_wpAt_MethodCall (pl := pure false) ?_ (hev _)) I.quiet ?_)
  · refine PySem.ks_wpAt_super_base (env := PySem.W.envX qual scope s.heap.objs.size f (.ref cda) [("__class__", c)]) hks (S.frk _ (by simp)) (by decide) rfl (K1 _ _ lk) rfl hp rfl (K1 _ _ hcode) rfl hvs hfile D.htop ?_
    obtain ⟨mb, m1, m2⟩ := e0.mod.blt
    refine PySem.W.ks_loadName_global S.kind hks (Calls.loadGlobal_builtin (mg := mg) (mb := mb) (v := .type "super") ?_ D.hsu ?_ ((m2 "super" (by decide)).trans rfl) ⟨rfl, ?_⟩)
    · exact I.ok.glob ▸ I.mod.glob.keeps I.bk
    · exact I.ok.blt ▸ m1.keeps I.bk
    refine wpAny_loadName_free S.kind (S.frk _ (by simp)) rfl ⟨_, K1 _ _ hcell, rfl⟩ ?_
    refine wpAny_loadName_local S.kind (S.par _ (by simp)) hns hself ?_
    refine PySem.ks_wpAny_isType_cls hCo rfl ⟨rfl, ?_⟩
    refine PySem.ks_wpAny_call_super hCo rfl ho rfl (fun _ z => by cases z) (PySem.W.looks_mroIn K1 D.hself) (fun h2 e2 k2 => ?_)
    have K2 : K.In h2 := K1.keeps k2
    have I2 := I.kept (t' := s.toks + (((ar.arg :: pr).zip (Value.ref x :: ur))).length) k2
    have hne : x ≠ C := fun z => by
      have q1 := (in_base e0 hC).2
      rw [← z, ex] at q1
      cases q1
    have II2 : PySem.W.InstAt h2 x { cls := .ref C, dict := none, data := .fields #[.ref t1, .none, .none, .none, .bool false, .none] } C none := ⟨k2 _ _ ho, rfl, rfl, True.intro⟩
    have hm' : PySem.W.alongIn K "__init__" (((Value.ref C :: bm).dropWhile (· != .ref C)).drop 1) = some (some (.builtin "ValueError.__init__")) := by
      have q := D.hm
      unfold PySem.W.ks_superIn at q
      rw [hcl] at q
      exact q
    refine PySem.W.kxs_getMethod PySem.W.kxs_ValueError e2 (PySem.W.looks_opaque K2 D.hop) (l₀ := .ref C :: bm) ((PySem.W.looks_clsIn K2 hcl).andThen .now) rfl K2 hm' (II2.type.andThen (PySem.W.looks_subIn K2 D.hB)) hne (by decide) ?_
    have I3 := I2.kept (h' := h2.push (PySem.W.kxs_mw "ValueError.__init__" x)) (t' := s.toks + (((ar.arg :: pr).zip (Value.ref x :: ur))).length + 1) (fun b u q => Heap.get?_push_of_some _ q)
    have hu3 : (h2.push (PySem.W.kxs_mw "ValueError.__init__" x)).get? h2.objs.size = some (PySem.W.kxs_mw "ValueError.__init__" x) := Heap.get?_push_at rfl rfl
    have I4 := I3.pins_of (pins' := [(h2.objs.size, PySem.W.kxs_mw "ValueError.__init__" x)]) (fun p hp => by
      obtain rfl := List.mem_singleton.mp hp
      exact ⟨hu3, I2.hok.fresh (Nat.le_refl _), Nat.ne_of_gt I2.lt, I2.nofs (Nat.le_refl _), fun v z => by cases z⟩)
    show wpAny _ _ (callWith p3 (.ref h2.objs.size) [] (backTo p3 (starEach [e] _)) []) _ _ _
    rw [hse]
    refine PySem.W.kxs_callWith (i := "ValueError.__init__") (x := x) rfl (Calls.evalArgs_plain ?_)
    have hrun := he.run p3 _ _ _ H _ I4 hq
    rw [hse] at hrun
    refine wpAny_mono hrun (fun us1 s1 hh => ?_) fun _ _ z => z
    obtain ⟨vs1, H1, J1, r1, hv1, ex1, q1⟩ := hh
    obtain ⟨hp1, g1, d1, tk1, os1⟩ := s1
    have hC1 := J1.kIn _ _ hC
    obtain ⟨t2, ho1⟩ := exo_at J1.hok ex1
    have hu1 := (J1.pin (h2.objs.size, PySem.W.kxs_mw "ValueError.__init__" x) (by simp)).1
    refine ⟨hu1, ?_⟩
    have hlen : us1.length ≤ sizeLine := by
      have e1 := Paired.length r1
      rw [← e1, sizeLine_eq]
      omega
    refine call_mw hC1 ho1 hu1 hlen (fun h4 t4 k4 hx4 => ?_)
    have J4 := J1.write (t' := tk1) (x := x) (e := x) (o := exo x C none) (by rw [ex1]; exact True.intro) (.inl rfl) k4 ⟨_, hx4⟩ (exo_ok hx4)
    have eu : upd H1 x (exo x C none) = H1 := by
      funext b
      by_cases hb : b = x
      · rw [hb, upd_same, ex1]
      · rw [upd_ne hb]
    rw [eu] at J4
    have J5 := J4.pins_of (pins' := []) (fun p hp => by cases hp)
    refine PySem.wpAt_of_wpAny ?_
    refine wpAny_mono (ht.run [] _ _ H1 _ J5 q1) (fun fl s' hs => ?_) fun _ _ z => z
    cases fl with
    | ret u =>
      obtain ⟨v, σ', H', J, rv, q⟩ := hs
      exact ⟨v, H', J.os, J.bare, J.base, J.hok, rv, q⟩
    | next =>
      obtain ⟨σ', H', J, q⟩ := hs
      exact ⟨.non, H', J.os, J.bare, J.base, J.hok, rfl, q⟩
    | brk =>
      obtain ⟨_, _, _, q⟩ := hs
      exact False.elim q
    | cont =>
      obtain ⟨_, _, _, q⟩ := hs
      exact False.elim q
  · exact hsw _
end

/-! ## HoX -/
section
open HotX
variable {prog : Program} {w : World} {A : Around} {E : Value → Shared → Prop} {s : Shared}
/-- the end of a list's walk, an exception being handled -/
theorem list_end_hot {it l x1 : Addr} {i : Nat} {items : Array Value} {Q : Option Value → Shared → Prop} (hot : HotAt A x1 s.heap) (hit : s.heap.IsListIter it l i) (hl : s.heap.IsList l items) (hx : items[i]? = none) (hne : x1 ≠ it)
    (hQ : ∀ h', (∀ b o, b ≠ it → s.heap.get? b = some o → h'.get? b = some o) → Q none { s with heap := h' }) : wpAny (model prog w) A (pyNext (.ref it)) Q E s := by
  obtain ⟨o, ho, hc, hd⟩ := id hit
  obtain ⟨ol, hol, _, nl, hdl⟩ := hl
  obtain ⟨hh, o1, vs1, h1, d1, c1⟩ := hot
  unfold pyNext
  refine wpAny_bind (wpAny_attempt (wpAny_callSpecial?_slot (name := Str.ofString "__next__") hit.typeIs slot_listiter_next (wpAny_call_entry slot_listiter_next hit.typeIs entry_listiter_next ?_ (args_listiter_next _))))
  show wpAny _ _ (field (.ref it) 0 >>= _) _ _ s
  refine wpAny_bind (wpAny_field ho hd (x := .ref l) rfl ?_)
  show wpAny _ _ (if (Value.ref l == Value.none) = true then _ else _) _ _ s
  rw [if_neg (show ¬ ((Value.ref l == Value.none) = true) from Bool.false_ne_true)]
  show wpAny _ _ (field (.ref it) 1 >>= _) _ _ s
  refine wpAny_bind (wpAny_field ho hd (x := .int i 0) rfl ?_)
  show wpAny _ _ (seqItems? (.ref l) >>= _) _ _ s
  refine wpAny_bind (wpAny_seqItems hol hdl ?_)
  simp only [Int.toNat_natCast, hx]
  refine wpAny_bind (wpAny_rule (wpAny_bind (wpAny_setField ho hd (by simp) ?_)))
  show wpAny _ _ (newExc (.type "StopIteration") [] >>= _) _ _ _
  refine wpAny_bind ?_
  simp only [newExc, newTuple]
  refine wpAny_bind (wpAny_newObj_type ?_ (by size_fits))
  refine wpAny_bind (m := firstArgMember _ _) (wpAny_of_eq (a := Value.none) (by first | rfl | (simp only [firstArgMember]; rfl)) ?_)
  refine wpAny_newObj_type ?_ (by size_fits)
  have h1' : (s.heap.update it (Obj.mapFields (·.setIfInBounds 0 .none))).get? x1 = some o1 := (Heap.get?_update_other _ _ (Ne.symm hne)).trans h1
  refine raiseNew_hot ⟨hh, o1, vs1, Heap.get?_push_of_some _ (Heap.get?_push_of_some _ h1'), d1, c1⟩ (Nat.ne_of_lt (Heap.lt_size (Heap.get?_push_of_some _ h1'))) (Heap.get?_push_size _ rfl) rfl (by first | (simp; done) | (simp; omega) | (simp only [Array.size_append]; simp; omega)) ?_
  refine wpAny_bind (wpAny_isInstance (T := "StopIteration") (b := true) ⟨_, Heap.get?_update_self _ (Heap.get?_push_size _ rfl) rfl, rfl⟩ isSubtype_stop ?_)
  refine wpAny_pure (hQ _ fun b o hb e => ?_)
  have e' : (s.heap.update it (Obj.mapFields (·.setIfInBounds 0 .none))).get? b = some o := (Heap.get?_update_other _ _ (Ne.symm hb)).trans e
  rw [Heap.get?_update_other _ _ (Nat.ne_of_gt (Heap.lt_size (Heap.get?_push_of_some _ e')))]
  exact Heap.get?_push_of_some _ (Heap.get?_push_of_some _ e')
end
section
open HotX L2H
theorem turn_listH {P : Program} {w : World} {K : PySem.W.Frag} {tg : Expr} (a it : Addr) : TurnH P w K tg (Itl K a) [it] it (fun i h => h.IsListIter it a i) where
  mem := List.mem_singleton.mpr rfl
  obj := fun i h st b hb => by
    obtain rfl := List.mem_singleton.mp hb
    obtain ⟨o, e, _, d⟩ := st
    exact ⟨o, e, fun v z => by rw [d] at z; cases z⟩
  keep := fun i h h' st k => st.at fun o e => k it (List.mem_singleton.mpr rfl) o e
  item := fun X hP hw hK hc i pins s σ H E I hf st hg => by
    subst hP hw hK
    obtain ⟨xs, x, hq, hx⟩ := hg
    obtain ⟨its, rv, p, hz⟩ := I.list hq
    obtain ⟨u, hu, ru⟩ := rv.get hx
    have F := hf it (List.mem_singleton.mpr rfl)
    refine wpAny_pyNext_list_item st p.isList (x := u) (by simpa using hu) fun h' st' sb => ?_
    have I1 : Inv X pins σ H { s with heap := h' } := I.turned (t' := s.toks) (fun b o hb e => (sb.2 b hb).trans e) F.1 F.2.1 F.2.2.2.1 F.2.2.2.2.1 F.2.2.2.2.2
    obtain ⟨o, e, c, d⟩ := id st'
    exact ⟨u, rfl, go_of (s := { s with heap := h' }) e c d (by decide) ⟨x, H, I1, ru, ⟨rfl, fun ys hy => (I.list_inj hy hq) ▸ hx⟩, st', fun b hb => (hf b hb).1⟩⟩
  done := fun X hP hw hK hc i pins s σ H E I hf st hg => by
    subst hP hw hK
    obtain ⟨xs, hq, hx⟩ := hg
    obtain ⟨its, rv, p, hz⟩ := I.list hq
    have F := hf it (List.mem_singleton.mpr rfl)
    have hl := rv.length
    obtain ⟨q, ⟨hh, v1, e1, c1⟩, hq1⟩ := hc
    have P1 := (I.pin q (List.mem_append_left _ hq1)).1
    exact list_end_hot ⟨hh, q.2, v1, P1, e1, c1⟩ st p.isList (by simp; omega) (F.2.2.2.2.2 q (List.mem_append_left _ hq1)) fun h' eb => ⟨rfl, I.turned (t' := s.toks) eb F.1 F.2.1 F.2.2.2.1 F.2.2.2.2.1 F.2.2.2.2.2⟩
  self := fun _ _ _ _ _ st h => wpAny_pyIter_listiter st h
end
section
open HotX L2H
variable {X : Cx}
theorem pi_listH {tg l : Expr} {tl : TE} (hl : PE X l tl) : PIH X tg l (iList X.K tl) := by
  refine ⟨fun pins s σ H R I h => thn (hl.run pins s σ H _ I h) fun v s1 ⟨x, H1, I1, r1, a, e, ⟨xs, hq⟩, q⟩ => ?_⟩
  subst e
  cases r1
  obtain ⟨its, rv, p, hz⟩ := I1.list hq
  refine wpAny_pyIter_list p.isList ⟨s1.heap.objs.size, [s1.heap.objs.size], _, _, H1, rfl, I1.kept (t' := s1.toks) fun b o e => Heap.get?_push_of_some _ e, turn_listH a _, ⟨_, Heap.get?_push_size _ rfl, rfl, rfl⟩, fun b hb => ?_, q⟩
  obtain rfl := List.mem_singleton.mp hb
  exact I1.fpOk (Nat.le_refl _) (I1.hok.fresh (Nat.le_refl _))
/-- the block of a comprehension, the pins of what is handled kept -/
abbrev Cx.blkH (X : Cx) (s : Shared) (H : Hp) (scope : Scope) (cl : List (Str × Addr)) (C : Addr) (fp : List Addr) (p : Addr × Obj) : Cx := (X.blk s H scope (compEnvC scope cl C X.env) fp).tr [p] (fun _ _ => False)
/-- [e for y in l if c], l a list; acc i: what is kept behind i turns -/
def tLcH (K : PySem.W.Frag) (tl : TE) (g : TG) (tt : TT) (te : TE) (vs : List Nat) : TE := fun σ H Q => tl σ H fun x H1 => ∃ (a : Addr) (xs : List V), x = .ref a ∧ SqL K H1 a xs ∧ ∀ D, H1 D = none → ∃ acc : Nat → List V, acc 0 = [] ∧
  (∀ i y, xs[i]? = some y → (acc i).length < sizeLine ∧ g y (wipe σ vs) (upd H1 D (.lst (acc i))) fun σ2 H2 => wipe σ2 vs = wipe σ vs ∧ tt σ2 H2 fun b H3 => if b = true then te σ2 H3 fun z H4 => H4 = upd H1 D (.lst (acc i)) ∧ acc (i + 1) = acc i ++ [z] else H3 = upd H1 D (.lst (acc i)) ∧ acc (i + 1) = acc i) ∧
  Q (.ref D) (upd H1 D (.lst (acc xs.length)))
theorem pe_lcH {elt tg l : Expr} {ifs : List Expr} {scope : Scope} {own : List (Str × Nat)} {pos : Pos} {tl : TE} {g : TG} {tt : TT} {te : TE} (hc : HotC X) (hN : X.N.Nodup) (hl : PE X l tl) (ok : BlkOk X.N X.env.scope scope own)
    (hg : ∀ s H C cl fp p, PG (Cx.blkH X s H scope cl C fp p) tg g) (ht : ∀ s H C cl fp p, PTs (Cx.blkH X s H scope cl C fp p) ifs tt) (he : ∀ s H C cl fp p, PE (Cx.blkH X s H scope cl C fp p) elt te)
    (hs : ∀ x, foldedSetIterable l X.env x = pure x := by intro _; rfl) : PE X (.ListComp elt [⟨tg, l, ifs, 0⟩] scope pos) (tLcH X.K tl g tt te (own.map (·.2))) := by
  refine ⟨fun pins s σ H Q I h => ?_⟩
  obtain ⟨p, hot, hpn⟩ := hc
  rw [eval_ListComp]
  have clo := closure_ok (env := X.env) (scope := scope) (fun y hy e => (ok.free y hy e).elim (fun k => I.ok.has _ (.inl k)) fun k => I.ok.has _ (.inr k))
  refine wpAny_comprehension_free (use := none) rfl hs clo ok.kind (fun y hy e => (ok.uniq y hy).trans (congrArg some e)) (thn (hl.run pins s σ H _ I h) fun v s1 ⟨x, H1, I1, r1, a, xs, ex, hq, q⟩ => ?_)
  subst ex
  cases r1
  obtain ⟨its, rv, pl, hz⟩ := I1.list hq
  refine wpAny_pyIter_list pl.isList ?_
  generalize hit : s1.heap.objs.size = it
  generalize hs2 : ({ s1 with heap := s1.heap.push { cls := .type "list_iterator", data := .fields #[.ref a, .int (0 : Nat) 0] } } : Shared) = s2
  have k2 : ∀ b o, s1.heap.get? b = some o → s2.heap.get? b = some o := fun b o e => by subst hs2; exact Heap.get?_push_of_some _ e
  have st2 : s2.heap.IsListIter it a 0 := by subst hs2 hit; exact ⟨_, Heap.get?_push_size _ rfl, rfl, rfl⟩
  have I2 : Inv X pins σ H1 s2 := by subst hs2; exact I1.kept (t' := s1.toks) fun b o e => Heap.get?_push_of_some _ e
  have fit : FpOk X pins H1 it := by subst hit; exact I1.fpOk (Nat.le_refl _) (I1.hok.fresh (Nat.le_refl _))
  refine wpAny_newObj_type (newEnv_comp ?_) (by show 0 ≤ sizeLine; decide)
  generalize hD : s2.heap.objs.size = D
  have hDn : H1 D = none := I2.hok.fresh (Nat.le_of_eq hD)
  have itD : it < D := by
    obtain ⟨o, e, _⟩ := st2
    rw [← hD]
    exact Heap.lt_size e
  obtain ⟨acc, a0, step, fin⟩ := q D hDn
  generalize hs3 : ({ s2 with heap := s2.heap.push { cls := .type "list", data := .seq ([] : List Value).toArray } } : Shared) = s3
  have k3 : ∀ b o, s2.heap.get? b = some o → s3.heap.get? b = some o := fun b o e => by subst hs3; exact Heap.get?_push_of_some _ e
  have I3 : Inv X pins σ (upd H1 D (.lst (acc 0))) s3 := by
    rw [a0]
    subst hs3 hD
    exact I2.laid (t' := s2.toks) (fun b o e => Heap.get?_push_of_some _ e) (Nat.le_refl _) ⟨Nat.zero_le _, [], 0, .nil, Heap.get?_push_size _ rfl⟩
  have n3 : ∀ acc : List V, (upd H1 D (.lst acc)) it = none := fun acc => by rw [upd_ne (Nat.ne_of_lt itD)]; exact fit.1
  have fit3 : FpOk X pins (upd H1 D (.lst (acc 0))) it := ⟨n3 _, fit.2⟩
  have it3 : it < s3.heap.objs.size := by
    obtain ⟨o, e, _⟩ := st2
    exact Heap.lt_size (k3 _ _ e)
  have qs : ∀ acc : List V, SqL X.K (upd H1 D (.lst acc)) a xs := fun acc => Same.seq (fun b o e => by rw [upd_ne (ne_of_none e hDn)]; exact e) hq
  have I4 := block_start I3 ok hN (fp := [it]) (fun b hb => by obtain rfl := List.mem_singleton.mp hb; exact ⟨fit3, it3⟩)
  have P3 := I3.pin p (List.mem_append_left _ hpn)
  have mo : ∀ {o : Obj}, s3.heap.get? p.1 = some o → (pushCells (s3.heap.push { cls := .type "dict", data := .dict #[] }) scope.names).get? p.1 = some o := fun e => pushCells_keeps _ _ _ _ (Heap.get?_push_of_some _ e)
  have I5 := (I4.pins_of (pins' := [p]) (fun b hb => by
    obtain rfl := List.mem_singleton.mp hb
    exact ⟨mo P3.1, P3.2.1, Nat.ne_of_lt (Heap.lt_size P3.1), fun hm => (List.mem_cons.mp (I3.stkSub _ hm)).elim P3.2.2.1 P3.2.2.2.1, P3.2.2.2.2⟩)).toTry (fun _ _ => False)
  have pg := hg s3 (upd H1 D (.lst (acc 0))) s3.heap.objs.size (cellsFrom (s3.heap.objs.size + 1) scope.names (cloFrom X.env.cells scope.names [])) [it] p
  have pt := ht s3 (upd H1 D (.lst (acc 0))) s3.heap.objs.size (cellsFrom (s3.heap.objs.size + 1) scope.names (cloFrom X.env.cells scope.names [])) [it] p
  have pe := he s3 (upd H1 D (.lst (acc 0))) s3.heap.objs.size (cellsFrom (s3.heap.objs.size + 1) scope.names (cloFrom X.env.cells scope.names [])) [it] p
  have I5' : Inv (Cx.blkH X s3 (upd H1 D (.lst (acc 0))) scope (cellsFrom (s3.heap.objs.size + 1) scope.names (cloFrom X.env.cells scope.names [])) s3.heap.objs.size [it] p) [] (wipe σ (own.map (·.2))) (upd H1 D (.lst (acc 0))) { s3 with heap := pushCells (s3.heap.push { cls := .type "dict", data := .dict #[] }) scope.names } := I5
  generalize hB : Cx.blkH X s3 (upd H1 D (.lst (acc 0))) scope (cellsFrom (s3.heap.objs.size + 1) scope.names (cloFrom X.env.cells scope.names [])) s3.heap.objs.size [it] p = B at pg pt pe I5'
  have hotB : HotC B := by subst hB; exact ⟨p, hot, List.mem_singleton.mpr rfl⟩
  have stB : ∀ {σ' : L2.St} {H' : Hp} {s' : Shared}, Inv B [] σ' H' s' → H' it = none → ∀ b ∈ [it], FpOk B [] H' b := fun {σ' H' s'} J hn b hb => by
    obtain rfl := List.mem_singleton.mp hb
    subst hB
    exact ⟨hn, (J.ok.exf b hb).1, J.ok.exfs b hb, .inl hb, (J.ok.exf b hb).2, fun r hr => by
      obtain rfl := List.mem_singleton.mp (by simpa using hr)
      exact fit3.2.2.2.2.2 r (List.mem_append_left _ hpn)⟩
  have st4 : (pushCells (s3.heap.push { cls := .type "dict", data := .dict #[] }) scope.names).IsListIter it a 0 := st2.at fun o e => pushCells_keeps _ _ _ _ (Heap.get?_push_of_some _ (k3 _ _ e))
  have T := turn_listH (P := X.prog) (w := X.w) (K := X.K) (tg := tg) a it
  have hpr : B.prog = X.prog := by subst hB; rfl
  have hw : B.w = X.w := by subst hB; rfl
  have hK : B.K = X.K := by subst hB; rfl
  have hA : B.A = X.A := by subst hB; rfl
  have hxe : B.xe = fun _ _ => False := by subst hB; rfl
  have hE : B.env = compEnvC scope (cellsFrom (s3.heap.objs.size + 1) scope.names (cloFrom X.env.cells scope.names [])) s3.heap.objs.size X.env := by subst hB; rfl
  have loop : codeAny (model X.prog X.w) X.A (.compLoop (.ListComp elt [⟨tg, l, ifs, 0⟩] scope pos) 0 (.ref it) (.ref D) (compEnvC scope (cellsFrom (s3.heap.objs.size + 1) scope.names (cloFrom X.env.cells scope.names [])) s3.heap.objs.size X.env)) (compPost (model X.prog X.w) X.A X.xe none (EP X pins σ Q) (.ref D) s3.heap.objs.size) { s3 with heap := pushCells (s3.heap.push { cls := .type "dict", data := .dict #[] }) scope.names } := by
    refine compLoop_any (fun n s' => ∃ i, i + n = xs.length ∧ Inv B [] (wipe σ (own.map (·.2))) (upd H1 D (.lst (acc i))) s' ∧ s'.heap.IsListIter it a i) ?_ xs.length ⟨0, by omega, I5', st4⟩
    rintro n s5 ⟨i, hi, J, st5⟩
    cases hx : xs[i]? with
    | none =>
      have td := T.done B hpr hw hK hotB i [] s5 _ _ (fun _ _ => False) J (stB J (n3 _)) st5 ⟨xs, hK ▸ qs _, List.getElem?_eq_none_iff.mp hx⟩
      rw [hA] at td
      refine thnF td fun r s6 ⟨hr, J6⟩ => ?_
      subst hr
      obtain rfl : i = xs.length := by have := List.getElem?_eq_none_iff.mp hx; omega
      subst hB
      have I7 : Inv X pins σ (upd H1 D (.lst (acc xs.length))) s6 := I3.call' (ch := [it]) J6.os J6.base J6.hok J6.bare fun b hb => by
        obtain rfl := List.mem_singleton.mp hb
        exact ⟨fit3.2.2.2.1, fit3.2.1, fit3.2.2.2.2.1, fit3.2.2.2.2.2⟩
      obtain ⟨m, hn, _⟩ := J6.loc
      have hC : (upd H1 D (.lst (acc xs.length))) s3.heap.objs.size = none := J6.free
      obtain ⟨f0, f1, f2, f3, f4, f5⟩ := I3.fpOk (Nat.le_refl _) hC
      exact ⟨m, hn, fun h'' sb => ⟨.ref D, _, I7.turned (t' := s6.toks) (fun b o hb e => (sb.2 b hb).trans e) f0 f1 f3 f4 f5, rfl, fin⟩⟩
    | some y =>
      have ti := T.item B hpr hw hK hotB i [] s5 _ _ (fun _ _ => False) J (stB J (n3 _)) st5 ⟨xs, y, hK ▸ qs _, hx⟩
      rw [hA] at ti
      refine thnF ti fun r s6 ⟨u, hr, h6⟩ => ?_
      subst hr
      refine thnF h6 fun _ s7 ⟨x, H7, J7, r7, ⟨e7, y7⟩, st7, n7⟩ => ?_
      subst e7
      obtain rfl : x = y := by
        have q1 := y7 xs (hK ▸ qs _)
        rw [hx] at q1
        exact (Option.some.inj q1).symm
      have J7' := J7.pinned (stB J7 (n3 _)) (T.obj _ _ st7)
      have back : ∀ {σ' : L2.St} {s' : Shared}, wipe σ' (own.map (·.2)) = wipe σ (own.map (·.2)) → Inv B ([] ++ pinsAt [it] s7.heap) σ' (upd H1 D (.lst (acc (i + 1)))) s' → ∃ m, m < n ∧ ∃ i, i + m = xs.length ∧ Inv B [] (wipe σ (own.map (·.2))) (upd H1 D (.lst (acc i))) s' ∧ s'.heap.IsListIter it a i := fun {σ' s'} hw' J' => by
        have hlt := (List.getElem?_eq_some_iff.mp hx).1
        refine ⟨n - 1, by omega, i + 1, by omega, ?_, T.keep _ _ _ st7 fun b hb o e => (J'.pin (b, o) (List.mem_append_right _ (List.mem_append_right _ (mem_pinsAt hb e)))).1⟩
        rw [← hw']
        exact (J'.unpinned (pins := [])).weak (wipe_length _ _) fun j v e => (wipe_some e).1
      obtain ⟨hz1, st1⟩ := step i x hx
      have rg := pg.run _ s7 _ _ x u _ J7' r7 st1
      rw [hpr, hw, hA, hxe, hE] at rg
      refine thnF rg fun _ s8 ⟨σ8, H8, J8, hw8, q8⟩ => ?_
      have rt := pt.run _ s8 σ8 H8 _ J8 q8
      rw [hpr, hw, hA, hxe, hE] at rt
      refine thnF rt fun b s9 ⟨H9, J9, q9⟩ => ?_
      cases b with
      | false =>
        obtain ⟨e9, ea⟩ := q9
        subst e9
        rw [← ea] at J9
        exact back hw8 J9
      | true =>
        have re := pe.run _ s9 σ8 H9 _ J9 q9
        rw [hpr, hw, hA, hxe, hE] at re
        refine thnF re fun z s10 ⟨yv, H10, J10, r10, e10, ea⟩ => ?_
        subst e10
        have ap := app_ok (X := B) (E := fun _ _ => False) J10 (D := D) (xs := acc i) upd_same hz1 r10 (Q := fun _ s' => ∃ m, m < n ∧ ∃ i, i + m = xs.length ∧ Inv B [] (wipe σ (own.map (·.2))) (upd H1 D (.lst (acc i))) s' ∧ s'.heap.IsListIter it a i) fun s11 J11 => back hw8 (by rw [ea]; rw [upd_upd] at J11; exact J11)
        rw [hpr, hw, hA] at ap
        exact thnF ap fun _ _ z => z
  exact codeAny_compStart_list loop (T.self X.A 0 _ _ _ st4 loop)
end

/-! ## HoY -/
section
open HotX L2H
/-- what a def promises where p is handled -/
abbrev HSp := Addr → Value → Option Addr → Sp
def ClH (P : Program) (w : World) (K : PySem.W.Frag) (mg : Str → Option Value) (base : Heap) (k : Nat) (x : Str) (ps : List Str) (sp : HSp) : Prop :=
  ∃ f fd, mg x = some (.ref f) ∧ PySem.W.keepIn K (.ref f) = true ∧ (∀ (s : Shared) (us : List Value), us.length = ps.length → BindsTo s fd ⟨us, []⟩ (ps.zip us)) ∧ (∀ a c d vs H Q E, sp a c d vs H Q E → vs.length = ps.length) ∧
    ∀ (A : Around) (outer : List Env) (s : Shared) (H : Hp) (us : List Value) (vs : List V) (Q : VK) (E : XK) (p : Addr × Obj) (cls : Value) (d : Option Addr), RoomH k A → Hot1 A p → PinOk outer H s p → Zc cls d p.2 → Env0 P w K mg base A outer s H → Vals vs us → sp p.1 cls d vs H Q E →
      codeAny (model P w) A (.call (.ref f) ⟨us, []⟩) (CR CX0 outer P w H s Q E) s
variable {P : Program} {w : World} {K : PySem.W.Frag} {mg : Str → Option Value} {base : Heap}
theorem ClH.mono {j k : Nat} {x : Str} {ps : List Str} {sp : HSp} (C : ClH P w K mg base j x ps sp) (h : j ≤ k) : ClH P w K mg base k x ps sp := by
  obtain ⟨f, fd, a, b, c, l, d⟩ := C
  exact ⟨f, fd, a, b, c, l, fun A outer s H us vs Q E p cls dd hr => d A outer s H us vs Q E p cls dd (hr.mono h)⟩
abbrev cxP (P : Program) (w : World) (K : PySem.W.Frag) (mg : Str → Option Value) (base : Heap) (N : List Str) (x : Str) (sc : Scope) (f : Addr) (cdv : Value) (A : Around) (outer : List Env) (s : Shared) (H : Hp) (E : XK) (p : Addr × Obj) : Cx := cxH CX0 P w K mg base N x sc f cdv A outer s H E p
theorem clH_of {x : Str} {st : Stmt} {N ps : List Str} {k : Nat} {sp : HSp} (D : Df K mg x st) (S : FnScope N ps (defScope st))
    (hb : ∀ (kV doc pm : Value) (an : Option Addr) (cdv ct : Value) (us : List Value), us.length = ps.length → bindArgs (PySem.W.fnOf x x (defArgs st) (defBody st) (defScope st) .none kV doc pm an cdv ct) ⟨us, []⟩ = pure (ps.zip us))
    (len : ∀ a c d vs H Q E, sp a c d vs H Q E → vs.length = ps.length)
    (hbody : ∀ (f : Addr) (cdv : Value) (A : Around) (outer : List Env) (s : Shared) (H : Hp) (vs : List V) (Q : VK) (E : XK) (p : Addr × Obj) (cls : Value) (d : Option Addr), Hot1 (A.deeper (envOfC x (defScope st) s.heap.objs.size f cdv)) p → Zc cls d p.2 → HotC (cxP P w K mg base N x (defScope st) f cdv A outer s H E p) → RoomH k (A.deeper (envOfC x (defScope st) s.heap.objs.size f cdv)) → sp p.1 cls d vs H Q E →
      ∃ t, PSs (cxP P w K mg base N x (defScope st) f cdv A outer s H E p).nox (defBody st) t ∧ t { nx := fun _ H' => Q .non H', rt := Q } (L2.start N vs) H) : ClH P w K mg base (k + 1) x ps sp := by
  obtain ⟨f, fd, F, g⟩ := D
  refine ⟨f, fd, g, F.kp, F.bindsA hb, len, fun A outer s H us vs Q E p cls dd hr hot hpin hz e0 r hsp => ?_⟩
  obtain ⟨oc, od, dV, kV, doc, pm, an, cdv, ct, osl, rfl, lk, hcd, _, _⟩ := F.ex
  have hl := len _ _ _ _ _ _ _ hsp
  have kp : ∀ b o, base.get? b = some o → s.heap.get? b = some o := fun b o e => (e0.bs b o e).1
  have hul : us.length = ps.length := by rw [← r.length]; exact hl
  refine codeAny_call_function hr.depth (kp _ _ (e0.mod.kin _ _ lk)) rfl S.co S.gen rfl (PySem.W.codeRec_of (e0.mod.kin.keeps kp) hcd) ?_
  refine F.bindsA hb s us hul _ _ _ _ (wpAny_newFunctionEnv_cells S.kind (fun ⟨n, v⟩ hy => (S.par n (List.of_mem_zip hy).1).imp id fun q => ⟨q, PySem.W.cellsFrom_some _ _ _ (.inl q)⟩) fun env he s1 x => ?_)
  subst he
  refine ⟨(e0.mod.nolimit.keeps kp).keeps x.toInCall.keep, codeAny_func ?_⟩
  obtain ⟨t, ht, hq⟩ := hbody f cdv A outer s H vs Q E p cls dd hot hz ⟨p, hot, List.mem_singleton.mpr rfl⟩ (hr.deeper _) hsp
  refine wpAny_mono (ht.nox.run [] s1 (L2.start N vs) H _ (inv_startH S hpin e0 hl r x) hq) (fun fl s' hs => ?_) fun e s' hs => hs
  rcases fl with _ | _ | _ | u
  · obtain ⟨σ', H', J, q⟩ := hs
    exact ⟨.non, H', J.os, J.bare, J.base, J.hok, rfl, q⟩
  · exact hs.elim fun _ z => z.elim fun _ z => False.elim z.2
  · exact hs.elim fun _ z => z.elim fun _ z => False.elim z.2
  · obtain ⟨v, σ', H', J, rv, q⟩ := hs
    exact ⟨v, H', J.os, J.bare, J.base, J.hok, rv, q⟩
/-- x(..) in a context that bears p, which is handled -/
theorem pe_clH {X : Cx} {j k : Nat} {x : Str} {ps : List Str} {sp : HSp} {p : Addr × Obj} {q pos : Pos} {e : Expr} {es : List Expr} {t : TA} (C : ClH X.prog X.w X.K X.mg X.base j x ps sp) (hot : Hot1 X.A p) (hp : p ∈ X.pn) {cls : Value} {dd : Option Addr} (hz : Zc cls dd p.2) (hr : RoomH k X.A) (hg : Gl X x) (ha : PA X (e :: es) t) (hjk : j ≤ k := by decide)
    (hdb : (x == ("__debug__" : Str)) = false := by decide) (he : starEach (e :: es) X.env = (false, eval e X.env) :: starEach es X.env := by rfl) (hpl : (backTo pos (starEach es X.env)).any (·.1) = false := by rfl) :
    PE X (.Call (.Name x q) (e :: es) [] pos) (fun σ H Q => t σ H fun vs H1 => sp p.1 cls dd vs H1 Q E0) := by
  obtain ⟨f, fd, a, b, c, l, d⟩ := C
  refine ⟨fun pins s σ H Q I h => wpAny_Call_Name_kw (ld_glob I hg a ?_ hdb)⟩
  refine PySem.W.callWith_K (h₀ := X.base) I.ok.mod.kin b (thn (ha.run pos pins s σ H _ I h) fun us s1 ⟨vs, H1, I1, r, q⟩ => ⟨I1.kIn, ?_⟩) he hpl
  have P1 := I1.pin p (List.mem_append_left _ hp)
  show wpAny _ _ (call (.ref f) us) _ _ _
  refine wpAny_call (codeAny_mono (d X.A X.stack s1 H1 us vs Q E0 p cls dd (hr.mono hjk) hot ⟨P1.1, P1.2.1, fun hm => (List.mem_cons.mp (I1.stkSub _ hm)).elim P1.2.2.1 P1.2.2.2.1, P1.2.2.2.2⟩ hz I1.env0 r q) fun rs s' hq => ?_)
  rcases rs with er | fl
  · exact False.elim hq
  · cases fl with
    | ret u => exact I1.after hq
    | next => exact False.elim hq
    | brk => exact False.elim hq
    | cont => exact False.elim hq
end
section
variable {X : Cx} {D : Addr} {d : Option Addr} {p : Addr × Obj}
/-- the dict of the handled exception, if it has one -/
def XdAt (d : Option Addr) (H : Hp) : Prop := match d with
  | none => True
  | some dd => ∃ fs, H dd = some (.xd fs)
theorem pin_inst {pins : List (Addr × Obj)} {σ : L2.St} {H : Hp} {s : Shared} (I : Inv X pins σ H s) (hp : p ∈ X.pn) (hz : Zc (.ref D) d p.2) (hf : ∃ vs, p.2.data = .fields vs) (hx : XdAt d H) : ∃ od, PySem.W.InstAt s.heap p.1 p.2 D od := by
  have P1 := (I.pin p (List.mem_append_left _ hp)).1
  obtain ⟨vs, hd⟩ := hf
  have nc : PySem.W.notCls p.2 = true := by unfold PySem.W.notCls; rw [hd] <;> rfl
  cases d with
  | none => exact ⟨none, P1, hz.1, nc, by rw [hz.2]; trivial⟩
  | some dd =>
    obtain ⟨fs, e⟩ := hx
    obtain ⟨mA, hns, hr⟩ := (I.hok dd _ e : ObjOk X.prog X.w H s.heap dd (.xd fs))
    obtain ⟨od, ho, hl⟩ := lookIn_ns hns
    exact ⟨some od, P1, hz.1, nc, by rw [hz.2]; exact ho⟩
/-- isinstance(e, c), e handled -/
def rIsP (K : PySem.W.Frag) (D a : Addr) (d : Option Addr) : List V → Hp → VK → Prop := fun xs H Q => ∃ (c : V) (cv : Value) (b : Bool), xs = [.ref a, c] ∧ (∀ u, RelV c u → u = cv) ∧ PySem.W.kitOne K (.ref D) cv = some b ∧ XdAt d H ∧ Q (.bl b) H
theorem call_isP (C : ExcC X.K D) (hp : p ∈ X.pn) (hz : Zc (.ref D) d p.2) (hf : ∃ vs, p.2.data = .fields vs) : CallR X (.builtin "isinstance") (rIsP X.K D p.1 d) := by
  intro pins s σ H xs us Q I r h
  obtain ⟨c, cv, b, rfl, hcv, e, hx, q⟩ := h
  obtain ⟨od, J⟩ := pin_inst I hp hz hf hx
  cases r with
  | cons rx rr =>
    cases rr with
    | cons rt rr =>
      cases rr
      cases rx
      obtain rfl := hcv _ rt
      obtain ⟨cd, hc, _⟩ := PySem.W.any_some C.hd
      exact PySem.W.kia_one (PySem.W.kitx_exc (by rw [hc]; rfl) C.hg C.hk C.hs C.ha C.hn C.ht C.hm) I.kIn J e (fun z => nomatch z) fun tk => ⟨.bl b, H, I.kept (t' := tk) fun _ _ z => z, rfl, q⟩
/-- e.n, e handled -/
def tXp (a : Addr) (d : Option Addr) (f : Str) (te : TE) : TE := fun σ H Q => te σ H fun x H1 => x = .ref a ∧ ∃ (dd : Addr) (fs : List (Str × V)) (v : V), d = some dd ∧ H1 dd = some (.xd fs) ∧ fs.lookup f = some v ∧ Q v H1
theorem pe_xP {e : Expr} {te : TE} {pos : Pos} {n : Str} (T : XfC X.K D) (hno : PySem.W.findIn X.K (.ref D) n = some none) (hp : p ∈ X.pn) (hz : Zc (.ref D) d p.2) (hf : ∃ vs, p.2.data = .fields vs) (he : PE X e te) (hb : attributeBase e n X.env (eval e X.env) = eval e X.env := by rfl) :
    PE X (.Attribute e n pos) (tXp p.1 d n te) := by
  refine ⟨fun pins s σ H Q I h => attr_of hb (thn (he.run pins s σ H _ I h) fun u s1 hh => ?_)⟩
  obtain ⟨x, H1, I1, rx, rfl, dd, fs, v, rfl, ea, l, q⟩ := hh
  obtain rfl : u = Value.ref p.1 := rx
  have P1 := (I1.pin p (List.mem_append_left _ hp)).1
  obtain ⟨vs, hd⟩ := hf
  obtain ⟨mA, hns, hr⟩ := (I1.hok dd _ ea : ObjOk X.prog X.w H1 s1.heap dd (.xd fs))
  obtain ⟨od, ho, hl⟩ := lookIn_ns hns
  obtain ⟨u, hu, ru⟩ := RelO.some_of (v := v) (o := mA n) (by rw [← l]; exact hr n)
  have J : PySem.W.InstAt s1.heap p.1 p.2 D (some od) := ⟨P1, hz.1, by unfold PySem.W.notCls; rw [hd] <;> rfl, by rw [hz.2]; exact ho⟩
  exact HandSPX.exc_get I1.kIn J T.ga T.gg T.exC (PySem.W.findObj_own T.hdC hno rfl (by rw [hl, hu])) (handed_of ru) ⟨v, H1, I1.tok _, ru, q⟩
end

/-! ## HoZ -/
/-- the exception at x, its dict at d with fs in it, new since H -/
structure InS (x C d : Addr) (H H' : Hp) (fs : List (Str × V)) : Prop where
  ax : H' x = some (exo x C (some d))
  ad : H' d = some (exd d fs)
  fr : H d = none
  ne : d ≠ x
  old : ∀ b, b ≠ x → b ≠ d → H' b = H b
theorem InS.first {x C d : Addr} {H : Hp} {f : Str} {y : V} (n : H d = none) (ne : d ≠ x) : InS x C d H (upd (upd H d (exd d [(f, y)])) x (exo x C (some d))) [(f, y)] :=
  ⟨upd_same, by rw [upd_ne ne]; exact upd_same, n, ne, fun b h1 h2 => by rw [upd_ne h1, upd_ne h2]⟩
theorem InS.more {x C d : Addr} {H H' : Hp} {fs : List (Str × V)} {f : Str} {y : V} (i : InS x C d H H' fs) : InS x C d H (upd H' d (exd d ((f, y) :: fs))) ((f, y) :: fs) :=
  ⟨by rw [upd_ne (Ne.symm i.ne)]; exact i.ax, upd_same, i.fr, i.ne, fun b h1 h2 => by rw [upd_ne h2]; exact i.old b h1 h2⟩
/-- an __init__ that stores its parameters -/
def sp_ini (C : Addr) (ok : List V → Hp → Prop) (fl : List Str) : Sp := fun vs H Q _ => ∃ (x : Addr) (us : List V), vs = .ref x :: us ∧ us.length = fl.length ∧ ok us H ∧ H x = some (exo x C none) ∧
  ∀ d H', InS x C d H H' ((fl.zip us).reverse) → Q .non H'
/-- an own error class at C with such an __init__ -/
structure ErrC (P : Program) (w : World) (K : PySem.W.Frag) (mg : Str → Option Value) (base : Heap) (k : Nat) (x : Str) (C : Addr) (ok : List V → Hp → Prop) (fl : List Str) : Prop where
  g : mg x = some (.ref C)
  T : OexC K C
  ini : ∃ (fI : Addr) (fd : FuncData) (ps : List Str), PySem.W.findIn K (.ref C) "__init__" = some (some (.ref fI)) ∧ PySem.W.typeIn K (.ref fI) = some (.type "function") ∧ Binds K fd ps [] ∧ FnOk P w K mg base CX0 k fI fd ps (sp_ini C ok fl)
  xf : XfC K C
  ec : ExcC K C
  no : ∀ f ∈ fl, PySem.W.findIn K (.ref C) f = some none
  sz : fl.length ≤ 900
  okm : ∀ us H H', Same H H' → ok us H → ok us H'
section
variable {X : Cx} {C : Addr} {ok : List V → Hp → Prop} {fl : List Str} {k : Nat} {x : Str}
def tErr (C : Addr) (ok : List V → Hp → Prop) (fl : List Str) (ta : TA) : L2.St → Hp → XK → Prop := fun σ H Q => ta σ H fun vs H1 => vs.length = fl.length ∧ ok vs H1 ∧ ∀ d H2, New H1 d (.xd ((fl.zip vs).reverse)) H2 → Q (.ref C) (some d) H2
theorem pmk_err {j : Nat} {e : Expr} {es : List Expr} {ta : TA} {p pos : Pos} (D : ErrC X.prog X.w X.K X.mg X.base j x C ok fl) (hr : Room k X.A) (hg : Gl X x) (ha : PA X (e :: es) ta) (hjk : j + 1 ≤ k := by decide)
    (hdb : (x == ("__debug__" : Str)) = false := by decide) (he : starEach (e :: es) X.env = (false, eval e X.env) :: starEach es X.env := by rfl) (hpl : (backTo pos (starEach es X.env)).any (·.1) = false := by rfl) :
    L2N.PMk X (.Call (.Name x p) (e :: es) [] pos) (tErr C ok fl ta) := by
  intro pins s σ H Q I h
  have T := D.T
  obtain ⟨fI, fd, ps, iC, tI, hb, F1⟩ := D.ini
  obtain ⟨nm, q, N, bs, bm, sn, sub, ab, col, dd, k0, k1, k2, k3, k5, hC, hbm⟩ := T.cls
  refine wpAny_Call_Name_kw (ld_glob I hg D.g ?_ hdb)
  refine PySem.W.callWith_K (h₀ := X.base) I.ok.mod.kin T.kC (thn (ha.run pos pins s σ H _ I h) fun us s1 ⟨vs, H1, I1, r1, hvl, hok, q1⟩ => ⟨I1.kIn, ?_⟩) he hpl
  show wpAny _ _ (call (.ref C) us) _ _ _
  obtain ⟨hp, g, dr, tk, os⟩ := s1
  generalize hx : hp.objs.size + 1 = a
  have hsz : hp.objs.size ≤ a := by omega
  have hn : H1 a = none := I1.hok.fresh hsz
  have kk : ∀ b o, hp.get? b = some o → ((hp.push (PySem.W.kdv_tup us)).push (PySem.HandSPX.excO C hp.objs.size)).get? b = some o := fun b o e => Heap.get?_push_of_some _ (Heap.get?_push_of_some _ e)
  have hget : ((hp.push (PySem.W.kdv_tup us)).push (PySem.HandSPX.excO C hp.objs.size)).get? a = some (PySem.HandSPX.excO C hp.objs.size) := by subst hx; heap_get
  have I2 : Inv X pins σ (upd H1 a (exo a C none)) ⟨(hp.push (PySem.W.kdv_tup us)).push (PySem.HandSPX.excO C hp.objs.size), g, dr, tk, os⟩ := I1.laid (t' := tk) kk hsz (exo_ok hget)
  have r2 : Vals (V.ref a :: vs) (Value.ref a :: us) := .cons rfl r1
  have hq : sp_ini C ok fl (V.ref a :: vs) (upd H1 a (exo a C none)) (fun v H2 => v = .non ∧ ∃ dx, InS a C dx (upd H1 a (exo a C none)) H2 ((fl.zip vs).reverse)) (fun _ _ _ => False) :=
    ⟨a, vs, rfl, hvl, D.okm _ _ _ (New.mk' (o := exo a C none) hn).same hok, upd_same, fun dx H' i => ⟨rfl, dx, i⟩⟩
  have hl : (Value.ref a :: us ++ []).length = ps.length := by
    have e := r2.length
    rw [F1.len _ _ _ _ hq] at e
    rw [List.append_nil]
    exact e.symm
  have hus : us.length ≤ sizeLine := by
    have := D.sz
    rw [← Paired.length r1, sizeLine_eq]
    omega
  have b2 := hb _ (Value.ref a :: us) I2.kIn hl
  rw [List.append_nil] at b2
  refine wpAny_call (PySem.HandSPX.call_own F.excBase_ValueError (fun Y => PySem.HandSPX.refsVE_contains Y bm hbm) (I1.kIn _ _ hC) (PySem.W.looks_findIn I1.kIn iC) (fun self => PySem.W.bind_fn I1.kIn self tI) hus ?_)
  rw [hx]
  refine codeAny_mono (F1.run _ X.stack _ _ ⟨Value.ref a :: us, []⟩ (Value.ref a :: us) _ _ (fun _ _ _ => False) ((hr.mono hjk).make C us []) (I2.env0.make C us []) b2 r2 hq) fun r s' hq' => ?_
  rcases r with er | fl'
  · exact False.elim hq'
  cases fl' with
  | ret u =>
    obtain ⟨v, H2, os2, bare2, un2, hok2, rv, ev, d, ins⟩ := hq'
    subst ev
    have hd1 : H1 d = none := by
      have := ins.fr
      rwa [upd_ne ins.ne] at this
    obtain ⟨h2, g2, d2, t2, os'⟩ := s'
    obtain ⟨t0, G, J, kG, ge, hoe, na⟩ := mk_end0 (d2 := d2) (t2 := t2) I1 hsz kk un2 hok2 os2 bare2 ins.ax ins.ad hd1
    refine ⟨rv, a, _, _, ⟨G, g2, d2, t2, os'⟩, _, .ref C, some d, rfl, J, kG, ge, hoe, ⟨rfl, rfl, fun vs hv => by cases hv; rfl⟩, rfl, rfl, na, rfl, bare2, raises_own T.exC T.tyC, q1 d _ ⟨hd1, upd_same, fun b hb => ?_⟩⟩
    rw [upd_ne hb]
    by_cases hba : b = a
    · rw [hba, del_same, hn]
    · rw [del_ne hba, ins.old b hba hb, upd_ne hba]
  | next => exact False.elim hq'
  | brk => exact False.elim hq'
  | cont => exact False.elim hq'
end
/-! ### defs that raise -/
def ClX (P : Program) (w : World) (K : PySem.W.Frag) (mg : Str → Option Value) (base : Heap) (k : Nat) (x : Str) (ps : List Str) (sp : Sp) : Prop :=
  ∃ f fd, mg x = some (.ref f) ∧ PySem.W.keepIn K (.ref f) = true ∧ Binds K fd ps [] ∧ FnOk P w K mg base (L2N.CX P w) k f fd ps sp ∧ ∃ oc od osl, K.lookup f = some ⟨oc, od, .func fd, osl⟩
section
variable {P : Program} {w : World} {K : PySem.W.Frag} {mg : Str → Option Value} {base : Heap}
theorem ClX.mono {j k : Nat} {x : Str} {ps : List Str} {sp : Sp} (C : ClX P w K mg base j x ps sp) (h : j ≤ k) : ClX P w K mg base k x ps sp := by
  obtain ⟨f, fd, a, b, c, d, e⟩ := C
  exact ⟨f, fd, a, b, c, d.mono h, e⟩
theorem clX_of {x : Str} {st : Stmt} {N ps : List Str} {k : Nat} {sp : Sp} (D : Df K mg x st) (S : FnScope N ps (defScope st))
    (hb : ∀ (kV doc pm : Value) (an : Option Addr) (cdv ct : Value) (us : List Value), us.length = ps.length → bindArgs (PySem.W.fnOf x x (defArgs st) (defBody st) (defScope st) .none kV doc pm an cdv ct) ⟨us, []⟩ = pure (ps.zip us))
    (len : ∀ vs H Q E, sp vs H Q E → vs.length = ps.length)
    (hbody : ∀ (f : Addr) (cdv : Value) (A : Around) (outer : List Env) (s : Shared) (H : Hp) (vs : List V) (Q : VK) (E : XK), Room k (A.deeper (envOfC x (defScope st) s.heap.objs.size f cdv)) → L2N.Takes (cxOf (L2N.CX P w) P w K mg base N x (defScope st) f cdv A outer s H E) (fun cls d _ H => E cls d H) → sp vs H Q E →
      ∃ t, PSs (cxOf (L2N.CX P w) P w K mg base N x (defScope st) f cdv A outer s H E) (defBody st) t ∧ t { nx := fun _ H' => Q .non H', rt := Q } (start N vs) H) : ClX P w K mg base (k + 1) x ps sp := by
  obtain ⟨f, fd, F, g⟩ := D
  refine ⟨f, fd, g, F.kp, fun s us _ hl => ?_, F.ok S len fun cdv A outer s H vs Q E hr hsp => hbody f cdv A outer s H vs Q E hr (L2N.takes_of rfl rfl rfl rfl) hsp, ?_⟩
  · rw [List.append_nil] at hl ⊢
    exact F.bindsA hb s us hl
  · obtain ⟨oc, od, dV, kV, doc, pm, an, cdv, ct, osl, e, lk, _⟩ := F.ex
    exact ⟨oc, od, osl, lk⟩
end
/-- the same def, called with keywords ks behind n values -/
def ClXK (P : Program) (w : World) (K : PySem.W.Frag) (mg : Str → Option Value) (base : Heap) (k : Nat) (x : Str) (ps : List Str) (n : Nat) (ks : List Str) (sp : Sp) : Prop :=
  ∃ f fd, mg x = some (.ref f) ∧ PySem.W.keepIn K (.ref f) = true ∧ KBn K fd ps n ks (fun us ws => us ++ ws) (fun us ws => us ++ ws) ∧ FnOk P w K mg base (L2N.CX P w) k f fd ps sp
theorem vals_app {vs : List V} {us : List Value} {zs : List V} {ws : List Value} (a : Vals vs us) (b : Vals zs ws) : Vals (vs ++ zs) (us ++ ws) := by
  induction a with
  | nil => exact b
  | cons h _ ih => exact .cons h ih
theorem clXK_of {P : Program} {w : World} {K : PySem.W.Frag} {mg : Str → Option Value} {base : Heap} {k : Nat} {x : Str} {st : Stmt} {ps : List Str} {sp : Sp} {n : Nat} {ks : List Str} (D : Df K mg x st) (C : ClX P w K mg base k x ps sp)
    (hb : ∀ (kV doc pm : Value) (an : Option Addr) (cdv ct : Value) (us ws : List Value), us.length = n → ws.length = ks.length → bindArgs (PySem.W.fnOf x x (defArgs st) (defBody st) (defScope st) .none kV doc pm an cdv ct) ⟨us, ks.zip ws⟩ = pure (ps.zip (us ++ ws))) : ClXK P w K mg base k x ps n ks sp := by
  obtain ⟨f, fd, F, g⟩ := D
  obtain ⟨f2, fd2, a, b, c, d, oc2, od2, osl2, lk2⟩ := C
  obtain ⟨oc, od, dV, kV, doc, pm, an, cdv, ct, osl, rfl, lk, hcd, hD, hK⟩ := F.ex
  rw [g] at a
  cases a
  rw [lk] at lk2
  cases lk2
  rcases hD with ⟨_, rfl⟩ | ⟨e, _⟩
  · exact ⟨f, _, g, b, ⟨fun s us ws _ l1 l2 => .of_eq (hb kV doc pm an cdv ct us ws l1 l2), fun a b => vals_app a b⟩, d⟩
  · exact absurd rfl e
section
variable {X : Cx}
theorem pe_clX {j k : Nat} {x : Str} {ps : List Str} {sp : Sp} {p pos : Pos} {e : Expr} {es : List Expr} {t : TA} {W : WX} (C : ClX X.prog X.w X.K X.mg X.base j x ps sp) (tk : L2N.Takes X W) (hr : Room k X.A) (hg : Gl X x) (ha : PA X (e :: es) t) (hjk : j ≤ k := by decide)
    (hdb : (x == ("__debug__" : Str)) = false := by decide) (he : starEach (e :: es) X.env = (false, eval e X.env) :: starEach es X.env := by rfl) (hpl : (backTo pos (starEach es X.env)).any (·.1) = false := by rfl) :
    PE X (.Call (.Name x p) (e :: es) [] pos) (tCallS sp (WE W) t) := by
  obtain ⟨f, fd, a, b, c, d, _⟩ := C
  exact pe_callS d (hr.mono hjk) hg a b c (fun σ => L2N.passAt tk σ) ha hdb he hpl
theorem a_err {C : Addr} {ok : List V → Hp → Prop} {fl : List Str} {ta : TA} {σ : L2.St} {H : Hp} {Q : XK} : tErr C ok fl ta σ H Q = ta σ H fun vs H1 => vs.length = fl.length ∧ ok vs H1 ∧ ∀ d H2, New H1 d (.xd ((fl.zip vs).reverse)) H2 → Q (.ref C) (some d) H2 := rfl
theorem a_callS {sp : Sp} {E : L2.St → XK} {t : TA} {σ : L2.St} {H : Hp} {Q : VK} : tCallS sp E t σ H Q = t σ H fun vs H1 => sp vs H1 Q (E σ) := rfl
theorem a_xp {a : Addr} {d : Option Addr} {f : Str} {te : TE} {σ : L2.St} {H : Hp} {Q : VK} : tXp a d f te σ H Q = te σ H fun x H1 => x = .ref a ∧ ∃ (dd : Addr) (fs : List (Str × V)) (v : V), d = some dd ∧ H1 dd = some (.xd fs) ∧ fs.lookup f = some v ∧ Q v H1 := rfl
theorem a_isP {K : PySem.W.Frag} {D a : Addr} {d : Option Addr} {xs : List V} {H : Hp} {Q : VK} : rIsP K D a d xs H Q = ∃ (c : V) (cv : Value) (b : Bool), xs = [.ref a, c] ∧ (∀ u, RelV c u → u = cv) ∧ PySem.W.kitOne K (.ref D) cv = some b ∧ XdAt d H ∧ Q (.bl b) H := rfl
theorem takesN0 : L2N.Takes X (fun _ _ _ _ => False) := fun _ _ ⟨_, _, _, _, _, _, _, _, _, _, _, _, _, _, _, _, z⟩ => z.elim
end
section
variable {X : Cx}
theorem pe_clXK {j k : Nat} {x : Str} {ps : List Str} {sp : Sp} {n : Nat} {ks : List Str} {p pos : Pos} {e : Expr} {es : List Expr} {kws : List Keyword} {t t2 : TA} (C : ClXK X.prog X.w X.K X.mg X.base j x ps n ks sp) (hr : Room k X.A) (hg : Gl X x) (ha : PA X (e :: es) t) (hkw : PK X kws t2) (hjk : j ≤ k := by decide)
    (hall : (backToKw pos (keywordEach kws X.env)).all (·.1.isSome) = true := by rfl) (hks : (backToKw pos (keywordEach kws X.env)).filterMap (·.1) = ks := by rfl)
    (hdb : (x == ("__debug__" : Str)) = false := by decide) (he : starEach (e :: es) X.env = (false, eval e X.env) :: starEach es X.env := by rfl)
    (hpl : ((backTo pos (starEach (e :: es) X.env)).any (·.1) || (backToKw pos (keywordEach kws X.env)).any (·.1.isNone)) = false := by rfl) :
    PE X (.Call (.Name x p) (e :: es) kws pos) (fun σ H Q => t σ H fun vs H1 => t2 σ H1 fun zs H2 => vs.length = n ∧ zs.length = ks.length ∧ sp (vs ++ zs) H2 Q (fun _ _ _ => False)) := by
  obtain ⟨f, fd, a, b, c, d⟩ := C
  exact pe_callN (d.mono hjk) hr hg a b c (fun pins σ H s e s' I c => L2N.passAt (W := fun _ _ _ _ => False) takesN0 σ pins H s e s' I c) ha hkw hall hks hdb he hpl
end

/-! ## HoN -/
set_option maxHeartbeats 4000000 in
theorem meets_enum1 {v : Value} {o : Obj} {H : Heap → Prop} (B : Begins v o H) :
    Meets (Builtin.«enumerate.__new__» ⟨[.type "enumerate", v], []⟩) (fun _ R s => H s.heap ∧
      R (.ok (.ret (.ref (s.heap.push o).objs.size))) { s with heap := (s.heap.push o).push { cls := .type "enumerate", data := .fields #[.none, .bool false, .ref s.heap.objs.size, rawInt 0, .none, .none] } }) :=
  .of_wp fun prog w A R s h => by
    obtain ⟨hp, g, d, tk, os⟩ := s
    obtain ⟨h1, h⟩ := h
    have hsub := sub_enumerate
    have st : ∀ {A' : Around} {E : Value → Shared → Prop} {Q : Value → Shared → Prop}, Q (.ref hp.objs.size) ⟨hp.push o, g, d, tk, os⟩ → wpAny (model prog w) A' (pyIter v) Q E ⟨hp, g, d, tk, os⟩ := fun q => B.iter prog w _ _ ⟨hp, g, d, tk, os⟩ _ h1 q
    wp_walk using st
    refine wpAny_stack_any fun stk => wpAny_pure ?_
    split
    · rename_i c _ _ _ _ _
      cases (c == Value.type "enumerate") <;> (wp_walk using st; exact ⟨_, rfl, h⟩)
    · wp_walk using st
      exact ⟨_, rfl, h⟩
section
variable {prog : Program} {w : World} {A : Around} {E : Value → Shared → Prop} {s : Shared}
theorem enum1_begins {v : Value} {o : Obj} {H : Heap → Prop} {Q : Value → Shared → Prop} (B : Begins v o H) (h1 : H s.heap)
    (h : ∀ h', IsEnum h' (s.heap.objs.size + 1) s.heap.objs.size 0 .none → h'.get? s.heap.objs.size = some o → (∀ b o, s.heap.get? b = some o → h'.get? b = some o) → Q (.ref (s.heap.objs.size + 1)) { s with heap := h' }) :
    wpAny (model prog w) A (call (.type "enumerate") [v]) Q E s := by
  refine callType_new F.called_enumerate (by decide) (F.typeCall_enumerate_1 _) (F.newCall_enumerate_1 _) (fun obj => F.args_object_init_2 obj _) F.entry_enumerate_new (meets_enum1 B) ⟨h1, ?_⟩
  have hz : (s.heap.push o).objs.size = s.heap.objs.size + 1 := Heap.size_push ..
  have he : IsEnum ((s.heap.push o).push { cls := .type "enumerate", data := .fields #[.none, .bool false, .ref s.heap.objs.size, rawInt 0, .none, .none] }) (s.heap.objs.size + 1) s.heap.objs.size 0 .none := hz ▸ Heap.get?_push_size _ rfl
  show _ ∧ _
  rw [hz]
  exact ⟨⟨_, he, rfl⟩, h _ he (Heap.get?_push_of_some _ (Heap.get?_push_size _ B.free)) fun b o x => Heap.get?_push_of_some _ (Heap.get?_push_of_some _ x)⟩
end
/-- the tuple at a, each item in a new pair -/
def IteT (K : PySem.W.Frag) (a : Addr) (xs : List V) : It :=
  ⟨fun i H => SqT K H a xs ∧ i < xs.length, fun i H v H' => ∃ T x, v = .ref T ∧ New H T (.tup [.int (i : Nat), x]) H' ∧ xs[i]? = some x, fun i H => SqT K H a xs ∧ i = xs.length⟩
theorem turn_enumT {P : Program} {w : World} {K : PySem.W.Frag} {elts : List Expr} {kk : Nat} {tpos : Pos} (a e it : Addr) (hae : a ≠ e) (hai : a ≠ it) (hei : e ≠ it) (xs : List V) :
    Turn P w K (.Tuple elts kk tpos) (IteT K a xs) [e, it] e (fun i h => (∃ old, IsEnum h e it ((i : Nat) : Int) old) ∧ h.IsTupleIter it a i) where
  mem := List.mem_cons_self
  obj := fun i h st b hb => by
    obtain ⟨⟨old, he⟩, o, ho, hc, hd⟩ := st
    rcases List.mem_cons.mp hb with rfl | hb
    · exact ⟨_, he, fun v q => nomatch q⟩
    · obtain rfl := List.mem_singleton.mp hb
      exact ⟨o, ho, fun v q => by rw [hd] at q; cases q⟩
  keep := fun i h h' st k => ⟨st.1.imp fun old he => k e List.mem_cons_self _ he, st.2.at fun o q => k it (by simp) o q⟩
  item := fun X hP hw hK hc i pins s σ H E I hf st hg => by
    subst hP hw hK
    obtain ⟨⟨old, he⟩, hit⟩ := st
    obtain ⟨hq, hlt⟩ := hg
    obtain ⟨its, rv, p, hz⟩ := I.tuple hq
    have hl := rv.length
    have D := Draws.tuple (prog := X.prog) (w := X.w) (A := X.A.in1) (I.ok.hd hc) it a hai its.toArray
    have ia : s.heap.IsTuple a its.toArray := p
    have hel : e < s.heap.objs.size := Heap.lt_size he
    have hil : it < s.heap.objs.size := by obtain ⟨_, q, _⟩ := hit; exact Heap.lt_size q
    refine wpAny_pyNext_enum_itemD D he ⟨hit, ia⟩ (by rw [List.size_toArray]; omega) hei (by simp [hei, Ne.symm hae]) fun u h' tk hu ho hst hT hsz hk => ?_
    refine ⟨_, rfl, wpAny_letOwnedTupleGo_enum (s := { s with heap := h', toks := tk + 1 }) ho fun h'' he' sb => ?_⟩
    have hx : ∃ x, xs[i]? = some x := ⟨xs[i], List.getElem?_eq_getElem hlt⟩
    obtain ⟨x, hx⟩ := hx
    obtain ⟨u', hu', ru⟩ := rv.get hx
    obtain rfl : u' = u := by
      have q : its[i]? = some u := by simpa using hu
      rw [hu'] at q
      exact Option.some.inj q
    have hT2 : h''.get? s.heap.objs.size = some { cls := .type "tuple", data := .seq #[.int i tk, u'] } := (sb.2 _ (Nat.ne_of_gt hel)).trans hT
    have new : ObjOk X.prog X.w (upd H s.heap.objs.size (.tup [.int (i : Nat), x])) h'' s.heap.objs.size (.tup [.int (i : Nat), x]) :=
      ⟨by show 2 ≤ sizeLine; decide, [.int i tk, u'], .cons ⟨_, rfl⟩ (.cons ru .nil), ⟨_, hT2, rfl, _, rfl⟩⟩
    have I1 : Inv X pins σ (upd H s.heap.objs.size (.tup [.int (i : Nat), x])) { s with heap := h'', toks := tk + 1 } :=
      I.turnedNew (ch := [e, it]) (fun b ob hb q => (sb.2 b (fun z => hb (by simp [z]))).trans (hk b ob (fun z => hb (by simp [z])) (fun z => hb (by simp [z])) q)) hf (Nat.le_refl _) new
    refine ⟨.ref s.heap.objs.size, _, I1, rfl, ⟨_, x, rfl, .mk' (I.hok.fresh (Nat.le_refl _)), hx⟩, ⟨⟨u', ?_⟩, hst.1.at fun o q => (sb.2 it (Ne.symm hei)).trans q⟩, fun b hb => ?_⟩
    · have e1 : ((i + 1 : Nat) : Int) = (i : Int) + 1 := by omega
      rw [e1]
      exact he'
    · have hb' : b < s.heap.objs.size := by
        rcases List.mem_cons.mp hb with rfl | hb
        · exact hel
        · obtain rfl := List.mem_singleton.mp hb
          exact hil
      rw [upd_ne (Nat.ne_of_lt hb')]
      exact (hf b hb).1
  done := fun X hP hw hK hc i pins s σ H E I hf st hg => by
    subst hP hw hK
    obtain ⟨⟨old, he⟩, hit⟩ := st
    obtain ⟨hq, hle⟩ := hg
    obtain ⟨its, rv, p, hz⟩ := I.tuple hq
    have hl := rv.length
    have D := Draws.tuple (prog := X.prog) (w := X.w) (A := X.A.in1) (I.ok.hd hc) it a hai its.toArray
    have F := hf it (by simp)
    have hn : i = its.toArray.size := by rw [List.size_toArray]; omega
    refine wpAny_pyNext_enum_endD D he (hn ▸ ⟨hit, p⟩) fun h' eb => ⟨rfl, I.turned (t' := s.toks) (fun b o hb q => eb b o hb q) F.1 F.2.1 F.2.2.2.1 F.2.2.2.2.1 F.2.2.2.2.2⟩
  self := fun A i s Q E st h => wpAny_pyIter_enum st.1.choose_spec h
def iEnumT (K : PySem.W.Frag) (ta : TA) : TI := fun σ H R => ta σ H fun vs H1 => ∃ a xs, vs = [.ref a] ∧ H1 a = some (.tup xs) ∧ R (IteT K a xs) H1
theorem pi_enumT {X : Cx} {e : Expr} {ta : TA} {p pos tpos : Pos} {elts : List Expr} {kk : Nat} (hg : Gl X "enumerate") (hm : X.mg "enumerate" = none) (ha : PA X [e] ta) (hs : starEach [e] X.env = [(false, eval e X.env)] := by rfl) :
    PI X (.Tuple elts kk tpos) (.Call (.Name "enumerate" p) [e] [] pos) (iEnumT X.K ta) := by
  refine ⟨fun pins s σ H R I h => Call_ (ld_blt I hg hm boot_enumerate (PyProof.Rows.callWith_type1 (thn (ha.run pos pins s σ H _ I h) fun us s1 ⟨vs, H1, I1, r1, a, xs, ex, hq, q⟩ => ?_) hs rfl))⟩
  subst ex
  cases r1 with
  | cons r rr =>
    cases rr
    cases r
    obtain ⟨its, rv, p', hz⟩ := I1.tuple (SqT.of hq)
    have ha : a < s1.heap.objs.size := by obtain ⟨o, e, _⟩ := (show s1.heap.IsTuple a its.toArray from p'); exact Heap.lt_size e
    refine enum1_begins (begins_tuple a its.toArray) p' fun h' he hit hk => wpAny_pyIter_enum he ?_
    have I2 : Inv X pins σ H1 { s1 with heap := h' } := I1.kept (t' := s1.toks) hk
    refine ⟨s1.heap.objs.size + 1, [s1.heap.objs.size + 1, s1.heap.objs.size], _, _, H1, rfl, I2, turn_enumT a (s1.heap.objs.size + 1) s1.heap.objs.size (Nat.ne_of_lt (Nat.lt_succ_of_lt ha)) (Nat.ne_of_lt ha) (Nat.succ_ne_self _) xs, ⟨⟨.none, he⟩, ⟨_, hit, rfl, rfl⟩⟩, fun b hb => ?_, q⟩
    have hle : s1.heap.objs.size ≤ b := by
      rcases List.mem_cons.mp hb with rfl | hb
      · omega
      · obtain rfl := List.mem_singleton.mp hb
        exact Nat.le_refl _
    exact I1.fpOk hle (I1.hok.fresh hle)
section
variable {K : PySem.W.Frag} {H : Hp} {Q : VK} {σ : L2.St} {D : Ends}
def CEn (K : PySem.W.Frag) (a : Addr) (xs : List V) (g : TG) (tt : TT) (te : TE) (vs : List Nat) (σ : L2.St) (H : Hp) (Q : VK) : Prop := tLc (fun _ H R => R (IteT K a xs) H) g tt te vs σ H Q
theorem a_lcE {ta : TA} {g : TG} {tt : TT} {te : TE} {vs : List Nat} : tLc (iEnumT K ta) g tt te vs σ H Q = ta σ H fun ws H1 => ∃ a xs, ws = [.ref a] ∧ H1 a = some (.tup xs) ∧ CEn K a xs g tt te vs σ H1 Q := rfl
def FEn (K : PySem.W.Frag) (a : Addr) (xs : List V) (g : TG) (tb : TS) (D : Ends) (σ : L2.St) (H : Hp) : Prop := tFor (fun _ H R => R (IteT K a xs) H) g tb D σ H
theorem a_forE {ta : TA} {g : TG} {tb : TS} : tFor (iEnumT K ta) g tb D σ H = ta σ H fun ws H1 => ∃ a xs, ws = [.ref a] ∧ H1 a = some (.tup xs) ∧ FEn K a xs g tb D σ H1 := rfl
abbrev g2 (K : PySem.W.Frag) (i1 i2 : Nat) : TG := gTup K 2 (gCons (gName i1) (gCons (gName i2) gNil))
theorem g2_at {i1 i2 : Nat} {T : Addr} {x y : V} {R : L2.St → Hp → Prop} (h : H T = some (.tup [x, y])) (r : R ((σ.set i1 (some x)).set i2 (some y)) H) : g2 K i1 i2 (.ref T) σ H R := ⟨T, [x, y], rfl, SqT.of h, rfl, x, [y], rfl, y, [], rfl, rfl, r⟩
theorem ce_by {a : Addr} {xs : List V} {i1 i2 : Nat} {tt : TT} {te : TE} {vs : List Nat} (Pv : Addr → Nat → List V → Hp → Prop) (h0 : ∀ C H0, New H C (.lst []) H0 → Pv C 0 [] H0) (hl : ∀ C i acc H', H C = none → Pv C i acc H' → H' a = some (.tup xs))
    (hs : ∀ C i x acc H1 N T H2, H C = none → xs[i]? = some x → H1 C = some (.lst acc) → Pv C i acc H1 → (∀ acc' H5, H5 C = some (.lst acc') → Pv C (i + 1) acc' H5 → N H5) → New H1 T (.tup [.int (i : Nat), x]) H2 →
      wipe (((wipe σ vs).set i1 (some (.int (i : Nat)))).set i2 (some x)) vs = wipe σ vs ∧ tt (((wipe σ vs).set i1 (some (.int (i : Nat)))).set i2 (some x)) H2 fun b H3 => if b = true then te (((wipe σ vs).set i1 (some (.int (i : Nat)))).set i2 (some x)) H3 fun y H4 => CSt C N y H4 else N H3)
    (hd : ∀ C acc H1, H C = none → H1 C = some (.lst acc) → Pv C xs.length acc H1 → Q (.ref C) H1) : CEn K a xs (g2 K i1 i2) tt te vs σ H Q := by
  intro C hC
  refine ⟨fun i m H1 => m + i = xs.length ∧ ∃ acc, H1 C = some (.lst acc) ∧ Pv C i acc H1, ⟨xs.length, by omega, [], upd_same, h0 C _ (New.mk' hC)⟩, fun i m H1 ⟨hm, acc, ha, p⟩ => ?_⟩
  by_cases hi : i = xs.length
  · subst hi
    exact .inl ⟨⟨SqT.of (hl C _ acc H1 hC p), rfl⟩, hd C acc H1 hC ha p⟩
  · refine .inr ⟨⟨SqT.of (hl C _ acc H1 hC p), by omega⟩, fun H5 => ∃ acc', H5 C = some (.lst acc') ∧ Pv C (i + 1) acc' H5, fun H5 ⟨acc', h5, p5⟩ => ⟨m - 1, by omega, by omega, acc', h5, p5⟩, fun v H2 ⟨T, x, ev, n2, hx⟩ => ?_⟩
    subst ev
    exact g2_at n2.at_ (hs C i x acc H1 _ T H2 hC hx ha p (fun acc' H5 h5 p5 => ⟨acc', h5, p5⟩) n2)
theorem fe_by {a : Addr} {xs : List V} {i1 i2 : Nat} {tb : TS} (Pv : Nat → L2.St → Hp → Prop) (h0 : Pv 0 σ H) (hl : ∀ i σ' H', Pv i σ' H' → H' a = some (.tup xs))
    (hs : ∀ i x σ H1 (N : L2.St → Hp → Prop) T H2, (∀ σ' H', Pv (i + 1) σ' H' → N σ' H') → xs[i]? = some x → Pv i σ H1 → New H1 T (.tup [.int (i : Nat), x]) H2 → tb { D with nx := N, ct := N, bk := D.nx } ((σ.set i1 (some (.int (i : Nat)))).set i2 (some x)) H2)
    (hd : ∀ σ H, Pv xs.length σ H → D.nx σ H) : FEn K a xs (g2 K i1 i2) tb D σ H := by
  refine ⟨fun i m σ1 H1 => m + i = xs.length ∧ Pv i σ1 H1, ⟨xs.length, by omega, h0⟩, fun i m σ1 H1 ⟨hm, p⟩ => ?_⟩
  by_cases hi : i = xs.length
  · subst hi
    exact .inl ⟨⟨SqT.of (hl _ _ _ p), rfl⟩, hd _ _ p⟩
  · refine .inr ⟨⟨SqT.of (hl _ _ _ p), by omega⟩, fun σ5 H5 => Pv (i + 1) σ5 H5, fun σ5 H5 p5 => ⟨m - 1, by omega, by omega, p5⟩, fun v H2 ⟨T, x, ev, n2, hx⟩ => ?_⟩
    subst ev
    exact g2_at n2.at_ (hs i x σ1 H1 _ T H2 (fun _ _ z => z) hx p n2)
end

/-! ## HoW -/
def errNames : List Str := ["BadNumber", "NotAPoint", "NotAMove", "TooMany", "UnlikeSizes", "RepeatedPoint", "BadText", "NotMade", "NotTight", "NotFull", "NotAFailing", "NotNeighbours", "NotShorter", "SameLength", "NoSuchLength", "NotAnOrder", "NotAChain", "NotABase", "NotInside", "OrderMatters", "FullLot", "NotAWord", "NotAColumn", "NotACount", "GameOver", "NotAllowed", "NothingToUndo", "NothingToRedo", "NothingKept", "BadEdit", "UnknownName", "NotAPaper"]
/-- the classes' names stand for them; the class D is none of the others -/
structure ErN (K : PySem.W.Frag) (mg : Str → Option Value) (D : Str) : Prop where
  g : ∀ x ∈ errNames, mg x = some (.ref (He.ga K x))
  gH : mg "HeldorderError" = some (.ref (He.ga K "HeldorderError"))
  gV : mg "ValueError" = none
  k : ∀ x ∈ errNames, PySem.W.kitOne K (.ref (He.ga K D)) (.ref (He.ga K x)) = some (decide (x = D))
  kH : PySem.W.kitOne K (.ref (He.ga K D)) (.ref (He.ga K "HeldorderError")) = some true
  kV : PySem.W.kitOne K (.ref (He.ga K D)) (.type "ValueError") = some true
  ec : ExcC K (He.ga K D)
/-- isinstance(e, x), e in slot i -/
def tIsV (i : Nat) (a : Addr) (d : Option Addr) (b : Bool) : TE := fun σ H Q => σ[i]? = some (some (.ref a)) ∧ XdAt d H ∧ Q (.bl b) H
section
variable {X : Cx} {D : Str} {d : Option Addr} {p : Addr × Obj} {i : Nat} {y x : Str} {py px pp pos : Pos}
theorem pe_isV {c : V} {cv : Value} {b : Bool} (N : ErN X.K X.mg D) (hp : p ∈ X.pn) (hz : Zc (.ref (He.ga X.K D)) d p.2) (hf : ∃ vs, p.2.data = .fields vs) (hm : X.mg "isinstance" = none) (hg : Gl X "isinstance") (hy : PE X (.Name y py) (tVar i)) (hx : PE X (.Name x px) (tC c))
    (hcv : ∀ u, RelV c u → u = cv) (hk : PySem.W.kitOne X.K (.ref (He.ga X.K D)) cv = some b) : PE X (.Call (.Name "isinstance" pp) [.Name y py, .Name x px] [] pos) (tIsV i p.1 d b) := by
  have P := pe_callB (x := "isinstance") (p := pp) (pos := pos) (call_isP N.ec hp hz hf) hg hm (by decide +kernel) (pa_cons hy (pa_cons hx pa_nil))
  refine ⟨fun pins s σ H Q I h => P.run pins s σ H Q I ?_⟩
  obtain ⟨h1, h2, h3⟩ := h
  exact ⟨_, h1, ⟨c, cv, b, rfl, hcv, hk, h2, h3⟩⟩
theorem pe_isE (N : ErN X.K X.mg D) (hp : p ∈ X.pn) (hz : Zc (.ref (He.ga X.K D)) d p.2) (hf : ∃ vs, p.2.data = .fields vs) (hm : X.mg "isinstance" = none) (hg : Gl X "isinstance") (hy : PE X (.Name y py) (tVar i)) (hgx : Gl X x) (hx : x ∈ errNames := by decide) (hd : (x == ("__debug__" : Str)) = false := by decide) :
    PE X (.Call (.Name "isinstance" pp) [.Name y py, .Name x px] [] pos) (tIsV i p.1 d (decide (x = D))) :=
  pe_isV (c := .ref (He.ga X.K x)) N hp hz hf hm hg hy (pe_glob hgx (N.g x hx) (show RelV (.ref (He.ga X.K x)) _ from rfl) hd) (fun _ r => r) (N.k x hx)
theorem pe_isH (N : ErN X.K X.mg D) (hp : p ∈ X.pn) (hz : Zc (.ref (He.ga X.K D)) d p.2) (hf : ∃ vs, p.2.data = .fields vs) (hm : X.mg "isinstance" = none) (hg : Gl X "isinstance") (hy : PE X (.Name y py) (tVar i)) (hgx : Gl X "HeldorderError") :
    PE X (.Call (.Name "isinstance" pp) [.Name y py, .Name "HeldorderError" px] [] pos) (tIsV i p.1 d true) :=
  pe_isV (c := .ref (He.ga X.K "HeldorderError")) N hp hz hf hm hg hy (pe_glob hgx N.gH (show RelV (.ref (He.ga X.K "HeldorderError")) _ from rfl)) (fun _ r => r) N.kH
theorem pe_isVE (N : ErN X.K X.mg D) (hp : p ∈ X.pn) (hz : Zc (.ref (He.ga X.K D)) d p.2) (hf : ∃ vs, p.2.data = .fields vs) (hm : X.mg "isinstance" = none) (hg : Gl X "isinstance") (hy : PE X (.Name y py) (tVar i)) (hgx : Gl X "ValueError") :
    PE X (.Call (.Name "isinstance" pp) [.Name y py, .Name "ValueError" px] [] pos) (tIsV i p.1 d true) :=
  pe_isV (c := .ty "ValueError") N hp hz hf hm hg hy (pe_bltn hgx N.gV (by decide +kernel) (show RelV (.ty "ValueError") _ from rfl)) (fun _ r => r) N.kV
end
theorem a_isV {i : Nat} {a : Addr} {d : Option Addr} {b : Bool} {σ : L2.St} {H : Hp} {Q : VK} : tIsV i a d b σ H Q = (σ[i]? = some (some (.ref a)) ∧ XdAt d H ∧ Q (.bl b) H) := rfl
theorem a_lcH {K : PySem.W.Frag} {tl : TE} {g : TG} {tt : TT} {te : TE} {vs : List Nat} {σ : L2.St} {H : Hp} {Q : VK} : tLcH K tl g tt te vs σ H Q = tl σ H fun x H1 => ∃ (a : Addr) (xs : List V), x = .ref a ∧ SqL K H1 a xs ∧ ∀ D, H1 D = none → ∃ acc : Nat → List V, acc 0 = [] ∧
  (∀ i y, xs[i]? = some y → (acc i).length < sizeLine ∧ g y (wipe σ vs) (upd H1 D (.lst (acc i))) fun σ2 H2 => wipe σ2 vs = wipe σ vs ∧ tt σ2 H2 fun b H3 => if b = true then te σ2 H3 fun z H4 => H4 = upd H1 D (.lst (acc i)) ∧ acc (i + 1) = acc i ++ [z] else H3 = upd H1 D (.lst (acc i)) ∧ acc (i + 1) = acc i) ∧
  Q (.ref D) (upd H1 D (.lst (acc xs.length))) := rfl

/-! ## HoH -/
def clsFn : Stmt → Nat → Stmt
  | .ClassDef (body := b) .., i => b.getD i (.Pass ⟨0, 0, 0, 0⟩)
  | s, _ => s
section
variable {K : PySem.W.Frag} {C : Addr}
theorem andB {a b : Bool} (h : (a && b) = true) : a = true ∧ b = true := Bool.and_eq_true_iff.mp h
def oexL (K : PySem.W.Frag) (C : Addr) : Bool := match K.lookup C with
  | some ⟨.type t, _, .cls cd, sl⟩ => (match cd.mro, sl.toList with
    | .ref C' :: bm, [_, _, _, _, some (.builtin n), _] => decide (t = "type") && (decide (C' = C) && (decide (n = "ValueError.__new__") && (!cd.hasDel && (cd.hasDict && PySem.HandSPX.refsVE bm))))
    | _, _ => false)
  | _ => false
theorem oexL_ok (q : oexL K C = true) : ∃ nm qn N bs bm sn sub ab col dd k0 k1 k2 k3 k5, K.lookup C = some (excClassObj nm qn C N bs bm true sn sub ab col dd k0 k1 k2 k3 k5 "ValueError.__new__") ∧ PySem.HandSPX.refsVE bm = true := by
  unfold oexL at q
  split at q
  · rename_i t dd cd sl ho
    split at q
    · rename_i C' bm k0 k1 k2 k3 n k5 hm hs
      obtain ⟨h0, q⟩ := andB q
      obtain ⟨h1, q⟩ := andB q
      obtain ⟨h2, q⟩ := andB q
      obtain ⟨hdel, q⟩ := andB q
      obtain ⟨hdi, ht⟩ := andB q
      obtain rfl := of_decide_eq_true h0
      obtain rfl := of_decide_eq_true h1
      obtain rfl := of_decide_eq_true h2
      rw [Bool.not_eq_true'] at hdel
      obtain ⟨nm, bs, mro, ns, qn, hd, sn, sub, ab, col, del⟩ := cd
      dsimp only at hm hdel hdi
      subst hm hdel hdi
      have hsl : sl = #[k0, k1, k2, k3, some (.builtin "ValueError.__new__"), k5] := by
        obtain ⟨l⟩ := sl
        simp only at hs
        rw [hs]
      subst hsl
      exact ⟨nm, qn, ns, bs, bm, sn, sub, ab, col, dd, k0, k1, k2, k3, k5, ho, ht⟩
    · cases q
  · cases q
def oexB (K : PySem.W.Frag) (C : Addr) : Bool := oexL K C && (He.eqO (PySem.W.findIn K (.ref C) "__setattr__") (some (some (.builtin "object.__setattr__"))) && (decide (PySem.W.subIn K (.ref C) (.type "BaseException") = some true) && (decide (PySem.W.typeIn K (.ref C) = some (.type "type")) && PySem.W.keepIn K (.ref C))))
theorem oexB_ok (q : oexB K C = true) : OexC K C := by
  obtain ⟨h0, q⟩ := andB q
  obtain ⟨h1, q⟩ := andB q
  obtain ⟨h2, q⟩ := andB q
  obtain ⟨h3, h4⟩ := andB q
  exact ⟨oexL_ok h0, He.eqO_ok h1, of_decide_eq_true h2, of_decide_eq_true h3, h4⟩
def excCB (K : PySem.W.Frag) (D : Addr) : Bool := He.eqO (PySem.W.findIn K (.ref D) "__getattribute__") (some (some (.builtin "BaseException.__getattribute__"))) && (He.eqO (PySem.W.findIn K (.ref D) "__getattr__") (some none) && (decide (PySem.W.subIn K (.ref D) (.type "BaseException") = some true) && (PySem.W.hasDictIn K D && (He.eqO (PySem.W.findIn K (.ref D) "__class__") (some (some (.builtin "object.__class__"))) &&
  (He.eqO (PySem.W.specialIn K (.builtin "object.__class__") "__get__") (some (some (.builtin "getset_descriptor.__get__"))) && (decide (PySem.W.takesIn K (.builtin "object.__class__") = some true) && decide (PySem.W.mroIn K D (.type "object") = some true)))))))
theorem excCB_ok (q : excCB K C = true) : ExcC K C := by
  obtain ⟨h0, q⟩ := andB q
  obtain ⟨h1, q⟩ := andB q
  obtain ⟨h2, q⟩ := andB q
  obtain ⟨h3, q⟩ := andB q
  obtain ⟨h4, q⟩ := andB q
  obtain ⟨h5, q⟩ := andB q
  obtain ⟨h6, h7⟩ := andB q
  exact ⟨He.eqO_ok h0, He.eqO_ok h1, of_decide_eq_true h2, h3, He.eqO_ok h4, He.eqO_ok h5, of_decide_eq_true h6, of_decide_eq_true h7⟩
end
/-- an own error class's __init__, as the text has it -/
structure IniD where
  cls : Str
  qual : Str
  params : Arguments
  body : List Stmt
  scope : Scope
  flds : List Str
abbrev IniW : Type := Option (Str × Str × Arguments × FuncBody × Scope × Addr × Addr)
def iniAd (K : PySem.W.Frag) (d : IniD) : Addr := He.ma K (He.ga K d.cls) "__init__"
def iniW (K : PySem.W.Frag) (d : IniD) : IniW := match K.lookup (iniAd K d) with
  | some ⟨_, _, .func fd, _⟩ => some (fd.name, fd.qualname, fd.params, fd.body, fd.scope, fd.globals, fd.builtins)
  | _ => none
def IniD.val (d : IniD) : IniW := some ("__init__", d.qual, d.params, .stmts d.body, d.scope, mainGlobals, builtinsNs)
def isNon : Value → Bool
  | .none => true
  | _ => false
def fileB (K : PySem.W.Frag) (file : Str) : Value → Bool
  | .ref c => (match K.lookup c with
    | some ⟨_, _, .fields vs, _⟩ => (match (vs[2]? : Option Value) with
      | some (Value.str f _) => decide (f = file)
      | _ => false)
    | _ => false)
  | _ => false
def closB (K : PySem.W.Frag) (C : Addr) : List (Str × Addr) → Bool
  | [(n, c)] => decide (n = "__class__") && (match K.lookup c with
    | some ⟨_, _, .cell (some (.ref D)), _⟩ => decide (D = C)
    | _ => false)
  | _ => false
def fnB (K : PySem.W.Frag) (file : Str) (d : IniD) : Bool := match K.lookup (iniAd K d) with
  | some ⟨_, _, .func fd, _⟩ => isNon fd.defaults && (PySem.W.codeIn K fd.code d.qual && (fileB K file fd.code && closB K (He.ga K d.cls) fd.closure))
  | _ => false
/-- all that is asked of a class that is made -/
def IniD.ok (K : PySem.W.Frag) (file : Str) (d : IniD) : Bool := fnB K file d && (oexB K (He.ga K d.cls) && (xfB K (He.ga K d.cls) && (excCB K (He.ga K d.cls) && (He.eqO (PySem.W.findIn K (.ref (He.ga K d.cls)) "__init__") (some (some (.ref (iniAd K d)))) && (decide (PySem.W.typeIn K (.ref (iniAd K d)) = some (.type "function")) &&
  (He.eqO (PySem.W.ks_superIn K (He.ga K d.cls) (He.ga K d.cls) "__init__") (some (some (.builtin "ValueError.__init__"))) && (decide (PySem.W.subIn K (.ref (He.ga K d.cls)) (.type "ValueError") = some true) && (decide (PySem.W.mroIn K (He.ga K d.cls) (.ref (He.ga K d.cls)) = some true) && d.flds.all fun f => He.eqO (PySem.W.findIn K (.ref (He.ga K d.cls)) f) (some none)))))))))
/-- the names -/
def namesB (K : PySem.W.Frag) : Bool := He.eqO (PySem.W.nsIn K cStatics "thirdparty.any") (some none) && (He.eqO (PySem.W.nsIn K mainGlobals "HeldorderError") (some (some (.ref (He.ga K "HeldorderError")))) && errNames.all fun x => He.eqO (PySem.W.nsIn K mainGlobals x) (some (some (.ref (He.ga K x)))))
/-- a class told from the others -/
def kitsB (K : PySem.W.Frag) (D : Str) : Bool := decide (PySem.W.kitOne K (.ref (He.ga K D)) (.ref (He.ga K "HeldorderError")) = some true) && (decide (PySem.W.kitOne K (.ref (He.ga K D)) (.type "ValueError") = some true) && (decide (PySem.W.exmOne K (.ref (He.ga K D)) (.ref (He.ga K "HeldorderError")) = some true) && errNames.all fun x => decide (PySem.W.kitOne K (.ref (He.ga K D)) (.ref (He.ga K x)) = some (decide (x = D)))))
/-! the Hook -/
abbrev AlE : Type := He.AlD × (Bool × List IniW)
def obsI (file : Str) (di : List IniD) (ks : List Str) (K : PySem.W.Frag) : Bool × List IniW := ((namesB K && ks.all fun x => kitsB K x) && di.all fun d => d.ok K file, di.map fun d => iniW K d)
def obsE (fa : List He.Fa) (fn : List He.DefD) (file : Str) (di : List IniD) (ks : List Str) (K : PySem.W.Frag) : AlE := (He.obsD fa fn K, obsI file di ks K)
def valE (fn : List He.DefD) (di : List IniD) : AlE := (He.valD fn, (true, di.map IniD.val))
def SaysE (fa : List He.Fa) (fn : List He.DefD) (file : Str) (di : List IniD) (ks : List Str) (K : PySem.W.Frag) : Prop := obsE fa fn file di ks K = valE fn di
/-- the addresses that are looked at: the names' objects, the functions' codes, the error classes with their namespaces and __init__ -/
def nsRef (g : Addr → Option Obj) (ns : Addr) (x : Str) : List Addr := match g ns with
  | some ⟨_, _, .dict es _, _⟩ => (match es.toList.find? (·.key.isStr x) with
    | some e => He.refV e.val
    | none => [])
  | _ => []
def fnRef (g : Addr → Option Obj) (a : Addr) : List Addr := match g a with
  | some ⟨_, _, .func fd, _⟩ => a :: (He.refV fd.code ++ He.refV fd.defaults ++ He.refV fd.kwdefaults ++ fd.closure.map (·.2))
  | _ => [a]
def clsRef (g : Addr → Option Obj) (a : Addr) : List Addr := match g a with
  | some ⟨_, _, .cls cd, _⟩ => a :: cd.ns :: (nsRef g cd.ns "__init__").flatMap (fnRef g)
  | _ => [a]
def asE (g : Addr → Option Obj) (fn : List He.DefD) (ks : List Str) : List Addr := mainGlobals :: cStatics :: (fn.flatMap fun d => (nsRef g mainGlobals d.name).flatMap (fnRef g)) ++ ((("HeldorderError" : Str) :: ks).flatMap fun x => (nsRef g mainGlobals x).flatMap (clsRef g)) ++ errNames.flatMap (nsRef g mainGlobals)
def obsEG (fa : List He.Fa) (fn : List He.DefD) (file : Str) (di : List IniD) (ks : List Str) (g : Addr → Option Obj) : AlE := obsE fa fn file di ks (He.frG g (asE g fn ks))
def hookE (fa : List He.Fa) (fn : List He.DefD) (file : Str) (di : List IniD) (ks : List Str) : PySem.W.Hook where
  α := AlE
  obs := fun s => obsEG fa fn file di ks s.heap.get?
  val := fun _ => valE fn di
  says := fun _ h => ∃ K : PySem.W.Frag, K.In h ∧ SaysE fa fn file di ks K
  of := fun _ _ e => ⟨_, He.frG_in, e⟩
  keeps := fun _ _ _ ⟨K, hK, c⟩ k => ⟨K, PySem.W.Frag.In.keeps hK k, c⟩
theorem obsEG_eq {fa : List He.Fa} {fn : List He.DefD} {file : Str} {di : List IniD} {ks : List Str} {g : Addr → Option Obj} {s : Shared} (h : ∀ a, g a = s.heap.get? a) : obsEG fa fn file di ks g = (hookE fa fn file di ks).obs s := by
  have e : g = s.heap.get? := funext h
  rw [e] <;> rfl
section
variable {fa : List He.Fa} {fn : List He.DefD} {file : Str} {di : List IniD} {ks : List Str} {K : PySem.W.Frag} {h : Heap} {mg : Str → Option Value}
theorem SaysE.d (c : SaysE fa fn file di ks K) : He.SaysD fa fn K := congrArg (fun z : AlE => z.1) c
theorem SaysE.b (c : SaysE fa fn file di ks K) : (namesB K && ks.all fun x => kitsB K x) = true ∧ (di.all fun d => d.ok K file) = true := andB (show ((namesB K && ks.all fun x => kitsB K x) && di.all fun d => d.ok K file) = true from congrArg (fun z : AlE => z.2.1) c)
theorem SaysE.names (c : SaysE fa fn file di ks K) : namesB K = true := (andB c.b.1).1
theorem SaysE.kit (c : SaysE fa fn file di ks K) {x : Str} (hx : x ∈ ks) : kitsB K x = true := List.all_eq_true.mp (andB c.b.1).2 x hx
theorem SaysE.gH (c : SaysE fa fn file di ks K) (X : K.In h) (G : h.Ns mainGlobals mg) : mg "HeldorderError" = some (.ref (He.ga K "HeldorderError")) := PySem.W.mg_of X G (He.eqO_ok (andB (andB c.names).2).1)
theorem SaysE.g (c : SaysE fa fn file di ks K) (X : K.In h) (G : h.Ns mainGlobals mg) (x : Str) (hx : x ∈ errNames) : mg x = some (.ref (He.ga K x)) := PySem.W.mg_of X G (He.eqO_ok (List.all_eq_true.mp (andB (andB c.names).2).2 x hx))
theorem SaysE.exm (c : SaysE fa fn file di ks K) {x : Str} (hx : x ∈ ks) : PySem.W.exmOne K (.ref (He.ga K x)) (.ref (He.ga K "HeldorderError")) = some true := of_decide_eq_true (andB (andB (andB (c.kit hx)).2).2).1
theorem SaysE.ini (c : SaysE fa fn file di ks K) (i : Nat) {d : IniD} (hd : di[i]? = some d) : iniW K d = d.val ∧ d.ok K file = true := by
  have e : di.map (fun d => iniW K d) = di.map IniD.val := congrArg (fun z : AlE => z.2.2) c
  have e2 : (di.map fun d => iniW K d)[i]? = (di.map IniD.val)[i]? := by rw [e]
  rw [List.getElem?_map, List.getElem?_map, hd] at e2
  exact ⟨Option.some.inj e2, List.all_eq_true.mp c.b.2 d (List.mem_of_getElem? hd)⟩
theorem SaysE.erN (c : SaysE fa fn file di ks K) (X : K.In h) (G : h.Ns mainGlobals mg) (hV : mg "ValueError" = none) {i : Nat} {d : IniD} (hd : di[i]? = some d) (hx : d.cls ∈ ks) : ErN K mg d.cls := by
  have k := c.kit hx
  obtain ⟨k1, k⟩ := andB k
  obtain ⟨k2, k⟩ := andB k
  obtain ⟨k3, k4⟩ := andB k
  obtain ⟨_, o⟩ := c.ini i hd
  exact ⟨c.g X G, c.gH X G, hV, fun x hx => of_decide_eq_true (List.all_eq_true.mp k4 x hx), of_decide_eq_true k1, of_decide_eq_true k2, excCB_ok (andB (andB (andB (andB o).2).2).2).1⟩
/-- the class's __init__ stands as fn_super asks; it binds its parameters -/
theorem SaysE.sup {P : Program} (c : SaysE fa fn file di ks K) (hfile : P.main.file = file) (htop : (P.main.scope.names.lookup ("super" : Str)).isSome = false) (hsu : mg "super" = none) {i : Nat} {d : IniD} (hd : di[i]? = some d) {ps : List Str}
    (hb : ∀ (kV doc pm : Value) (an : Option Addr) (cdv ct : Value) (cc : Addr) (us : List Value), us.length = ps.length → bindArgs (PySem.W.ksFn "__init__" d.qual d.params d.body d.scope .none kV doc pm an cdv ct cc) ⟨us, []⟩ = pure (ps.zip us)) :
    ∃ cc cda fd, SupTxt P K mg (He.ga K d.cls) (iniAd K d) cc cda "__init__" d.qual d.params d.body d.scope fd ∧ Binds K fd ps [] ∧ PySem.W.findIn K (.ref (He.ga K d.cls)) "__init__" = some (some (.ref (iniAd K d))) ∧ PySem.W.typeIn K (.ref (iniAd K d)) = some (.type "function") ∧
      OexC K (He.ga K d.cls) ∧ XfC K (He.ga K d.cls) ∧ ExcC K (He.ga K d.cls) ∧ ∀ f ∈ d.flds, PySem.W.findIn K (.ref (He.ga K d.cls)) f = some none := by
  obtain ⟨e, o⟩ := c.ini i hd
  obtain ⟨b1, o⟩ := andB o
  obtain ⟨b2, o⟩ := andB o
  obtain ⟨b3, o⟩ := andB o
  obtain ⟨b4, o⟩ := andB o
  obtain ⟨b5, o⟩ := andB o
  obtain ⟨b6, o⟩ := andB o
  obtain ⟨b7, o⟩ := andB o
  obtain ⟨b8, o⟩ := andB o
  obtain ⟨b9, b10⟩ := andB o
  unfold fnB at b1
  unfold iniW at e
  cases q : K.lookup (iniAd K d) with
  | none =>
    rw [q] at b1
    cases b1
  | some ob =>
    obtain ⟨oc, od, dt, osl⟩ := ob
    rw [q] at b1 e
    cases dt with
    | func fd =>
      obtain ⟨n1, n2, n3, n4, n5, n6, n7, n8, n9, n10, n11, n12, n13, n14, n15⟩ := fd
      have e2 : (some (n1, n2, n3, n4, n5, n6, n15) : IniW) = some (("__init__" : Str), d.qual, d.params, FuncBody.stmts d.body, d.scope, mainGlobals, builtinsNs) := e
      simp only [Option.some.injEq, Prod.mk.injEq] at e2
      obtain ⟨h1, h2, h3, h4, h5, h6, h8⟩ := e2
      subst h1 h2 h3 h4 h5 h6 h8
      have b1' : (isNon n8 && (PySem.W.codeIn K n13 d.qual && (fileB K file n13 && closB K (He.ga K d.cls) n7))) = true := b1
      have c1 := (andB b1').1
      have c2 := (andB (andB b1').2).1
      have c3 := (andB (andB (andB b1').2).2).1
      have c4 := (andB (andB (andB b1').2).2).2
      clear b1' b1
      have e8 : n8 = .none := by
        cases n8 <;> first | rfl | cases c1
      subst e8
      have hcl : ∃ cc, n7 = [(("__class__" : Str), cc)] ∧ ∃ (cl : Value) (cld : Option Addr) (csl : Array (Option Value)), K.lookup cc = some ⟨cl, cld, .cell (some (.ref (He.ga K d.cls))), csl⟩ := by
        unfold closB at c4
        split at c4
        · rename_i n cc
          obtain ⟨a1, a2⟩ := andB c4
          obtain rfl := of_decide_eq_true a1
          split at a2
          · rename_i cl cld D csl lk
            obtain rfl := of_decide_eq_true a2
            exact ⟨cc, rfl, _, _, _, lk⟩
          · cases a2
        · cases c4
      obtain ⟨cc, rfl, hcell⟩ := hcl
      have hco : ∃ cda, n13 = .ref cda ∧ ∃ (ccl : Value) (cdd : Option Addr) (vs : Array Value) (ccs : Array (Option Value)) (file' : Str) (tf : Tok), K.lookup cda = some ⟨ccl, cdd, .fields vs, ccs⟩ ∧ vs[2]? = some (.str file' tf) ∧ ((P.main.file : Str) == file') = true := by
        unfold fileB at c3
        split at c3
        · rename_i cda
          split at c3
          · rename_i ccl cdd vs ccs lk
            split at c3
            · rename_i f tf hv
              have := of_decide_eq_true c3
              exact ⟨cda, rfl, _, _, _, _, f, tf, lk, hv, by rw [hfile, this]; exact beq_self_eq_true _⟩
            · cases c3
          · cases c3
        · cases c3
      obtain ⟨cda, rfl, hco⟩ := hco
      have hn := (andB c.names).1
      exact ⟨cc, cda, _, ⟨⟨oc, od, _, n9, n10, n11, n14, n12, osl, rfl, q⟩, c2, hco, hcell, hsu, htop, oexB_ok b2, He.eqO_ok b7, of_decide_eq_true b8, He.eqO_ok hn, of_decide_eq_true b9⟩, Binds.all fun us hl => hb _ _ _ _ _ _ _ us hl, He.eqO_ok b5, of_decide_eq_true b6, oexB_ok b2, xfB_ok b3, excCB_ok b4, fun f hf => He.eqO_ok (List.all_eq_true.mp b10 f hf)⟩
    | _ => cases b1
end

/-! ## T1 -/
def topS (i : Nat) : Stmt := PySem.Challenge.pw_heldorder_k07_loose_reading.main.body.getD i (.Pass ⟨0, 0, 0, 0⟩)
local macro_rules | `(tactic| walk_at "wp") => `(tactic| (try simp only [a_var, a_c, a_op, a_un, a_test, a_b, a_and, a_or, a_not, a_andV, a_orV, a_notV, a_if, a_next, a_seq, a_break, a_cont, a_drop, a_ret, a_retN, a_ifS, a_asg, a_name, a_sub, a_nil, a_cons, a_tup, a_lst, a_call, a_cb, a_bm0, a_bm, a_sl, a_nopart, a_part, a_aug, b_rI, b_rI0, b_rU, b_eq, b_ne, b_isTF, b_int, b_intb, b_list, b_tuple, b_ix, b_len, b_setL, b_app, b_pop, b_popAt, b_sl, b_rep, b_cat, b_lstRg, b_tupRg, b_rg1, b_rg2, a_forR, a_forR2, a_forS, b_fsq, a_lcR, a_lcR2, a_lcS, b_csq, wipe_nil, wipe_cons, a_yes, wh_i, wh_s, wh_b, wh_r, wh_n, Bool.not_eq_true, eq_self, not_true_eq_false, not_false_eq_true, b_isi, kb_all, ty_non, ty_bl, ty_int, ty_str, a_m1, b_ixS, b_slS, List.cons.injEq, and_assoc, exists_and_left, cxK, List.getElem?_cons_zero, List.getElem?_cons_succ, List.set_cons_zero, List.set_cons_succ, Option.some.injEq, exists_eq_left', exists_eq_left, V.bl.injEq, V.int.injEq, V.ref.injEq, V.str.injEq, HO.lst.injEq, HO.tup.injEq, decide_eq_true_eq, true_and, and_true, L2.start, List.map_cons, List.map_nil, List.length_cons, List.length_nil, Nat.zero_add, Nat.reduceAdd, Nat.reduceSub, List.replicate_succ, List.replicate_zero, List.cons_append, List.nil_append, if_true, if_false, Bool.false_eq_true, Bool.not_true, Bool.not_false, decide_not, Bool.not_eq_true', decide_eq_false_iff_not, scal_ii, scal_bb, scal_ss, scal_is, scal_si, reduceCtorEq, Bool.true_eq_false, decide_false, decide_true, if_pos, ne_eq, Int.reduceNeg, atI_0, atI_1, atI_2, atI_3, atI_4, atI_5, atI_6, ixN_7, b_ins, a_revL, b_isT, V.ty.injEq, Bool.true_or, Bool.or_true, Bool.false_or, Bool.or_false, Bool.or_self, b_sorted, b_repT]))
local macro_rules | `(tactic| walk_at "wps") => `(tactic| (try simp only [a_var, a_c, a_op, a_un, a_test, a_b, a_and, a_or, a_not, a_andV, a_orV, a_notV, a_if, a_next, a_seq, a_break, a_cont, a_drop, a_ret, a_retN, a_ifS, a_asg, a_name, a_sub, a_nil, a_cons, a_tup, a_lst, a_call, a_cb, a_bm0, a_bm, a_sl, a_nopart, a_part, a_aug, b_rI, b_rI0, b_rU, b_eq, b_ne, b_isTF, b_int, b_intb, b_list, b_tuple, b_ix, b_len, b_setL, b_app, b_pop, b_popAt, b_sl, b_rep, b_cat, b_lstRg, b_tupRg, b_rg1, b_rg2, a_forR, a_forR2, a_forS, b_fsq, a_lcR, a_lcR2, a_lcS, b_csq, wipe_nil, wipe_cons, a_yes, wh_i, wh_s, wh_b, wh_r, wh_n, Bool.not_eq_true, eq_self, not_true_eq_false, not_false_eq_true, b_isi, kb_all, ty_non, ty_bl, ty_int, ty_str, a_m1, b_ixS, b_slS, List.cons.injEq, and_assoc, exists_and_left, cxK, List.getElem?_cons_zero, List.getElem?_cons_succ, List.set_cons_zero, List.set_cons_succ, Option.some.injEq, exists_eq_left', exists_eq_left, V.bl.injEq, V.int.injEq, V.ref.injEq, V.str.injEq, HO.lst.injEq, HO.tup.injEq, decide_eq_true_eq, true_and, and_true, L2.start, List.map_cons, List.map_nil, List.length_cons, List.length_nil, Nat.zero_add, Nat.reduceAdd, Nat.reduceSub, List.replicate_succ, List.replicate_zero, List.cons_append, List.nil_append, if_true, if_false, Bool.false_eq_true, Bool.not_true, Bool.not_false, decide_not, Bool.not_eq_true', decide_eq_false_iff_not, scal_ii, scal_bb, scal_ss, scal_is, scal_si, reduceCtorEq, Bool.true_eq_false, decide_false, decide_true, if_pos, ne_eq, Int.reduceNeg, atI_0, atI_1, atI_2, atI_3, atI_4, atI_5, atI_6, ixN_7, b_ins, a_revL, b_isT, V.ty.injEq, Bool.true_or, Bool.or_true, Bool.false_or, Bool.or_false, Bool.or_self, b_sorted, b_repT, *]))
local macro_rules | `(tactic| walk_at "wq") => `(tactic| (try simp only [a_var, a_c, a_op, a_un, a_test, a_b, a_and, a_or, a_not, a_andV, a_orV, a_notV, a_if, a_next, a_break, a_cont, a_drop, a_ret, a_retN, a_ifS, a_asg, a_name, a_sub, a_nil, a_cons, a_tup, a_lst, a_call, a_cb, a_bm0, a_bm, a_sl, a_nopart, a_part, a_aug, b_rI, b_rI0, b_rU, b_eq, b_ne, b_isTF, b_int, b_intb, b_list, b_tuple, b_ix, b_len, b_setL, b_app, b_pop, b_popAt, b_sl, b_rep, b_cat, b_lstRg, b_tupRg, b_rg1, b_rg2, a_forR, a_forR2, a_forS, b_fsq, a_lcR, a_lcR2, a_lcS, b_csq, wipe_nil, wipe_cons, a_yes, wh_i, wh_s, wh_b, wh_r, wh_n, Bool.not_eq_true, eq_self, not_true_eq_false, not_false_eq_true, b_isi, kb_all, ty_non, ty_bl, ty_int, ty_str, a_m1, b_ixS, b_slS, List.cons.injEq, and_assoc, exists_and_left, cxK, List.getElem?_cons_zero, List.getElem?_cons_succ, List.set_cons_zero, List.set_cons_succ, Option.some.injEq, exists_eq_left', exists_eq_left, V.bl.injEq, V.int.injEq, V.ref.injEq, V.str.injEq, HO.lst.injEq, HO.tup.injEq, decide_eq_true_eq, true_and, and_true, L2.start, List.map_cons, List.map_nil, List.length_cons, List.length_nil, Nat.zero_add, Nat.reduceAdd, Nat.reduceSub, List.replicate_succ, List.replicate_zero, List.cons_append, List.nil_append, if_true, if_false, Bool.false_eq_true, Bool.not_true, Bool.not_false, decide_not, Bool.not_eq_true', decide_eq_false_iff_not, scal_ii, scal_bb, scal_ss, scal_is, scal_si, reduceCtorEq, Bool.true_eq_false, decide_false, decide_true, if_pos, ne_eq, Int.reduceNeg, atI_0, atI_1, atI_2, atI_3, atI_4, atI_5, atI_6, ixN_7, b_ins, a_revL, b_isT, V.ty.injEq, Bool.true_or, Bool.or_true, Bool.false_or, Bool.or_false, Bool.or_self, b_sorted, b_repT, *]))
local macro_rules | `(tactic| walk_at "wn") => `(tactic| (try simp only [a_var, a_c, a_op, a_un, a_test, a_b, a_and, a_or, a_not, a_andV, a_orV, a_notV, a_if, a_next, a_break, a_cont, a_drop, a_ret, a_retN, a_ifS, a_asg, a_name, a_sub, a_nil, a_cons, a_tup, a_lst, a_call, a_cb, a_bm0, a_bm, a_sl, a_nopart, a_part, a_aug, b_rI, b_rI0, b_rU, b_eq, b_ne, b_isTF, b_int, b_intb, b_list, b_tuple, b_ix, b_len, b_setL, b_app, b_pop, b_popAt, b_sl, b_rep, b_cat, b_lstRg, b_tupRg, b_rg1, b_rg2, a_forR, a_forR2, a_forS, b_fsq, a_lcR, a_lcR2, a_lcS, b_csq, wipe_nil, wipe_cons, a_yes, wh_i, wh_s, wh_b, wh_r, wh_n, Bool.not_eq_true, eq_self, not_true_eq_false, not_false_eq_true, b_isi, kb_all, ty_non, ty_bl, ty_int, ty_str, a_m1, b_ixS, b_slS, List.cons.injEq, and_assoc, exists_and_left, cxK, List.getElem?_cons_zero, List.getElem?_cons_succ, List.set_cons_zero, List.set_cons_succ, Option.some.injEq, exists_eq_left', exists_eq_left, V.bl.injEq, V.int.injEq, V.ref.injEq, V.str.injEq, HO.lst.injEq, HO.tup.injEq, decide_eq_true_eq, true_and, and_true, L2.start, List.map_cons, List.map_nil, List.length_cons, List.length_nil, Nat.zero_add, Nat.reduceAdd, Nat.reduceSub, List.replicate_succ, List.replicate_zero, List.cons_append, List.nil_append, if_true, if_false, Bool.false_eq_true, Bool.not_true, Bool.not_false, decide_not, Bool.not_eq_true', decide_eq_false_iff_not, scal_ii, scal_bb, scal_ss, scal_is, scal_si, reduceCtorEq, Bool.true_eq_false, decide_false, decide_true, if_pos, ne_eq, Int.reduceNeg, atI_0, atI_1, atI_2, atI_3, atI_4, atI_5, atI_6, ixN_7, b_ins, a_revL, b_isT, V.ty.injEq, Bool.true_or, Bool.or_true, Bool.false_or, Bool.or_false, Bool.or_self, b_sorted, b_repT]))
local macro_rules | `(tactic| walk_at "sq") => `(tactic| ((try dsimp only); rw [a_seq]; walk_at "wq"))

section
variable {P : Program} {w : World} {K : PySem.W.Frag} {mg : Str → Option Value} {base : Heap}

def sp_mixed : Sp := fun vs H Q _ => ∃ a b : Int, vs = [.int a, .int b] ∧ ∀ r, Q (.int r) H
abbrev st_law_mixed : Stmt := topS 52
theorem sc_law_mixed : FnScope ["seed", "turn", "first", "second"] ["seed", "turn"] (defScope st_law_mixed) := ⟨rfl, rfl, rfl, by decide +kernel, rfl, by decide +kernel, by decide +kernel⟩
theorem ok_law_mixed (D : Df K mg "_law_mixed" st_law_mixed) (T : NoB mg)  : Cl P w K mg base 1 "_law_mixed" ["seed", "turn"] sp_mixed := by
  refine cl_of D sc_law_mixed (fun _ _ _ _ _ _ us hl => match us, hl with | [_, _], _ => rfl) (fun vs H Q E h => ?_) (fun f cdv A outer sh H vs Q E hr h => ?_)
  · obtain ⟨_, _, rfl, _⟩ := h; rfl
  obtain ⟨a, b, rfl, k⟩ := h
  refine ⟨_, (pss_cons (ps_set (i := 2) sc_law_mixed.nd rfl (Or.inl rfl) (pe_op op_modN (pe_callTy int1 (by rfl) T.no_int (by decide +kernel) (pa_cons (pe_op op_add (pe_op op_add (pe_op op_mul (pv 0) pe_int) (pe_op op_mul (pv 1) pe_int)) pe_int) pa_nil)) pe_int))
    (pss_cons (ps_set (i := 3) sc_law_mixed.nd rfl (Or.inl rfl) (pe_op op_modN (pe_callTy int1 (by rfl) T.no_int (by decide +kernel) (pa_cons (pe_op op_add (pe_op op_add (pe_op op_mul (pv 2) (pv 2)) (pe_op op_mul (pv 0) pe_int)) (pv 1)) pa_nil)) pe_int))
    (pss_one (ps_ret (pe_op op_modN (pe_callTy int1 (by rfl) T.no_int (by decide +kernel) (pa_cons (pe_op op_add (pe_op op_mul (pv 3) (pv 3)) (pv 2)) pa_nil)) pe_int))))), ?_⟩
  walk_at "wp"
  exact ⟨cm_lit (by decide), cm_lit (by decide), by decide, cm_fm (by decide) (by decide), cm_lit (by decide), by decide, cm_fm (by decide) (by decide), by decide, k _⟩

def sp_take : Sp := fun vs H Q _ => ∃ (s l : Addr) (n : Int), vs = [.ref s, .int n] ∧ n < 2 ^ 62 ∧ Sto s l H ∧ ∀ r H', Ge s l H H' → 0 ≤ r → (2 ≤ n → r < n) → (n < 2 → r = 0) → Q (.int r) H'

abbrev st_law_take : Stmt := topS 53
theorem sc_law_take : FnScope ["store", "many", "cell", "digit"] ["store", "many"] (defScope st_law_take) := ⟨rfl, rfl, rfl, by decide +kernel, rfl, by decide +kernel, by decide +kernel⟩
theorem ok_law_take (D : Df K mg "_law_take" st_law_take) (T : NoB mg) (C_law_mixed : Cl P w K mg base 1 "_law_mixed" ["seed", "turn"] sp_mixed) : Cl P w K mg base 2 "_law_take" ["store", "many"] sp_take := by
  refine cl_of D sc_law_take (fun _ _ _ _ _ _ us hl => match us, hl with | [_, _], _ => rfl) (fun vs H Q E h => ?_) (fun f cdv A outer sh H vs Q E hr h => ?_)
  · obtain ⟨_, _, _, rfl, _⟩ := h; rfl
  obtain ⟨a, l, n, rfl, hn, ⟨ns, i1, i2, i3, i4, i5, i6, hs, hl, ne, h1⟩, k⟩ := h
  refine ⟨_, (pss_cons (ps_if (pt_cmpR op_lt (pv 1) pe_int (nomark _)) (pss_one (ps_ret pe_int)) pss_nil)
    (pss_cons (ps_if (PW.pt (pw_and (pt_cmpR op_lt (pe_ix ix1 (pv 0) pe_int (fun _ _ => rfl)) pe_int (nomark _)) (pw_and (pt_cmpR op_eq (pe_ix ix1 (pv 0) pe_int (fun _ _ => rfl)) pe_int (nomark _)) (pw_and1 (pt_cmpR op_lt (pe_ix ix1 (pv 0) pe_int (fun _ _ => rfl)) (pe_callB len1 (by rfl) T.no_len (by decide +kernel) (pa_cons (pe_ix ix1 (pv 0) pe_int (fun _ _ => rfl)) pa_nil)) (nomark _)))))) (pss_cons (ps_set (i := 2) sc_law_take.nd rfl (Or.inl rfl) (pe_ix ix1 (pe_ix ix1 (pv 0) pe_int (fun _ _ => rfl)) (pe_ix ix1 (pv 0) pe_int (fun _ _ => rfl)) (fun _ _ => rfl)))
    (pss_cons (ps_asg (pe_op op_add (pe_ix ix1 (pv 0) pe_int (fun _ _ => rfl)) pe_int) (pg_sub (pv 0) pe_int set_list))
    (pss_cons (ps_asg (pe_op op_modN (pe_callTy int1 (by rfl) T.no_int (by decide +kernel) (pa_cons (pe_op op_add (pe_op op_add (pe_op op_mul (pe_ix ix1 (pv 0) pe_int (fun _ _ => rfl)) pe_int) (pe_op op_modN (pe_callTy int1 (by rfl) T.no_int (by decide +kernel) (pa_cons (pv 2) pa_nil)) pe_int)) pe_int) pa_nil)) pe_int) (pg_sub (pv 0) pe_int set_list))
    (pss_one (ps_if (pt_cmpR op_ge (pv 2) (pe_op op_pow pe_int pe_int) (nomark _)) (pss_one (ps_asg (pv 2) (pg_sub (pv 0) pe_int set_list))) (pss_cons (ps_asg pe_int (pg_sub (pv 0) pe_int set_list))
    (pss_one (ps_asg (pe_op op_modN (pe_callTy int1 (by rfl) T.no_int (by decide +kernel) (pa_cons (pv 2) pa_nil)) pe_int) (pg_sub (pv 0) pe_int set_list))))))))) pss_nil)
    (pss_cons (ps_if (pt_cmpR op_ge (pe_ix ix1 (pv 0) pe_int (fun _ _ => rfl)) pe_int (nomark _)) (pss_cons (ps_set (i := 3) sc_law_take.nd rfl (Or.inl rfl) (pe_op op_modN (pe_callTy int1 (by rfl) T.no_int (by decide +kernel) (pa_cons (pe_ix ix1 (pv 0) pe_int (fun _ _ => rfl)) pa_nil)) (pv 1)))
    (pss_cons (ps_asg (pe_op op_fdivW (pe_ix ix1 (pv 0) pe_int (fun _ _ => rfl)) (pv 1)) (pg_sub (pv 0) pe_int set_list))
    (pss_one (ps_ret (pv 3))))) pss_nil)
    (pss_cons (ps_asg (pe_op op_add (pe_ix ix1 (pv 0) pe_int (fun _ _ => rfl)) pe_int) (pg_sub (pv 0) pe_int set_list))
    (pss_cons (ps_if (pt_cmpR op_gt (pe_ix ix1 (pv 0) pe_int (fun _ _ => rfl)) pe_int (nomark _)) (pss_cons (ps_asg (pe_op op_sub (pe_ix ix1 (pv 0) pe_int (fun _ _ => rfl)) pe_int) (pg_sub (pv 0) pe_int set_list))
    (pss_one (ps_ret (pe_op op_modN (pe_callTy int1 (by rfl) T.no_int (by decide +kernel) (pa_cons (pe_cl C_law_mixed hr (by rfl) (pa_cons (pe_ix ix1 (pv 0) pe_int (fun _ _ => rfl)) (pa_cons (pe_ix ix1 (pv 0) pe_int (fun _ _ => rfl)) pa_nil))) pa_nil)) (pv 1))))) pss_nil)
    (pss_one (ps_ret (pe_op op_modN (pe_callTy int1 (by rfl) T.no_int (by decide +kernel) (pa_cons (pe_cl C_law_mixed hr (by rfl) (pa_cons (pe_ix ix1 (pv 0) pe_int (fun _ _ => rfl)) (pa_cons (pe_ix ix1 (pv 0) pe_int (fun _ _ => rfl)) pa_nil))) pa_nil)) (pv 1))))))))), ?_⟩
  have hq := sq_l hs
  have hql := sq_l hl
  rw [a_seq]
  walk_at "wq"
  split
  · exact k 0 H ⟨Kp.refl, _, _, _, _, _, _, _, hs, hl, ne, h1⟩ (Int.le_refl _) (by omega) (fun _ => rfl)
  refine seq_join (fun σ H' => ∃ (v : Option V) (i1 i2 i3 i4 i5 i6 : Int), σ = [some (.ref a), some (.int n), v, none] ∧ Kp a H H' ∧ H' l = some (.lst (ns.map V.int)) ∧ 0 ≤ i1 ∧ H' a = some (.lst [.ref l, .int i1, .int i2, .int i3, .int i4, .int i5, .int i6])) (fun N hN => ?_) ?_
  · have out : N [some (V.ref a), some (V.int n), none, none] H := hN _ _ ⟨none, _, _, _, _, _, _, rfl, Kp.refl, hl, h1, hs⟩
    walk_at "wps"
    split
    · split
      · split
        · rename_i g1 g2 g3
          have g4 : i1.toNat < ns.length := by rw [List.length_map] at g3; omega
          refine ⟨.int ns[i1.toNat], atI_of h1 (by simp [g4]), fun H3 n3 => ?_⟩
          have hs3 := n3.at_
          have hq3 := sq_l n3.at_
          have hl3 := n3.k ne hl
          clear out
          walk_at "wps"
          refine ⟨cm_lit (by decide), by decide, by decide, fun H4 n4 => ?_⟩
          have hs4 := n4.at_
          have hl4 := n4.k ne hl3
          walk_at "wps"
          refine ⟨⟨by decide, by decide, by decide⟩, ?_⟩
          split
          · refine fun H5 n5 => hN _ _ ⟨_, _, _, _, _, _, _, rfl, ((Kp.put n3).trans (Kp.put n4)).trans (Kp.put n5), n5.k ne hl4, by omega, n5.at_⟩
          · refine fun H5 n5 => ?_
            have hs5 := n5.at_
            have hl5 := n5.k ne hl4
            walk_at "wps"
            refine ⟨by decide, fun H6 n6 => ?_⟩
            exact hN _ _ ⟨_, _, _, _, _, _, _, rfl, (((Kp.put n3).trans (Kp.put n4)).trans (Kp.put n5)).trans (Kp.put n6), n6.k ne hl5, by omega, n6.at_⟩
        · trivial
      · trivial
    · trivial
  · clear hs hq hql hl h1 i1 i2 i3 i4 i5 i6
    rintro _ H1 ⟨v, i1, i2, i3, i4, i5, i6, rfl, kp, hl, h1, hs⟩
    have hq := sq_l hs
    rw [a_seq]
    walk_at "wq"
    have hn2 : 0 < n := by omega
    split
    · rw [a_seq]
      walk_at "wps"
      refine ⟨by omega, ⟨hn2, ?_⟩, fun H2 n2 => ?_⟩
      · exact Nat.lt_trans (PySem.Flt.log2_lt_of (n := n.natAbs) (k := 62) (by decide) (by omega)) (by decide)
      · exact k _ H2 ⟨kp.trans (Kp.put n2), Sto.put hl ne n2 h1⟩ (fm_bound hn2).1 (fun _ => (fm_bound hn2).2) (fun z => by omega)
    · rw [a_seq]
      walk_at "wq"
      intro H2 n2
      try dsimp only
      have hs2 := n2.at_
      have hq2 := sq_l n2.at_
      have hl2 := n2.k ne hl
      rw [a_seq]
      walk_at "wq"
      split
      · rw [a_seq]
        walk_at "wq"
        intro H3 n3
        try dsimp only
        have hs3 := n3.at_
        have hq3 := sq_l n3.at_
        have hl3 := n3.k ne hl2
        walk_at "wq"
        refine ⟨_, _, rfl, fun r => ?_⟩
        walk_at "wq"
        exact ⟨by omega, k _ _ ⟨(kp.trans (Kp.put n2)).trans (Kp.put n3), _, _, _, _, _, _, _, hs3, hl3, ne, h1⟩ (fm_bound hn2).1 (fun _ => (fm_bound hn2).2) (fun z => by omega)⟩
      · refine ⟨_, _, rfl, fun r => ?_⟩
        walk_at "wq"
        exact ⟨by omega, k _ _ ⟨kp.trans (Kp.put n2), _, _, _, _, _, _, _, hs2, hl2, ne, h1⟩ (fm_bound hn2).1 (fun _ => (fm_bound hn2).2) (fun z => by omega)⟩
end

/-! ## HR -/
/-! ### the head -/
def d_shown : He.DefD := ⟨("shown", none), "shown", "shown", defArgs (topS 2), defBody (topS 2), defScope (topS 2), [], []⟩
def d_is_whole : He.DefD := ⟨("is_whole", none), "is_whole", "is_whole", defArgs (topS 37), defBody (topS 37), defScope (topS 37), [], []⟩
def d_is_move : He.DefD := ⟨("is_move", none), "is_move", "is_move", defArgs (topS 38), defBody (topS 38), defScope (topS 38), [], []⟩
def d_check_number : He.DefD := ⟨("check_number", none), "check_number", "check_number", defArgs (topS 39), defBody (topS 39), defScope (topS 39), [], []⟩
def d_check_points : He.DefD := ⟨("check_points", none), "check_points", "check_points", defArgs (topS 40), defBody (topS 40), defScope (topS 40), [], []⟩
def d_check_move : He.DefD := ⟨("check_move", none), "check_move", "check_move", defArgs (topS 41), defBody (topS 41), defScope (topS 41), [], []⟩
def d_images_after : He.DefD := ⟨("images_after", none), "images_after", "images_after", defArgs (topS 42), defBody (topS 42), defScope (topS 42), [], []⟩
def d_cycles : He.DefD := ⟨("cycles", none), "cycles", "cycles", defArgs (topS 43), defBody (topS 43), defScope (topS 43), [], []⟩
def d_numbers_below : He.DefD := ⟨("numbers_below", none), "numbers_below", "numbers_below", defArgs (topS 45), defBody (topS 45), defScope (topS 45), [], []⟩
def d_format_move : He.DefD := ⟨("format_move", none), "format_move", "format_move", defArgs (topS 46), defBody (topS 46), defScope (topS 46), [], []⟩
def d_read_groups : He.DefD := ⟨("read_groups", none), "read_groups", "read_groups", defArgs (topS 47), defBody (topS 47), defScope (topS 47), [], []⟩
def d_read_move : He.DefD := ⟨("read_move", none), "read_move", "read_move", defArgs (topS 48), defBody (topS 48), defScope (topS 48), [], []⟩
def d_parse_move : He.DefD := ⟨("parse_move", none), "parse_move", "parse_move", defArgs (topS 49), defBody (topS 49), defScope (topS 49), [], [("loose", .bl false)]⟩
def d_law_store : He.DefD := ⟨("_law_store", none), "_law_store", "_law_store", defArgs (topS 51), defBody (topS 51), defScope (topS 51), [], []⟩
def d_law_mixed : He.DefD := ⟨("_law_mixed", none), "_law_mixed", "_law_mixed", defArgs (topS 52), defBody (topS 52), defScope (topS 52), [], []⟩
def d_law_take : He.DefD := ⟨("_law_take", none), "_law_take", "_law_take", defArgs (topS 53), defBody (topS 53), defScope (topS 53), [], []⟩
def d_law_pick : He.DefD := ⟨("_law_pick", none), "_law_pick", "_law_pick", defArgs (topS 54), defBody (topS 54), defScope (topS 54), [], []⟩
def d_law_place : He.DefD := ⟨("_law_place", none), "_law_place", "_law_place", defArgs (topS 55), defBody (topS 55), defScope (topS 55), [], []⟩
def d_law_drawn : He.DefD := ⟨("_law_drawn", none), "_law_drawn", "_law_drawn", defArgs (topS 56), defBody (topS 56), defScope (topS 56), [], []⟩
def d_law_sign : He.DefD := ⟨("_law_sign", none), "_law_sign", "_law_sign", defArgs (topS 57), defBody (topS 57), defScope (topS 57), [], []⟩
def d_law_text : He.DefD := ⟨("_law_text", none), "_law_text", "_law_text", defArgs (topS 58), defBody (topS 58), defScope (topS 58), [], []⟩
def d_law_bad_number : He.DefD := ⟨("_law_bad_number", none), "_law_bad_number", "_law_bad_number", defArgs (topS 59), defBody (topS 59), defScope (topS 59), [], []⟩
def d_law_is_whole : He.DefD := ⟨("_law_is_whole", none), "_law_is_whole", "_law_is_whole", defArgs (topS 60), defBody (topS 60), defScope (topS 60), [], []⟩
def d_law_same : He.DefD := ⟨("_law_same", none), "_law_same", "_law_same", defArgs (topS 61), defBody (topS 61), defScope (topS 61), [], []⟩
def d_law_move : He.DefD := ⟨("_law_move", none), "_law_move", "_law_move", defArgs (topS 62), defBody (topS 62), defScope (topS 62), [], []⟩
def d_law_bent_text : He.DefD := ⟨("_law_bent_text", none), "_law_bent_text", "_law_bent_text", defArgs (topS 63), defBody (topS 63), defScope (topS 63), [], []⟩
def d_law_digits : He.DefD := ⟨("_law_digits", none), "_law_digits", "_law_digits", defArgs (topS 64), defBody (topS 64), defScope (topS 64), [], []⟩
def d_law_row_text : He.DefD := ⟨("_law_row_text", none), "_law_row_text", "_law_row_text", defArgs (topS 65), defBody (topS 65), defScope (topS 65), [], []⟩
def d_law_cycle_rows : He.DefD := ⟨("_law_cycle_rows", none), "_law_cycle_rows", "_law_cycle_rows", defArgs (topS 66), defBody (topS 66), defScope (topS 66), [], []⟩
def d_law_move_text : He.DefD := ⟨("_law_move_text", none), "_law_move_text", "_law_move_text", defArgs (topS 67), defBody (topS 67), defScope (topS 67), [], []⟩
def d_law_loose_text : He.DefD := ⟨("_law_loose_text", none), "_law_loose_text", "_law_loose_text", defArgs (topS 68), defBody (topS 68), defScope (topS 68), [], []⟩
def d_law_read_move : He.DefD := ⟨("_law_read_move", none), "_law_read_move", "_law_read_move", defArgs (topS 69), defBody (topS 69), defScope (topS 69), [], []⟩
def d_law_alone : He.DefD := ⟨("_law_alone", none), "_law_alone", "_law_alone", defArgs (topS 70), defBody (topS 70), defScope (topS 70), [], []⟩
def d_law_refusal : He.DefD := ⟨("_law_refusal", none), "_law_refusal", "_law_refusal", defArgs (topS 71), defBody (topS 71), defScope (topS 71), [], []⟩
def d_law_reads : He.DefD := ⟨("_law_reads", none), "_law_reads", "_law_reads", defArgs (topS 72), defBody (topS 72), defScope (topS 72), [], []⟩
def d_law_points_told : He.DefD := ⟨("_law_points_told", none), "_law_points_told", "_law_points_told", defArgs (topS 73), defBody (topS 73), defScope (topS 73), [], []⟩
def d_law_groups : He.DefD := ⟨("_law_groups", none), "_law_groups", "_law_groups", defArgs (topS 74), defBody (topS 74), defScope (topS 74), [], []⟩
def d_law : He.DefD := ⟨("law", none), "law", "law", defArgs (topS 75), defBody (topS 75), defScope (topS 75), [], []⟩
def di_BadNumber : IniD := ⟨"BadNumber", "BadNumber.__init__", defArgs (clsFn (topS 4) 0), defBody (clsFn (topS 4) 0), defScope (clsFn (topS 4) 0), ["value", "low", "high"]⟩
def di_NotAMove : IniD := ⟨"NotAMove", "NotAMove.__init__", defArgs (clsFn (topS 6) 0), defBody (clsFn (topS 6) 0), defScope (clsFn (topS 6) 0), ["index"]⟩
def di_BadText : IniD := ⟨"BadText", "BadText.__init__", defArgs (clsFn (topS 10) 0), defBody (clsFn (topS 10) 0), defScope (clsFn (topS 10) 0), ["line"]⟩
def hfn : List He.DefD := [d_shown, d_is_whole, d_is_move, d_check_number, d_check_points, d_check_move, d_images_after, d_cycles, d_numbers_below, d_format_move, d_read_groups, d_read_move, d_parse_move, d_law_store, d_law_mixed, d_law_take, d_law_pick, d_law_place, d_law_drawn, d_law_sign, d_law_text, d_law_bad_number, d_law_is_whole, d_law_same, d_law_move, d_law_bent_text, d_law_digits, d_law_row_text, d_law_cycle_rows, d_law_move_text, d_law_loose_text, d_law_read_move, d_law_alone, d_law_refusal, d_law_reads, d_law_points_told, d_law_groups, d_law]
def hdi : List IniD := [di_BadNumber, di_NotAMove, di_BadText]
def hks : List Str := ["BadNumber", "NotAMove", "BadText"]
def hfa : List He.Fa := [.glo "shown", .glo "is_whole", .glo "is_move", .glo "check_number", .glo "check_points", .glo "check_move", .glo "images_after", .glo "cycles", .glo "numbers_below", .glo "format_move", .glo "read_groups", .glo "read_move", .glo "parse_move", .glo "_law_store", .glo "_law_mixed", .glo "_law_take", .glo "_law_pick", .glo "_law_place", .glo "_law_drawn", .glo "_law_sign", .glo "_law_text", .glo "_law_bad_number", .glo "_law_is_whole", .glo "_law_same", .glo "_law_move", .glo "_law_bent_text", .glo "_law_digits", .glo "_law_row_text", .glo "_law_cycle_rows", .glo "_law_move_text", .glo "_law_loose_text", .glo "_law_read_move", .glo "_law_alone", .glo "_law_refusal", .glo "_law_reads", .glo "_law_points_told", .glo "_law_groups", .glo "law", .free "len", .free "int", .free "bool", .free "str", .free "range", .free "isinstance", .free "tuple", .free "list", .free "min", .free "max", .free "sorted", .free "enumerate", .free "sum", .free "any", .free "all", .free "zip", .free "reversed", .free "super", .free "set", .free "dict", .free "ValueError", .free "abs", .int "MOST_POINTS" 12]
abbrev hR : PySem.W.OpenRow := PySem.W.OpenLaw.row PySem.Challenge.rw_heldorder_k07_loose_reading
abbrev hfile : Str := "/claim/cut.py"
abbrev hhk : PySem.W.Hook := hookE hfa hfn hfile hdi hks
def hob (s : PySem.W.SharedT) : AlE := obsEG hfa hfn hfile hdi hks (HandSHeadRun.getT s)
theorem hob_eq (s : PySem.W.SharedT) : hob s = hhk.obs s.abs := obsEG_eq (HandSHeadRun.getT_eq s)
def hloose : List Str := (["MOST_POINTS", "shown", "HeldorderError", "BadNumber", "NotAPoint", "NotAMove", "TooMany", "UnlikeSizes", "RepeatedPoint", "BadText", "NotMade", "NotTight", "NotFull", "NotAFailing", "NotNeighbours", "NotShorter", "SameLength", "NoSuchLength", "NotAnOrder", "NotAChain", "NotABase", "NotInside", "OrderMatters", "FullLot", "NotAWord", "NotAColumn", "NotACount", "GameOver", "NotAllowed", "NothingToUndo"] : List Str) ++ (["NothingToRedo", "NothingKept", "BadEdit", "UnknownName", "NotAPaper", "is_whole", "is_move", "check_number", "check_points", "check_move", "images_after", "cycles", "numbers_below", "format_move", "read_groups", "read_move", "parse_move", "_law_store", "_law_mixed", "_law_take", "_law_pick", "_law_place", "_law_drawn", "_law_sign", "_law_text", "_law_bad_number", "_law_is_whole", "_law_same", "_law_move", "_law_bent_text"] : List Str) ++ (["_law_digits", "_law_row_text", "_law_cycle_rows", "_law_move_text", "_law_loose_text", "_law_read_move", "_law_alone", "_law_refusal", "_law_reads", "_law_points_told", "_law_groups"] : List Str)
open PySem.W PySem.Calls PyProof.Rows HandSHeadRun in
theorem hrunA (w : World) (os : OsState) : (endF (stepQ (denQ tabQ) hR.prog w) 30000 hR.prog w os).map (fun s => (looksF hR.prog (boot_heap w.params) s.abs, seenQ (PySem.W.view hR.prog [75]) hloose (importedModules hR.prog.main.body) (fun s => xlAt (PySem.W.view hR.prog [75]) [] s && recOk hR.toRowW.records s) s.abs)) = some (true, openGood (PySem.W.view hR.prog [75]) hloose) := by kernel_rfl
open PySem.W PySem.Calls PyProof.Rows HandSHeadRun in
theorem hrunB (w : World) (os : OsState) : (endF (stepQ (denQ tabQ) hR.prog w) 30000 hR.prog w os).map (fun s => (hob s).1) = some (hhk.val w).1 := by kernel_rfl
open PySem.W PySem.Calls PyProof.Rows HandSHeadRun in
theorem hrunC (w : World) (os : OsState) : (endF (stepQ (denQ tabQ) hR.prog w) 30000 hR.prog w os).map (fun s => (hob s).2.1) = some (hhk.val w).2.1 := by kernel_rfl
open PySem.W PySem.Calls PyProof.Rows HandSHeadRun in
theorem hrunD (w : World) (os : OsState) : (endF (stepQ (denQ tabQ) hR.prog w) 30000 hR.prog w os).map (fun s => (hob s).2.2) = some (hhk.val w).2.2 := by kernel_rfl
theorem opt4 {α β γ δ ε : Type} {x : Option α} {f : α → β} {g : α → γ × (δ × ε)} {a : β} {b : γ} {c : δ} {d : ε} (h1 : x.map f = some a) (h2 : x.map (fun s => (g s).1) = some b) (h3 : x.map (fun s => (g s).2.1) = some c) (h4 : x.map (fun s => (g s).2.2) = some d) : x.map (fun s => (f s, g s)) = some (a, (b, (c, d))) := by
  cases x with
  | none => cases h1
  | some s =>
    have e1 := Option.some.inj h1
    have e2 := Option.some.inj h2
    have e3 := Option.some.inj h3
    have e4 := Option.some.inj h4
    show some (f s, g s) = _
    subst e1 e2 e3 e4
    rfl
theorem opt3 {α β γ δ : Type} {x : Option α} {f : α → β} {g : α → γ} {h : α → δ} {a : β} {b : γ} {c : δ} (k : x.map (fun s => ((f s, g s), h s)) = some ((a, b), c)) : x.map (fun s => (f s, g s, h s)) = some (a, b, c) := by
  cases x with
  | none => cases k
  | some s =>
    have e := Option.some.inj k
    show some (f s, g s, h s) = _
    simp only [Prod.mk.injEq] at e
    obtain ⟨⟨rfl, rfl⟩, rfl⟩ := e
    rfl
theorem hrun (w : World) : HandSHeadRun.RunEq hR (PySem.W.view hR.prog [75]) hhk hob 30000 hloose w := fun os => opt3 (opt4 (g := hob) (hrunA w os) (hrunB w os) (hrunC w os) (hrunD w os))

/-! ## HoJ -/
section
open HT
variable {prog : Program} {w : World} {A : Around} {E : Value → Shared → Prop} {s : Shared}
theorem tuple_cut_whole {t sl : Addr} {items : Array Value} {vl vu : Value} {lo hi : Option Int} {Q : Value → Shared → Prop} (ht : IsTup s.heap t items) (hs : s.heap.IsSliceOf sl vl vu .none) (pl : IsPart vl lo) (pu : IsPart vu hi)
    (hw : sIx items.size 0 lo = 0 ∧ sIx items.size items.size hi = items.size) (h : Q (.ref t) s) : wpAny (model prog w) A (getItem (.ref t) (.ref sl)) Q E s := by
  obtain ⟨os, hos, hcs, hds⟩ := id hs
  have hTs : s.TypeIs (.ref sl) "slice" := ⟨os, hos, hcs⟩
  unfold getItem
  try with_reducible refine wpAny_holding ?_
  first | refine wpAny_bind (wpAny_pure ?_) | skip
  refine wpAny_bind (wpAny_sequenceKey ht.typeIs (by decide) ?_)
  refine wpAny_bind (wpAny_callSpecial?_slot (name := Str.ofString "__getitem__") ht.typeIs PyProof.Rows.slot_tuple_getitem
    (wpAny_call_entry PyProof.Rows.slot_tuple_getitem ht.typeIs entry_tuple_getitem ?_ (args_tuple_getitem _ _)))
  show wpAny _ _ (Builtin.Tuple.tupleItemsOf (.ref t) >>= _) _ _ s
  refine wpAny_bind (tupleItemsOf_ ht ?_)
  refine wpAny_bind (wpAny_typeOf hTs ?_)
  rw [if_pos (by decide)]
  refine wpAny_bind (sliceApplied_gen hs pl pu ?_)
  have hyes : ((((sIx items.size 0 lo : Nat) : Int) == 0 && (1 : Int) == 1 && (sIx items.size items.size hi - sIx items.size 0 lo) == items.size) = true) := by
    rw [hw.1, hw.2]
    simp
  show wpAny _ _ (if (((sIx items.size 0 lo : Nat) : Int) == 0 && (1 : Int) == 1 && (sIx items.size items.size hi - sIx items.size 0 lo) == items.size) = true then _ else _) _ _ s
  rw [if_pos hyes]
  refine wpAny_bind (wpAny_bind (wpAny_typeOf ht.typeIs (wpAny_pure ?_)))
  rw [if_pos (by decide)]
  refine wpAny_bind (wpAny_rule ?_)
  exact wpAny_pure ⟨_, rfl, wpAny_pure h⟩
end
def rSlTA (K : PySem.W.Frag) : V → Option Int → Option Int → Hp → VK → Prop := fun x lo hi H Q => ∃ a xs, x = .ref a ∧ SqT K H a xs ∧
  ((HT.sIx xs.length 0 lo = 0 ∧ HT.sIx xs.length xs.length hi = xs.length) → Q (.ref a) H) ∧ (¬ (HT.sIx xs.length 0 lo = 0 ∧ HT.sIx xs.length xs.length hi = xs.length) → ∀ p, H p = none → Q (.ref p) (upd H p (.tup (cutV xs lo hi))))
theorem sl_tupA {X : Cx} : SlR X (rSlTA X.K) := by
  intro pins s σ H x v vl vu lo hi sl Q I rx hs pl pu h
  obtain ⟨a, xs, rfl, hx, q1, q2⟩ := h
  by_cases hw : HT.sIx xs.length 0 lo = 0 ∧ HT.sIx xs.length xs.length hi = xs.length
  · cases rx
    obtain ⟨its, r, ht, hz⟩ := I.tuple hx
    have hlen : its.toArray.size = xs.length := by rw [List.size_toArray]; exact r.length.symm
    refine ⟨"tuple", _, PyProof.Rows.slot_tuple_getitem.lookup, ht.typeIs, ?_⟩
    exact tuple_cut_whole ht hs pl pu (by rw [hlen]; exact hw) ⟨.ref a, H, I, rfl, q1 hw⟩
  · exact sl_tup pins s σ H _ v vl vu lo hi sl Q I rx hs pl pu ⟨a, xs, rfl, hx, hw, q2 hw⟩
/-- what a slice is: its items, at the same address or a new one -/
theorem b_slTA {K : PySem.W.Frag} {a : Addr} {lo hi : Option Int} {H : Hp} {Q : VK} : (∃ xs, SqT K H a xs ∧ ((HT.sIx xs.length 0 lo = 0 ∧ HT.sIx xs.length xs.length hi = xs.length) → Q (.ref a) H) ∧ Nw H (.tup (cutV xs lo hi)) fun p H' => Q (.ref p) H') → rSlTA K (.ref a) lo hi H Q := fun ⟨xs, h, q1, q2⟩ => by
  refine ⟨a, xs, rfl, h, q1, fun _ => ?_⟩
  rw [nw_eq]
  exact q2
theorem log_sm {n : Nat} (h : n < 2 ^ 1000) : n.log2 < 1920 := by
  by_cases e : n = 0
  · subst e; decide
  · have := (Nat.log2_lt e).mpr h
    omega
theorem cut_to {xs : List V} {m : Int} (h : 0 ≤ m) : cutV xs none (some m) = xs.take m.toNat := by
  have e1 : HT.sIx xs.length xs.length (some m) = min m.toNat xs.length := by
    have := HT.sIx_nat xs.length xs.length m.toNat
    rw [Int.toNat_of_nonneg h] at this
    exact this
  unfold cutV
  rw [e1, HT.sIx_none, Nat.sub_zero, List.drop_zero]
  by_cases c : m.toNat ≤ xs.length
  · rw [Nat.min_eq_left c]
  · rw [Nat.min_eq_right (by omega), List.take_length, List.take_of_length_le (by omega)]
theorem cut_from {xs : List V} {m : Int} (h : 0 ≤ m) : cutV xs (some m) none = xs.drop m.toNat := by
  have e1 : HT.sIx xs.length 0 (some m) = min m.toNat xs.length := by
    have := HT.sIx_nat xs.length 0 m.toNat
    rw [Int.toNat_of_nonneg h] at this
    exact this
  unfold cutV
  rw [e1, HT.sIx_none]
  by_cases c : m.toNat ≤ xs.length
  · rw [Nat.min_eq_left c, List.take_of_length_le (by rw [List.length_drop]; exact Nat.le_refl _)]
  · rw [Nat.min_eq_right (by omega), List.drop_length, List.drop_of_length_le (by omega)]
    simp
theorem repI (n : Nat) (z : Int) : (List.replicate n [V.int z]).flatten = List.map V.int (List.replicate n z) := by
  induction n with
  | zero => rfl
  | succ n ih => rw [List.replicate_succ, List.flatten_cons, ih, List.replicate_succ]; rfl
section
variable {K : PySem.W.Frag} {H : Hp} {Q : VK}
theorem cut_whole {xs : List V} {lo hi : Option Int} (h : HT.sIx xs.length 0 lo = 0 ∧ HT.sIx xs.length xs.length hi = xs.length) : cutV xs lo hi = xs := by
  unfold cutV
  rw [h.1, h.2, Nat.sub_zero, List.drop_zero, List.take_length]
theorem b_slU {a : Addr} {lo hi : Option Int} : (∃ xs, H a = some (.tup xs) ∧ ∀ u H', Same H H' → H' u = some (.tup (cutV xs lo hi)) → Q (.ref u) H') → rSlTA K (.ref a) lo hi H Q := fun ⟨xs, h, k⟩ =>
  b_slTA ⟨xs, SqT.of h, fun hw => k a H (Same.refl _) (by rw [cut_whole hw]; exact h), fun p H' n => k p H' n.same n.at_⟩
theorem b_catU {a b : Addr} : (∃ xs ys, H a = some (.tup xs) ∧ H b = some (.tup ys) ∧ xs.length + ys.length ≤ sizeLine ∧ ∀ u H', Same H H' → H' u = some (.tup (xs ++ ys)) → Q (.ref u) H') → rCatA K (.ref a) (.ref b) H Q := fun ⟨xs, ys, h1, h2, hz, k⟩ => by
  refine ⟨a, b, xs, ys, rfl, rfl, SqT.of h1, SqT.of h2, hz, fun e => ?_, fun _ e => ?_, fun _ _ p hp => ?_⟩
  · subst e; exact k b H (Same.refl _) h2
  · subst e; exact k a H (Same.refl _) (by rw [List.append_nil]; exact h1)
  · exact k p _ (New.mk' hp).same upd_same
end

/-! ## HoTx -/
/-- a def with keyword-only parameters kws -/
def DfK (K : PySem.W.Frag) (mg : Str → Option Value) (x : Str) (st : Stmt) (kws : List (Str × V)) : Prop := ∃ f fd, FunD K x x (defArgs st) (defBody st) (defScope st) [] kws f fd ∧ mg x = some (.ref f)
/-- a def that raises, called by n values and keywords ks: vs ++ zs keep sp -/
def ClXN (P : Program) (w : World) (K : PySem.W.Frag) (mg : Str → Option Value) (base : Heap) (k : Nat) (x : Str) (n : Nat) (ks : List Str) (sp : Sp) : Prop :=
  ∃ (f : Addr) (fd : FuncData) (ps : List Str) (g : List Value → List Value → List Value) (gV : List V → List V → List V) (sp2 : Sp), mg x = some (.ref f) ∧ PySem.W.keepIn K (.ref f) = true ∧ KBn K fd ps n ks g gV ∧ FnOk P w K mg base (L2N.CX P w) k f fd ps sp2 ∧
    ∀ vs zs H Q E, vs.length = n → zs.length = ks.length → sp (vs ++ zs) H Q E → sp2 (gV vs zs) H Q E
section
variable {X : Cx}
theorem run_fnNS {CX : CXT} {k n : Nat} {f : Addr} {fd : FuncData} {ps ks : List Str} {sp : Sp} {E : XK} {g : List Value → List Value → List Value} {gV : List V → List V → List V} {pins : List (Addr × Obj)} {σ : L2.St} {H : Hp} {s : Shared} {Q : VK} {us ws : List Value} {vs zs : List V} (F : FnOk X.prog X.w X.K X.mg X.base CX k f fd ps sp) (hr : Room k X.A) (hb : KBn X.K fd ps n ks g gV)
    (hx : ∀ (pins : List (Addr × Obj)) (H : Hp) (s : Shared) (e : Value) (s' : Shared), Inv X pins σ H s → CX X.stack H s E e s' → X.xe e s')
    (I : Inv X pins σ H s) (r : Vals vs us) (rz : Vals zs ws) (l1 : vs.length = n) (l2 : zs.length = ks.length) (h : sp (gV vs zs) H Q E) : wpAny (model X.prog X.w) X.A (call (.ref f) us (ks.zip ws)) (EP X pins σ Q) X.xe s := by
  have r2 := hb.rel r rz
  refine wpAny_call (codeAny_mono (F.run X.A X.stack s H ⟨us, ks.zip ws⟩ (g us ws) (gV vs zs) Q E hr I.env0 (hb.to s us ws I.kIn (r.length.symm.trans l1) (rz.length.symm.trans l2)) r2 h) fun r s' hq => ?_)
  cases r with
  | error e => exact hx pins H s e s' I hq
  | ok fl =>
    cases fl with
    | ret u => exact I.after hq
    | next => exact False.elim hq
    | brk => exact False.elim hq
    | cont => exact False.elim hq
theorem pe_clXN {j k : Nat} {x : Str} {sp : Sp} {n : Nat} {ks : List Str} {p pos : Pos} {e : Expr} {es : List Expr} {kws : List Keyword} {t t2 : TA} {W : WX} (C : ClXN X.prog X.w X.K X.mg X.base j x n ks sp) (tk : L2N.Takes X W) (hr : Room k X.A) (hg : Gl X x) (ha : PA X (e :: es) t) (hkw : PK X kws t2) (hjk : j ≤ k := by decide)
    (hall : (backToKw pos (keywordEach kws X.env)).all (·.1.isSome) = true := by rfl) (hks : (backToKw pos (keywordEach kws X.env)).filterMap (·.1) = ks := by rfl)
    (hdb : (x == ("__debug__" : Str)) = false := by decide) (he : starEach (e :: es) X.env = (false, eval e X.env) :: starEach es X.env := by rfl)
    (hpl : ((backTo pos (starEach (e :: es) X.env)).any (·.1) || (backToKw pos (keywordEach kws X.env)).any (·.1.isNone)) = false := by rfl) :
    PE X (.Call (.Name x p) (e :: es) kws pos) (fun σ H Q => t σ H fun vs H1 => t2 σ H1 fun zs H2 => vs.length = n ∧ zs.length = ks.length ∧ sp (vs ++ zs) H2 Q (WE W σ)) := by
  obtain ⟨f, fd, ps, g, gV, sp2, a, b, c, d, i⟩ := C
  refine ⟨fun pins s σ H Q I h => ?_⟩
  refine wpAny_Call_Name_kw (ld_glob I hg a ?_ hdb)
  refine PySem.W.callWith_KW (h₀ := X.base) I.ok.mod.kin b hall (thn (ha.run pos pins s σ H _ I h) fun us s1 ⟨vs, H1, I1, r, q⟩ => ?_) hpl he
  refine thn (hkw.run pos pins s1 σ H1 _ I1 q) fun ws s2 ⟨zs, H2, I2, rz, l1, l2, q2⟩ => ⟨I2.kIn, ?_⟩
  rw [hks]
  exact run_fnNS (d.mono hjk) hr c (L2N.passAt tk σ) I2 r rz l1 l2 (i _ _ _ _ _ l1 l2 q2)
end
section
variable {P : Program} {w : World} {K : PySem.W.Frag} {mg : Str → Option Value} {base : Heap}
/-- a def with one keyword-only parameter behind its others: without it, with it -/
theorem clXN_of {x kn : Str} {kd : V} {st : Stmt} {N ps : List Str} {k : Nat} {sp : Sp} (D : DfK K mg x st [(kn, kd)]) (S : FnScope N (ps ++ [kn]) (defScope st))
    (hb0 : ∀ (D : Addr) (doc pm : Value) (an : Option Addr) (cdv ct : Value) (us mv : List Value), us.length = ps.length → mv.length = 1 → KwChain D ([kn].zip mv) (bindArgs (PySem.W.fnOf x x (defArgs st) (defBody st) (defScope st) .none (.ref D) doc pm an cdv ct) ⟨us, []⟩) ((ps ++ [kn]).zip (us ++ mv)))
    (hb1 : ∀ (D : Addr) (doc pm : Value) (an : Option Addr) (cdv ct : Value) (us ws : List Value), us.length = ps.length → ws.length = 1 → KwChain D ([].zip ([] : List Value)) (bindArgs (PySem.W.fnOf x x (defArgs st) (defBody st) (defScope st) .none (.ref D) doc pm an cdv ct) ⟨us, [kn].zip ws⟩) ((ps ++ [kn]).zip (us ++ ws)))
    (len : ∀ vs H Q E, sp vs H Q E → vs.length = (ps ++ [kn]).length)
    (hbody : ∀ (f : Addr) (cdv : Value) (A : Around) (outer : List Env) (s : Shared) (H : Hp) (vs : List V) (Q : VK) (E : XK), Room k (A.deeper (envOfC x (defScope st) s.heap.objs.size f cdv)) → L2N.Takes (cxOf (L2N.CX P w) P w K mg base N x (defScope st) f cdv A outer s H E) (fun cls d _ H => E cls d H) → sp vs H Q E →
      ∃ t, PSs (cxOf (L2N.CX P w) P w K mg base N x (defScope st) f cdv A outer s H E) (defBody st) t ∧ t { nx := fun _ H' => Q .non H', rt := Q } (start N vs) H) :
    ClXN P w K mg base (k + 1) x ps.length [] (fun vs H Q E => sp (vs ++ [kd]) H Q E) ∧ ClXN P w K mg base (k + 1) x ps.length [kn] sp := by
  obtain ⟨f, fd, F, g⟩ := D
  have hF : FnOk P w K mg base (L2N.CX P w) (k + 1) f fd (ps ++ [kn]) sp := F.ok S len fun cdv A outer s H vs Q E hr hsp => hbody f cdv A outer s H vs Q E hr (L2N.takes_of rfl rfl rfl rfl) hsp
  obtain ⟨m0, b0⟩ := F.kbinds0 (ps := ps ++ [kn]) ps.length [] [(kn, kd)] (fun us mv ws => us ++ mv) (by simp) (fun q h => h) (fun r1 r2 _ => vals_app r1 r2) (fun D doc pm an cdv ct us mv ws l1 l2 l3 => by
    have : ws = [] := List.eq_nil_of_length_eq_zero l3
    subst this
    exact hb0 D doc pm an cdv ct us mv l1 l2)
  obtain ⟨m1, b1⟩ := F.kbinds0 (ps := ps ++ [kn]) ps.length [kn] [] (fun us mv ws => us ++ ws) (by simp) (fun q h => by simp at h) (fun r1 _ r3 => vals_app r1 r3) (fun D doc pm an cdv ct us mv ws l1 l2 l3 => by
    have : mv = [] := List.eq_nil_of_length_eq_zero l2
    subst this
    exact hb1 D doc pm an cdv ct us ws l1 l3)
  refine ⟨⟨f, fd, _, _, _, sp, g, F.kp, b0, hF, fun vs zs H Q E l1 l2 h => ?_⟩, ⟨f, fd, _, _, _, sp, g, F.kp, b1, hF, fun vs zs H Q E l1 l2 h => h⟩⟩
  have : zs = [] := List.eq_nil_of_length_eq_zero l2
  subst this
  rw [List.append_nil] at h
  exact h
end
/-! for sign in text -/
section
variable {D : Ends} {σ : L2.St} {H : Hp} {g : TG} {tb : TS} {te : TE}
def FSt (x : Str) (g : TG) (tb : TS) (D : Ends) (σ : L2.St) (H : Hp) : Prop := tFor (fun _ H R => R (Its x) H) g tb D σ H
theorem a_forSt : tFor (iStr te) g tb D σ H = te σ H fun v H1 => ∃ x, v = .str x ∧ FSt x g tb D σ H1 := rfl
theorem fst_by {x : Str} (Pv : Nat → L2.St → Hp → Prop) (h0 : Pv 0 σ H)
    (hs : ∀ i c σ H (N : L2.St → Hp → Prop), (∀ σ' H', Pv (i + 1) σ' H' → N σ' H') → x.cps.toList[i]? = some c → Pv i σ H → g (.str ⟨#[c]⟩) σ H fun σ2 H2 => tb { D with nx := N, ct := N, bk := D.nx } σ2 H2) (hd : ∀ σ H, Pv x.cps.toList.length σ H → D.nx σ H) : FSt x g tb D σ H := by
  refine ⟨fun i m σ1 H1 => m + i = x.cps.toList.length ∧ Pv i σ1 H1, ⟨x.cps.toList.length, by omega, h0⟩, fun i m σ1 H1 ⟨hm, p⟩ => ?_⟩
  have hsz : x.cps.toList.length = x.cps.size := Array.length_toList
  by_cases hi : i < x.cps.toList.length
  · refine .inr ⟨show i < x.cps.size by omega, fun σ5 H5 => Pv (i + 1) σ5 H5, fun σ5 H5 p5 => ⟨m - 1, by omega, by omega, p5⟩, fun v H2 ⟨e1, c, hc, ev⟩ => ?_⟩
    subst e1 ev
    exact hs i c σ1 _ _ (fun _ _ z => z) (by simpa using hc) p
  · have : i = x.cps.toList.length := by omega
    subst this
    exact .inl ⟨show x.cps.size ≤ _ by omega, hd _ _ p⟩
end
/-! {k: v for i in range(n)} -/
section
variable {σ : L2.St} {H : Hp} {Q : VK} {g : TG} {tt : TT} {tk tv : TE} {vs : List Nat} {ta : TA}
def CDc (n : Nat) (g : TG) (tt : TT) (tk tv : TE) (vs : List Nat) (σ : L2.St) (H : Hp) (Q : VK) : Prop := tDc (fun _ H R => R (Itr 0 n) H) g tt tk tv vs σ H Q
theorem a_dcR : tDc (iRng1 ta) g tt tk tv vs σ H Q = ta σ H fun ws H1 => ∃ j : Int, ws = [.int j] ∧ -(2 ^ 62) ≤ j ∧ j < 2 ^ 62 ∧ CDc j.toNat g tt tk tv vs σ H1 Q := rfl
theorem dcr_by {n : Nat} (Pv : Addr → Nat → List (Key × V) → Hp → Prop) (h0 : ∀ D H0, New H D (.dK []) H0 → Pv D 0 [] H0)
    (hs : ∀ D i kvs H1 (N : Hp → Prop), H D = none → i < n → H1 D = some (.dK kvs) → Pv D i kvs H1 → (∀ kvs' H5, H5 D = some (.dK kvs') → Pv D (i + 1) kvs' H5 → N H5) → g (.int (0 + i)) (wipe σ vs) H1 fun σ2 H2 => wipe σ2 vs = wipe σ vs ∧ tt σ2 H2 fun b H3 =>
      if b = true then tk σ2 H3 fun y H4 => tv σ2 H4 fun z H5 => ∃ kvs k, y = kV k ∧ H5 D = some (.dK kvs) ∧ kvs.length < sizeLine ∧ N (upd H5 D (.dK (putK kvs k z))) else N H3)
    (hd : ∀ D kvs H1, H D = none → H1 D = some (.dK kvs) → Pv D n kvs H1 → Q (.ref D) H1) : CDc n g tt tk tv vs σ H Q := by
  intro D hD
  refine ⟨fun i m H1 => m + i = n ∧ ∃ kvs, H1 D = some (.dK kvs) ∧ Pv D i kvs H1, ⟨n, by omega, [], upd_same, h0 D _ (New.mk' hD)⟩, fun i m H1 ⟨hm, kvs, e, p⟩ => ?_⟩
  by_cases hi : i < n
  · refine .inr ⟨hi, fun H5 => ∃ kvs, H5 D = some (.dK kvs) ∧ Pv D (i + 1) kvs H5, fun H5 h5 => ⟨m - 1, by omega, by omega, h5⟩, fun x H2 ⟨e1, e2⟩ => ?_⟩
    subst e1 e2
    exact hs D i kvs _ _ hD hi e p fun kvs' H5 h5 p5 => ⟨kvs', h5, p5⟩
  · have : i = n := by omega
    subst this
    exact .inl ⟨Nat.le_refl _, hd D kvs _ hD e p⟩
end
theorem tru_str {K : PySem.W.Frag} {z : Str} {H : Hp} {Q : Bool → Hp → Prop} (hz : z.length ≤ sizeLine) (q : Q (decide (z.length ≠ 0)) H) : ∃ k, TruV K (.str z) H k ∧ Q k H := by
  refine ⟨_, ⟨hz, rfl⟩, ?_⟩
  have : ((z.length : Int) != 0) = decide (z.length ≠ 0) := by
    by_cases e : z.length = 0 <;> simp [e]
  rw [this]
  exact q
theorem tru_lst {K : PySem.W.Frag} {p : Addr} {xs : List V} {H : Hp} {Q : Bool → Hp → Prop} (h : H p = some (.lst xs)) (q : Q (!xs.isEmpty) H) : ∃ k, TruV K (.ref p) H k ∧ Q k H := ⟨_, .inl ⟨xs, SqL.of h, rfl⟩, q⟩

/-! ## HoC -/
/-! the rounds of a move, as plain mathematics -/
/-- the image of a point -/
def im (ns : List Int) (p : Int) : Int := (ns[p.toNat]?).getD 0
structure Mv (ns : List Int) : Prop where
  perm : ns.Perm (rng ns.length)
theorem Mv.at {ns : List Int} (m : Mv ns) {p : Int} (h : 0 ≤ p ∧ p < ns.length) : ns[p.toNat]? = some (im ns p) ∧ 0 ≤ im ns p ∧ im ns p < ns.length := by
  have hl : p.toNat < ns.length := by omega
  have e : ns[p.toNat]? = some (ns[p.toNat]) := List.getElem?_eq_getElem hl
  have q : im ns p = ns[p.toNat] := by unfold im; rw [e]; rfl
  rw [q]
  exact ⟨e, mem_rng.mp (m.perm.mem_iff.mp (List.getElem_mem hl))⟩
theorem Mv.inj {ns : List Int} (m : Mv ns) {p q : Int} (hp : 0 ≤ p ∧ p < ns.length) (hq : 0 ≤ q ∧ q < ns.length) (h : im ns p = im ns q) : p = q := by
  have nd : ns.Nodup := m.perm.nodup_iff.mpr (rng_nodup _)
  have a := (m.at hp).1
  have b := (m.at hq).1
  rw [h] at a
  have := (List.getElem?_inj (by omega) nd).mp (a.trans b.symm)
  omega
/-- one part of a round that is being walked: x0, .., x(k-1), the next one is pt -/
structure Walk (ns : List Int) (fl cyc : List Int) (start pt : Int) : Prop where
  nd : (fl ++ cyc).Nodup
  mv : ∀ p ∈ fl ++ cyc, (0 ≤ p ∧ p < ns.length) ∧ im ns p ≠ p
  cl : ∀ p ∈ fl, im ns p ∈ fl
  cb : ∀ p : Int, 0 ≤ p → p < ns.length → im ns p ∈ fl → p ∈ fl
  st : (0 ≤ start ∧ start < ns.length) ∧ im ns start ≠ start ∧ start ∉ fl
  hd : cyc = [] ∨ cyc.head? = some start
  lk : ∀ k x y, cyc[k]? = some x → cyc[k + 1]? = some y → im ns x = y
  pt0 : cyc = [] → pt = start
  pt1 : ∀ x, cyc.getLast? = some x → pt = im ns x
  ptr : 0 ≤ pt ∧ pt < ns.length
theorem Walk.start {ns fl : List Int} {s : Int} (nd : fl.Nodup) (mv : ∀ p ∈ fl, (0 ≤ p ∧ p < ns.length) ∧ im ns p ≠ p) (cl : ∀ p ∈ fl, im ns p ∈ fl) (cb : ∀ p : Int, 0 ≤ p → p < ns.length → im ns p ∈ fl → p ∈ fl) (st : (0 ≤ s ∧ s < ns.length) ∧ im ns s ≠ s ∧ s ∉ fl) : Walk ns fl [] s s :=
  ⟨by simpa using nd, by simpa using mv, cl, cb, st, .inl rfl, fun k x y h => by simp at h, fun _ => rfl, fun x h => by simp at h, st.1⟩
/-- the walk is not over: the point is taken in -/
theorem Walk.step {ns fl cyc : List Int} {s pt : Int} (m : Mv ns) (w : Walk ns fl cyc s pt) (h : pt ∉ fl ++ cyc) : Walk ns fl (cyc ++ [pt]) s (im ns pt) := by
  have hpt := m.at w.ptr
  have hmv : im ns pt ≠ pt := by
    rcases w.hd with e | e
    · have := w.pt0 e
      rw [this]
      exact w.st.2.1
    · intro z
      cases hl : cyc.getLast? with
      | none => rw [List.getLast?_eq_none_iff.mp hl] at e; cases e
      | some x =>
        have e1 := w.pt1 x hl
        have hx := List.mem_of_getLast? hl
        have hxm := (w.mv x (List.mem_append_right _ hx)).1
        have : x = pt := m.inj hxm w.ptr (by rw [z]; exact e1.symm)
        exact h (this ▸ List.mem_append_right _ hx)
  refine ⟨?_, ?_, w.cl, w.cb, w.st, ?_, ?_, fun e => by simp at e, fun x hx => ?_, hpt.2⟩
  · rw [← List.append_assoc, List.nodup_append]
    exact ⟨w.nd, by simp, fun y hy z hz => by rw [List.mem_singleton.mp hz]; intro e; exact h (e ▸ hy)⟩
  · intro p hp
    rw [← List.append_assoc] at hp
    rcases List.mem_append.mp hp with q | q
    · exact w.mv p q
    · rw [List.mem_singleton.mp q]
      exact ⟨w.ptr, hmv⟩
  · right
    rcases w.hd with e | e
    · rw [e]
      simp [w.pt0 e]
    · rw [List.head?_append, e]
      rfl
  · intro k x y h1 h2
    by_cases hk : k + 1 < cyc.length
    · rw [List.getElem?_append_left hk] at h2
      rw [List.getElem?_append_left (by omega)] at h1
      exact w.lk k x y h1 h2
    · have hk1 : k + 1 = cyc.length := by
        have := (List.getElem?_eq_some_iff.mp h2).1
        rw [List.length_append] at this
        simp at this
        omega
      rw [List.getElem?_append_right (by omega)] at h2
      have : k + 1 - cyc.length = 0 := by omega
      rw [this] at h2
      have ey : pt = y := by simpa using h2
      rw [List.getElem?_append_left (by omega)] at h1
      have hl : cyc.getLast? = some x := by rw [List.getLast?_eq_getElem?]; rw [← h1]; congr 1; omega
      rw [← ey]
      exact (w.pt1 x hl).symm
  · rw [List.getLast?_append] at hx
    have : x = pt := by simpa using hx.symm
    rw [this]
/-- the walk is over: the round closes -/
theorem Walk.over {ns fl cyc : List Int} {s pt : Int} (m : Mv ns) (w : Walk ns fl cyc s pt) (h : pt ∈ fl ++ cyc) : cyc.head? = some s ∧ pt = s ∧ 2 ≤ cyc.length := by
  have hne : cyc ≠ [] := fun e => by
    have := w.pt0 e
    rw [e, List.append_nil, this] at h
    exact w.st.2.2 h
  have hh : cyc.head? = some s := w.hd.resolve_left hne
  obtain ⟨x, hl⟩ : ∃ x, cyc.getLast? = some x := ⟨_, List.getLast?_eq_some_getLast hne⟩
  have ex := w.pt1 x hl
  have hx := List.mem_of_getLast? hl
  have hxm := (w.mv x (List.mem_append_right _ hx)).1
  have ndc := (List.nodup_append.mp w.nd).2.1
  have dis := (List.nodup_append.mp w.nd).2.2
  have hpc : pt ∈ cyc := by
    rcases List.mem_append.mp h with q | q
    · exact absurd rfl (dis x (w.cb x hxm.1 hxm.2 (ex ▸ q)) x hx)
    · exact q
  have hlast : cyc[cyc.length - 1]? = some x := by rw [← hl, List.getLast?_eq_getElem?]
  have hlen : 0 < cyc.length := List.length_pos_iff.mpr hne
  obtain ⟨j, hj⟩ := List.mem_iff_getElem?.mp hpc
  have hjl := (List.getElem?_eq_some_iff.mp hj).1
  have hj0 : j = 0 := by
    rcases Nat.eq_zero_or_pos j with z | z
    · exact z
    · have hy : cyc[j - 1]? = some cyc[j - 1] := List.getElem?_eq_getElem (by omega)
      have e1 := w.lk (j - 1) _ pt hy (by rw [show j - 1 + 1 = j by omega]; exact hj)
      have hym := (w.mv _ (List.mem_append_right _ (List.mem_of_getElem? hy))).1
      have e2 : cyc[j - 1] = x := m.inj hym hxm (e1.trans ex)
      have := (List.getElem?_inj (by omega) ndc).mp ((hy.trans (congrArg some e2)).trans hlast.symm)
      omega
  subst hj0
  have es : pt = s := by
    rw [List.head?_eq_getElem?] at hh
    rw [hj] at hh
    exact Option.some.inj hh
  refine ⟨hh, es, ?_⟩
  rcases Nat.lt_or_ge cyc.length 2 with z | z
  · have h1 : cyc.length - 1 = 0 := by omega
    rw [h1, hj] at hlast
    have := Option.some.inj hlast
    rw [← this] at ex
    exact absurd ex.symm (w.mv pt (List.mem_append_right _ hpc)).2
  · exact z
/-- in a closed round each one's image is the next, the last one's the first -/
theorem Walk.ring {ns fl cyc : List Int} {s pt : Int} (m : Mv ns) (w : Walk ns fl cyc s pt) (h : pt ∈ fl ++ cyc) : ∀ k x, cyc[k]? = some x → cyc[(k + 1) % cyc.length]? = some (im ns x) := by
  obtain ⟨hh, es, h2⟩ := w.over m h
  intro k x hx
  have hk := (List.getElem?_eq_some_iff.mp hx).1
  by_cases hl : k + 1 < cyc.length
  · rw [Nat.mod_eq_of_lt hl]
    have hy : cyc[k + 1]? = some cyc[k + 1] := List.getElem?_eq_getElem hl
    rw [hy, w.lk k x _ hx hy]
  · have e : k + 1 = cyc.length := by omega
    rw [e, Nat.mod_self, ← List.head?_eq_getElem?, hh]
    have hlast : cyc.getLast? = some x := by rw [List.getLast?_eq_getElem?, ← hx]; congr 1; omega
    rw [← w.pt1 x hlast, es]
theorem Walk.closed {ns fl cyc : List Int} {s pt : Int} (m : Mv ns) (w : Walk ns fl cyc s pt) (h : pt ∈ fl ++ cyc) :
    (∀ p ∈ fl ++ cyc, im ns p ∈ fl ++ cyc) ∧ ∀ p : Int, 0 ≤ p → p < ns.length → im ns p ∈ fl ++ cyc → p ∈ fl ++ cyc := by
  obtain ⟨hh, es, h2⟩ := w.over m h
  have rg := w.ring m h
  refine ⟨fun p hp => ?_, fun p h0 h1 hp => ?_⟩
  · rcases List.mem_append.mp hp with q | q
    · exact List.mem_append_left _ (w.cl p q)
    · obtain ⟨k, hk⟩ := List.mem_iff_getElem?.mp q
      exact List.mem_append_right _ (List.mem_of_getElem? (rg k p hk))
  · rcases List.mem_append.mp hp with q | q
    · exact List.mem_append_left _ (w.cb p h0 h1 q)
    · obtain ⟨k, hk⟩ := List.mem_iff_getElem?.mp q
      have hkl := (List.getElem?_eq_some_iff.mp hk).1
      -- the one before k
      have hb : ∃ j x, cyc[j]? = some x ∧ (j + 1) % cyc.length = k := by
        rcases Nat.eq_zero_or_pos k with z | z
        · exact ⟨cyc.length - 1, _, List.getElem?_eq_getElem (by omega), by rw [show cyc.length - 1 + 1 = cyc.length by omega, Nat.mod_self, z]⟩
        · exact ⟨k - 1, _, List.getElem?_eq_getElem (by omega), by rw [show k - 1 + 1 = k by omega, Nat.mod_eq_of_lt hkl]⟩
      obtain ⟨j, x, hx, hjk⟩ := hb
      have e := rg j x hx
      rw [hjk, hk] at e
      have hxm := (w.mv x (List.mem_append_right _ (List.mem_of_getElem? hx))).1
      have : p = x := m.inj ⟨h0, h1⟩ hxm (Option.some.inj e)
      rw [this]
      exact List.mem_append_right _ (List.mem_of_getElem? hx)
/-- a whole round, its least point first -/
structure Ring (ns : List Int) (c : List Int) : Prop where
  two : 2 ≤ c.length
  least : ∀ y ∈ c, c.headD 0 ≤ y
  ring : ∀ k x, c[k]? = some x → c[(k + 1) % c.length]? = some (im ns x)
/-- the rounds found ahead of the start i -/
structure Outer (ns : List Int) (cs : List (List Int)) (i : Int) : Prop where
  nd : cs.flatten.Nodup
  mv : ∀ p ∈ cs.flatten, (0 ≤ p ∧ p < ns.length) ∧ im ns p ≠ p
  cl : ∀ p ∈ cs.flatten, im ns p ∈ cs.flatten
  cb : ∀ p : Int, 0 ≤ p → p < ns.length → im ns p ∈ cs.flatten → p ∈ cs.flatten
  below : ∀ p : Int, 0 ≤ p → p < i → p < ns.length → im ns p ≠ p → p ∈ cs.flatten
  rows : ∀ c ∈ cs, Ring ns c
  asc : (cs.map fun c => c.headD 0).Pairwise (· < ·)
  low : ∀ c ∈ cs, c.headD 0 < i
theorem Outer.start {ns : List Int} : Outer ns [] 0 := ⟨by simp, by simp, by simp, by simp, fun p h0 h1 => by omega, by simp, by simp, by simp⟩
theorem Outer.skip {ns : List Int} {cs : List (List Int)} {i : Int} (o : Outer ns cs i) (h : i ∈ cs.flatten ∨ im ns i = i) : Outer ns cs (i + 1) :=
  ⟨o.nd, o.mv, o.cl, o.cb, fun p h0 h1 h2 h3 => by
    by_cases e : p = i
    · subst e
      exact h.resolve_right h3
    · exact o.below p h0 (by omega) h2 h3, o.rows, o.asc, fun c hc => by have := o.low c hc; omega⟩
theorem Outer.add {ns : List Int} {cs : List (List Int)} {i pt : Int} {cyc : List Int} (m : Mv ns) (o : Outer ns cs i) (w : Walk ns cs.flatten cyc i pt) (h : pt ∈ cs.flatten ++ cyc) : Outer ns (cs ++ [cyc]) (i + 1) := by
  obtain ⟨hh, es, h2⟩ := w.over m h
  obtain ⟨c1, c2⟩ := w.closed m h
  have ef : (cs ++ [cyc]).flatten = cs.flatten ++ cyc := by simp
  have hhd : cyc.headD 0 = i := by rw [List.headD_eq_head?_getD, hh]; rfl
  have hi : i ∈ cyc := List.mem_of_mem_head? (by rw [hh]; rfl)
  have dis := (List.nodup_append.mp w.nd).2.2
  refine ⟨by rw [ef]; exact w.nd, by rw [ef]; exact w.mv, by rw [ef]; exact c1, by rw [ef]; exact c2, fun p h0 h1 h2 h3 => ?_, fun c hc => ?_, ?_, fun c hc => ?_⟩
  · rw [ef]
    by_cases e : p = i
    · subst e
      exact List.mem_append_right _ hi
    · exact List.mem_append_left _ (o.below p h0 (by omega) h2 h3)
  · rcases List.mem_append.mp hc with q | q
    · exact o.rows c q
    · rw [List.mem_singleton.mp q]
      refine ⟨h2, fun y hy => ?_, w.ring m h⟩
      rw [hhd]
      have hym := w.mv y (List.mem_append_right _ hy)
      rcases Int.lt_or_le y i with z | z
      · exact absurd rfl (dis y (o.below y hym.1.1 z hym.1.2 hym.2) y hy)
      · exact z
  · rw [List.map_append, List.pairwise_append]
    refine ⟨o.asc, by simp, fun x hx y hy => ?_⟩
    obtain ⟨c, hc, rfl⟩ := List.mem_map.mp hx
    have ey : y = i := (List.mem_singleton.mp hy).trans hhd
    rw [ey]
    exact o.low c hc
  · rcases List.mem_append.mp hc with q | q
    · have := o.low c q
      omega
    · rw [List.mem_singleton.mp q, hhd]
      omega

/-! ## HoO -/
def it (ns : List Int) : Nat → Int → Int
  | 0, p => p
  | k + 1, p => im ns (it ns k p)
def InR (ns : List Int) (p : Int) : Prop := 0 ≤ p ∧ p < ns.length
section
variable {ns : List Int}
theorem it_rg (m : Mv ns) {p : Int} (h : InR ns p) : ∀ k, InR ns (it ns k p)
  | 0 => h
  | k + 1 => (m.at (it_rg m h k)).2
theorem it_add {p : Int} (a : Nat) : ∀ b, it ns (a + b) p = it ns b (it ns a p)
  | 0 => rfl
  | b + 1 => by
    show im ns (it ns (a + b) p) = im ns (it ns b (it ns a p))
    rw [it_add a b]
theorem it_inj (m : Mv ns) {p q : Int} (hp : InR ns p) (hq : InR ns q) : ∀ k, it ns k p = it ns k q → p = q
  | 0, h => h
  | k + 1, h => it_inj m hp hq k (m.inj (it_rg m hp k) (it_rg m hq k) h)
theorem it_back (m : Mv ns) {p : Int} (hp : InR ns p) {i j : Nat} (h : i ≤ j) (e : it ns i p = it ns j p) : it ns (j - i) p = p := by
  have e2 : it ns j p = it ns i (it ns (j - i) p) := by
    rw [← it_add, show j - i + i = j by omega]
  exact (it_inj m hp (it_rg m hp _) i (e.trans e2)).symm
theorem it_ret (m : Mv ns) {p : Int} (hp : InR ns p) : ∃ k, 1 ≤ k ∧ k ≤ ns.length ∧ it ns k p = p := by
  refine Classical.byContradiction fun hn => ?_
  have nd : ((List.range (ns.length + 1)).map fun k => it ns k p).Nodup := by
    rw [List.nodup_iff_pairwise_ne, List.pairwise_map]
    refine List.nodup_range.imp_of_mem fun {i j} hi hj hne e => ?_
    have hi := List.mem_range.mp hi
    have hj := List.mem_range.mp hj
    rcases Nat.lt_or_gt_of_ne hne with h | h
    · exact hn ⟨j - i, by omega, by omega, it_back m hp (by omega) e⟩
    · exact hn ⟨i - j, by omega, by omega, it_back m hp (by omega) e.symm⟩
  have := nd.length_le_of_subset (l₂ := rng ns.length) fun z hz => by
    obtain ⟨k, _, rfl⟩ := List.mem_map.mp hz
    exact mem_rng.mpr (it_rg m hp k)
  rw [List.length_map, List.length_range, rng_len] at this
  omega
/-- the size of the round of p -/
def ell (ns : List Int) (p : Int) : Nat := ((List.range ns.length).find? fun k => decide (it ns (k + 1) p = p)).getD 0 + 1
theorem ell_spec (m : Mv ns) {p : Int} (hp : InR ns p) : ell ns p ≤ ns.length ∧ it ns (ell ns p) p = p ∧ ∀ k, 1 ≤ k → k < ell ns p → it ns k p ≠ p := by
  obtain ⟨k, k1, k2, k3⟩ := it_ret m hp
  unfold ell
  cases e : (List.range ns.length).find? fun k => decide (it ns (k + 1) p = p) with
  | none =>
    rw [List.find?_eq_none] at e
    have := e (k - 1) (List.mem_range.mpr (by omega))
    rw [show k - 1 + 1 = k by omega] at this
    exact absurd (decide_eq_true k3) this
  | some j =>
    rw [List.find?_range_eq_some] at e
    obtain ⟨e1, e2, e3⟩ := e
    have e2 := List.mem_range.mp e2
    refine ⟨by show j + 1 ≤ _; omega, of_decide_eq_true e1, fun k h1 h2 z => ?_⟩
    have h2 : k < j + 1 := h2
    have := e3 (k - 1) (by omega)
    rw [show k - 1 + 1 = k by omega, decide_eq_true z] at this
    cases this
theorem ell_pos {p : Int} : 1 ≤ ell ns p := by unfold ell; omega
theorem it_mul {p : Int} {d : Nat} (h : it ns d p = p) : ∀ k, it ns (d * k) p = p
  | 0 => rfl
  | k + 1 => by rw [Nat.mul_succ, it_add, it_mul h k, h]
theorem it_mod {p : Int} {d : Nat} (h : it ns d p = p) (k : Nat) : it ns (k % d) p = it ns k p := by
  conv => rhs; rw [← Nat.div_add_mod k d, it_add, it_mul h]
theorem ell_dvd (m : Mv ns) {p : Int} (hp : InR ns p) {k : Nat} (h : it ns k p = p) : ell ns p ∣ k := by
  have s := ell_spec m hp
  refine Nat.dvd_of_mod_eq_zero (Classical.byContradiction fun hn => ?_)
  have hl := Nat.mod_lt k (ell_pos (ns := ns) (p := p))
  exact s.2.2 (k % ell ns p) (by omega) hl (by rw [it_mod s.2.1]; exact h)
/-- the points of the round of p -/
def orb (ns : List Int) (p : Int) : List Int := (List.range (ell ns p)).map fun k => it ns k p
theorem orb_nd (m : Mv ns) {p : Int} (hp : InR ns p) : (orb ns p).Nodup := by
  have s := ell_spec m hp
  unfold orb
  rw [List.nodup_iff_pairwise_ne, List.pairwise_map]
  refine List.nodup_range.imp_of_mem fun {i j} hi hj hne e => ?_
  have hi := List.mem_range.mp hi
  have hj := List.mem_range.mp hj
  rcases Nat.lt_or_gt_of_ne hne with h | h
  · exact s.2.2 (j - i) (by omega) (by omega) (it_back m hp (by omega) e)
  · exact s.2.2 (i - j) (by omega) (by omega) (it_back m hp (by omega) e.symm)
theorem ell_it (m : Mv ns) {p : Int} (hp : InR ns p) (k : Nat) : ell ns (it ns k p) = ell ns p := by
  have comm : ∀ a, it ns a (it ns k p) = it ns k (it ns a p) := fun a => by rw [← it_add, ← it_add, Nat.add_comm]
  have s := ell_spec m hp
  have hq := it_rg m hp k
  refine Nat.dvd_antisymm (ell_dvd m hq (by rw [comm, s.2.1])) (ell_dvd m hp ?_)
  have s2 := ell_spec m hq
  have h := s2.2.1
  rw [comm] at h
  exact it_inj m (it_rg m hp _) hp k h
end
def subs : List Nat → List (List Nat)
  | [] => [[]]
  | x :: r => subs r ++ (subs r).map (x :: ·)
theorem filter_subs (p : Nat → Bool) : ∀ l, l.filter p ∈ subs l
  | [] => List.mem_singleton.mpr rfl
  | x :: r => by
    show (x :: r).filter p ∈ subs r ++ (subs r).map (x :: ·)
    rw [List.filter_cons]
    split
    · exact List.mem_append_right _ (List.mem_map_of_mem (filter_subs p r))
    · exact List.mem_append_left _ (filter_subs p r)
theorem lcm_60 : ∀ S ∈ subs (List.range' 1 12), S.sum ≤ 12 → S.foldr Nat.lcm 1 ≤ 60 := by decide +kernel
theorem dvd_lcms {d : Nat} : ∀ {S : List Nat}, d ∈ S → d ∣ S.foldr Nat.lcm 1
  | x :: r, h => by
    rw [List.foldr_cons]
    rcases List.mem_cons.mp h with e | h
    · rw [e]; exact Nat.dvd_lcm_left _ _
    · exact Nat.dvd_trans (dvd_lcms h) (Nat.dvd_lcm_right _ _)
theorem lcms_pos : ∀ {S : List Nat}, (∀ d ∈ S, 1 ≤ d) → 1 ≤ S.foldr Nat.lcm 1
  | [], _ => Nat.le_refl _
  | x :: r, h => by
    rw [List.foldr_cons]
    exact Nat.lcm_pos (h x List.mem_cons_self) (lcms_pos fun d hd => h d (List.mem_cons_of_mem _ hd))
/-- some k from 1 to 60 leads each point back -/
theorem order_60 {ns : List Int} (m : Mv ns) (hn : ns.length ≤ 12) : ∃ k, 1 ≤ k ∧ k ≤ 60 ∧ ∀ p, InR ns p → it ns k p = p := by
  let pr : Nat → Bool := fun d => (rng ns.length).any fun p => decide (ell ns p = d)
  let S := (List.range' 1 12).filter pr
  let rep : Nat → Int := fun d => ((rng ns.length).find? fun p => decide (ell ns p = d)).getD 0
  have hS : ∀ d ∈ S, 1 ≤ d ∧ InR ns (rep d) ∧ ell ns (rep d) = d := fun d hd => by
    obtain ⟨h1, h2⟩ := List.mem_filter.mp hd
    have h1 := (List.mem_range'_1.mp h1).1
    obtain ⟨p, hp, hpe⟩ := List.any_eq_true.mp h2
    cases e : (rng ns.length).find? fun p => decide (ell ns p = d) with
    | none =>
      rw [List.find?_eq_none] at e
      exact absurd hpe (e p hp)
    | some q =>
      have hq := List.mem_of_find?_eq_some e
      have hqe := List.find?_some e
      have er : rep d = q := by show ((rng ns.length).find? fun p => decide (ell ns p = d)).getD 0 = q; rw [e]; rfl
      rw [er]
      exact ⟨h1, mem_rng.mp hq, of_decide_eq_true hqe⟩
  have hnd : (S.map fun d => orb ns (rep d)).flatten.Nodup := by
    rw [List.nodup_iff_pairwise_ne, List.pairwise_flatten]
    refine ⟨fun l hl => ?_, ?_⟩
    · obtain ⟨d, hd, rfl⟩ := List.mem_map.mp hl
      exact orb_nd m (hS d hd).2.1
    · rw [List.pairwise_map]
      have nd : S.Nodup := (List.nodup_range' (step := 1)).filter _
      rw [List.nodup_iff_pairwise_ne] at nd
      refine nd.imp_of_mem fun {a b} ha hb hne x hx y hy e => hne ?_
      obtain ⟨i, _, rfl⟩ := List.mem_map.mp hx
      obtain ⟨j, _, rfl⟩ := List.mem_map.mp hy
      have e2 := congrArg (ell ns) e
      rw [ell_it m (hS a ha).2.1, ell_it m (hS b hb).2.1, (hS a ha).2.2, (hS b hb).2.2] at e2
      exact e2
  have hlen : (S.map fun d => orb ns (rep d)).flatten.length = S.sum := by
    rw [List.length_flatten, List.map_map]
    have : S.map (List.length ∘ fun d => orb ns (rep d)) = S.map id := List.map_congr_left fun d hd => by
      show (orb ns (rep d)).length = d
      unfold orb
      rw [List.length_map, List.length_range, (hS d hd).2.2]
    rw [this, List.map_id]
  have hsum : S.sum ≤ 12 := by
    have h := hnd.length_le_of_subset (l₂ := rng ns.length) fun z hz => by
      obtain ⟨l, hl, hzl⟩ := List.mem_flatten.mp hz
      obtain ⟨d, hd, rfl⟩ := List.mem_map.mp hl
      obtain ⟨i, _, rfl⟩ := List.mem_map.mp hzl
      exact mem_rng.mpr (it_rg m (hS d hd).2.1 i)
    rw [hlen, rng_len] at h
    omega
  refine ⟨S.foldr Nat.lcm 1, lcms_pos fun d hd => (hS d hd).1, lcm_60 S (filter_subs _ _) hsum, fun p hp => ?_⟩
  have s := ell_spec m hp
  have hm : ell ns p ∈ S := List.mem_filter.mpr ⟨List.mem_range'_1.mpr ⟨ell_pos, by omega⟩, List.any_eq_true.mpr ⟨p, mem_rng.mpr hp, decide_eq_true rfl⟩⟩
  obtain ⟨k, hk⟩ := dvd_lcms hm
  rw [hk]
  exact it_mul s.2.1 k

/-! ## HoD -/
section
variable {ns : List Int}
theorem orb_at {p : Int} {k : Nat} (h : k < ell ns p) : (orb ns p)[k]? = some (it ns k p) := by
  unfold orb
  rw [List.getElem?_map, List.getElem?_range h]
  rfl
theorem orb_len {p : Int} : (orb ns p).length = ell ns p := by
  unfold orb
  rw [List.length_map, List.length_range]
/-- a round, from its least point on -/
theorem ring_orb (m : Mv ns) {c : List Int} (r : Ring ns c) (nd : c.Nodup) (rg : ∀ z ∈ c, InR ns z) : c.headD 0 ∈ c ∧ c = orb ns (c.headD 0) := by
  have two := r.two
  have h0 : c[0]? = some (c.headD 0) := by
    cases c with
    | nil => simp at two
    | cons x r => rfl
  have hm := List.mem_of_getElem? h0
  generalize c.headD 0 = h at h0 hm
  have at_ : ∀ k, k < c.length → c[k]? = some (it ns k h) := by
    intro k
    induction k with
    | zero => exact fun _ => h0
    | succ k ih =>
      intro hk
      have := r.ring k _ (ih (by omega))
      rw [Nat.mod_eq_of_lt hk] at this
      exact this
  have back : it ns c.length h = h := by
    have := r.ring (c.length - 1) _ (at_ (c.length - 1) (by omega))
    rw [show c.length - 1 + 1 = c.length by omega, Nat.mod_self, h0] at this
    have e := Option.some.inj this
    have e2 : it ns c.length h = im ns (it ns (c.length - 1) h) := by
      conv => lhs; rw [show c.length = c.length - 1 + 1 by omega]
      rfl
    rw [e2]
    exact e.symm
  obtain ⟨l1, l2, l3⟩ := ell_spec m (rg h hm)
  have el : ell ns h = c.length := by
    rcases Nat.lt_trichotomy (ell ns h) c.length with q | q | q
    · have e1 := at_ _ q
      rw [l2] at e1
      have := (List.getElem?_inj (i := 0) (by omega) nd).mp (h0.trans e1.symm)
      have := ell_pos (ns := ns) (p := h)
      omega
    · exact q
    · exact absurd back (l3 _ (by omega) q)
  refine ⟨hm, List.ext_getElem? fun k => ?_⟩
  by_cases hk : k < c.length
  · rw [at_ k hk, orb_at (by omega)]
  · rw [List.getElem?_eq_none (by omega), List.getElem?_eq_none (by rw [orb_len]; omega)]
/-- p is moved, the least of its round -/
def isHd (ns : List Int) (p : Int) : Bool := decide (im ns p ≠ p ∧ ∀ q ∈ orb ns p, p ≤ q)
def cyc (ns : List Int) : List (List Int) := ((rng ns.length).filter (isHd ns)).map (orb ns)
theorem rng_lt (n : Nat) : (rng n).Pairwise (· < ·) := by
  unfold rng
  rw [List.pairwise_map]
  exact List.pairwise_lt_range.imp fun h => by omega
theorem orb_it (m : Mv ns) {p q : Int} (hp : InR ns p) (h : q ∈ orb ns p) : p ∈ orb ns q ∧ ∀ z, z ∈ orb ns q ↔ z ∈ orb ns p := by
  have gen : ∀ {a b : Int}, InR ns a → b ∈ orb ns a → a ∈ orb ns b ∧ ∀ z, z ∈ orb ns b → z ∈ orb ns a := by
    intro a b ha hb
    unfold orb at hb
    obtain ⟨k, hk, rfl⟩ := List.mem_map.mp hb
    have hk := List.mem_range.mp hk
    obtain ⟨l1, l2, l3⟩ := ell_spec m ha
    have eb := ell_it m ha k
    have mk : ∀ {x : Int} (j : Nat), InR ns x → it ns j x ∈ orb ns x := fun {x} j hx => by
      have hl := (ell_spec m hx).2.1
      have hp := ell_pos (ns := ns) (p := x)
      rw [← it_mod hl j]
      exact List.mem_map.mpr ⟨j % ell ns x, List.mem_range.mpr (Nat.mod_lt _ hp), rfl⟩
    refine ⟨?_, fun z hz => ?_⟩
    · have := mk (x := it ns k a) (ell ns a - k) (it_rg m ha k)
      rw [← it_add, show k + (ell ns a - k) = ell ns a by omega, l2] at this
      exact this
    · unfold orb at hz
      obtain ⟨j, _, rfl⟩ := List.mem_map.mp hz
      rw [← it_add]
      exact mk _ ha
  obtain ⟨g1, g2⟩ := gen hp h
  have hq : InR ns q := by
    unfold orb at h
    obtain ⟨k, _, rfl⟩ := List.mem_map.mp h
    exact it_rg m hp k
  exact ⟨g1, fun z => ⟨g2 z, (gen hq g1).2 z⟩⟩
theorem orb_self (m : Mv ns) {p : Int} (hp : InR ns p) : p ∈ orb ns p := List.mem_of_getElem? (orb_at (k := 0) ell_pos)
theorem outer_cyc (m : Mv ns) {cs : List (List Int)} (o : Outer ns cs ns.length) : cs = cyc ns := by
  have nd1 : ∀ c ∈ cs, c.Nodup := fun c hc => by
    exact o.nd.sublist (List.sublist_flatten_of_mem hc)
  have rg1 : ∀ c ∈ cs, ∀ z ∈ c, InR ns z := fun c hc z hz => (o.mv z (List.mem_flatten.mpr ⟨c, hc, hz⟩)).1
  have ro : ∀ c ∈ cs, c.headD 0 ∈ c ∧ c = orb ns (c.headD 0) := fun c hc => ring_orb m (o.rows c hc) (nd1 c hc) (rg1 c hc)
  have hh : cs.map (fun c => c.headD 0) = (rng ns.length).filter (isHd ns) := by
    have s1 := o.asc
    have s2 : ((rng ns.length).filter (isHd ns)).Pairwise (· < ·) := (rng_lt _).filter _
    have n1 : (cs.map fun c => c.headD 0).Nodup := s1.imp fun h => by omega
    have n2 : ((rng ns.length).filter (isHd ns)).Nodup := s2.imp fun h => by omega
    refine perm_sorted_eq ((List.perm_ext_iff_of_nodup n1 n2).mpr fun z => ?_) (s1.imp fun h => by omega) (s2.imp fun h => by omega)
    rw [List.mem_filter]
    constructor
    · intro hz
      obtain ⟨c, hc, rfl⟩ := List.mem_map.mp hz
      obtain ⟨h1, h2⟩ := ro c hc
      have h3 := rg1 c hc _ h1
      refine ⟨mem_rng.mpr h3, decide_eq_true ⟨(o.mv _ (List.mem_flatten.mpr ⟨c, hc, h1⟩)).2, fun q hq => ?_⟩⟩
      rw [← h2] at hq
      exact (o.rows c hc).least q hq
    · intro ⟨hz, hd⟩
      obtain ⟨d1, d2⟩ := of_decide_eq_true hd
      have hz := mem_rng.mp hz
      obtain ⟨c, hc, hzc⟩ := List.mem_flatten.mp (o.below z hz.1 hz.2 hz.2 d1)
      obtain ⟨h1, h2⟩ := ro c hc
      have hr := rg1 c hc _ h1
      have hzo : z ∈ orb ns (c.headD 0) := by rw [← h2]; exact hzc
      obtain ⟨e1, e2⟩ := orb_it m hr hzo
      have le1 := d2 _ e1
      have le2 := (o.rows c hc).least z hzc
      have : z = c.headD 0 := by omega
      rw [this]
      exact List.mem_map.mpr ⟨c, hc, rfl⟩
  unfold cyc
  rw [← hh, List.map_map]
  conv => lhs; rw [← List.map_id cs]
  exact List.map_congr_left fun c hc => (ro c hc).2
end

/-! ## HoI -/
def rotL (c : List Int) : List Int := c.tail ++ c.head?.toList
def rotR (c : List Int) : List Int := c.getLast?.toList ++ c.dropLast
theorem rotL_perm : ∀ c : List Int, (rotL c).Perm c
  | [] => .refl _
  | x :: r => by
    show (r ++ [x]).Perm (x :: r)
    exact List.perm_append_comm
theorem rotR_perm (c : List Int) : (rotR c).Perm c := by
  unfold rotR
  cases h : c.getLast? with
  | none =>
    have : c = [] := List.getLast?_eq_none_iff.mp h
    subst this
    exact .refl _
  | some x =>
    have e : c = c.dropLast ++ [x] := by
      obtain ⟨l, rfl⟩ := List.getLast?_eq_some_iff.mp h
      simp
    conv => rhs; rw [e]
    exact List.perm_append_comm
theorem rotL_len (c : List Int) : (rotL c).length = c.length := (rotL_perm c).length_eq
theorem rotR_len (c : List Int) : (rotR c).length = c.length := (rotR_perm c).length_eq
theorem rotL_at {c : List Int} {k : Nat} (h : k < c.length) : (rotL c)[k]? = c[(k + 1) % c.length]? := by
  cases c with
  | nil => simp at h
  | cons x r =>
    show (r ++ [x])[k]? = (x :: r)[(k + 1) % (r.length + 1)]?
    rw [List.length_cons] at h
    by_cases e : k = r.length
    · subst e
      rw [Nat.mod_self, List.getElem?_append_right (Nat.le_refl _), Nat.sub_self]
      rfl
    · rw [Nat.mod_eq_of_lt (by omega), List.getElem?_append_left (by omega)]
      rfl
theorem rotR_at0 {c : List Int} {z : Int} (h : c[c.length - 1]? = some z) : (rotR c)[0]? = some z := by
  unfold rotR
  rw [List.getLast?_eq_getElem?, h]
  rfl
theorem rotR_at1 {c : List Int} {k : Nat} (h : k + 1 < c.length) : (rotR c)[k + 1]? = c[k]? := by
  unfold rotR
  have hl : c.getLast?.toList.length = 1 := by
    rw [List.getLast?_eq_getElem?, List.getElem?_eq_getElem (show c.length - 1 < c.length by omega)]
    rfl
  rw [List.getElem?_append_right (by omega), hl, List.getElem?_dropLast]
  have : k + 1 - 1 = k := by omega
  rw [this, if_pos (by omega)]
theorem rotL_rotR {c : List Int} : rotL (rotR c) = c := by
  cases h : c.getLast? with
  | none =>
    have : c = [] := List.getLast?_eq_none_iff.mp h
    subst this
    rfl
  | some x =>
    obtain ⟨l, rfl⟩ := List.getLast?_eq_some_iff.mp h
    unfold rotR rotL
    simp
def asg (im : List Int) (ps : List (Int × Int)) : List Int := ps.foldl (fun im q => im.set q.1.toNat q.2) im
theorem asg_snoc {im : List Int} {ps : List (Int × Int)} {q : Int × Int} : asg im (ps ++ [q]) = (asg im ps).set q.1.toNat q.2 := by
  unfold asg
  rw [List.foldl_append]
  rfl
theorem asg_len : ∀ {ps : List (Int × Int)} {im : List Int}, (asg im ps).length = im.length
  | [], _ => rfl
  | q :: r, im => by
    have := asg_len (ps := r) (im := im.set q.1.toNat q.2)
    rw [List.length_set] at this
    exact this
theorem asg_ne : ∀ {ps : List (Int × Int)} {im : List Int} {p : Nat}, (∀ q ∈ ps, q.1.toNat ≠ p) → (asg im ps)[p]? = im[p]?
  | [], _, _, _ => rfl
  | q :: r, im, p, h => by
    have := asg_ne (ps := r) (im := im.set q.1.toNat q.2) (p := p) fun q' hq => h q' (List.mem_cons_of_mem _ hq)
    rw [List.getElem?_set_ne (h q List.mem_cons_self)] at this
    exact this
theorem asg_eq : ∀ {ps : List (Int × Int)} {im : List Int} {a b : Int}, (ps.map fun q => q.1.toNat).Nodup → (a, b) ∈ ps → a.toNat < im.length → (asg im ps)[a.toNat]? = some b
  | [], _, _, _, _, h, _ => by cases h
  | q :: r, im, a, b, nd, h, hl => by
    rw [List.map_cons, List.nodup_cons] at nd
    rcases List.mem_cons.mp h with e | h'
    · subst e
      have := asg_ne (ps := r) (im := im.set a.toNat b) (p := a.toNat) fun q' hq e => nd.1 (List.mem_map.mpr ⟨q', hq, e⟩)
      rw [List.getElem?_set_self hl] at this
      exact this
    · exact asg_eq (ps := r) (im := im.set q.1.toNat q.2) nd.2 h' (by rw [List.length_set]; exact hl)
def prA (c : List Int) : List (Int × Int) := c.zip (rotL c)
def prB (c : List Int) : List (Int × Int) := (rotR c).zip c
structure Img (n : Nat) (rs : List (List Int)) (im : List Int) : Prop where
  len : im.length = n
  on : ∀ c ∈ rs, ∀ (k : Nat) (z : Int), c[k]? = some z → im[z.toNat]? = (rotL c)[k]?
  off : ∀ p : Nat, p < n → (p : Int) ∉ rs.flatten → im[p]? = some (p : Int)
structure Rws (n : Nat) (rs : List (List Int)) : Prop where
  nd : rs.flatten.Nodup
  rg : ∀ z ∈ rs.flatten, 0 ≤ z ∧ z < n
theorem toNat_nd {l : List Int} (nd : l.Nodup) (h : ∀ z ∈ l, 0 ≤ z) : (l.map Int.toNat).Nodup := by
  rw [List.nodup_iff_pairwise_ne, List.pairwise_map]
  rw [List.nodup_iff_pairwise_ne] at nd
  refine nd.imp_of_mem fun {a b} ha hb hne e => hne ?_
  have := h a ha
  have := h b hb
  omega
theorem img_of {n : Nat} {rs : List (List Int)} {ps : List (Int × Int)} (r : Rws n rs) (hf : (ps.map Prod.fst).Perm rs.flatten) (hon : ∀ c ∈ rs, ∀ (k : Nat) (z y : Int), c[k]? = some z → (rotL c)[k]? = some y → (z, y) ∈ ps) : Img n rs (asg (rng n) ps) := by
  have nd : (ps.map fun q => q.1.toNat).Nodup := by
    have e : (ps.map fun q => q.1.toNat) = (ps.map Prod.fst).map Int.toNat := by rw [List.map_map]; rfl
    rw [e]
    exact toNat_nd (hf.nodup_iff.mpr r.nd) fun z hz => (r.rg z (hf.mem_iff.mp hz)).1
  refine ⟨by rw [asg_len, rng_len], fun c hc k z hz => ?_, fun p hp hn => ?_⟩
  · have hk := (List.getElem?_eq_some_iff.mp hz).1
    have hk2 : k < (rotL c).length := by rw [rotL_len]; exact hk
    have hy := List.getElem?_eq_getElem hk2
    have hg := r.rg z (List.mem_flatten.mpr ⟨c, hc, List.mem_of_getElem? hz⟩)
    rw [hy]
    exact asg_eq nd (hon c hc k z _ hz hy) (by rw [rng_len]; omega)
  · rw [asg_ne, rng_get hp]
    intro q hq e
    have hm := hf.mem_iff.mp (List.mem_map.mpr ⟨q, hq, rfl⟩)
    have := (r.rg _ hm).1
    exact hn (by have e2 : (p : Int) = q.1 := by omega
                 rw [e2]; exact hm)
theorem img_A {n : Nat} {rs : List (List Int)} (r : Rws n rs) : Img n rs (asg (rng n) (rs.flatMap prA)) := by
  refine img_of r ?_ fun c hc k z y hz hy => List.mem_flatMap.mpr ⟨c, hc, List.mem_of_getElem? (i := k) (by unfold prA; rw [List.getElem?_zip_eq_some]; exact ⟨hz, hy⟩)⟩
  have e : (rs.flatMap prA).map Prod.fst = rs.flatten := by
    rw [List.map_flatMap]
    have : (fun c => (prA c).map Prod.fst) = fun c : List Int => c := by
      funext c
      unfold prA
      rw [List.map_fst_zip]
      rw [rotL_len]
      exact Nat.le_refl _
    rw [this, List.flatMap_id']
  rw [e]
theorem flatMap_perm {f g : List Int → List Int} (h : ∀ c, (f c).Perm (g c)) : ∀ rs : List (List Int), (rs.flatMap f).Perm (rs.flatMap g)
  | [] => .refl _
  | c :: r => by
    rw [List.flatMap_cons, List.flatMap_cons]
    exact (h c).append (flatMap_perm h r)
theorem img_B {n : Nat} {rs : List (List Int)} (r : Rws n rs) : Img n rs (asg (rng n) (rs.flatMap prB)) := by
  refine img_of r ?_ fun c hc k z y hz hy => ?_
  · have e : (rs.flatMap prB).map Prod.fst = rs.flatMap rotR := by
      rw [List.map_flatMap]
      congr 1
      funext c
      unfold prB
      rw [List.map_fst_zip]
      rw [rotR_len]
      exact Nat.le_refl _
    rw [e]
    have := flatMap_perm rotR_perm rs
    rw [List.flatMap_id'] at this
    exact this
  · have hk := (List.getElem?_eq_some_iff.mp hz).1
    rw [rotL_at hk] at hy
    refine List.mem_flatMap.mpr ⟨c, hc, List.mem_of_getElem? (i := (k + 1) % c.length) ?_⟩
    unfold prB
    rw [List.getElem?_zip_eq_some]
    refine ⟨?_, hy⟩
    by_cases e : k + 1 = c.length
    · rw [e, Nat.mod_self]
      exact rotR_at0 (by rw [← e]; exact hz)
    · rw [Nat.mod_eq_of_lt (by omega), rotR_at1 (by omega)]
      exact hz
theorem Img.uniq {n : Nat} {rs : List (List Int)} {a b : List Int} (x : Img n rs a) (y : Img n rs b) : a = b := by
  refine List.ext_getElem? fun p => ?_
  by_cases hp : p < n
  · by_cases hm : (p : Int) ∈ rs.flatten
    · obtain ⟨c, hc, hpc⟩ := List.mem_flatten.mp hm
      obtain ⟨k, hk⟩ := List.mem_iff_getElem?.mp hpc
      have h1 := x.on c hc k _ hk
      have h2 := y.on c hc k _ hk
      rw [Int.toNat_natCast] at h1 h2
      rw [h1, h2]
    · rw [x.off p hp hm, y.off p hp hm]
  · rw [List.getElem?_eq_none (by rw [x.len]; omega), List.getElem?_eq_none (by rw [y.len]; omega)]
theorem Img.perm {n : Nat} {rs : List (List Int)} {a : List Int} (x : Img n rs a) (r : Rws n rs) : a.Perm (rng n) := by
  refine sub_perm (rng_nodup n) (fun q hq => ?_) (by rw [x.len, rng_len]; exact Nat.le_refl _)
  obtain ⟨q0, q1⟩ := mem_rng.mp hq
  by_cases hm : q ∈ rs.flatten
  · obtain ⟨c, hc, hqc⟩ := List.mem_flatten.mp hm
    obtain ⟨k, hk⟩ := List.mem_iff_getElem?.mp ((rotL_perm c).mem_iff.mpr hqc)
    have hkl : k < c.length := by
      have := (List.getElem?_eq_some_iff.mp hk).1
      rwa [rotL_len] at this
    have h1 := x.on c hc k _ (List.getElem?_eq_getElem hkl)
    rw [hk] at h1
    exact List.mem_of_getElem? h1
  · have := x.off q.toNat (by omega) (by rw [Int.toNat_of_nonneg q0]; exact hm)
    rw [Int.toNat_of_nonneg q0] at this
    exact List.mem_of_getElem? this

/-! ## HoL -/
/-- a point's text -/
def pt (i : Nat) : Str := Str.ofString (toString (i : Int))
theorem tl_pt (i : Nat) : TL.tl (pt i) = TL.numL i := TL.tl_num i
theorem pt_inj {i j : Nat} (h : pt i = pt j) : i = j := by
  have := congrArg TL.tl h
  rw [tl_pt, tl_pt] at this
  exact TL.numL_inj this
theorem pt_ne (i : Nat) : TL.tl (pt i) ≠ [] := by rw [tl_pt]; exact TL.numL_ne i
theorem pt_len {i : Nat} (h : i < 1000) : 1 ≤ (pt i).length ∧ (pt i).length ≤ 3 := by
  have h1 := TL.numL_len (n := i) (k := 3) (by decide) (by omega)
  have h2 := TL.numL_ne i
  rw [TL.len_tl, tl_pt]
  exact ⟨List.length_pos_iff.mpr h2, h1⟩
theorem pt_digits (i : Nat) : ∀ c ∈ TL.tl (pt i), 48 ≤ c ∧ c ≤ 57 := fun c hc => by
  rw [tl_pt] at hc
  have := TL.numL_digits i c hc
  omega
/-- digits in the plain writing are a number's text -/
theorem dig3 {l : List Nat} (hd : ∀ c ∈ l, 48 ≤ c ∧ c ≤ 57) (h1 : 1 ≤ l.length) (h3 : l.length ≤ 3) (hz : 1 < l.length → l[0]? ≠ some 48) : ∃ n < 1000, TL.numL n = l := by
  match l, h1, h3 with
  | [a], _, _ =>
    have ha := hd a (by simp)
    exact ⟨a - 48, by omega, by rw [TL.numL_lt (by omega), show 48 + (a - 48) = a by omega]⟩
  | [a, b], _, _ =>
    have ha := hd a (by simp)
    have hb := hd b (by simp)
    have h0 : a ≠ 48 := fun e => hz (by simp) (by simp [e])
    refine ⟨(a - 48) * 10 + (b - 48), by omega, ?_⟩
    rw [TL.numL_step (by omega), show ((a - 48) * 10 + (b - 48)) / 10 = a - 48 by omega, show ((a - 48) * 10 + (b - 48)) % 10 = b - 48 by omega, TL.numL_lt (by omega), show 48 + (a - 48) = a by omega, show 48 + (b - 48) = b by omega]
    rfl
  | [a, b, c], _, _ =>
    have ha := hd a (by simp)
    have hb := hd b (by simp)
    have hc := hd c (by simp)
    have h0 : a ≠ 48 := fun e => hz (by simp) (by simp [e])
    refine ⟨((a - 48) * 10 + (b - 48)) * 10 + (c - 48), by omega, ?_⟩
    rw [TL.numL_step (by omega), show (((a - 48) * 10 + (b - 48)) * 10 + (c - 48)) / 10 = (a - 48) * 10 + (b - 48) by omega, show (((a - 48) * 10 + (b - 48)) * 10 + (c - 48)) % 10 = c - 48 by omega,
      TL.numL_step (by omega), show ((a - 48) * 10 + (b - 48)) / 10 = a - 48 by omega, show ((a - 48) * 10 + (b - 48)) % 10 = b - 48 by omega, TL.numL_lt (by omega), show 48 + (a - 48) = a by omega, show 48 + (b - 48) = b by omega, show 48 + (c - 48) = c by omega]
    rfl
theorem pt_zero {i : Nat} (h : (TL.tl (pt i))[0]? = some 48) : (TL.tl (pt i)).length = 1 := by
  rw [tl_pt] at h ⊢
  have key : ∀ m : Nat, (TL.numL m)[0]? = some 48 → m = 0 := by
    intro m
    induction m using Nat.strongRecOn with
    | _ m ih =>
      intro hm
      by_cases c : m < 10
      · rw [TL.numL_lt c] at hm
        simp at hm
        exact hm
      · rw [TL.numL_step (by omega)] at hm
        have hne := TL.numL_ne (m / 10)
        rw [List.getElem?_append_left (List.length_pos_iff.mpr hne)] at hm
        have := ih (m / 10) (by omega) hm
        omega
  rw [key i h, TL.numL_lt (by decide)]
  rfl
/-- a word read as a point -/
def rdW (n : Nat) (w : Str) : Option Nat := (List.range n).find? fun i => decide (w = pt i)
theorem rdW_some {n : Nat} {w : Str} {i : Nat} (h : rdW n w = some i) : i < n ∧ w = pt i := by
  unfold rdW at h
  have h1 := List.find?_some h
  have h2 := List.mem_of_find?_eq_some h
  exact ⟨List.mem_range.mp h2, of_decide_eq_true h1⟩
theorem rdW_none {n : Nat} {w : Str} (h : rdW n w = none) : ∀ i < n, w ≠ pt i := fun i hi e => by
  unfold rdW at h
  rw [List.find?_eq_none] at h
  exact h i (List.mem_range.mpr hi) (decide_eq_true e)
theorem rdW_pt {n i : Nat} (h : i < n) : rdW n (pt i) = some i := by
  cases e : rdW n (pt i) with
  | none => exact absurd rfl (rdW_none e i h)
  | some j => rw [pt_inj (rdW_some e).2]
theorem rdW_no {n : Nat} {w : Str} (h : ∀ i < n, w ≠ pt i) : rdW n w = none := by
  cases e : rdW n w with
  | none => rfl
  | some j => exact absurd (rdW_some e).2 (h j (rdW_some e).1)
/-- words read as a row of points, st: the points that stood before -/
def rdRow (n : Nat) : List Int → List Int → List Str → Option (List Int × List Int)
  | st, row, [] => some (st, row)
  | st, row, w :: r => match rdW n w with
    | none => none
    | some i => if (i : Int) ∈ st then none else rdRow n (st ++ [(i : Int)]) (row ++ [(i : Int)]) r
def rdRows (n : Nat) : List Int → List (List Int) → List (List Str) → Option (List Int × List (List Int))
  | st, rows, [] => some (st, rows)
  | st, rows, ws :: r => match rdRow n st [] ws with
    | none => none
    | some (st', row) => rdRows n st' (rows ++ [row]) r
theorem rdRow_cons {n : Nat} {st row : List Int} {w : Str} {r : List Str} : rdRow n st row (w :: r) = (match rdW n w with
    | none => none
    | some i => if (i : Int) ∈ st then none else rdRow n (st ++ [(i : Int)]) (row ++ [(i : Int)]) r) := rfl
theorem rdRows_cons {n : Nat} {st : List Int} {rows : List (List Int)} {ws : List Str} {r : List (List Str)} : rdRows n st rows (ws :: r) = (match rdRow n st [] ws with
    | none => none
    | some (st', row) => rdRows n st' (rows ++ [row]) r) := rfl
theorem rdRow_ok {n : Nat} : ∀ {ws : List Str} {st row st' row' : List Int}, rdRow n st row ws = some (st', row') → st.Nodup → (∀ z ∈ st, 0 ≤ z ∧ z < n) → ∃ c : List Int, row' = row ++ c ∧ st' = st ++ c ∧ st'.Nodup ∧ (∀ z ∈ st', 0 ≤ z ∧ z < n) ∧ c.length = ws.length
  | [], st, row, st', row', h, nd, rg => by
    simp only [rdRow, Option.some.injEq, Prod.mk.injEq] at h
    obtain ⟨rfl, rfl⟩ := h
    exact ⟨[], by simp, by simp, nd, rg, rfl⟩
  | w :: r, st, row, st', row', h, nd, rg => by
    rw [rdRow_cons] at h
    cases e : rdW n w with
    | none => rw [e] at h; cases h
    | some i =>
      rw [e] at h
      have hi := (rdW_some e).1
      by_cases c : (i : Int) ∈ st
      · simp only [if_pos c] at h
        cases h
      · simp only [if_neg c] at h
        obtain ⟨cs, e1, e2, e3, e4, e5⟩ := rdRow_ok h (by
          rw [List.nodup_append]
          exact ⟨nd, by simp, fun a ha b hb e => by rw [List.mem_singleton.mp hb] at e; rw [e] at ha; exact c ha⟩) (fun z hz => by
          rcases List.mem_append.mp hz with hz | hz
          · exact rg z hz
          · rw [List.mem_singleton.mp hz]; omega)
        exact ⟨(i : Int) :: cs, by rw [e1]; simp, by rw [e2]; simp, e3, e4, by simp [e5]⟩
theorem rdRows_ok {n : Nat} : ∀ {ps : List (List Str)} {st st' : List Int} {rows rows' : List (List Int)}, rdRows n st rows ps = some (st', rows') → st = rows.flatten → st.Nodup → (∀ z ∈ st, 0 ≤ z ∧ z < n) → st' = rows'.flatten ∧ st'.Nodup ∧ (∀ z ∈ st', 0 ≤ z ∧ z < n) ∧ rows'.length = rows.length + ps.length
  | [], st, st', rows, rows', h, e, nd, rg => by
    simp only [rdRows, Option.some.injEq, Prod.mk.injEq] at h
    obtain ⟨rfl, rfl⟩ := h
    exact ⟨e, nd, rg, rfl⟩
  | ws :: r, st, st', rows, rows', h, e, nd, rg => by
    rw [rdRows_cons] at h
    cases e1 : rdRow n st [] ws with
    | none => rw [e1] at h; cases h
    | some q =>
      obtain ⟨st1, row⟩ := q
      rw [e1] at h
      obtain ⟨c, c1, c2, c3, c4, _⟩ := rdRow_ok e1 nd rg
      obtain ⟨d1, d2, d3, d4⟩ := rdRows_ok (show rdRows n st1 (rows ++ [row]) r = some (st', rows') from h) (by rw [c2, c1, e]; simp) c3 c4
      exact ⟨d1, d2, d3, by rw [d4]; simp; omega⟩
/-- what is read are rows of points -/
theorem rdRows_rws {n : Nat} {ps : List (List Str)} {st : List Int} {rs : List (List Int)} (h : rdRows n [] [] ps = some (st, rs)) : Rws n rs ∧ rs.length = ps.length := by
  obtain ⟨h1, h2, h3, h4⟩ := rdRows_ok h rfl (by simp) (by simp)
  refine ⟨⟨by rw [← h1]; exact h2, fun z hz => ?_⟩, by simpa using h4⟩
  rw [← h1] at hz
  have := h3 z hz
  omega
/-- rows of points, written and read -/
theorem rdRow_back {n : Nat} : ∀ {c st row : List Int}, (st ++ c).Nodup → (∀ z ∈ c, 0 ≤ z ∧ z < n) → rdRow n st row (c.map fun z => pt z.toNat) = some (st ++ c, row ++ c)
  | [], st, row, _, _ => by simp [rdRow]
  | z :: c, st, row, nd, rg => by
    have hz := rg z (by simp)
    rw [List.map_cons, rdRow_cons, rdW_pt (show z.toNat < n by omega)]
    have e : ((z.toNat : Nat) : Int) = z := by omega
    simp only [e]
    have hns : z ∉ st := fun h => by
      rw [List.nodup_append] at nd
      exact nd.2.2 z h z (by simp) rfl
    rw [if_neg hns, rdRow_back (by simpa using nd) fun y hy => rg y (by simp [hy])]
    simp
theorem rdRows_back {n : Nat} : ∀ {rs rows : List (List Int)}, (rows.flatten ++ rs.flatten).Nodup → (∀ z ∈ rs.flatten, 0 ≤ z ∧ z < n) → rdRows n rows.flatten rows (rs.map fun c => c.map fun z => pt z.toNat) = some (rows.flatten ++ rs.flatten, rows ++ rs)
  | [], rows, _, _ => by simp [rdRows]
  | c :: rs, rows, nd, rg => by
    rw [List.map_cons, rdRows_cons, rdRow_back (by
      rw [List.flatten_cons, ← List.append_assoc, List.nodup_append] at nd
      exact nd.1) fun z hz => rg z (by simp [hz])]
    have := rdRows_back (n := n) (rs := rs) (rows := rows ++ [c]) (by simpa using nd) fun z hz => rg z (by
      rw [List.flatten_cons, List.mem_append]
      exact .inr hz)
    rw [List.flatten_append, List.flatten_singleton] at this
    simp only [List.nil_append]
    rw [this]
    simp

/-! ## HoF -/
section
variable {ns : List Int}
theorem min_ex : ∀ {l : List Int}, l ≠ [] → ∃ q ∈ l, ∀ z ∈ l, q ≤ z
  | [], h => absurd rfl h
  | [x], _ => ⟨x, by simp, fun z hz => by rw [List.mem_singleton.mp hz]; exact Int.le_refl _⟩
  | x :: y :: r, _ => by
    obtain ⟨q, hq, h⟩ := min_ex (l := y :: r) (by simp)
    by_cases c : x ≤ q
    · exact ⟨x, by simp, fun z hz => by
        rcases List.mem_cons.mp hz with e | hz
        · rw [e]; exact Int.le_refl _
        · exact Int.le_trans c (h z hz)⟩
    · exact ⟨q, List.mem_cons_of_mem _ hq, fun z hz => by
        rcases List.mem_cons.mp hz with e | hz
        · rw [e]; omega
        · exact h z hz⟩
theorem orb_rg (m : Mv ns) {p : Int} (hp : InR ns p) : ∀ z ∈ orb ns p, InR ns z := fun z hz => by
  unfold orb at hz
  obtain ⟨k, _, rfl⟩ := List.mem_map.mp hz
  exact it_rg m hp k
theorem orb_mv (m : Mv ns) {p : Int} (hp : InR ns p) (h : im ns p ≠ p) : ∀ z ∈ orb ns p, im ns z ≠ z := fun z hz e => by
  unfold orb at hz
  obtain ⟨k, _, rfl⟩ := List.mem_map.mp hz
  have e2 : it ns k (im ns p) = it ns k p := by
    have : it ns (k + 1) p = it ns k (it ns 1 p) := by rw [← it_add, Nat.add_comm]
    exact (this.symm.trans e : it ns k (it ns 1 p) = _)
  exact h (it_inj m (m.at hp).2 hp k e2)
theorem cyc_mem (m : Mv ns) {z : Int} (hz : InR ns z) : z ∈ (cyc ns).flatten ↔ im ns z ≠ z := by
  unfold cyc
  rw [List.mem_flatten]
  constructor
  · rintro ⟨c, hc, hzc⟩
    obtain ⟨p, hp, rfl⟩ := List.mem_map.mp hc
    obtain ⟨h1, h2⟩ := List.mem_filter.mp hp
    exact orb_mv m (mem_rng.mp h1) (of_decide_eq_true h2).1 z hzc
  · intro h
    obtain ⟨q, hq, hl⟩ := min_ex (l := orb ns z) (fun e => by have := orb_self m hz; rw [e] at this; simp at this)
    have hqr := orb_rg m hz q hq
    obtain ⟨e1, e2⟩ := orb_it m hz hq
    refine ⟨orb ns q, List.mem_map.mpr ⟨q, List.mem_filter.mpr ⟨mem_rng.mpr hqr, decide_eq_true ⟨orb_mv m hz h q hq, fun y hy => hl y ((e2 y).mp hy)⟩⟩, rfl⟩, e1⟩
theorem cyc_rws (m : Mv ns) : Rws ns.length (cyc ns) := by
  have hd : ∀ c ∈ cyc ns, ∃ p, InR ns p ∧ isHd ns p = true ∧ c = orb ns p := fun c hc => by
    obtain ⟨p, hp, rfl⟩ := List.mem_map.mp hc
    obtain ⟨h1, h2⟩ := List.mem_filter.mp hp
    exact ⟨p, mem_rng.mp h1, h2, rfl⟩
  refine ⟨?_, fun z hz => ?_⟩
  · have gen : ∀ l : List Int, (∀ p ∈ l, InR ns p ∧ isHd ns p = true) → l.Nodup → ((l.map (orb ns)).flatten).Nodup := by
      intro l
      induction l with
      | nil => exact fun _ _ => by simp
      | cons p r ih =>
        intro h nd
        obtain ⟨n1, n2⟩ := List.nodup_cons.mp nd
        rw [List.map_cons, List.flatten_cons, List.nodup_append]
        refine ⟨orb_nd m (h p (by simp)).1, ih (fun q hq => h q (by simp [hq])) n2, fun a ha b hb e => ?_⟩
        subst e
        obtain ⟨c, hc, hac⟩ := List.mem_flatten.mp hb
        obtain ⟨q, hq, rfl⟩ := List.mem_map.mp hc
        obtain ⟨p1, p2⟩ := h p (by simp)
        obtain ⟨q1, q2⟩ := h q (by simp [hq])
        obtain ⟨a1, a2⟩ := orb_it m p1 ha
        obtain ⟨b1, b2⟩ := orb_it m q1 hac
        have le1 := (of_decide_eq_true p2).2 q ((a2 q).mp b1)
        have le2 := (of_decide_eq_true q2).2 p ((b2 p).mp a1)
        have : p = q := by omega
        exact n1 (this ▸ hq)
    exact gen _ (fun p hp => by
      obtain ⟨h1, h2⟩ := List.mem_filter.mp hp
      exact ⟨mem_rng.mp h1, h2⟩) ((rng_nodup _).sublist List.filter_sublist)
  · obtain ⟨c, hc, hzc⟩ := List.mem_flatten.mp hz
    obtain ⟨p, hp, _, rfl⟩ := hd c hc
    exact orb_rg m hp z hzc
theorem cyc_img (m : Mv ns) : Img ns.length (cyc ns) ns := by
  refine ⟨rfl, fun c hc k z hz => ?_, fun p hp hnot => ?_⟩
  · obtain ⟨q, hq, rfl⟩ := List.mem_map.mp hc
    have hqr := mem_rng.mp (List.mem_filter.mp hq).1
    have hk := (List.getElem?_eq_some_iff.mp hz).1
    rw [orb_len] at hk
    rw [orb_at hk] at hz
    obtain rfl := Option.some.inj hz
    obtain ⟨l1, l2, l3⟩ := ell_spec m hqr
    rw [rotL_at (by rw [orb_len]; exact hk), orb_len, (m.at (it_rg m hqr k)).1, orb_at (Nat.mod_lt _ ell_pos), it_mod l2]
    rfl
  · have hr : InR ns (p : Int) := ⟨by omega, by omega⟩
    have h1 := (m.at hr).1
    rw [Int.toNat_natCast] at h1
    rw [h1]
    refine congrArg some (Classical.byContradiction fun e => hnot ((cyc_mem m hr).mpr e))
theorem cyc_back (m : Mv ns) : asg (rng ns.length) ((cyc ns).flatMap prA) = ns := (img_A (cyc_rws m)).uniq (cyc_img m)
end

/-! ## HoB -/
/-- a row's inner text, the row's text, the text of rows -/
def rowI (c : List Int) : Str := Txt.join " " (c.map fun z => pt z.toNat)
def rowT (c : List Int) : Str := ("(" : Str) ++ rowI c ++ (")" : Str)
def rowsT (cs : List (List Int)) : Str := if cs = [] then "()" else Txt.join "" (cs.map rowT)
/-- the words of a piece -/
def wrds (p : Str) : List Str := if p.length = 0 then [] else Txt.split p " "
/-- the rows that a text says -/
def rdT (n : Nat) (z : Str) : Option (List (List Int)) := if (Txt.startswith z "(" && Txt.endswith z ")") = true then (rdRows n [] [] ((Txt.split (cutS z (some 1) (some (-1))) ")(").map wrds)).map (·.2) else none
def mvT (n : Nat) (rs : List (List Int)) : List Int := asg (rng n) (rs.flatMap prA)
/-- the move that a text says, strictly -/
def rdS (n : Nat) (z : Str) : Option (List Int) := match rdT n z with
  | none => none
  | some rs => if rowsT (cyc (mvT n rs)) = z then some (mvT n rs) else none
theorem tl_c1 : TL.tl ("(" : Str) = [40] ∧ TL.tl (")" : Str) = [41] ∧ TL.tl (")(" : Str) = [41, 40] ∧ TL.tl (" " : Str) = [32] ∧ TL.tl ("()" : Str) = [40, 41] ∧ TL.tl ("" : Str) = [] := by decide +kernel
theorem tl_jn (y : Str) (ps : List Str) : TL.tl (Txt.join y ps) = TL.joinL (TL.tl y) (ps.map TL.tl) := by rw [TL.join_eq, TL.tl_join]
theorem rowI_free {c : List Int} {s : Nat} (h : s ≠ 32 ∧ (s < 48 ∨ 57 < s)) : s ∉ TL.tl (rowI c) := by
  unfold rowI
  rw [tl_jn, tl_c1.2.2.2.1]
  have gen : ∀ l : List Nat, s ∉ TL.joinL [32] ((l.map pt).map TL.tl) := by
    intro l
    induction l with
    | nil => intro z; cases z
    | cons x r ih =>
      cases r with
      | nil =>
        show s ∉ TL.tl (pt x)
        rw [tl_pt]
        exact TL.numL_free h.2
      | cons y r =>
        show s ∉ TL.tl (pt x) ++ ([32] ++ TL.joinL [32] (((y :: r).map pt).map TL.tl))
        intro z
        rcases List.mem_append.mp z with z | z
        · rw [tl_pt] at z
          exact TL.numL_free h.2 z
        · rcases List.mem_append.mp z with z | z
          · exact h.1 (List.mem_singleton.mp z)
          · exact ih z
  have := gen (c.map fun z => z.toNat)
  rw [List.map_map (f := fun z : Int => z.toNat)] at this
  exact this
theorem wrds_row {c : List Int} (h : c ≠ []) : wrds (rowI c) = c.map fun z => pt z.toNat := by
  have hs : Txt.split (rowI c) " " = c.map fun z => pt z.toNat := by
    unfold rowI
    refine TL.split_join tl_c1.2.2.2.1 (by decide +kernel) (by simpa using h) fun p hp => ?_
    obtain ⟨z, _, rfl⟩ := List.mem_map.mp hp
    rw [tl_pt]
    exact TL.numL_free (by decide)
  unfold wrds
  rw [hs, if_neg]
  intro e
  have e2 := (TL.len0_tl _).mp e
  unfold rowI at e2
  rw [tl_jn] at e2
  cases c with
  | nil => exact h rfl
  | cons x r =>
    have hx := pt_ne x.toNat
    cases r with
    | nil => exact hx e2
    | cons y r =>
      have : TL.tl (pt x.toNat) ++ (TL.tl (" " : Str) ++ TL.joinL (TL.tl (" " : Str)) (((y :: r).map fun z => pt z.toNat).map TL.tl)) = [] := e2
      exact hx (List.append_eq_nil_iff.mp this).1
theorem wrds_nil : wrds (rowI []) = [] := by
  unfold wrds
  rw [if_pos]
  exact (TL.len0_tl _).mpr (by unfold rowI; rw [tl_jn]; rfl)
/-- what stands between the outer brackets -/
theorem rowsT_in {cs : List (List Int)} (h : cs ≠ []) : TL.tl (rowsT cs) = 40 :: (TL.joinL [41, 40] (cs.map fun c => TL.tl (rowI c)) ++ [41]) := by
  have gen : ∀ cs : List (List Int), cs ≠ [] → TL.joinL [] ((cs.map rowT).map TL.tl) = 40 :: (TL.joinL [41, 40] (cs.map fun c => TL.tl (rowI c)) ++ [41]) := by
    intro cs
    induction cs with
    | nil => exact fun h => absurd rfl h
    | cons c r ih =>
      intro _
      have e1 : TL.tl (rowT c) = 40 :: (TL.tl (rowI c) ++ [41]) := by
        unfold rowT
        rw [TL.tl_append, TL.tl_append, tl_c1.1, tl_c1.2.1]
        rfl
      cases r with
      | nil =>
        show TL.tl (rowT c) = 40 :: (TL.tl (rowI c) ++ [41])
        exact e1
      | cons d r =>
        show TL.tl (rowT c) ++ ([] ++ TL.joinL [] (((d :: r).map rowT).map TL.tl)) = 40 :: ((TL.tl (rowI c) ++ ([41, 40] ++ TL.joinL [41, 40] ((d :: r).map fun c => TL.tl (rowI c)))) ++ [41])
        rw [ih (by simp), e1]
        simp
  unfold rowsT
  rw [if_neg h, tl_jn, tl_c1.2.2.2.2.2]
  exact gen cs h
/-- the rows that stand in the text of a move -/
def rs0 (cs : List (List Int)) : List (List Int) := if cs = [] then [[]] else cs
theorem rowsT_tl (cs : List (List Int)) : TL.tl (rowsT cs) = 40 :: (TL.tl (Txt.join ")(" ((rs0 cs).map rowI)) ++ [41]) := by
  rw [tl_jn, tl_c1.2.2.1, List.map_map]
  by_cases h : cs = []
  · subst h
    show TL.tl ("()" : Str) = _
    rw [tl_c1.2.2.2.2.1]
    have : TL.tl (rowI []) = [] := by unfold rowI; rw [tl_jn]; rfl
    show [40, 41] = 40 :: (TL.tl (rowI []) ++ [41])
    rw [this]
    rfl
  · rw [rowsT_in h]
    unfold rs0
    rw [if_neg h]
    rfl
theorem cut_in {z m : Str} (h : TL.tl z = 40 :: (TL.tl m ++ [41])) : cutS z (some 1) (some (-1)) = m := by
  have hl : z.length = m.length + 2 := by rw [TL.len_tl, h, TL.len_tl m]; simp
  refine TL.ext_tl ?_
  unfold cutS
  have e1 : HT.sIx z.length 0 (some 1) = 1 := by
    show (if (1 : Int) < 0 then ((1 : Int) + (z.length : Int)).toNat else min (1 : Int).toNat z.length) = 1
    rw [if_neg (by decide)]
    show min 1 z.length = 1
    omega
  have e2 : HT.sIx z.length z.length (some (-1)) = z.length - 1 := by
    show (if (-1 : Int) < 0 then ((-1 : Int) + (z.length : Int)).toNat else min (-1 : Int).toNat z.length) = z.length - 1
    rw [if_pos (by decide)]
    omega
  rw [e1, e2]
  show ((TL.tl z).drop 1).take (z.length - 1 - 1) = TL.tl m
  rw [h, List.drop_succ_cons, List.drop_zero]
  have : z.length - 1 - 1 = (TL.tl m).length := by rw [← TL.len_tl]; omega
  rw [this, List.take_left]
theorem ends_in {z m : Str} (h : TL.tl z = 40 :: (TL.tl m ++ [41])) : (Txt.startswith z "(" && Txt.endswith z ")") = true := by
  have hl : z.length = m.length + 2 := by rw [TL.len_tl, h, TL.len_tl m]; simp
  have l1 : ("(" : Str).length = 1 := by decide
  have l2 : (")" : Str).length = 1 := by decide
  unfold Txt.startswith Txt.endswith
  rw [PySem.StrLaws.subAt_eq, PySem.StrLaws.subAt_eq, l1, l2]
  show (decide (0 + 1 ≤ z.length) && (((TL.tl z).drop 0).take 1 == TL.tl ("(" : Str)) && (decide (0 + 1 ≤ z.length) && (((TL.tl z).drop (z.length - 1)).take 1 == TL.tl (")" : Str)))) = true
  rw [tl_c1.1, tl_c1.2.1, h]
  have e1 : z.length - 1 = (40 :: TL.tl m).length := by rw [List.length_cons, ← TL.len_tl]; omega
  have e2 : 40 :: (TL.tl m ++ [41]) = (40 :: TL.tl m) ++ [41] := rfl
  rw [e1, e2, List.drop_left]
  have : decide (0 + 1 ≤ z.length) = true := decide_eq_true (by omega)
  rw [this]
  rfl
/-- the text of rows, read -/
theorem rdT_rows {n : Nat} {cs : List (List Int)} (r : Rws n cs) (h2 : ∀ c ∈ cs, c ≠ []) : rdT n (rowsT cs) = some (rs0 cs) := by
  have e := rowsT_tl cs
  unfold rdT
  rw [if_pos (ends_in e), cut_in e]
  have hs : Txt.split (Txt.join ")(" ((rs0 cs).map rowI)) ")(" = (rs0 cs).map rowI := by
    refine TL.split_join tl_c1.2.2.1 (by decide +kernel) ?_ fun p hp => ?_
    · unfold rs0
      split <;> simp_all
    · obtain ⟨c, _, rfl⟩ := List.mem_map.mp hp
      exact rowI_free (by decide)
  rw [hs, List.map_map]
  have hw : (rs0 cs).map (wrds ∘ rowI) = (rs0 cs).map fun c => c.map fun z => pt z.toNat := by
    refine List.map_congr_left fun c hc => ?_
    show wrds (rowI c) = _
    unfold rs0 at hc
    by_cases hcs : cs = []
    · rw [if_pos hcs] at hc
      rw [List.mem_singleton.mp hc, wrds_nil]
      rfl
    · rw [if_neg hcs] at hc
      exact wrds_row (h2 c hc)
  have hf : (rs0 cs).flatten = cs.flatten := by
    unfold rs0
    by_cases hcs : cs = []
    · rw [if_pos hcs, hcs]; rfl
    · rw [if_neg hcs]
  have := rdRows_back (n := n) (rs := rs0 cs) (rows := []) (by rw [hf]; simpa using r.nd) (by rw [hf]; exact fun z hz => by have := r.rg z hz; omega)
  rw [hw]
  rw [show rdRows n [] [] ((rs0 cs).map fun c => c.map fun z => pt z.toNat) = some _ from this]
  rfl
theorem rdS_back {ns : List Int} (m : Mv ns) : rdS ns.length (rowsT (cyc ns)) = some ns := by
  have h2 : ∀ c ∈ cyc ns, c ≠ [] := fun c hc e => by
    obtain ⟨p, _, rfl⟩ := List.mem_map.mp hc
    have := orb_len (ns := ns) (p := p)
    rw [e] at this
    have := ell_pos (ns := ns) (p := p)
    simp at *
    omega
  have hm : mvT ns.length (rs0 (cyc ns)) = ns := by
    have e := cyc_back m
    unfold mvT rs0
    by_cases hc : cyc ns = []
    · rw [if_pos hc]
      rw [hc] at e
      exact e
    · rw [if_neg hc]
      exact e
  unfold rdS
  rw [rdT_rows (cyc_rws m) h2]
  show (if rowsT (cyc (mvT ns.length (rs0 (cyc ns)))) = rowsT (cyc ns) then some (mvT ns.length (rs0 (cyc ns))) else none) = some ns
  rw [hm, if_pos rfl]

/-! ## HoK -/
section
variable {X : Cx}
def tCh (r1 r2 : R2) (ta tb tc : TE) : TE := fun σ H Q => ta σ H fun x H1 => tb σ H1 fun y H2 => r1 x y H2 fun z H3 => ∃ k, z = .bl k ∧ if k = true then tc σ H3 fun u H4 => r2 y u H4 Q else Q (.bl false) H3
theorem pe_chain {a b c : Expr} {o1 o2 : CmpOp} {r1 r2 : R2} {ta tb tc : TE} {pos : Pos} (h1 : OpR X (compareOp o1) r1) (h2 : OpR X (compareOp o2) r2) (ha : PE X a ta) (hb : PE X b tb) (hc : PE X c tc)
    (hm : lastMarks [o1, o2] [b, c] = false := by with_unfolding_all rfl) : PE X (.Compare a [o1, o2] [b, c] pos) (tCh r1 r2 ta tb tc) := by
  refine ⟨fun pins s σ H Q I h => ?_⟩
  refine Compare_chain (thn (ha.run pins s σ H _ I h) fun v s1 ⟨x, H1, I1, rx, q1⟩ => ?_) hm
  refine chain_link (thn (hb.run pins s1 σ H1 _ I1 q1) fun u s2 ⟨y, H2, I2, ry, q2⟩ => thn (h1 pins s2 σ H2 x y v u _ I2 rx ry q2) fun z s3 ⟨zz, H3, I3, rz, k, e, q3⟩ => ?_)
  subst e
  cases rz
  refine wpAny_truthy_bool ?_
  cases k with
  | true =>
    rw [if_pos rfl] at q3 ⊢
    have e0 : evalEach [] X.env = [] := by first | rfl | simp [evalEach]
    rw [e0]
    exact chain_last (thn (hc.run pins s3 σ H3 _ I3 q3) fun t s4 ⟨tt, H4, I4, rt, q4⟩ => h2 pins s4 σ H4 y tt u t _ I4 ry rt q4)
  | false =>
    rw [if_neg Bool.false_ne_true] at q3 ⊢
    exact ⟨.bl false, H3, I3, rfl, q3⟩
theorem a_ch {r1 r2 : R2} {ta tb tc : TE} {σ : L2.St} {H : Hp} {Q : VK} : tCh r1 r2 ta tb tc σ H Q = ta σ H fun x H1 => tb σ H1 fun y H2 => r1 x y H2 fun z H3 => ∃ k, z = .bl k ∧ if k = true then tc σ H3 fun u H4 => r2 y u H4 Q else Q (.bl false) H3 := rfl
/-- str(x), x an int or a bool -/
def qStr : List V → Hp → VK → Prop := fun xs H Q => match xs with
  | [.int i] => i.natAbs.log2 < 1920 ∧ Q (.str (toString i)) H
  | [.bl b] => Q (.str (if b then "True" else "False")) H
  | _ => False
theorem str2 : CallR X (.type "str") qStr := by
  intro pins s σ H xs us Q I r h
  unfold qStr at h
  split at h
  · exact call_str_int pins s σ H _ us Q I r ⟨_, rfl, h.1, h.2⟩
  · cases r with
    | cons r1 r2 =>
      cases r2
      cases r1
      exact PySem.P.str_of_bool ⟨.str _, H, I.tok _, ⟨_, rfl⟩, h⟩
  · exact h.elim
theorem b_stri {i : Int} {H : Hp} {Q : VK} : qStr [.int i] H Q = (i.natAbs.log2 < 1920 ∧ Q (.str (toString i)) H) := rfl
theorem b_strb {b : Bool} {H : Hp} {Q : VK} : qStr [.bl b] H Q = Q (.str (if b then "True" else "False")) H := rfl
end
/-! f-strings -/
def Prt (t : TE) (σ : L2.St) (H : Hp) : Prop := ∀ Q : VK, (∀ y : Str, y.length ≤ 2100 → Q (.str y) H) → t σ H Q
theorem js_parts {σ : L2.St} {H : Hp} {Q : Str → Hp → Prop} (k : ∀ out, Q out H) : ∀ {ts : List TE} {acc : Str}, (∀ t ∈ ts, Prt t σ H) → acc.length + 2100 * ts.length ≤ 100000 → tJs ts acc σ H Q
  | [], _, _, _ => k _
  | t :: ts, acc, h, hl => h t List.mem_cons_self _ fun y hy => ⟨y, rfl, by rw [Str.length_append, sizeLine_eq]; rw [List.length_cons] at hl; omega, js_parts k (fun t ht => h t (List.mem_cons_of_mem _ ht)) (by rw [Str.length_append]; rw [List.length_cons] at hl; omega)⟩
theorem prt_lit {s : Str} {σ : L2.St} {H : Hp} (h : s.length ≤ 2100 := by decide) : Prt (tC (.str s)) σ H := fun Q k => k s h
theorem prt_var {i : Nat} {z : Str} {σ : L2.St} {H : Hp} (h : σ[i]? = some (some (.str z))) (hz : z.length ≤ 2000) : Prt (tFmt (tVar i)) σ H := fun Q k => ⟨_, h, .inl ⟨z, rfl, by rw [sizeLine_eq]; omega, k z (by omega)⟩⟩
theorem js_cons {t : TE} {ts : List TE} {σ : L2.St} {H : Hp} (h : Prt t σ H) (r : ∀ t ∈ ts, Prt t σ H) : ∀ u ∈ t :: ts, Prt u σ H := fun u hu => by
  rcases List.mem_cons.mp hu with e | h'
  · rw [e]; exact h
  · exact r u h'
theorem js_nil {σ : L2.St} {H : Hp} : ∀ u ∈ ([] : List TE), Prt u σ H := fun u hu => by cases hu
/-! enumerate over a list or a tuple -/
def iEnumS (K : PySem.W.Frag) (ta : TA) : TI := fun σ H R => ta σ H fun vs H1 => ∃ a xs, vs = [.ref a] ∧ ((H1 a = some (.lst xs) ∧ R (Ite K a) H1) ∨ (H1 a = some (.tup xs) ∧ R (IteT K a xs) H1))
theorem pi_enumS {X : Cx} {e : Expr} {ta : TA} {p pos tpos : Pos} {elts : List Expr} {kk : Nat} (hg : Gl X "enumerate") (hm : X.mg "enumerate" = none) (ha : PA X [e] ta) (hs : starEach [e] X.env = [(false, eval e X.env)] := by rfl) :
    PI X (.Tuple elts kk tpos) (.Call (.Name "enumerate" p) [e] [] pos) (iEnumS X.K ta) := by
  refine ⟨fun pins s σ H R I h => Call_ (ld_blt I hg hm boot_enumerate (PyProof.Rows.callWith_type1 (thn (ha.run pos pins s σ H _ I h) fun us s1 ⟨vs, H1, I1, r1, a, xs, ex, hor⟩ => ?_) hs rfl))⟩
  subst ex
  cases r1 with
  | cons r rr =>
    cases rr
    cases r
    rcases hor with ⟨hq, q⟩ | ⟨hq, q⟩
    · obtain ⟨its, rv, p', hz⟩ := I1.list (SqL.of hq)
      refine call_enumerate_list p'.isList fun h' he hit hsz hk => wpAny_pyIter_enum he ?_
      have I2 : Inv X pins σ H1 { s1 with heap := h' } := I1.kept (t' := s1.toks) hk
      refine ⟨s1.heap.objs.size + 1, [s1.heap.objs.size + 1, s1.heap.objs.size], _, _, H1, rfl, I2, turn_enum a (s1.heap.objs.size + 1) s1.heap.objs.size, ⟨⟨.none, he⟩, hit, Nat.succ_ne_self _⟩, fun b hb => ?_, q⟩
      have e' : b = s1.heap.objs.size + 1 ∨ b = s1.heap.objs.size := by simpa using hb
      have hle : s1.heap.objs.size ≤ b := by
        rcases e' with z | z
        · rw [z]; exact Nat.le_add_right _ _
        · rw [z]; exact Nat.le_refl _
      exact I1.fpOk hle (I1.hok.fresh hle)
    · obtain ⟨its, rv, p', hz⟩ := I1.tuple (SqT.of hq)
      have ha : a < s1.heap.objs.size := by obtain ⟨o, e, _⟩ := (show s1.heap.IsTuple a its.toArray from p'); exact Heap.lt_size e
      refine enum1_begins (begins_tuple a its.toArray) p' fun h' he hit hk => wpAny_pyIter_enum he ?_
      have I2 : Inv X pins σ H1 { s1 with heap := h' } := I1.kept (t' := s1.toks) hk
      refine ⟨s1.heap.objs.size + 1, [s1.heap.objs.size + 1, s1.heap.objs.size], _, _, H1, rfl, I2, turn_enumT a (s1.heap.objs.size + 1) s1.heap.objs.size (Nat.ne_of_lt (Nat.lt_succ_of_lt ha)) (Nat.ne_of_lt ha) (Nat.succ_ne_self _) xs, ⟨⟨.none, he⟩, ⟨_, hit, rfl, rfl⟩⟩, fun b hb => ?_, q⟩
      have hle : s1.heap.objs.size ≤ b := by
        rcases List.mem_cons.mp hb with rfl | hb
        · omega
        · obtain rfl := List.mem_singleton.mp hb
          exact Nat.le_refl _
      exact I1.fpOk hle (I1.hok.fresh hle)
section
variable {K : PySem.W.Frag} {H : Hp} {Q : VK} {σ : L2.St} {D : Ends}
def FEnS (K : PySem.W.Frag) (a : Addr) (g : TG) (tb : TS) (D : Ends) (σ : L2.St) (H : Hp) : Prop := ∃ xs, (H a = some (.lst xs) ∧ tFor (fun _ H R => R (Ite K a) H) g tb D σ H) ∨ (H a = some (.tup xs) ∧ tFor (fun _ H R => R (IteT K a xs) H) g tb D σ H)
def FEnSV (K : PySem.W.Frag) (vs : List V) (g : TG) (tb : TS) (D : Ends) (σ : L2.St) (H : Hp) : Prop := ∃ a, vs = [.ref a] ∧ FEnS K a g tb D σ H
theorem a_forES {ta : TA} {g : TG} {tb : TS} : tFor (iEnumS K ta) g tb D σ H = ta σ H fun ws H1 => ∃ a xs, ws = [.ref a] ∧ ((H1 a = some (.lst xs) ∧ tFor (fun _ H R => R (Ite K a) H) g tb D σ H1) ∨ (H1 a = some (.tup xs) ∧ tFor (fun _ H R => R (IteT K a xs) H) g tb D σ H1)) := rfl
theorem fes_by {a : Addr} {xs : List V} {i1 i2 : Nat} {tb : TS} (hq : sq H a = some xs) (Pv : Nat → L2.St → Hp → Prop) (h0 : Pv 0 σ H) (hl : ∀ i σ' H', Pv i σ' H' → ∀ o, H a = some o → H' a = some o)
    (hs : ∀ i x σ H1 (N : L2.St → Hp → Prop) T H2, (∀ σ' H', Pv (i + 1) σ' H' → N σ' H') → xs[i]? = some x → Pv i σ H1 → New H1 T (.tup [.int (i : Nat), x]) H2 → tb { D with nx := N, ct := N, bk := D.nx } ((σ.set i1 (some (.int (i : Nat)))).set i2 (some x)) H2)
    (hd : ∀ σ H, Pv xs.length σ H → D.nx σ H) : ∃ ys, (H a = some (.lst ys) ∧ tFor (fun _ H R => R (Ite K a) H) (g2 K i1 i2) tb D σ H) ∨ (H a = some (.tup ys) ∧ tFor (fun _ H R => R (IteT K a ys) H) (g2 K i1 i2) tb D σ H) := by
  rcases sq_or hq with h | h
  · refine ⟨xs, .inl ⟨h, fun i m σ1 H1 => m + i = xs.length ∧ Pv i σ1 H1, ⟨xs.length, by omega, h0⟩, fun i m σ1 H1 ⟨hm, p⟩ => ?_⟩⟩
    have hL := SqL.of (K := K) (hl _ _ _ p _ h)
    by_cases hi : i = xs.length
    · subst hi
      exact .inl ⟨⟨xs, hL, Nat.le_refl _⟩, hd _ _ p⟩
    · have hlt : i < xs.length := by omega
      refine .inr ⟨⟨xs, _, hL, List.getElem?_eq_getElem hlt⟩, fun σ5 H5 => Pv (i + 1) σ5 H5, fun σ5 H5 p5 => ⟨m - 1, by omega, by omega, p5⟩, fun v H2 ⟨T, x, ev, hT, eH, hx⟩ => ?_⟩
      subst ev eH
      exact g2_at upd_same (hs i x σ1 H1 _ T _ (fun _ _ z => z) (hx _ hL) p (.mk' hT))
  · exact ⟨xs, .inr ⟨h, fe_by Pv h0 (fun i σ' H' p => hl i σ' H' p _ h) hs hd⟩⟩
end

/-! ## HoG -/
section
open HotX
variable {prog : Program} {w : World} {A : Around} {E : Value → Shared → Prop} {s : Shared}
theorem tuple_end_hot {it t x1 : Addr} {i : Nat} {items : Array Value} {Q : Option Value → Shared → Prop} (hot : HotAt A x1 s.heap) (hit : s.heap.IsTupleIter it t i) (ht : s.heap.IsTuple t items) (hx : items[i]? = none) (hne : x1 ≠ it)
    (hQ : ∀ h', (∀ b o, b ≠ it → s.heap.get? b = some o → h'.get? b = some o) → Q none { s with heap := h' }) : wpAny (model prog w) A (pyNext (.ref it)) Q E s := by
  obtain ⟨o, ho, hc, hd⟩ := id hit
  obtain ⟨ol, hol, _, nl, hdl⟩ := ht
  obtain ⟨hh, o1, vs1, h1, d1, c1⟩ := hot
  unfold pyNext
  refine wpAny_bind (wpAny_attempt (wpAny_callSpecial?_slot (name := Str.ofString "__next__") hit.typeIs F.slot_tuple_iterator_next
    (wpAny_call_entry F.slot_tuple_iterator_next hit.typeIs F.entry_tuple_iterator_next ?_ (F.args_tuple_iterator_next_1 _))))
  show wpAny _ _ (field (.ref it) 0 >>= _) _ _ s
  refine wpAny_bind (wpAny_field ho hd (x := .ref t) rfl ?_)
  show wpAny _ _ (if (Value.ref t == Value.none) = true then _ else _) _ _ s
  rw [if_neg (show ¬ ((Value.ref t == Value.none) = true) from Bool.false_ne_true)]
  show wpAny _ _ (field (.ref it) 1 >>= _) _ _ s
  refine wpAny_bind (wpAny_field ho hd (x := .int i 0) rfl ?_)
  show wpAny _ _ (seqItems? (.ref t) >>= _) _ _ s
  refine wpAny_bind (wpAny_seqItems hol hdl ?_)
  simp only [Int.toNat_natCast, hx]
  refine wpAny_bind (wpAny_rule (wpAny_bind (wpAny_setField ho hd (by simp) ?_)))
  show wpAny _ _ (newExc (.type "StopIteration") [] >>= _) _ _ _
  refine wpAny_bind ?_
  simp only [newExc, newTuple]
  refine wpAny_bind (wpAny_newObj_type ?_ (by size_fits))
  refine wpAny_bind (m := firstArgMember _ _) (wpAny_of_eq (a := Value.none) (by first | rfl | (simp only [firstArgMember]; rfl)) ?_)
  refine wpAny_newObj_type ?_ (by size_fits)
  have h1' : (s.heap.update it (Obj.mapFields (·.setIfInBounds 0 .none))).get? x1 = some o1 := (Heap.get?_update_other _ _ (Ne.symm hne)).trans h1
  refine raiseNew_hot ⟨hh, o1, vs1, Heap.get?_push_of_some _ (Heap.get?_push_of_some _ h1'), d1, c1⟩ (Nat.ne_of_lt (Heap.lt_size (Heap.get?_push_of_some _ h1'))) (Heap.get?_push_size _ rfl) rfl (by first | (simp; done) | (simp; omega) | (simp only [Array.size_append]; simp; omega)) ?_
  refine wpAny_bind (wpAny_isInstance (T := "StopIteration") (b := true) ⟨_, Heap.get?_update_self _ (Heap.get?_push_size _ rfl) rfl, rfl⟩ isSubtype_stop ?_)
  refine wpAny_pure (hQ _ fun b o hb e => ?_)
  have e' : (s.heap.update it (Obj.mapFields (·.setIfInBounds 0 .none))).get? b = some o := (Heap.get?_update_other _ _ (Ne.symm hb)).trans e
  rw [Heap.get?_update_other _ _ (Nat.ne_of_gt (Heap.lt_size (Heap.get?_push_of_some _ e')))]
  exact Heap.get?_push_of_some _ (Heap.get?_push_of_some _ e')
end
section
open HotX L2H
theorem turn_tupleH {P : Program} {w : World} {K : PySem.W.Frag} {tg : Expr} (a it : Addr) : TurnH P w K tg (Itt K a) [it] it (fun i h => h.IsTupleIter it a i) where
  mem := List.mem_singleton.mpr rfl
  obj := fun i h st b hb => by
    obtain rfl := List.mem_singleton.mp hb
    obtain ⟨o, e, _, d⟩ := st
    exact ⟨o, e, fun v z => by rw [d] at z; cases z⟩
  keep := fun i h h' st k => st.at fun o e => k it (List.mem_singleton.mpr rfl) o e
  item := fun X hP hw hK hc i pins s σ H E I hf st hg => by
    subst hP hw hK
    obtain ⟨xs, x, hq, hx⟩ := hg
    obtain ⟨its, rv, p, hz⟩ := I.tuple hq
    obtain ⟨u, hu, ru⟩ := rv.get hx
    have F := hf it (List.mem_singleton.mpr rfl)
    refine wpAny_pyNext_tuple_item st (show s.heap.IsTuple a its.toArray from p) (x := u) (by simpa using hu) fun h' st' sb => ?_
    have I1 : Inv X pins σ H { s with heap := h' } := I.turned (t' := s.toks) (fun b o hb e => (sb.2 b hb).trans e) F.1 F.2.1 F.2.2.2.1 F.2.2.2.2.1 F.2.2.2.2.2
    obtain ⟨o, e, c, d⟩ := id st'
    exact ⟨u, rfl, go_of (s := { s with heap := h' }) e c d (by decide) ⟨x, H, I1, ru, ⟨rfl, fun ys hy => (I.tuple_inj hy hq) ▸ hx⟩, st', fun b hb => (hf b hb).1⟩⟩
  done := fun X hP hw hK hc i pins s σ H E I hf st hg => by
    subst hP hw hK
    obtain ⟨xs, hq, hx⟩ := hg
    obtain ⟨its, rv, p, hz⟩ := I.tuple hq
    have F := hf it (List.mem_singleton.mpr rfl)
    have hl := rv.length
    obtain ⟨q, ⟨hh, v1, e1, c1⟩, hq1⟩ := hc
    have P1 := (I.pin q (List.mem_append_left _ hq1)).1
    exact tuple_end_hot ⟨hh, q.2, v1, P1, e1, c1⟩ st (show s.heap.IsTuple a its.toArray from p) (by simp; omega) (F.2.2.2.2.2 q (List.mem_append_left _ hq1)) fun h' eb => ⟨rfl, I.turned (t' := s.toks) eb F.1 F.2.1 F.2.2.2.1 F.2.2.2.2.1 F.2.2.2.2.2⟩
  self := fun _ _ _ _ _ st h => wpAny_pyIter_tupleiter st h
variable {X : Cx}
/-- [e for y in l if c], l a list or a tuple; Pv i: what holds behind i turns -/
def tLcG (tl : TE) (g : TG) (tt : TT) (te : TE) (vs : List Nat) : TE := fun σ H Q => tl σ H fun x H1 => ∃ (a : Addr) (xs : List V), x = .ref a ∧ sq H1 a = some xs ∧ ∀ D, H1 D = none → ∃ Pv : Nat → Hp → Prop, Pv 0 (upd H1 D (.lst [])) ∧ (∀ i H2, Pv i H2 → ∀ o, H1 a = some o → H2 a = some o) ∧
  (∀ i y H2, xs[i]? = some y → Pv i H2 → g y (wipe σ vs) H2 fun σ2 H3 => wipe σ2 vs = wipe σ vs ∧ tt σ2 H3 fun b H4 => if b = true then te σ2 H4 fun z H5 => CSt D (Pv (i + 1)) z H5 else Pv (i + 1) H4) ∧
  ∀ H2, Pv xs.length H2 → Q (.ref D) H2
theorem pe_lcG {elt tg l : Expr} {ifs : List Expr} {scope : Scope} {own : List (Str × Nat)} {pos : Pos} {tl : TE} {g : TG} {tt : TT} {te : TE} {p : Addr × Obj} (hot : Hot1 X.A p) (hpn : p ∈ X.pn) (hN : X.N.Nodup) (hl : PE X l tl) (ok : BlkOk X.N X.env.scope scope own)
    (hg : ∀ s H C cl fp, PG (Cx.blkH X s H scope cl C fp p) tg g) (ht : ∀ s H C cl fp, PTs (Cx.blkH X s H scope cl C fp p) ifs tt) (he : ∀ s H C cl fp, PE (Cx.blkH X s H scope cl C fp p) elt te)
    (hs : ∀ x, foldedSetIterable l X.env x = pure x := by intro _; rfl) : PE X (.ListComp elt [⟨tg, l, ifs, 0⟩] scope pos) (tLcG tl g tt te (own.map (·.2))) := by
  refine ⟨fun pins s σ H Q I h => ?_⟩
  rw [eval_ListComp]
  have clo := closure_ok (env := X.env) (scope := scope) (fun y hy e => (ok.free y hy e).elim (fun k => I.ok.has _ (.inl k)) fun k => I.ok.has _ (.inr k))
  refine wpAny_comprehension_free (use := none) rfl hs clo ok.kind (fun y hy e => (ok.uniq y hy).trans (congrArg some e)) (thn (hl.run pins s σ H _ I h) fun v s1 ⟨x, H1, I1, r1, a, xs, ex, hq, q⟩ => ?_)
  subst ex
  cases r1
  obtain ⟨W, S, it, s2, hiter, k2, st2, I2, fit, hlt2, T, hgo, hstop, hyld⟩ : ∃ (W : It) (S : Nat → Heap → Prop) (it : Addr) (s2 : Shared), (∀ (Q : Value → Shared → Prop), Q (.ref it) s2 → wpAny (model X.prog X.w) X.A (pyIter (.ref a)) Q X.xe s1) ∧ (∀ b o, s1.heap.get? b = some o → s2.heap.get? b = some o) ∧ S 0 s2.heap ∧ Inv X pins σ H1 s2 ∧ FpOk X pins H1 it ∧ (∃ o, s2.heap.get? it = some o) ∧
      TurnH X.prog X.w X.K tg W [it] it S ∧ (∀ i H2, (∀ o, H1 a = some o → H2 a = some o) → i < xs.length → W.go i H2) ∧ (∀ i H2, (∀ o, H1 a = some o → H2 a = some o) → xs.length ≤ i → W.stop i H2) ∧ (∀ i H2 x H7, (∀ o, H1 a = some o → H2 a = some o) → W.yld i H2 x H7 → H7 = H2 ∧ xs[i]? = some x) := by
    have fit : FpOk X pins H1 s1.heap.objs.size := I1.fpOk (Nat.le_refl _) (I1.hok.fresh (Nat.le_refl _))
    rcases sq_or hq with hq | hq
    · obtain ⟨its, rv, pl, hz⟩ := I1.list (SqL.of hq)
      have e : ∀ {H2 : Hp}, (∀ o, H1 a = some o → H2 a = some o) → SqL X.K H2 a xs := fun h => SqL.of (h _ hq)
      refine ⟨Itl X.K a, fun i h => h.IsListIter s1.heap.objs.size a i, s1.heap.objs.size, { s1 with heap := s1.heap.push { cls := .type "list_iterator", data := .fields #[.ref a, .int (0 : Nat) 0] } }, fun Q q => wpAny_pyIter_list pl.isList q, fun b o e => Heap.get?_push_of_some _ e, ⟨_, Heap.get?_push_size _ rfl, rfl, rfl⟩, I1.kept (t' := s1.toks) fun b o e => Heap.get?_push_of_some _ e, fit, ⟨_, Heap.get?_push_size _ rfl⟩, turn_listH a _,
        fun i H2 h hi => ⟨xs, _, e h, List.getElem?_eq_getElem hi⟩, fun i H2 h hi => ⟨xs, e h, hi⟩, fun i H2 x H7 h y => ⟨y.1, y.2 xs (e h)⟩⟩
    · obtain ⟨its, rv, pl, hz⟩ := I1.tuple (SqT.of hq)
      have e : ∀ {H2 : Hp}, (∀ o, H1 a = some o → H2 a = some o) → SqT X.K H2 a xs := fun h => SqT.of (h _ hq)
      refine ⟨Itt X.K a, fun i h => h.IsTupleIter s1.heap.objs.size a i, s1.heap.objs.size, { s1 with heap := s1.heap.push { cls := .type "tuple_iterator", data := .fields #[.ref a, .int (0 : Nat) 0] } }, fun Q q => wpAny_pyIter_tuple (show s1.heap.IsTuple a its.toArray from pl) q, fun b o e => Heap.get?_push_of_some _ e, ⟨_, Heap.get?_push_size _ rfl, rfl, rfl⟩, I1.kept (t' := s1.toks) fun b o e => Heap.get?_push_of_some _ e, fit, ⟨_, Heap.get?_push_size _ rfl⟩, turn_tupleH a _,
        fun i H2 h hi => ⟨xs, _, e h, List.getElem?_eq_getElem hi⟩, fun i H2 h hi => ⟨xs, e h, hi⟩, fun i H2 x H7 h y => ⟨y.1, y.2 xs (e h)⟩⟩
  refine hiter _ ?_
  refine wpAny_newObj_type (newEnv_comp ?_) (by show 0 ≤ sizeLine; decide)
  generalize hD : s2.heap.objs.size = D
  have hDn : H1 D = none := I2.hok.fresh (Nat.le_of_eq hD)
  have itD : it < D := by
    rw [← hD]
    obtain ⟨o, e⟩ := hlt2
    exact Heap.lt_size e
  obtain ⟨Pv, a0, hkp, step, fin⟩ := q D hDn
  generalize hs3 : ({ s2 with heap := s2.heap.push { cls := .type "list", data := .seq ([] : List Value).toArray } } : Shared) = s3
  have k3 : ∀ b o, s2.heap.get? b = some o → s3.heap.get? b = some o := fun b o e => by subst hs3; exact Heap.get?_push_of_some _ e
  have I3 : Inv X pins σ (upd H1 D (.lst [])) s3 := by
    subst hs3 hD
    exact I2.laid (t' := s2.toks) (fun b o e => Heap.get?_push_of_some _ e) (Nat.le_refl _) ⟨Nat.zero_le _, [], 0, .nil, Heap.get?_push_size _ rfl⟩
  have n3 : (upd H1 D (.lst [])) it = none := by rw [upd_ne (Nat.ne_of_lt itD)]; exact fit.1
  have fit3 : FpOk X pins (upd H1 D (.lst [])) it := ⟨n3, fit.2⟩
  have it3 : it < s3.heap.objs.size := by
    obtain ⟨o, e⟩ := hlt2
    exact Heap.lt_size (k3 _ _ e)
  have I4 := block_start I3 ok hN (fp := [it]) (fun b hb => by obtain rfl := List.mem_singleton.mp hb; exact ⟨fit3, it3⟩)
  have P3 := I3.pin p (List.mem_append_left _ hpn)
  have mo : ∀ {o : Obj}, s3.heap.get? p.1 = some o → (pushCells (s3.heap.push { cls := .type "dict", data := .dict #[] }) scope.names).get? p.1 = some o := fun e => pushCells_keeps _ _ _ _ (Heap.get?_push_of_some _ e)
  have I5 := (I4.pins_of (pins' := [p]) (fun b hb => by
    obtain rfl := List.mem_singleton.mp hb
    exact ⟨mo P3.1, P3.2.1, Nat.ne_of_lt (Heap.lt_size P3.1), fun hm => (List.mem_cons.mp (I3.stkSub _ hm)).elim P3.2.2.1 P3.2.2.2.1, P3.2.2.2.2⟩)).toTry (fun _ _ => False)
  have pg := hg s3 (upd H1 D (.lst [])) s3.heap.objs.size (cellsFrom (s3.heap.objs.size + 1) scope.names (cloFrom X.env.cells scope.names [])) [it]
  have pt := ht s3 (upd H1 D (.lst [])) s3.heap.objs.size (cellsFrom (s3.heap.objs.size + 1) scope.names (cloFrom X.env.cells scope.names [])) [it]
  have pe := he s3 (upd H1 D (.lst [])) s3.heap.objs.size (cellsFrom (s3.heap.objs.size + 1) scope.names (cloFrom X.env.cells scope.names [])) [it]
  have I5' : Inv (Cx.blkH X s3 (upd H1 D (.lst [])) scope (cellsFrom (s3.heap.objs.size + 1) scope.names (cloFrom X.env.cells scope.names [])) s3.heap.objs.size [it] p) [] (wipe σ (own.map (·.2))) (upd H1 D (.lst [])) { s3 with heap := pushCells (s3.heap.push { cls := .type "dict", data := .dict #[] }) scope.names } := I5
  generalize hB : Cx.blkH X s3 (upd H1 D (.lst [])) scope (cellsFrom (s3.heap.objs.size + 1) scope.names (cloFrom X.env.cells scope.names [])) s3.heap.objs.size [it] p = B at pg pt pe I5'
  have hotB : HotC B := by subst hB; exact ⟨p, hot, List.mem_singleton.mpr rfl⟩
  have stB : ∀ {σ' : L2.St} {H' : Hp} {s' : Shared}, Inv B [] σ' H' s' → H' it = none → ∀ b ∈ [it], FpOk B [] H' b := fun {σ' H' s'} J hn b hb => by
    obtain rfl := List.mem_singleton.mp hb
    subst hB
    exact ⟨hn, (J.ok.exf b hb).1, J.ok.exfs b hb, .inl hb, (J.ok.exf b hb).2, fun r hr => by
      obtain rfl := List.mem_singleton.mp (by simpa using hr)
      exact fit3.2.2.2.2.2 r (List.mem_append_left _ hpn)⟩
  have st4 : S 0 (pushCells (s3.heap.push { cls := .type "dict", data := .dict #[] }) scope.names) := T.keep 0 _ _ st2 fun b _ o e => pushCells_keeps _ _ _ _ (Heap.get?_push_of_some _ (k3 _ _ e))
  have hpr : B.prog = X.prog := by subst hB; rfl
  have hw : B.w = X.w := by subst hB; rfl
  have hK : B.K = X.K := by subst hB; rfl
  have hA : B.A = X.A := by subst hB; rfl
  have hxe : B.xe = fun _ _ => False := by subst hB; rfl
  have hE : B.env = compEnvC scope (cellsFrom (s3.heap.objs.size + 1) scope.names (cloFrom X.env.cells scope.names [])) s3.heap.objs.size X.env := by subst hB; rfl
  have loop : codeAny (model X.prog X.w) X.A (.compLoop (.ListComp elt [⟨tg, l, ifs, 0⟩] scope pos) 0 (.ref it) (.ref D) (compEnvC scope (cellsFrom (s3.heap.objs.size + 1) scope.names (cloFrom X.env.cells scope.names [])) s3.heap.objs.size X.env)) (compPost (model X.prog X.w) X.A X.xe none (EP X pins σ Q) (.ref D) s3.heap.objs.size) { s3 with heap := pushCells (s3.heap.push { cls := .type "dict", data := .dict #[] }) scope.names } := by
    refine compLoop_any (fun n s' => ∃ i H2, i + n = xs.length ∧ Pv i H2 ∧ H2 it = none ∧ Inv B [] (wipe σ (own.map (·.2))) H2 s' ∧ S i s'.heap) ?_ xs.length ⟨0, _, by omega, a0, n3, I5', st4⟩
    rintro n s5 ⟨i, H2, hi, pv, hn2, J, st5⟩
    cases hx : xs[i]? with
    | none =>
      have td := T.done B hpr hw hK hotB i [] s5 _ _ (fun _ _ => False) J (stB J hn2) st5 (hstop i H2 (hkp i H2 pv) (List.getElem?_eq_none_iff.mp hx))
      rw [hA] at td
      refine thnF td fun r s6 ⟨hr, J6⟩ => ?_
      subst hr
      obtain rfl : i = xs.length := by have := List.getElem?_eq_none_iff.mp hx; omega
      subst hB
      have I7 : Inv X pins σ H2 s6 := I3.call' (ch := [it]) J6.os J6.base J6.hok J6.bare fun b hb => by
        obtain rfl := List.mem_singleton.mp hb
        exact ⟨fit3.2.2.2.1, fit3.2.1, fit3.2.2.2.2.1, fit3.2.2.2.2.2⟩
      obtain ⟨m, hn, _⟩ := J6.loc
      have hC : H2 s3.heap.objs.size = none := J6.free
      obtain ⟨f0, f1, f2, f3, f4, f5⟩ := I3.fpOk (Nat.le_refl _) (show (upd H1 D (.lst [])) s3.heap.objs.size = none from I3.hok.fresh (Nat.le_refl _))
      exact ⟨m, hn, fun h'' sb => ⟨.ref D, _, I7.turned (t' := s6.toks) (fun b o hb e => (sb.2 b hb).trans e) hC f1 f3 f4 f5, rfl, fin H2 pv⟩⟩
    | some y =>
      have hlt := (List.getElem?_eq_some_iff.mp hx).1
      have ti := T.item B hpr hw hK hotB i [] s5 _ _ (fun _ _ => False) J (stB J hn2) st5 (hgo i H2 (hkp i H2 pv) hlt)
      rw [hA] at ti
      refine thnF ti fun r s6 ⟨u, hr, h6⟩ => ?_
      subst hr
      refine thnF h6 fun _ s7 ⟨x, H7, J7, r7, y7, st7, n7⟩ => ?_
      obtain ⟨e7, ex7⟩ := hyld i H2 x H7 (hkp i H2 pv) y7
      subst e7
      obtain rfl : x = y := by
        rw [hx] at ex7
        exact (Option.some.inj ex7).symm
      have J7' := J7.pinned (stB J7 hn2) (T.obj _ _ st7)
      have back : ∀ {σ' : L2.St} {s' : Shared} {H' : Hp}, wipe σ' (own.map (·.2)) = wipe σ (own.map (·.2)) → Pv (i + 1) H' → Inv B ([] ++ pinsAt [it] s7.heap) σ' H' s' → ∃ m, m < n ∧ ∃ i H2, i + m = xs.length ∧ Pv i H2 ∧ H2 it = none ∧ Inv B [] (wipe σ (own.map (·.2))) H2 s' ∧ S i s'.heap := fun {σ' s' H'} hw' pv' J' => by
        have pin : ∀ b ∈ [it], ∀ o, s7.heap.get? b = some o → s'.heap.get? b = some o ∧ H' b = none := fun b hb o e => by
          have q := J'.pin (b, o) (List.mem_append_right _ (List.mem_append_right _ (mem_pinsAt hb e)))
          exact ⟨q.1, q.2.1⟩
        obtain ⟨o7, e7, _⟩ := T.obj _ _ st7 it (List.mem_singleton.mpr rfl)
        refine ⟨n - 1, by omega, i + 1, H', by omega, pv', (pin it (List.mem_singleton.mpr rfl) o7 e7).2, ?_, T.keep _ _ _ st7 fun b hb o e => (pin b hb o e).1⟩
        rw [← hw']
        exact (J'.unpinned (pins := [])).weak (wipe_length _ _) fun j v e => (wipe_some e).1
      have st1 := step i x _ hx pv
      have rg := pg.run _ s7 _ _ x u _ J7' r7 st1
      rw [hpr, hw, hA, hxe, hE] at rg
      refine thnF rg fun _ s8 ⟨σ8, H8, J8, hw8, q8⟩ => ?_
      have rt := pt.run _ s8 σ8 H8 _ J8 q8
      rw [hpr, hw, hA, hxe, hE] at rt
      refine thnF rt fun b s9 ⟨H9, J9, q9⟩ => ?_
      cases b with
      | false => exact back hw8 q9 J9
      | true =>
        have re := pe.run _ s9 σ8 H9 _ J9 q9
        rw [hpr, hw, hA, hxe, hE] at re
        refine thnF re fun z s10 ⟨yv, H10, J10, r10, acc, hacc, hz1, q10⟩ => ?_
        have ap := app_ok (X := B) (E := fun _ _ => False) J10 (D := D) (xs := acc) hacc hz1 r10 (Q := fun _ s' => ∃ m, m < n ∧ ∃ i H2, i + m = xs.length ∧ Pv i H2 ∧ H2 it = none ∧ Inv B [] (wipe σ (own.map (·.2))) H2 s' ∧ S i s'.heap) fun s11 J11 => back hw8 q10 J11
        rw [hpr, hw, hA] at ap
        exact thnF ap fun _ _ z => z
  exact codeAny_compStart_list loop (T.self X.A 0 _ _ _ st4 loop)
end
section
variable {σ : L2.St} {H : Hp} {Q : VK} {g : TG} {tt : TT} {te : TE} {vs : List Nat} {tl : TE}
def CG (a : Addr) (g : TG) (tt : TT) (te : TE) (vs : List Nat) (σ : L2.St) (H1 : Hp) (Q : VK) : Prop := ∃ xs, sq H1 a = some xs ∧ ∀ D, H1 D = none → ∃ Pv : Nat → Hp → Prop, Pv 0 (upd H1 D (.lst [])) ∧ (∀ i H2, Pv i H2 → ∀ o, H1 a = some o → H2 a = some o) ∧
  (∀ i y H2, xs[i]? = some y → Pv i H2 → g y (wipe σ vs) H2 fun σ2 H3 => wipe σ2 vs = wipe σ vs ∧ tt σ2 H3 fun b H4 => if b = true then te σ2 H4 fun z H5 => CSt D (Pv (i + 1)) z H5 else Pv (i + 1) H4) ∧
  ∀ H2, Pv xs.length H2 → Q (.ref D) H2
theorem a_lcG : tLcG tl g tt te vs σ H Q = tl σ H fun x H1 => ∃ a, x = .ref a ∧ CG a g tt te vs σ H1 Q := by
  unfold tLcG CG
  congr 1
  funext x H1
  apply propext
  constructor
  · rintro ⟨a, xs, e, h⟩; exact ⟨a, e, xs, h⟩
  · rintro ⟨a, e, xs, h⟩; exact ⟨a, xs, e, h⟩
theorem cg_by {a : Addr} {xs : List V} (hq : sq H a = some xs) (Pv : Addr → Nat → List V → Hp → Prop) (h0 : ∀ C H0, New H C (.lst []) H0 → Pv C 0 [] H0) (hl : ∀ C i acc H', H C = none → Pv C i acc H' → ∀ o, H a = some o → H' a = some o)
    (hs : ∀ C i x acc H1 N, H C = none → xs[i]? = some x → H1 C = some (.lst acc) → Pv C i acc H1 → (∀ acc' H5, H5 C = some (.lst acc') → Pv C (i + 1) acc' H5 → N H5) → g x (wipe σ vs) H1 fun σ2 H2 => wipe σ2 vs = wipe σ vs ∧ tt σ2 H2 fun b H3 =>
      if b = true then te σ2 H3 fun y H4 => CSt C N y H4 else N H3)
    (hd : ∀ C acc H1, H C = none → H1 C = some (.lst acc) → Pv C xs.length acc H1 → Q (.ref C) H1) : CG a g tt te vs σ H Q := by
  refine ⟨xs, hq, fun C hC => ⟨fun i H1 => ∃ acc, H1 C = some (.lst acc) ∧ Pv C i acc H1, ⟨[], upd_same, h0 C _ (New.mk' hC)⟩, fun i H2 ⟨acc, ha, p⟩ => hl C i acc H2 hC p, fun i y H2 hi ⟨acc, ha, p⟩ => ?_, fun H2 ⟨acc, ha, p⟩ => hd C acc H2 hC ha p⟩⟩
  exact hs C i y acc H2 _ hC hi ha p fun acc' H5 h5 p5 => ⟨acc', h5, p5⟩
end

/-! ## HoU -/
section
open HotX L2H
theorem hu_ofH {k : Nat} {A : Around} (r : RoomH k A) : A.units + 1 < cLine := by have := r.un; omega
theorem pi_sqH {X : Cx} {tg l : Expr} {tl : TE} (hl : PE X l tl) : PIH X tg l (iSq X.K tl) := by
  refine ⟨fun pins s σ H R I h => ?_⟩
  refine thn (hl.run pins s σ H _ I h) fun v s1 ⟨x, H1, I1, r1, a, xs, ex, q⟩ => ?_
  subst ex
  cases r1
  have fit : FpOk X pins H1 s1.heap.objs.size := I1.fpOk (Nat.le_refl _) (I1.hok.fresh (Nat.le_refl _))
  have ft : ∀ b ∈ [s1.heap.objs.size], FpOk X pins H1 b := fun b hb => by
    rw [List.mem_singleton.mp hb]
    exact fit
  rcases q with ⟨hq, q⟩ | ⟨hq, q⟩
  · obtain ⟨its, rv, pl, hz⟩ := I1.list (SqL.of hq)
    exact wpAny_pyIter_list pl.isList ⟨s1.heap.objs.size, [s1.heap.objs.size], fun i h => h.IsListIter s1.heap.objs.size a i, Itl X.K a, H1, rfl, I1.kept (t' := s1.toks) fun b o e => Heap.get?_push_of_some _ e, turn_listH a _, ⟨_, Heap.get?_push_size _ rfl, rfl, rfl⟩, ft, q⟩
  · obtain ⟨its, rv, pl, hz⟩ := I1.tuple (SqT.of hq)
    exact wpAny_pyIter_tuple (show s1.heap.IsTuple a its.toArray from pl) ⟨s1.heap.objs.size, [s1.heap.objs.size], fun i h => h.IsTupleIter s1.heap.objs.size a i, Itt X.K a, H1, rfl, I1.kept (t' := s1.toks) fun b o e => Heap.get?_push_of_some _ e, turn_tupleH a _, ⟨_, Heap.get?_push_size _ rfl, rfl, rfl⟩, ft, q⟩
end
theorem hot_of {A : Around} {a : Addr} {oe : Obj} {cls : Value} {d : Option Addr} (hz : L2N.Zn cls d oe) (hf : ∃ vs, oe.data = .fields vs) : L2H.Hot1 (A.mark (some (.ref a))) (a, oe) := by
  obtain ⟨vs, e⟩ := hf
  exact ⟨rfl, vs, e, hz.2.2 vs e⟩
theorem roomH_mark' {k : Nat} {A : Around} (r : Room k A) {h : Option Value} : L2H.RoomH k (A.mark h) := ⟨r.dp, r.un⟩
/-- f(..) in an except suite, by f's promise for what is handled -/
theorem pe_clU {X : Cx} {j k : Nat} {x : Str} {ps : List Str} {sp : HSp} {a : Addr} {oe : Obj} {pn : List (Addr × Obj)} {cls : Value} {d : Option Addr} {q pos : Pos} {e : Expr} {es : List Expr} {t : TA} (C : ClH X.prog X.w X.K X.mg X.base j x ps sp) (hz : L2N.Zn cls d oe) (hf : ∃ vs, oe.data = .fields vs) (hr : Room k X.A) (hg : Gl X x) (ha : PA (X.suite a ((a, oe) :: pn)) (e :: es) t) (hjk : j ≤ k := by decide)
    (hdb : (x == ("__debug__" : Str)) = false := by decide) (he : starEach (e :: es) X.env = (false, eval e X.env) :: starEach es X.env := by rfl) (hpl : (backTo pos (starEach es X.env)).any (·.1) = false := by rfl) :
    PE (X.suite a ((a, oe) :: pn)) (.Call (.Name x q) (e :: es) [] pos) (fun σ H Q => t σ H fun vs H1 => sp a cls d vs H1 Q E0) :=
  pe_clH (X := X.suite a ((a, oe) :: pn)) C (hot_of hz hf) List.mem_cons_self hz.zc (roomH_mark' hr) hg ha hjk hdb he hpl
theorem clH_false {P : Program} {w : World} {K : PySem.W.Frag} {mg : Str → Option Value} {base : Heap} {x : Str} {st : Stmt} {ps : List Str} {k : Nat} {sp : HSp} (D : Df K mg x st)
    (hb : ∀ (kV doc pm : Value) (an : Option Addr) (cdv ct : Value) (us : List Value), us.length = ps.length → bindArgs (PySem.W.fnOf x x (defArgs st) (defBody st) (defScope st) .none kV doc pm an cdv ct) ⟨us, []⟩ = pure (ps.zip us))
    (no : ∀ a c d vs H Q E, ¬ sp a c d vs H Q E) : ClH P w K mg base k x ps sp := by
  obtain ⟨f, fd, F, g⟩ := D
  exact ⟨f, fd, g, F.kp, F.bindsA hb, fun a c d vs H Q E h => (no a c d vs H Q E h).elim, fun A outer s H us vs Q E p cls d _ _ _ _ _ _ h => (no _ _ _ _ _ _ _ h).elim⟩

/-! ## HoT -/
section
open HotX L2H
variable {X : Cx}
/-- [e for y in l if c], the iterator J; Pv i: what holds behind i of m turns -/
def tLcI (wi : TI) (g : TG) (tt : TT) (te : TE) (vs : List Nat) : TE := fun σ H Q => wi σ H fun J H1 => ∀ D, H1 D = none → ∃ (Pv : Nat → Hp → Prop) (m : Nat), Pv 0 (upd H1 D (.lst [])) ∧
  (∀ i H2, Pv i H2 → i < m → J.go i H2 ∧ ∀ x H3, J.yld i H2 x H3 → g x (wipe σ vs) H3 fun σ2 H4 => wipe σ2 vs = wipe σ vs ∧ tt σ2 H4 fun b H5 => if b = true then te σ2 H5 fun z H6 => CSt D (Pv (i + 1)) z H6 else Pv (i + 1) H5) ∧
  ∀ i H2, Pv i H2 → m ≤ i → J.stop i H2 ∧ Q (.ref D) H2
theorem pe_lcI {elt tg l : Expr} {ifs : List Expr} {scope : Scope} {own : List (Str × Nat)} {pos : Pos} {wi : TI} {g : TG} {tt : TT} {te : TE} {p : Addr × Obj} (hot : Hot1 X.A p) (hpn : p ∈ X.pn) (hN : X.N.Nodup) (hl : PIH X tg l wi) (ok : BlkOk X.N X.env.scope scope own)
    (hg : ∀ s H C cl fp, PG (Cx.blkH X s H scope cl C fp p) tg g) (ht : ∀ s H C cl fp, PTs (Cx.blkH X s H scope cl C fp p) ifs tt) (he : ∀ s H C cl fp, PE (Cx.blkH X s H scope cl C fp p) elt te)
    (hs : ∀ x, foldedSetIterable l X.env x = pure x := by intro _; rfl) : PE X (.ListComp elt [⟨tg, l, ifs, 0⟩] scope pos) (tLcI wi g tt te (own.map (·.2))) := by
  refine ⟨fun pins s σ H Q I h => ?_⟩
  rw [eval_ListComp]
  have clo := closure_ok (env := X.env) (scope := scope) (fun y hy e => (ok.free y hy e).elim (fun k => I.ok.has _ (.inl k)) fun k => I.ok.has _ (.inr k))
  refine wpAny_comprehension_free (use := none) rfl hs clo ok.kind (fun y hy e => (ok.uniq y hy).trans (congrArg some e)) (thn (hl.run pins s σ H _ I h) fun v s1 h1 => ?_)
  refine thn h1 fun itv s2 ⟨it, fp, S, J0, H1, ev, I2, T, st2, fit, q⟩ => ?_
  subst ev
  refine wpAny_newObj_type (newEnv_comp ?_) (by show 0 ≤ sizeLine; decide)
  generalize hD : s2.heap.objs.size = D
  have hDn : H1 D = none := I2.hok.fresh (Nat.le_of_eq hD)
  have fpD : ∀ b ∈ fp, b < D := fun b hb => by
    obtain ⟨o, e, _⟩ := T.obj 0 _ st2 b hb
    rw [← hD]
    exact Heap.lt_size e
  obtain ⟨Pv, m, a0, step, fin⟩ := q D hDn
  generalize hs3 : ({ s2 with heap := s2.heap.push { cls := .type "list", data := .seq ([] : List Value).toArray } } : Shared) = s3
  have k3 : ∀ b o, s2.heap.get? b = some o → s3.heap.get? b = some o := fun b o e => by subst hs3; exact Heap.get?_push_of_some _ e
  have I3 : Inv X pins σ (upd H1 D (.lst [])) s3 := by
    subst hs3 hD
    exact I2.laid (t' := s2.toks) (fun b o e => Heap.get?_push_of_some _ e) (Nat.le_refl _) ⟨Nat.zero_le _, [], 0, .nil, Heap.get?_push_size _ rfl⟩
  have n3 : ∀ b ∈ fp, (upd H1 D (.lst [])) b = none := fun b hb => by rw [upd_ne (Nat.ne_of_lt (fpD b hb))]; exact (fit b hb).1
  have fit3 : ∀ b ∈ fp, FpOk X pins (upd H1 D (.lst [])) b := fun b hb => ⟨n3 b hb, (fit b hb).2⟩
  have it3 : ∀ b ∈ fp, b < s3.heap.objs.size := fun b hb => by
    obtain ⟨o, e, _⟩ := T.obj 0 _ st2 b hb
    exact Heap.lt_size (k3 _ _ e)
  have I4 := block_start I3 ok hN (fp := fp) (fun b hb => ⟨fit3 b hb, it3 b hb⟩)
  have P3 := I3.pin p (List.mem_append_left _ hpn)
  have mo : ∀ {o : Obj}, s3.heap.get? p.1 = some o → (pushCells (s3.heap.push { cls := .type "dict", data := .dict #[] }) scope.names).get? p.1 = some o := fun e => pushCells_keeps _ _ _ _ (Heap.get?_push_of_some _ e)
  have I5 := (I4.pins_of (pins' := [p]) (fun b hb => by
    obtain rfl := List.mem_singleton.mp hb
    exact ⟨mo P3.1, P3.2.1, Nat.ne_of_lt (Heap.lt_size P3.1), fun hm => (List.mem_cons.mp (I3.stkSub _ hm)).elim P3.2.2.1 P3.2.2.2.1, P3.2.2.2.2⟩)).toTry (fun _ _ => False)
  have pg := hg s3 (upd H1 D (.lst [])) s3.heap.objs.size (cellsFrom (s3.heap.objs.size + 1) scope.names (cloFrom X.env.cells scope.names [])) fp
  have pt := ht s3 (upd H1 D (.lst [])) s3.heap.objs.size (cellsFrom (s3.heap.objs.size + 1) scope.names (cloFrom X.env.cells scope.names [])) fp
  have pe := he s3 (upd H1 D (.lst [])) s3.heap.objs.size (cellsFrom (s3.heap.objs.size + 1) scope.names (cloFrom X.env.cells scope.names [])) fp
  have I5' : Inv (Cx.blkH X s3 (upd H1 D (.lst [])) scope (cellsFrom (s3.heap.objs.size + 1) scope.names (cloFrom X.env.cells scope.names [])) s3.heap.objs.size fp p) [] (wipe σ (own.map (·.2))) (upd H1 D (.lst [])) { s3 with heap := pushCells (s3.heap.push { cls := .type "dict", data := .dict #[] }) scope.names } := I5
  generalize hB : Cx.blkH X s3 (upd H1 D (.lst [])) scope (cellsFrom (s3.heap.objs.size + 1) scope.names (cloFrom X.env.cells scope.names [])) s3.heap.objs.size fp p = B at pg pt pe I5'
  have hotB : HotC B := by subst hB; exact ⟨p, hot, List.mem_singleton.mpr rfl⟩
  have stB : ∀ {σ' : L2.St} {H' : Hp} {s' : Shared}, Inv B [] σ' H' s' → (∀ b ∈ fp, H' b = none) → ∀ b ∈ fp, FpOk B [] H' b := fun {σ' H' s'} J hn b hb => by
    subst hB
    exact ⟨hn b hb, (J.ok.exf b hb).1, J.ok.exfs b hb, .inl hb, (J.ok.exf b hb).2, fun r hr => by
      obtain rfl := List.mem_singleton.mp (by simpa using hr)
      exact (fit3 b hb).2.2.2.2.2 r (List.mem_append_left _ hpn)⟩
  have st4 : S 0 (pushCells (s3.heap.push { cls := .type "dict", data := .dict #[] }) scope.names) := T.keep 0 _ _ st2 fun b _ o e => pushCells_keeps _ _ _ _ (Heap.get?_push_of_some _ (k3 _ _ e))
  have hpr : B.prog = X.prog := by subst hB; rfl
  have hw : B.w = X.w := by subst hB; rfl
  have hK : B.K = X.K := by subst hB; rfl
  have hA : B.A = X.A := by subst hB; rfl
  have hxe : B.xe = fun _ _ => False := by subst hB; rfl
  have hE : B.env = compEnvC scope (cellsFrom (s3.heap.objs.size + 1) scope.names (cloFrom X.env.cells scope.names [])) s3.heap.objs.size X.env := by subst hB; rfl
  have loop : codeAny (model X.prog X.w) X.A (.compLoop (.ListComp elt [⟨tg, l, ifs, 0⟩] scope pos) 0 (.ref it) (.ref D) (compEnvC scope (cellsFrom (s3.heap.objs.size + 1) scope.names (cloFrom X.env.cells scope.names [])) s3.heap.objs.size X.env)) (compPost (model X.prog X.w) X.A X.xe none (EP X pins σ Q) (.ref D) s3.heap.objs.size) { s3 with heap := pushCells (s3.heap.push { cls := .type "dict", data := .dict #[] }) scope.names } := by
    refine compLoop_any (fun n s' => ∃ i H2, i + n = m ∧ Pv i H2 ∧ (∀ b ∈ fp, H2 b = none) ∧ Inv B [] (wipe σ (own.map (·.2))) H2 s' ∧ S i s'.heap) ?_ m ⟨0, _, by omega, a0, n3, I5', st4⟩
    rintro n s5 ⟨i, H2, hi, pv, hn2, J, st5⟩
    by_cases hlt : i < m
    rotate_left
    · obtain ⟨hstop, hfin⟩ := fin i H2 pv (Nat.le_of_not_lt hlt)
      have td := T.done B hpr hw hK hotB i [] s5 _ _ (fun _ _ => False) J (stB J hn2) st5 hstop
      rw [hA] at td
      refine thnF td fun r s6 ⟨hr, J6⟩ => ?_
      subst hr
      subst hB
      have I7 : Inv X pins σ H2 s6 := I3.call' (ch := fp) J6.os J6.base J6.hok J6.bare fun b hb => ⟨(fit3 b hb).2.2.2.1, (fit3 b hb).2.1, (fit3 b hb).2.2.2.2.1, (fit3 b hb).2.2.2.2.2⟩
      obtain ⟨mm, hn, _⟩ := J6.loc
      have hC : H2 s3.heap.objs.size = none := J6.free
      obtain ⟨f0, f1, f2, f3, f4, f5⟩ := I3.fpOk (Nat.le_refl _) (show (upd H1 D (.lst [])) s3.heap.objs.size = none from I3.hok.fresh (Nat.le_refl _))
      exact ⟨mm, hn, fun h'' sb => ⟨.ref D, _, I7.turned (t' := s6.toks) (fun b o hb e => (sb.2 b hb).trans e) hC f1 f3 f4 f5, rfl, hfin⟩⟩
    · obtain ⟨hgo, stp⟩ := step i H2 pv hlt
      have ti := T.item B hpr hw hK hotB i [] s5 _ _ (fun _ _ => False) J (stB J hn2) st5 hgo
      rw [hA] at ti
      refine thnF ti fun r s6 ⟨u, hr, h6⟩ => ?_
      subst hr
      refine thnF h6 fun _ s7 ⟨x, H7, J7, r7, y7, st7, n7⟩ => ?_
      have J7' := J7.pinned (stB J7 n7) (T.obj _ _ st7)
      have back : ∀ {σ' : L2.St} {s' : Shared} {H' : Hp}, wipe σ' (own.map (·.2)) = wipe σ (own.map (·.2)) → Pv (i + 1) H' → Inv B ([] ++ pinsAt fp s7.heap) σ' H' s' → ∃ n', n' < n ∧ ∃ i H2, i + n' = m ∧ Pv i H2 ∧ (∀ b ∈ fp, H2 b = none) ∧ Inv B [] (wipe σ (own.map (·.2))) H2 s' ∧ S i s'.heap := fun {σ' s' H'} hw' pv' J' => by
        have pin : ∀ b ∈ fp, ∀ o, s7.heap.get? b = some o → s'.heap.get? b = some o ∧ H' b = none := fun b hb o e => by
          have q := J'.pin (b, o) (List.mem_append_right _ (List.mem_append_right _ (mem_pinsAt hb e)))
          exact ⟨q.1, q.2.1⟩
        refine ⟨n - 1, by omega, i + 1, H', by omega, pv', fun b hb => ?_, ?_, T.keep _ _ _ st7 fun b hb o e => (pin b hb o e).1⟩
        · obtain ⟨o7, e7, _⟩ := T.obj _ _ st7 b hb
          exact (pin b hb o7 e7).2
        rw [← hw']
        exact (J'.unpinned (pins := [])).weak (wipe_length _ _) fun j v e => (wipe_some e).1
      have st1 := stp x H7 y7
      have rg := pg.run _ s7 _ _ x u _ J7' r7 st1
      rw [hpr, hw, hA, hxe, hE] at rg
      refine thnF rg fun _ s8 ⟨σ8, H8, J8, hw8, q8⟩ => ?_
      have rt := pt.run _ s8 σ8 H8 _ J8 q8
      rw [hpr, hw, hA, hxe, hE] at rt
      refine thnF rt fun b s9 ⟨H9, J9, q9⟩ => ?_
      cases b with
      | false => exact back hw8 q9 J9
      | true =>
        have re := pe.run _ s9 σ8 H9 _ J9 q9
        rw [hpr, hw, hA, hxe, hE] at re
        refine thnF re fun z s10 ⟨yv, H10, J10, r10, acc, hacc, hz1, q10⟩ => ?_
        have ap := app_ok (X := B) (E := fun _ _ => False) J10 (D := D) (xs := acc) hacc hz1 r10 (Q := fun _ s' => ∃ n', n' < n ∧ ∃ i H2, i + n' = m ∧ Pv i H2 ∧ (∀ b ∈ fp, H2 b = none) ∧ Inv B [] (wipe σ (own.map (·.2))) H2 s' ∧ S i s'.heap) fun s11 J11 => back hw8 q10 J11
        rw [hpr, hw, hA] at ap
        exact thnF ap fun _ _ z => z
  exact codeAny_compStart_list loop (T.self X.A 0 _ _ _ st4 loop)
end
section
variable {σ : L2.St} {H : Hp} {Q : VK} {g : TG} {tt : TT} {te : TE} {vs : List Nat} {ta : TA}
/-- over range(n) -/
def CI (n : Nat) (g : TG) (tt : TT) (te : TE) (vs : List Nat) (σ : L2.St) (H1 : Hp) (Q : VK) : Prop := ∀ D, H1 D = none → ∃ (Pv : Nat → Hp → Prop) (m : Nat), Pv 0 (upd H1 D (.lst [])) ∧
  (∀ i H2, Pv i H2 → i < m → (Itr 0 n).go i H2 ∧ ∀ x H3, (Itr 0 n).yld i H2 x H3 → g x (wipe σ vs) H3 fun σ2 H4 => wipe σ2 vs = wipe σ vs ∧ tt σ2 H4 fun b H5 => if b = true then te σ2 H5 fun z H6 => CSt D (Pv (i + 1)) z H6 else Pv (i + 1) H5) ∧
  ∀ i H2, Pv i H2 → m ≤ i → (Itr 0 n).stop i H2 ∧ Q (.ref D) H2
theorem a_lcI : tLcI (iRng1 ta) g tt te vs σ H Q = ta σ H fun ws H1 => ∃ j : Int, ws = [.int j] ∧ -(2 ^ 62) ≤ j ∧ j < 2 ^ 62 ∧ CI j.toNat g tt te vs σ H1 Q := rfl
theorem ci_by {n : Nat} (Pv : Addr → Nat → List V → Hp → Prop) (h0 : ∀ C H0, New H C (.lst []) H0 → Pv C 0 [] H0)
    (hs : ∀ C i acc H1 N, H C = none → i < n → H1 C = some (.lst acc) → Pv C i acc H1 → (∀ acc' H5, H5 C = some (.lst acc') → Pv C (i + 1) acc' H5 → N H5) → g (.int (0 + i)) (wipe σ vs) H1 fun σ2 H2 => wipe σ2 vs = wipe σ vs ∧ tt σ2 H2 fun b H3 =>
      if b = true then te σ2 H3 fun y H4 => CSt C N y H4 else N H3)
    (hd : ∀ C acc H1, H C = none → H1 C = some (.lst acc) → Pv C n acc H1 → Q (.ref C) H1) : CI n g tt te vs σ H Q := by
  intro C hC
  refine ⟨fun i H1 => i ≤ n ∧ ∃ acc, H1 C = some (.lst acc) ∧ Pv C i acc H1, n, ⟨Nat.zero_le _, [], upd_same, h0 C _ (New.mk' hC)⟩, fun i H2 ⟨_, acc, ha, p⟩ hi => ⟨hi, fun x H3 ⟨e1, e2⟩ => ?_⟩, fun i H2 ⟨hle, acc, ha, p⟩ hi => ?_⟩
  · subst e1 e2
    exact hs C i acc _ _ hC hi ha p fun acc' H5 h5 p5 => ⟨hi, acc', h5, p5⟩
  · obtain rfl : i = n := by omega
    exact ⟨hi, hd C acc H2 hC ha p⟩
end
section
open HotX L2H
theorem walks_listH {prog : Program} {w : World} {A : Around} {x1 : Addr} {o1 : Obj} {vs1 : Array Value} (hh : A.handled = some (.ref x1)) (d1 : o1.data = .fields vs1) (c1 : vs1[2]? = some .none) (I ax : Addr) (hne : ax ≠ I) (hx : x1 ≠ I) (items : Array Value) :
    Walks prog w A I [I, ax, x1] [I] items.size (fun i v => items[i]? = some v) (fun i h => h.IsListIter I ax i ∧ h.IsList ax items ∧ h.get? x1 = some o1) where
  sub := fun b hb => by simp at hb; simp [hb]
  frame := fun _ _ _ st hk => ⟨st.1.at fun o e => hk I (by simp) o e, st.2.1.at fun o e => hk ax (by simp) o e, hk x1 (by simp) _ st.2.2⟩
  item := fun i s Q E hi st hQ => by
    refine wpAny_pyNext_list_item st.1 st.2.1 (x := items[i]) (by simp [hi]) fun h' hit' hs' => ?_
    exact hQ _ h' s.toks (by simp [hi]) ⟨hit', st.2.1.extBut hs'.extBut hne, hs'.extBut x1 o1 hx st.2.2⟩ fun b o hb e => hs'.extBut b o (fun h => hb (by simp [h])) e
  done := fun s Q E st hQ => list_end_hot ⟨hh, o1, vs1, st.2.2, d1, c1⟩ st.1 st.2.1 (by simp) hx fun h' he' => hQ h' s.toks fun b o hb e => he' b o (fun h => hb (by simp [h])) e
  self := fun _ _ _ _ st hQ => wpAny_pyIter_listiter st.1 hQ
variable {X : Cx}
theorem cr_allH (hc : HotC X) : CallR X (.builtin "all") (rAll X.K) := by
  intro pins s σ H vs us Q I r h
  obtain ⟨a, bs, rfl, hs, q⟩ := h
  obtain ⟨its, rv, hl, _⟩ := I.list hs
  rw [Vals.ref1 r]
  have hb := rv.bls
  obtain ⟨p, ⟨hh, v1, e1, c1⟩, hp⟩ := hc
  have P1 := (I.pin p (List.mem_append_left _ hp)).1
  refine call_all_walk (iter_any hl.isList fun s₂ e2 st hne => ?_)
  subst e2
  have hx : p.1 ≠ s.heap.objs.size := Nat.ne_of_lt (Heap.lt_size P1)
  refine ⟨_, _, _, _, _, _, _, rfl, walks_listH (A := X.A.in1) (x1 := p.1) hh e1 c1 _ a hne hx its.toArray, ⟨st.1, st.2, Heap.get?_push_of_some _ P1⟩, truth_bools hb, fun h' tk hk => ?_⟩
  refine ⟨.bl _, H, I.kept fun b o eo => hk b o (fun hmem => ?_) (Heap.get?_push_of_some _ eo), ?_, q⟩
  · rcases List.mem_cons.mp hmem with e1 | hmem
    · exact absurd (e1 ▸ Heap.lt_size eo) (Nat.lt_irrefl _)
    · cases hmem
  · show Value.bool _ = Value.bool _
    rw [← L2.all_range, hb, List.size_toArray, List.length_map]
theorem sum_rawH {prog : Program} {w : World} {A : Around} {E : Value → Shared → Prop} {s : Shared} {l : Addr} {its : List Value} {ns : List Int} {Q : Value → Shared → Prop} {x1 : Addr} {o1 : Obj} {vs1 : Array Value} (hh : A.handled = some (.ref x1)) (e1 : s.heap.get? x1 = some o1) (d1 : o1.data = .fields vs1) (c1 : vs1[2]? = some .none)
    (hl : s.heap.IsList l its.toArray) (hi : IntsAre its ns)
    (h : ∀ h' tk t', (∀ b o, s.heap.get? b = some o → h'.get? b = some o) → Q (.int ns.sum t') { s with heap := h', toks := tk }) : wpAny (model prog w) A (call (.builtin "sum") [.ref l]) Q E s := by
  obtain ⟨xs, e⟩ := hi.allInts.items
  have hn : numsOf (intItems xs).toList = ns := by rw [← e]; exact hi.numsOf
  rw [nums_intItems] at hn
  rw [e] at hl
  refine PySem.call_sum_walkG (PySem.iter_intList hl fun s₂ e2 st hfp hlI => ?_)
  subst e2
  have hx : x1 ≠ s.heap.objs.size := Nat.ne_of_lt (Heap.lt_size e1)
  refine ⟨_, _, _, _, _, _, numAt xs, rfl, walks_listH (A := A.in1) (x1 := x1) hh d1 c1 _ l hlI hx (intItems xs), ⟨st.1, st.2, Heap.get?_push_of_some _ e1⟩, (fun b hb => ?_), (fun _ _ => intItems_at), fun h' tk t' hk => ?_⟩
  · rcases List.mem_cons.mp hb with rfl | hb
    · exact hfp _ (by simp)
    rcases List.mem_cons.mp hb with rfl | hb
    · exact hfp _ (by simp)
    rw [List.mem_singleton.mp hb]
    exact Heap.lt_size (Heap.get?_push_of_some _ e1)
  · have := h h' tk t' (PySem.old_kept hk)
    have e3 : preSum (numAt xs) (intItems xs).size = ns.sum := by
      rw [show (intItems xs).size = xs.size by simp [intItems], preSum_eq, List.take_of_length_le (by simp), hn]
    rw [e3]
    exact this
theorem cr_sumH (hc : HotC X) : CallR X (.builtin "sum") (rSum X.K) := by
  intro pins s σ H vs us Q I r h
  obtain ⟨a, ns, rfl, hs, q⟩ := h
  obtain ⟨its, rv, hl, _⟩ := I.list hs
  rw [Vals.ref1 r]
  obtain ⟨p, ⟨hh, v1, e1, c1⟩, hp⟩ := hc
  have P1 := (I.pin p (List.mem_append_left _ hp)).1
  exact sum_rawH hh P1 e1 c1 hl.isList rv.ints fun h' tk t' hk => ⟨.int _, H, I.kept hk, ⟨_, rfl⟩, q⟩
end

/-! ## HoQ -/
section
variable {X : Cx}
theorem pe_clXK0 {j k : Nat} {x : Str} {ps : List Str} {sp : Sp} {ks : List Str} {p pos : Pos} {kws : List Keyword} {t2 : TA} (C : ClXK X.prog X.w X.K X.mg X.base j x ps 0 ks sp) (hr : Room k X.A) (hg : Gl X x) (hkw : PK X kws t2) (hjk : j ≤ k := by decide)
    (hall : (backToKw pos (keywordEach kws X.env)).all (·.1.isSome) = true := by rfl) (hks : (backToKw pos (keywordEach kws X.env)).filterMap (·.1) = ks := by rfl)
    (hdb : (x == ("__debug__" : Str)) = false := by decide)
    (hpl : ((backTo pos (starEach [] X.env)).any (·.1) || (backToKw pos (keywordEach kws X.env)).any (·.1.isNone)) = false := by rfl) :
    PE X (.Call (.Name x p) [] kws pos) (fun σ H Q => t2 σ H fun zs H2 => zs.length = ks.length ∧ sp zs H2 Q (fun _ _ _ => False)) := by
  obtain ⟨f, fd, a, b, c, d⟩ := C
  refine ⟨fun pins s σ H Q I h => ?_⟩
  refine wpAny_Call_Name_kw (ld_glob I hg a ?_ hdb)
  refine PySem.W.callWith_KW0 (h₀ := X.base) I.ok.mod.kin b hall ?_ hpl
  refine thn (hkw.run pos pins s σ H _ I h) fun ws s2 ⟨zs, H2, I2, rz, l2, q2⟩ => ⟨I2.kIn, ?_⟩
  rw [hks]
  exact run_fnN (us := []) (vs := []) (d.mono hjk) hr c (fun pins σ H s e s' I c => L2N.passAt (W := fun _ _ _ _ => False) takesN0 σ pins H s e s' I c) I2 .nil rz rfl l2 q2
def qTupA : List V → Hp → VK → Prop := fun xs H Q => ∃ p ys, xs = [.ref p] ∧ sq H p = some ys ∧ ∀ u H', Same H H' → H' u = some (.tup ys) → Q (.ref u) H'
theorem tupA1 : CallR X (.type "tuple") qTupA := CallR_imp call_tuple_of fun xs H Q h => by
  obtain ⟨p, ys, rfl, hq, k⟩ := h
  rcases sq_or hq with e | e
  · exact ⟨p, ys, rfl, .inl ⟨SqL.of e, fun l hl => k l _ (New.mk' hl).same upd_same⟩⟩
  · exact ⟨p, ys, rfl, .inr ⟨SqT.of e, k p H (Same.refl _) e⟩⟩
end
theorem b_tupA {p : Addr} {H : Hp} {Q : VK} : qTupA [.ref p] H Q = ∃ ys, sq H p = some ys ∧ ∀ u H', Same H H' → H' u = some (.tup ys) → Q (.ref u) H' := by
  unfold qTupA; apply propext; constructor
  · rintro ⟨q, ys, e, h⟩; cases e; exact ⟨ys, h⟩
  · rintro ⟨ys, h⟩; exact ⟨p, ys, rfl, h⟩

/-! ## T2 -/

theorem perm_erase {α : Type} : ∀ {xs : List α} {i : Nat} (h : i < xs.length), xs.Perm (xs[i] :: xs.eraseIdx i)
  | _ :: _, 0, _ => .refl _
  | a :: r, i + 1, h => by
    have e := perm_erase (xs := r) (i := i) (by simpa using h)
    exact (List.Perm.cons a e).trans (.swap ..)
section
variable {P : Program} {w : World} {K : PySem.W.Frag} {mg : Str → Option Value} {base : Heap}
/-! pick -/
def sp_pick : Sp := fun vs H Q _ => ∃ (s l p : Addr) (xs : List V), vs = [.ref s, .ref p] ∧ Sto s l H ∧ p ≠ s ∧ sq H p = some xs ∧ xs ≠ [] ∧ xs.length < 2 ^ 62 ∧ ∀ x H', Ge s l H H' → x ∈ xs → Q x H'
abbrev st_law_pick : Stmt := topS 54
theorem sc_law_pick : FnScope ["store", "things"] ["store", "things"] (defScope st_law_pick) := ⟨rfl, rfl, rfl, by decide +kernel, rfl, by decide +kernel, by decide +kernel⟩
theorem ok_law_pick (D : Df K mg "_law_pick" st_law_pick) (T : NoB mg) (C_law_take : Cl P w K mg base 2 "_law_take" ["store", "many"] sp_take) : Cl P w K mg base 3 "_law_pick" ["store", "things"] sp_pick := by
  refine cl_of D sc_law_pick (fun _ _ _ _ _ _ us hl => match us, hl with | [_, _], _ => rfl) (fun vs H Q E h => ?_) (fun f cdv A outer sh H vs Q E hr h => ?_)
  · obtain ⟨_, _, _, _, rfl, _⟩ := h; rfl
  obtain ⟨s, l, p, xs, rfl, st, ne, hq, hne, hl, k⟩ := h
  refine ⟨_, (pss_one (ps_ret (pe_ix ix1 (pv 1) (pe_cl C_law_take hr (by rfl) (pa_cons (pv 0) (pa_cons (pe_callB len1 (by rfl) T.no_len (by decide +kernel) (pa_cons (pv 1) pa_nil)) pa_nil))) (fun _ _ => rfl)))), ?_⟩
  walk_at "wps"
  refine ⟨s, l, _, rfl, by omega, st, fun r H1 g r0 r1 r2 => ?_⟩
  have hq1 := g.kp.sq ne hq
  walk_at "wps"
  have hp : 0 < xs.length := List.length_pos_iff.mpr hne
  have hr : r.toNat < xs.length := by
    by_cases z : xs.length < 2
    · rw [r2 (by omega)]; exact hp
    · have := r1 (by omega); omega
  exact ⟨xs[r.toNat], atI_of r0 (by simp [hr]), k _ _ g (List.getElem_mem hr)⟩
/-! place -/
def sp_place : Sp := fun vs H Q _ => ∃ (s l : Addr) (n : Int), vs = [.ref s, .int n] ∧ Sto s l H ∧ 1 ≤ n ∧ n < 2 ^ 62 ∧ ∀ r H', Ge s l H H' → 0 ≤ r → r < n → Q (.int r) H'
abbrev st_law_place : Stmt := topS 55
theorem sc_law_place : FnScope ["store", "size", "pick"] ["store", "size"] (defScope st_law_place) := ⟨rfl, rfl, rfl, by decide +kernel, rfl, by decide +kernel, by decide +kernel⟩
theorem ok_law_place (D : Df K mg "_law_place" st_law_place) (T : NoB mg) (C_law_take : Cl P w K mg base 2 "_law_take" ["store", "many"] sp_take) : Cl P w K mg base 3 "_law_place" ["store", "size"] sp_place := by
  refine cl_of D sc_law_place (fun _ _ _ _ _ _ us hl => match us, hl with | [_, _], _ => rfl) (fun vs H Q E h => ?_) (fun f cdv A outer sh H vs Q E hr h => ?_)
  · obtain ⟨_, _, _, rfl, _⟩ := h; rfl
  obtain ⟨s, l, n, rfl, st, hn1, hn2, k⟩ := h
  refine ⟨_, (pss_cons (ps_set (i := 2) sc_law_place.nd rfl (Or.inl rfl) (pe_cl C_law_take hr (by rfl) (pa_cons (pv 0) (pa_cons pe_int pa_nil))))
    (pss_cons (ps_if (pt_cmpR op_eq (pv 2) pe_int (nomark _)) (pss_one (ps_ret pe_int)) pss_nil)
    (pss_cons (ps_if (pt_cmpR op_eq (pv 2) pe_int (nomark _)) (pss_one (ps_ret (pe_op op_sub (pv 1) pe_int))) pss_nil)
    (pss_one (ps_ret (pe_cl C_law_take hr (by rfl) (pa_cons (pv 0) (pa_cons (pv 1) pa_nil)))))))), ?_⟩
  walk_at "wps"
  refine ⟨s, l, _, rfl, by decide, st, fun r H1 g r0 r1 r2 => ?_⟩
  walk_at "wps"
  split
  · exact k _ _ g (by omega) (by omega)
  · split
    · exact k _ _ g (by omega) (by omega)
    · refine ⟨s, l, _, rfl, hn2, g.st, fun r' H2 g2 q0 q1 q2 => k _ _ (g.trans g2) q0 ?_⟩
      by_cases z : n < 2
      · rw [q2 z]; omega
      · exact q1 (by omega)
/-! drawn -/
def sp_drawn : Sp := fun vs H Q _ => ∃ (s l p : Addr) (xs : List V) (n : Int), vs = [.ref s, .ref p, .int n] ∧ Sto s l H ∧ sq H p = some xs ∧ xs.length ≤ 1000 ∧ -(2 ^ 62) ≤ n ∧
  ∀ q H' ys rest, Ge s l H H' → H q = none → H' q = some (.lst ys) → (ys ++ rest).Perm xs → ys.length = (if (xs.length : Int) < n then (xs.length : Int) else n).toNat → Q (.ref q) H'
abbrev st_law_drawn : Stmt := topS 56
theorem sc_law_drawn : FnScope ["store", "things", "many", "pool", "found", "k", "at"] ["store", "things", "many"] (defScope st_law_drawn) := ⟨rfl, rfl, rfl, by decide +kernel, rfl, by decide +kernel, by decide +kernel⟩
theorem ok_law_drawn (D : Df K mg "_law_drawn" st_law_drawn) (T : NoB mg) (C_law_take : Cl P w K mg base 2 "_law_take" ["store", "many"] sp_take) : Cl P w K mg base 3 "_law_drawn" ["store", "things", "many"] sp_drawn := by
  refine cl_of D sc_law_drawn (fun _ _ _ _ _ _ us hl => match us, hl with | [_, _, _], _ => rfl) (fun vs H Q E h => ?_) (fun f cdv A outer sh H vs Q E hr h => ?_)
  · obtain ⟨_, _, _, _, _, rfl, _⟩ := h; rfl
  obtain ⟨s, l, p, xs, n, rfl, st, hq, hx, hn0, k⟩ := h
  refine ⟨_, (pss_cons (ps_set (i := 3) sc_law_drawn.nd rfl (Or.inl rfl) (pe_callTy lst1 (by rfl) T.no_list (by decide +kernel) (pa_cons (pv 1) pa_nil)))
    (pss_cons (ps_set (i := 4) sc_law_drawn.nd rfl (Or.inl rfl) (pe_lst pa_nil))
    (pss_cons (ps_for PassesOwn.never rfl (pi_range1 (by rfl) T.no_range (pa_cons (pe_callB (call_min2 rfl) (by rfl) T.no_min (by decide +kernel) (pa_cons (pv 2) (pa_cons (pe_callB len1 (by rfl) T.no_len (by decide +kernel) (pa_cons (pv 3) pa_nil)) pa_nil))) pa_nil)) (pg_name (i := 5) sc_law_drawn.nd rfl (Or.inl rfl)) (pss_cons (ps_set (i := 6) sc_law_drawn.nd rfl (Or.inl rfl) (pe_cl C_law_take hr (by rfl) (pa_cons (pv 0) (pa_cons (pe_callB len1 (by rfl) T.no_len (by decide +kernel) (pa_cons (pv 3) pa_nil)) pa_nil))))
    (pss_one (ps_expr (pe_bm PySem.F.plainAttrs_list PySem.F.slot_list_append PySem.F.type_list_append mt_append (pv 4) (pa_cons (pe_bm PySem.F.plainAttrs_list PySem.F.slot_list_pop PySem.F.type_list_pop mt_popAt (pv 3) (pa_cons (pv 6) pa_nil)) pa_nil))))))
    (pss_one (ps_ret (pv 4)))))), ?_⟩
  walk_at "wps"
  intro po H1 n1
  have g1 := (Ge.refl st).new n1
  refine ⟨Nat.zero_le _, fun fo H2 n2 => ?_⟩
  have g2 := g1.new n2
  have hpo2 := n2.k n1.at_
  have hq2 := sq_l hpo2
  walk_at "wps"
  refine ⟨by split <;> omega, by split <;> omega, ?_⟩
  refine fr_by (fun i σ H' => Ge s l H H' ∧ ∃ pl fd v v', σ = [some (.ref s), some (.ref p), some (.int n), some (.ref po), some (.ref fo), v, v'] ∧ H' po = some (.lst pl) ∧ H' fo = some (.lst fd) ∧ fd.length = i ∧ (fd ++ pl).Perm xs)
    ⟨g2, xs, [], none, none, rfl, hpo2, n2.at_, rfl, .refl _⟩ ?_ ?_
  · rintro i _ H3 N hN hi ⟨g3, pl, fd, v, v', rfl, h1, h2, h3, h4⟩
    have hq3 := sq_l h1
    have hl3 := h4.length_eq
    rw [List.length_append] at hl3
    walk_at "wps"
    refine ⟨s, l, _, rfl, by omega, g3.st, fun r H4 g4 r0 r1 r2 => ?_⟩
    have e1 := g4.at st n1.fr h1
    have e2 := g4.at st (g1.fr n2.fr) h2
    have g5 := g3.trans g4
    have hr : r.toNat < pl.length := by
      by_cases z : pl.length < 2
      · rw [r2 (by omega)]; have : i < xs.length := by split at hi <;> omega
        show 0 < _; omega
      · have := r1 (by omega); omega
    have nef : fo ≠ po := n2.ne n1.at_ |>.symm
    walk_at "wps"
    refine ⟨tyl e2, tyl e1, by omega, by omega, _, seqIndex_of r0 (by omega), pl[r.toNat], by simp [hr], fun H5 n5 => ?_⟩
    have f2 := n5.k nef e2
    walk_at "wps"
    refine ⟨by rw [sizeLine_eq]; omega, fun H6 n6 => ?_⟩
    refine hN _ _ ⟨(g5.put st n1.fr n5).put st (g1.fr n2.fr) n6, _, _, _, _, rfl, n6.k nef.symm n5.at_, n6.at_, by simp [h3], ?_⟩
    refine .trans ?_ h4
    rw [List.append_assoc]
    refine List.Perm.append_left _ ?_
    exact (perm_erase hr).symm
  · rintro _ H3 ⟨g3, pl, fd, v, v', rfl, h1, h2, h3, h4⟩
    walk_at "wps"
    exact k fo H3 fd pl g3 (g1.fr n2.fr) h2 h4 h3
end

/-! ## T3 -/

theorem szl {n : Nat} (h : n ≤ 16777216) : n ≤ sizeLine := by rw [sizeLine_eq]; exact h
theorem szl' {n : Nat} (h : n < 16777216) : n < sizeLine := by rw [sizeLine_eq]; exact h
section
variable {P : Program} {w : World} {K : PySem.W.Frag} {mg : Str → Option Value} {base : Heap}
/-! either -/
def sp_either : Sp := fun vs H Q _ => ∃ (s l p : Addr) (xs : List V), vs = [.ref s, .ref p] ∧ Sto s l H ∧ p ≠ s ∧ H p = some (.lst xs) ∧ ∀ q H', Ge s l H H' → H q = none → (H' q = some (.tup xs) ∨ H' q = some (.lst xs)) → Q (.ref q) H'
/-! whole -/
def sp_whole : Sp := fun vs H Q _ => ∃ (s l : Addr), vs = [.ref s] ∧ Sto s l H ∧ ∀ r H', Ge s l H H' → -(10 ^ 30) < r → r < 10 ^ 30 → Q (.int r) H'
/-! sign -/
def sp_sign : Sp := fun vs H Q _ => ∃ (s l : Addr), vs = [.ref s] ∧ Sto s l H ∧ ∀ z H', Ge s l H H' → z.length = 1 → Vis z → Q (.str z) H'
theorem signs_all : ((PySem.Str.ofString " !\"#$&'()*+,-./0123456789:;<=>?@ABCDEFGHIJKLMNOPQRSTUVWXYZ[\\]^_`" ++ PySem.Str.ofString "abcdefghijklmnopqrstuvwxyz{|}~\n" : Str).cps.toList.all fun c => decide (c = 10 ∨ (32 ≤ c ∧ c < 127))) = true := by decide +kernel
abbrev st_law_sign : Stmt := topS 57
theorem sc_law_sign : FnScope ["store", "signs"] ["store"] (defScope st_law_sign) := ⟨rfl, rfl, rfl, by decide +kernel, rfl, by decide +kernel, by decide +kernel⟩
theorem ok_law_sign (D : Df K mg "_law_sign" st_law_sign) (T : NoB mg) (C_law_take : Cl P w K mg base 2 "_law_take" ["store", "many"] sp_take) : Cl P w K mg base 3 "_law_sign" ["store"] sp_sign := by
  refine cl_of D sc_law_sign (fun _ _ _ _ _ _ us hl => match us, hl with | [_], _ => rfl) (fun vs H Q E h => ?_) (fun f cdv A outer sh H vs Q E hr h => ?_)
  · obtain ⟨_, _, rfl, _⟩ := h; rfl
  obtain ⟨s, l, rfl, st, k⟩ := h
  refine ⟨_, (pss_cons (ps_set (i := 1) sc_law_sign.nd rfl (Or.inl rfl) pe_str)
    (pss_cons (ps_set (i := 1) sc_law_sign.nd rfl (Or.inl rfl) (pe_op op_add_str (pv 1) pe_str))
    (pss_one (ps_ret (pe_ix ix_str (pv 1) (pe_cl C_law_take hr (by rfl) (pa_cons (pv 0) (pa_cons (pe_callB call_len_str (by rfl) T.no_len (by decide +kernel) (pa_cons (pv 1) pa_nil)) pa_nil))) (fun _ _ => rfl)))))), ?_⟩
  walk_at "wps"
  have e := signs_all
  have e2 : 0 < (PySem.Str.ofString " !\"#$&'()*+,-./0123456789:;<=>?@ABCDEFGHIJKLMNOPQRSTUVWXYZ[\\]^_`" ++ PySem.Str.ofString "abcdefghijklmnopqrstuvwxyz{|}~\n" : Str).length ∧ (PySem.Str.ofString " !\"#$&'()*+,-./0123456789:;<=>?@ABCDEFGHIJKLMNOPQRSTUVWXYZ[\\]^_`" ++ PySem.Str.ofString "abcdefghijklmnopqrstuvwxyz{|}~\n" : Str).length < 1000 := by decide +kernel
  refine ⟨szl (by decide +kernel), ?_⟩
  generalize (PySem.Str.ofString " !\"#$&'()*+,-./0123456789:;<=>?@ABCDEFGHIJKLMNOPQRSTUVWXYZ[\\]^_`" ++ PySem.Str.ofString "abcdefghijklmnopqrstuvwxyz{|}~\n" : Str) = z at e e2
  refine ⟨szl (by omega), s, l, _, rfl, by omega, st, fun r H1 g r0 r1 r2 => ?_⟩
  walk_at "wps"
  have hr : r.toNat < z.cps.toList.length := by
    rw [len_tl]
    by_cases q : z.length < 2
    · rw [r2 (by omega)]; exact e2.1
    · have := r1 (by omega); omega
  refine ⟨szl (by omega), z.cps.toList[r.toNat], atI_of r0 (by simp [hr]), k _ _ g rfl fun c hc => ?_⟩
  have hm : c ∈ z.cps.toList := by
    have q : c = z.cps.toList[r.toNat] := by simpa using hc
    rw [q]; exact List.getElem_mem hr
  exact of_decide_eq_true (List.all_eq_true.mp e c hm)
/-! text -/
def sp_text : Sp := fun vs H Q _ => ∃ (s l : Addr) (n : Int), vs = [.ref s, .int n] ∧ Sto s l H ∧ 0 ≤ n ∧ n ≤ 1000 ∧ ∀ z H', Ge s l H H' → (z.length : Int) ≤ n → Vis z → Q (.str z) H'
abbrev st_law_text : Stmt := topS 58
theorem sc_law_text : FnScope ["store", "most", "size", "k"] ["store", "most"] (defScope st_law_text) := ⟨rfl, rfl, rfl, by decide +kernel, rfl, by decide +kernel, by decide +kernel⟩
theorem ok_law_text (D : Df K mg "_law_text" st_law_text) (T : NoB mg) (C_law_place : Cl P w K mg base 3 "_law_place" ["store", "size"] sp_place) (C_law_sign : Cl P w K mg base 3 "_law_sign" ["store"] sp_sign) : Cl P w K mg base 4 "_law_text" ["store", "most"] sp_text := by
  refine cl_of D sc_law_text (fun _ _ _ _ _ _ us hl => match us, hl with | [_, _], _ => rfl) (fun vs H Q E h => ?_) (fun f cdv A outer sh H vs Q E hr h => ?_)
  · obtain ⟨_, _, _, rfl, _⟩ := h; rfl
  obtain ⟨s, l, n, rfl, st, hn1, hn2, k⟩ := h
  refine ⟨_, (pss_cons (ps_set (i := 2) sc_law_text.nd rfl (Or.inl rfl) (pe_cl C_law_place hr (by rfl) (pa_cons (pv 0) (pa_cons (pe_op op_add (pv 1) pe_int) pa_nil))))
    (pss_one (ps_ret (pe_join pe_str (pe_lc (own := [("k", 3)]) (g := gName 3) (tt := tYes) rfl sc_law_text.nd (pi_range1 (by rfl) T.no_range (pa_cons (pv 2) pa_nil)) (blkOk_by (own := [("k", 3)]) (N := ["store", "most", "size", "k"]) (sc := defScope st_law_text) (by decide +kernel)) (fun _ _ _ _ _ => (pg_name (i := 3) sc_law_text.nd rfl (Or.inl rfl))) (fun _ _ _ _ _ => pts_nil) (fun _ _ _ _ _ => (pe_cl C_law_sign hr (by rfl) (pa_cons (pv 0) pa_nil)))))))), ?_⟩
  walk_at "wps"
  refine ⟨s, l, _, rfl, st, by omega, by omega, fun r H1 g r0 r1 => ?_⟩
  walk_at "wps"
  refine ⟨⟨_, rfl⟩, by omega, by omega, ?_⟩
  refine cr_by (fun C i acc H' => H1 C = none ∧ Ge s l H H' ∧ acc.length = i ∧ ∃ ys : List Str, acc = ys.map V.str ∧ ∀ y ∈ ys, y.length = 1 ∧ Vis y) (fun C H0 n0 => ⟨n0.fr, g.new n0, rfl, [], rfl, by simp⟩) ?_ ?_
  · rintro C i acc H2 N hC hi ha ⟨hC', g2, hl, ys, rfl, hy⟩ hN
    walk_at "wps"
    refine ⟨s, l, rfl, g2.st, fun z H3 g3 z1 z2 => ?_⟩
    have e := g3.at g.st hC ha
    have e3 := g2.trans g3
    refine cst e (szl' (by rw [hl]; omega)) fun H5 n5 => hN _ _ n5.at_ ⟨hC, e3.put st (g.fr hC) n5, by simp [hl], ys ++ [z], by simp, fun y hm => ?_⟩
    rcases List.mem_append.mp hm with q | q
    · exact hy y q
    · rw [List.mem_singleton.mp q]; exact ⟨z1, z2⟩
  · rintro C acc H2 hC ha ⟨hC', g2, hl, ys, rfl, hy⟩
    rw [List.length_map] at hl
    have hsum : (ys.map (·.length)).sum = ys.length := by
      clear hl ha
      induction ys with
      | nil => rfl
      | cons a r ih =>
        have e1 := (hy a List.mem_cons_self).1
        have e2 := ih fun y hm => hy y (List.mem_cons_of_mem _ hm)
        simp only [List.map_cons, List.sum_cons, List.length_cons, e1, e2]
        omega
    have hz : (("" : Str).length) = 0 := by decide +kernel
    walk_at "wps"
    refine ⟨ys, .inl (SqL.of ha), ?_, ?_⟩
    · rw [hsum, hl]
      omega
    · have ej := join_tl ys
      refine k _ _ g2 ?_ ?_
      · rw [← len_tl]
        have : ((ys.map fun z => z.cps.toList).flatten).length = ys.length := by
          rw [List.length_flatten, List.map_map]
          have : (List.length ∘ fun z : Str => z.cps.toList) = fun z : Str => z.length := by funext z; exact len_tl z
          rw [this]; exact hsum
        rw [show (Txt.join (Str.ofString "") ys).cps.toList = _ from ej, this]
        omega
      · intro c hc
        rw [show (Txt.join (Str.ofString "") ys).cps.toList = _ from ej] at hc
        obtain ⟨L, h1, h2⟩ := List.mem_flatten.mp hc
        obtain ⟨y, h3, rfl⟩ := List.mem_map.mp h1
        exact (hy y h3).2 c h2
/-! leaf -/
def sp_leaf : Sp := fun vs H Q _ => ∃ (s l : Addr), vs = [.ref s] ∧ Sto s l H ∧ ∀ v d n H', Ge s l H H' → Lf v d n → n ≤ 7 → (∀ i, v = .int i → -(10 ^ 30) < i ∧ i < 10 ^ 30) → Q v H'
end

/-! ## T4 -/

theorem Lf.db {v : V} {d : PyData} {n b : Nat} {E : List Addr} {H : Hp} (h : Lf v d n) (hn : n ≤ b) : Db E H b v := ⟨d, n, .lf h, hn⟩
section
variable {P : Program} {w : World} {K : PySem.W.Frag} {mg : Str → Option Value} {base : Heap}
/-! value -/
def sp_value : Sp := fun vs H Q _ => ∃ (s l : Addr) (E : List Addr) (deep : Int), vs = [.ref s, .int deep] ∧ Sto s l H ∧ Lv E H ∧ s ∈ E ∧ -(2 ^ 60) < deep ∧ deep ≤ 50 ∧ ∀ v H', Ge s l H H' → Db E H' 150 v → Q v H'
end

/-! ## T5 -/

section
variable {P : Program} {w : World} {K : PySem.W.Frag} {mg : Str → Option Value} {base : Heap}
/-! is_whole -/
def sp_isw : Sp := fun vs H Q _ => ∃ (v : V) (d : PyData) (n : Nat) (E : List Addr), vs = [v] ∧ Dw E H v d n ∧ Q (.bl (isWh v)) H
abbrev st_law_is_whole : Stmt := topS 60
theorem sc_law_is_whole : FnScope ["value"] ["value"] (defScope st_law_is_whole) := ⟨rfl, rfl, rfl, by decide +kernel, rfl, by decide +kernel, by decide +kernel⟩
theorem ok_law_is_whole (D : Df K mg "_law_is_whole" st_law_is_whole) (T : NoB mg)  : Cl P w K mg base 1 "_law_is_whole" ["value"] sp_isw := by
  refine cl_of D sc_law_is_whole (fun _ _ _ _ _ _ us hl => match us, hl with | [_], _ => rfl) (fun vs H Q E h => ?_) (fun f cdv A outer sh H vs Q E hr h => ?_)
  · obtain ⟨_, _, _, _, rfl, _⟩ := h; rfl
  obtain ⟨v, d, n, E, rfl, hv, k⟩ := h
  refine ⟨_, (pss_one (ps_ret (pe_and (pe_callB isi1 (by rfl) T.no_isinstance (by decide +kernel) (pa_cons (pv 0) (pa_cons (pe_bltn (by rfl) T.no_int (by decide +kernel) (show RelV (.ty "int") _ from rfl)) pa_nil))) (pe_one (pe_not (pe_callB isi1 (by rfl) T.no_isinstance (by decide +kernel) (pa_cons (pv 0) (pa_cons (pe_bltn (by rfl) T.no_bool (by decide +kernel) (show RelV (.ty "bool") _ from rfl)) pa_nil)))))))), ?_⟩
  cases hv with
  | lf l => cases l <;> (walk_at "wps"; exact k)
  | lst ne h a =>
    have ht := ty_l h
    walk_at "wps"
    exact k
  | tup ne h a =>
    have ht := ty_t h
    walk_at "wps"
    exact k
/-! same -/
inductive Its (H H' : Hp) : List V → Nat → Prop
  | nil : Its H H' [] 0
  | snoc {xs : List V} {m n k : Nat} {t : Addr} {a b : V} {d : PyData} : Its H H' xs m → H' t = some (.tup [a, b]) → Dw [] H a d n → Dw [] H b d k → Its H H' (xs ++ [.ref t]) (m + n)
theorem Its.len {H H' : Hp} {xs : List V} {m : Nat} (h : Its H H' xs m) : xs.length ≤ m := by
  induction h with
  | nil => exact Nat.le_refl _
  | snoc h e a b ih => have := a.pos; rw [List.length_append, List.length_singleton]; omega
theorem Its.keep {H H1 H2 : Hp} {xs : List V} {m : Nat} (h : Its H H1 xs m) (k : ∀ t ys, H1 t = some (.tup ys) → H2 t = some (.tup ys)) : Its H H2 xs m := by
  induction h with
  | nil => exact .nil
  | snoc h e a b ih => exact .snoc ih (k _ _ e) a b
def sp_same : Sp := fun vs H Q _ => ∃ (x y : V) (d : PyData) (n m : Nat), vs = [x, y] ∧ Dw [] H x d n ∧ Dw [] H y d m ∧ n ≤ 4000000 ∧ ∀ H', Same H H' → Q (.bl true) H'
abbrev st_law_same : Stmt := topS 61
theorem sc_law_same : FnScope ["actual", "due", "left", "pair", "one", "two", "k"] ["actual", "due"] (defScope st_law_same) := ⟨rfl, rfl, rfl, by decide +kernel, rfl, by decide +kernel, by decide +kernel⟩
theorem ok_law_same (D : Df K mg "_law_same" st_law_same) (T : NoB mg) (C_law_is_whole : Cl P w K mg base 1 "_law_is_whole" ["value"] sp_isw) : Cl P w K mg base 2 "_law_same" ["actual", "due"] sp_same := by
  refine cl_of D sc_law_same (fun _ _ _ _ _ _ us hl => match us, hl with | [_, _], _ => rfl) (fun vs H Q E h => ?_) (fun f cdv A outer sh H vs Q E hr h => ?_)
  · obtain ⟨_, _, _, _, _, rfl, _⟩ := h; rfl
  obtain ⟨x, y, d, n, m, rfl, hx, hy, hn, k⟩ := h
  refine ⟨_, (pss_cons (ps_set (i := 2) sc_law_same.nd rfl (Or.inl rfl) (pe_lst (pa_cons (pe_tup (pa_cons (pv 0) (pa_cons (pv 1) pa_nil))) pa_nil)))
    (pss_cons (ps_while PassesOwn.never (pt_cmpR op_gt (pe_callB len1 (by rfl) T.no_len (by decide +kernel) (pa_cons (pv 2) pa_nil)) pe_int (nomark _)) (pss_cons (ps_set (i := 3) sc_law_same.nd rfl (Or.inl rfl) (pe_bm0 PySem.F.plainAttrs_list PySem.F.slot_list_pop PySem.F.type_list_pop mt_pop (pv 2)))
    (pss_cons (ps_set (i := 4) sc_law_same.nd rfl (Or.inl rfl) (pe_ix ix1 (pv 3) pe_int (fun _ _ => rfl)))
    (pss_cons (ps_set (i := 5) sc_law_same.nd rfl (Or.inl rfl) (pe_ix ix1 (pv 3) pe_int (fun _ _ => rfl)))
    (pss_one (ps_if (PW.pt (pw_or (pt_cmpR op_isN (pv 5) pe_non (nomark _)) (pw_or (pt_cmpR op_isTF (pv 5) pe_bl (nomark _)) (pw_or1 (pt_cmpR op_isTF (pv 5) pe_bl (nomark _)))))) (pss_one (ps_if (pt_not (PW.pt (pw_or (PW.pt (pw_and (pt_cmpR op_isN (pv 5) pe_non (nomark _)) (pw_and1 (pt_cmpR op_isN (pv 4) pe_non (nomark _))))) (pw_or (PW.pt (pw_and (pt_cmpR op_isTF (pv 5) pe_bl (nomark _)) (pw_and1 (pt_cmpR op_isTF (pv 4) pe_bl (nomark _))))) (pw_or1 (PW.pt (pw_and (pt_cmpR op_isTF (pv 5) pe_bl (nomark _)) (pw_and1 (pt_cmpR op_isTF (pv 4) pe_bl (nomark _)))))))))) (pss_one (ps_ret pe_bl)) pss_nil)) (pss_one (ps_if (pt_val (pe_callB isi1 (by rfl) T.no_isinstance (by decide +kernel) (pa_cons (pv 5) (pa_cons (pe_bltn (by rfl) T.no_int (by decide +kernel) (show RelV (.ty "int") _ from rfl)) pa_nil)))) (pss_one (ps_if (PW.pt (pw_or (pt_not (pt_val (pe_cl C_law_is_whole hr (by rfl) (pa_cons (pv 4) pa_nil)))) (pw_or1 (pt_cmpR op_ne (pv 4) (pv 5) (nomark _))))) (pss_one (ps_ret pe_bl)) pss_nil)) (pss_one (ps_if (pt_val (pe_callB isi1 (by rfl) T.no_isinstance (by decide +kernel) (pa_cons (pv 5) (pa_cons (pe_bltn (by rfl) T.no_str (by decide +kernel) (show RelV (.ty "str") _ from rfl)) pa_nil)))) (pss_one (ps_if (PW.pt (pw_or (pt_not (pt_val (pe_callB isi1 (by rfl) T.no_isinstance (by decide +kernel) (pa_cons (pv 4) (pa_cons (pe_bltn (by rfl) T.no_str (by decide +kernel) (show RelV (.ty "str") _ from rfl)) pa_nil))))) (pw_or1 (pt_cmpR op_ne (pv 4) (pv 5) (nomark _))))) (pss_one (ps_ret pe_bl)) pss_nil)) (pss_cons (ps_if (PW.pt (pw_and (pt_val (pe_callB isi1 (by rfl) T.no_isinstance (by decide +kernel) (pa_cons (pv 5) (pa_cons (pe_bltn (by rfl) T.no_tuple (by decide +kernel) (show RelV (.ty "tuple") _ from rfl)) pa_nil)))) (pw_and1 (pt_not (pt_val (pe_callB isi1 (by rfl) T.no_isinstance (by decide +kernel) (pa_cons (pv 4) (pa_cons (pe_bltn (by rfl) T.no_tuple (by decide +kernel) (show RelV (.ty "tuple") _ from rfl)) pa_nil)))))))) (pss_one (ps_ret pe_bl)) pss_nil)
    (pss_cons (ps_if (PW.pt (pw_and (pt_val (pe_callB isi1 (by rfl) T.no_isinstance (by decide +kernel) (pa_cons (pv 5) (pa_cons (pe_bltn (by rfl) T.no_list (by decide +kernel) (show RelV (.ty "list") _ from rfl)) pa_nil)))) (pw_and1 (pt_not (pt_val (pe_callB isi1 (by rfl) T.no_isinstance (by decide +kernel) (pa_cons (pv 4) (pa_cons (pe_bltn (by rfl) T.no_list (by decide +kernel) (show RelV (.ty "list") _ from rfl)) pa_nil)))))))) (pss_one (ps_ret pe_bl)) pss_nil)
    (pss_cons (ps_if (pt_cmpR op_ne (pe_callB len1 (by rfl) T.no_len (by decide +kernel) (pa_cons (pv 4) pa_nil)) (pe_callB len1 (by rfl) T.no_len (by decide +kernel) (pa_cons (pv 5) pa_nil)) (nomark _)) (pss_one (ps_ret pe_bl)) pss_nil)
    (pss_one (ps_for PassesOwn.never rfl (pi_range1 (by rfl) T.no_range (pa_cons (pe_callB len1 (by rfl) T.no_len (by decide +kernel) (pa_cons (pv 5) pa_nil)) pa_nil)) (pg_name (i := 6) sc_law_same.nd rfl (Or.inl rfl)) (pss_one (ps_expr (pe_bm PySem.F.plainAttrs_list PySem.F.slot_list_append PySem.F.type_list_append mt_append (pv 2) (pa_cons (pe_tup (pa_cons (pe_ix ix1 (pv 4) (pv 6) (fun _ _ => rfl)) (pa_cons (pe_ix ix1 (pv 5) (pv 6) (fun _ _ => rfl)) pa_nil))) pa_nil)))))))))))))))))))
    (pss_one (ps_ret pe_bl)))), ?_⟩
  walk_at "sq"
  refine ⟨szl (by decide), fun t0 H1 n1 => ?_⟩
  walk_at "wq"
  refine ⟨szl (by decide), fun L H2 n2 => ?_⟩
  have s2 : Same H H2 := n1.same.trans n2.same
  have hL : H L = none := n1.same.free n2.fr
  walk_at "sq"
  refine wh_by (fun m σ H' => m ≤ 4000000 ∧ Same H H' ∧ ∃ xs v3 v4 v5 v6, σ = [some x, some y, some (.ref L), v3, v4, v5, v6] ∧ H' L = some (.lst xs) ∧ Its H H' xs m) n
    ⟨hn, s2, [.ref t0], _, _, _, _, rfl, n2.at_, by have := Its.snoc (H := H) (H' := H2) .nil (n2.k n1.at_) hx hy; simpa using this⟩ ?_
  rintro m _ H3 N R hN hR ⟨hm, s3, xs, v3, v4, v5, v6, rfl, e3, it⟩
  have hq := sq_l e3
  walk_at "wq"
  refine hR _ _ (wst (fun hb => ?_) (fun hb => ?_))
  · have hb : 0 < xs.length := by simpa using hb
    cases it with
    | nil => exact absurd hb (by simp)
    | @snoc xs m n' k' t a b d it et wa wb =>
      have htL : t ≠ L := ne_of et e3 (by intro z; cases z)
      walk_at "sq"
      refine ⟨tyl e3, .ref t, by simp, fun H4 n4 => ?_⟩
      have n4' : Put H3 L (.lst xs) H4 := by
        have e := List.dropLast_concat (l₁ := xs) (b := V.ref t)
        rw [e] at n4; exact n4
      clear n4
      have e4 := n4'.at_
      have et4 := n4'.k htL et
      have hq4 := sq_t et4
      have s4 : Same H H4 := fun b o e => n4'.k (ne_of_none e hL) (s3 _ _ e)
      have it4 : Its H H4 xs m := it.keep fun t ys e => n4'.k (ne_of e e3 (by intro z; cases z)) e
      walk_at "sq"
      walk_at "sq"
      have fin : N [some x, some y, some (.ref L), some (.ref t), some a, some b, v6] H4 := hN m _ _ (by have := wa.pos; omega) ⟨by omega, s4, xs, _, _, _, _, rfl, e4, it4⟩
      have loop : ∀ (ap bp : Addr) (as bs : List V) (ds : List PyData) (n1 k1 : Nat), sq H ap = some as → sq H bp = some bs → DwAll [] H as ds n1 → DwAll [] H bs ds k1 → n1 + 1 = n' → as.length = bs.length → FRg 0 bs.length (gName 6) (tDrop
            (tBM K "list" rAppend (tVar 2)
              (tCons (tTup (tCons (tOp rIx1 (tVar 4) (tVar 6)) (tCons (tOp rIx1 (tVar 5) (tVar 6)) tNil))) tNil)))
          { nx := N, rt := Q, bk := tRet (tC (V.bl true)) { nx := fun x H' => Q V.non H', rt := Q }, ct := N }
          [some x, some y, some (V.ref L), some (V.ref t), some (V.ref ap), some (V.ref bp), v6] H4 := by
        intro ap bp as bs ds n1 k1 qa qb da db hn1 hl
        refine fr_by (fun i σ H' => Same H H' ∧ ∃ ys v6 w r r', σ = [some x, some y, some (V.ref L), some (V.ref t), some (V.ref ap), some (V.ref bp), v6] ∧ H' L = some (.lst ys) ∧ Its H H' ys (m + w) ∧ DwAll [] H (as.drop i) (ds.drop i) r ∧ DwAll [] H (bs.drop i) (ds.drop i) r' ∧ w + r = n1)
          ⟨s4, xs, v6, 0, n1, k1, rfl, e4, it4, da, db, by omega⟩ ?_ ?_
        · rintro i _ H5 N' hN' hi ⟨s5, ys, v6, w, r, r', rfl, e5, it5, d5, d5', hw⟩
          have qa5 := same_sq s5 qa
          have qb5 := same_sq s5 qb
          have hia : i < as.length := by omega
          rw [List.drop_eq_getElem_cons hia] at d5
          rw [List.drop_eq_getElem_cons hi] at d5'
          generalize hd : ds.drop i = dd at d5 d5'
          cases d5 with
          | @cons _ _ d0 ds0 c1 c2 p1 p2 =>
            cases d5' with
            | @cons _ _ _ _ c3 c4 p3 p4 =>
              have hd1 : ds.drop (i + 1) = ds0 := by rw [← List.drop_drop, hd] <;> rfl
              walk_at "wq"
              refine ⟨tyl e5, as[i], atI_of (by omega) (by simp [hia]), bs[i], atI_of (by omega) (by simp [hi]), szl (by decide), fun t6 H6 n6 => ?_⟩
              have e6 := n6.k e5
              walk_at "wq"
              have hlen := it5.len
              refine ⟨szl' (by omega), fun H7 n7 => ?_⟩
              have ht6 : t6 ≠ L := (n6.ne e5).symm
              refine hN' _ _ ⟨n7.same (s5.trans n6.same) hL, _, _, w + c1, c2, c4, rfl, n7.at_, ?_, by rw [hd1]; exact p2, by rw [hd1]; exact p4, by omega⟩
              have it7 : Its H H7 ys (m + w) := it5.keep fun t ys e => n7.k (ne_of (n6.k e) e6 (by intro z; cases z)) (n6.k e)
              have := Its.snoc it7 (n7.k ht6 n6.at_) p1 p3
              rw [← Nat.add_assoc]
              exact this
        · rintro _ H5 ⟨s5, ys, v6, w, r, r', rfl, e5, it5, d5, d5', hw⟩
          exact hN (m + w) _ _ (by omega) ⟨by omega, s5, ys, _, _, _, _, rfl, e5, it5⟩
      cases wb with
      | lf l =>
        cases l with
        | non => cases wa with | lf l' => cases l'; walk_at "wps"; first | done | exact fin
        | bl c => cases wa with | lf l' => cases l'; cases c <;> walk_at "wps" <;> first | done | exact fin
        | int c =>
          cases wa with
          | lf l' =>
            cases l'
            walk_at "wps"
            refine ⟨.int c, .int c, 1, [], rfl, .lf (.int c), ?_⟩
            walk_at "wps"
        | str c => cases wa with | lf l' => cases l'; walk_at "wps"; first | done | exact fin
      | @lst bp bs ds k'' bne eb db =>
        cases wa with
        | lf l' => cases l'
        | @lst ap as _ n'' ane ea da =>
          have eb4 := s4 _ _ eb
          have ea4 := s4 _ _ ea
          have tb := ty_l eb4
          have ta := ty_l ea4
          have qb := sq_l eb4
          have qa := sq_l ea4
          walk_at "wps"
          have hl := da.len.1.trans db.len.1.symm
          have hl2 := da.len.2
          rw [if_neg (by omega)]
          exact ⟨by omega, by omega, loop ap bp as bs ds _ _ (sq_l ea) (sq_l eb) da db rfl hl⟩
      | @tup bp bs ds k'' bne eb db =>
        cases wa with
        | lf l' => cases l'
        | @tup ap as _ n'' ane ea da =>
          have eb4 := s4 _ _ eb
          have ea4 := s4 _ _ ea
          have tb := ty_t eb4
          have ta := ty_t ea4
          have qb := sq_t eb4
          have qa := sq_t ea4
          walk_at "wps"
          have hl := da.len.1.trans db.len.1.symm
          have hl2 := da.len.2
          rw [if_neg (by omega)]
          exact ⟨by omega, by omega, loop ap bp as bs ds _ _ (sq_t ea) (sq_t eb) da db rfl hl⟩
  · (walk_at "wq") <;> exact k _ s3
/-! frozen -/
def frz : Nat → PyData → PyData
  | n + 1, .list xs => .tuple [.str "list", .tuple (xs.map (frz n))]
  | n + 1, .tuple xs => .tuple [.str "tuple", .tuple (xs.map (frz n))]
  | _, d => d
def sp_frozen (N : Nat) : Sp := fun vs H Q _ => ∃ (v : V) (deep : Int) (E : List Addr) (d : PyData) (n : Nat), vs = [v, .int deep] ∧ 0 ≤ deep ∧ deep < N ∧ Lv E H ∧ Dw E H v d n ∧ n ≤ 1000000 ∧ ∀ u m H', Same H H' → Dw E H' u (frz deep.toNat d) m → m ≤ 8 * n → Q u H'
end

/-! ## T6 -/

section
variable {P : Program} {w : World} {K : PySem.W.Frag} {mg : Str → Option Value} {base : Heap}
/-! move -/
def sp_move : Sp := fun vs H Q _ => ∃ (s l : Addr) (n : Int), vs = [.ref s, .int n] ∧ Sto s l H ∧ 0 ≤ n ∧ n ≤ 40 ∧ ∀ (q : Addr) (ns : List Int) H', Ge s l H H' → H q = none → H' q = some (.tup (ns.map V.int)) → ns.Perm (rng n.toNat) → Q (.ref q) H'
abbrev st_law_move : Stmt := topS 62
theorem sc_law_move : FnScope ["store", "points", "pick", "image", "size", "ring_row", "k", "shift"] ["store", "points"] (defScope st_law_move) := ⟨rfl, rfl, rfl, by decide +kernel, rfl, by decide +kernel, by decide +kernel⟩
theorem ok_law_move (D : Df K mg "_law_move" st_law_move) (T : NoB mg) (C_law_drawn : Cl P w K mg base 3 "_law_drawn" ["store", "things", "many"] sp_drawn) (C_law_take : Cl P w K mg base 2 "_law_take" ["store", "many"] sp_take) : Cl P w K mg base 4 "_law_move" ["store", "points"] sp_move := by
  refine cl_of D sc_law_move (fun _ _ _ _ _ _ us hl => match us, hl with | [_, _], _ => rfl) (fun vs H Q E h => ?_) (fun f cdv A outer sh H vs Q E hr h => ?_)
  · obtain ⟨_, _, _, rfl, _⟩ := h; rfl
  obtain ⟨s, l, n, rfl, st, hn0, hn1, k⟩ := h
  refine ⟨_, (pss_cons (ps_set (i := 2) sc_law_move.nd rfl (Or.inl rfl) (pe_cl C_law_take hr (by rfl) (pa_cons (pv 0) (pa_cons pe_int pa_nil))))
    (pss_cons (ps_set (i := 3) sc_law_move.nd rfl (Or.inl rfl) (pe_listRg rfl (by rfl) T.no_list (prg_1 (by rfl) T.no_range (pv 1))))
    (pss_cons (ps_if (PW.pt (pw_or (pt_cmpR op_eq (pv 2) pe_int (nomark _)) (pw_or1 (pt_cmpR op_lt (pv 1) pe_int (nomark _))))) (pss_one (ps_ret (pe_callTy tup1 (by rfl) T.no_tuple (by decide +kernel) (pa_cons (pv 3) pa_nil)))) pss_nil)
    (pss_cons (ps_if (pt_cmpR op_lt (pv 2) pe_int (nomark _)) (pss_cons (ps_set (i := 4) sc_law_move.nd rfl (Or.inl rfl) pe_int)
    (pss_cons (ps_if (pt_cmpR op_gt (pv 2) pe_int (nomark _)) (pss_one (ps_set (i := 4) sc_law_move.nd rfl (Or.inl rfl) (pe_op op_add pe_int (pe_cl C_law_take hr (by rfl) (pa_cons (pv 0) (pa_cons (pe_op op_sub (pv 1) pe_int) pa_nil)))))) pss_nil)
    (pss_cons (ps_set (i := 5) sc_law_move.nd rfl (Or.inl rfl) (pe_cl C_law_drawn hr (by rfl) (pa_cons (pv 0) (pa_cons (pv 3) (pa_cons (pv 4) pa_nil)))))
    (pss_cons (ps_for PassesOwn.never rfl (pi_range1 (by rfl) T.no_range (pa_cons (pv 4) pa_nil)) (pg_name (i := 6) sc_law_move.nd rfl (Or.inl rfl)) (pss_one (ps_asg (pe_ix ix1 (pv 5) (pe_op op_modN (pe_callTy int1 (by rfl) T.no_int (by decide +kernel) (pa_cons (pe_op op_add (pv 6) pe_int) pa_nil)) (pv 4)) (fun _ _ => rfl)) (pg_sub (pv 3) (pe_ix ix1 (pv 5) (pv 6) (fun _ _ => rfl)) set_list))))
    (pss_one (ps_ret (pe_callTy tup1 (by rfl) T.no_tuple (by decide +kernel) (pa_cons (pv 3) pa_nil)))))))) pss_nil)
    (pss_cons (ps_if (pt_cmpR op_eq (pv 2) pe_int (nomark _)) (pss_cons (ps_set (i := 7) sc_law_move.nd rfl (Or.inr rfl) (pe_op op_add pe_int (pe_cl C_law_take hr (by rfl) (pa_cons (pv 0) (pa_cons (pe_op op_sub (pv 1) pe_int) pa_nil)))))
    (pss_one (ps_ret (pe_callTy tup1 (by rfl) T.no_tuple (by decide +kernel) (pa_cons (pe_lc (own := [("k", 6)]) (g := gName 6) (tt := tYes) rfl sc_law_move.nd (pi_range1 (by rfl) T.no_range (pa_cons (pv 1) pa_nil)) (blkOk_by (own := [("k", 6)]) (N := ["store", "points", "pick", "image", "size", "ring_row", "k", "shift"]) (sc := defScope st_law_move) (by decide +kernel)) (fun _ _ _ _ _ => (pg_name (i := 6) sc_law_move.nd rfl (Or.inl rfl))) (fun _ _ _ _ _ => pts_nil) (fun _ _ _ _ _ => (pe_op op_modN (pe_callTy int1 (by rfl) T.no_int (by decide +kernel) (pa_cons (pe_op op_add (pv 6) (pv 7)) pa_nil)) (pv 1)))) pa_nil))))) pss_nil)
    (pss_cons (ps_if (pt_cmpR op_eq (pv 2) pe_int (nomark _)) (pss_one (ps_ret (pe_callTy tup1 (by rfl) T.no_tuple (by decide +kernel) (pa_cons (pe_lc (own := [("k", 6)]) (g := gName 6) (tt := tYes) rfl sc_law_move.nd (pi_range1 (by rfl) T.no_range (pa_cons (pv 1) pa_nil)) (blkOk_by (own := [("k", 6)]) (N := ["store", "points", "pick", "image", "size", "ring_row", "k", "shift"]) (sc := defScope st_law_move) (by decide +kernel)) (fun _ _ _ _ _ => (pg_name (i := 6) sc_law_move.nd rfl (Or.inl rfl))) (fun _ _ _ _ _ => pts_nil) (fun _ _ _ _ _ => (pe_op op_sub (pe_op op_sub (pv 1) pe_int) (pv 6)))) pa_nil)))) pss_nil)
    (pss_one (ps_ret (pe_callTy tup1 (by rfl) T.no_tuple (by decide +kernel) (pa_cons (pe_cl C_law_drawn hr (by rfl) (pa_cons (pv 0) (pa_cons (pv 3) (pa_cons (pv 1) pa_nil)))) pa_nil)))))))))), ?_⟩
  walk_at "sq"
  refine ⟨s, l, _, rfl, by decide, st, fun pk H1 g1 r0 r1 r2 => ?_⟩
  have := r1 (by decide)
  walk_at "sq"
  refine ⟨.of_le (by decide) (by omega) (by decide) hn0, fun im H2 n2 => ?_⟩
  have g2 := g1.new n2
  have him := g1.fr n2.fr
  have e2 := n2.at_
  rw [rgV_rng hn0] at e2
  have q2 := sq_l e2
  have idt : ∀ q H3, New H2 q (.tup ((rng n.toNat).map V.int)) H3 → Q (.ref q) H3 := fun q H3 n3 => k q _ H3 (g2.new n3) (g2.fr n3.fr) n3.at_ (.refl _)
  walk_at "sq"
  split
  · exact fun q H3 n3 => idt q H3 n3
  split
  · exact fun q H3 n3 => idt q H3 n3
  rename_i hp0 hp1
  walk_at "sq"
  split
  · walk_at "sq"
    have hn2 : 2 ≤ n := by omega
    refine seq_join (fun σ H' => ∃ sz, σ = [some (.ref s), some (.int n), some (.int pk), some (.ref im), some (.int sz), none, none, none] ∧ Ge s l H2 H' ∧ 2 ≤ sz ∧ sz ≤ n) (fun N hN => ?_) ?_
    · walk_at "wq"
      split
      · refine ⟨s, l, _, rfl, by omega, g2.st, fun r H3 g3 q0 q1 q2 => ?_⟩
        walk_at "wn"
        refine hN _ _ ⟨_, rfl, g3, by omega, ?_⟩
        by_cases z : n - 1 < 2
        · rw [q2 z]; omega
        · have := q1 (by omega); omega
      · exact hN _ _ ⟨2, rfl, Ge.refl g2.st, by omega, hn2⟩
    · rintro _ H3 ⟨sz, rfl, g23, hz1, hz2⟩
      have g3 := g2.trans g23
      have e3 := g23.at st him e2
      have q3 := sq_l e3
      walk_at "sq"
      refine ⟨s, l, im, _, sz, rfl, g3.st, q3, by rw [List.length_map, rng_len]; omega, by omega, fun qr H4 ys rest g34 hqr e4 hp hl => ?_⟩
      have g4 := g3.trans g34
      have ei4 := g34.at st him e3
      have hqr0 := g3.fr hqr
      have hne : im ≠ qr := ne_of_none e3 hqr
      obtain ⟨L, h1, h2⟩ := perm_ints hp
      obtain ⟨r, rst, rfl, rfl, rfl⟩ := append_ints h1
      have hrl : r.length = sz.toNat := by
        rw [List.length_map] at hl
        rw [List.length_map, rng_len] at hl
        rw [hl]; split <;> omega
      have hnd : r.Nodup := (List.nodup_append.mp ((h2.nodup_iff).mpr (rng_nodup _))).1
      have hmem : ∀ x ∈ r, 0 ≤ x ∧ x < n := fun x hx => by
        have := mem_rng.mp (h2.mem_iff.mp (List.mem_append_left _ hx)); omega
      walk_at "sq"
      refine ⟨by omega, by omega, ?_⟩
      refine fr_by (fun i σ H' => Ge s l H H' ∧ ∃ v6 ns, σ = [some (.ref s), some (.int n), some (.int pk), some (.ref im), some (.int sz), some (.ref qr), v6, none] ∧ H' im = some (.lst (ns.map V.int)) ∧ H' qr = some (.lst (r.map V.int)) ∧ ns.length = n.toNat ∧
          (∀ k, k < i → ∃ x y, r[k]? = some x ∧ r[(k + 1) % r.length]? = some y ∧ ns[x.toNat]? = some y) ∧ (∀ p : Nat, p < n.toNat → (p : Int) ∉ r.take i → ns[p]? = some (p : Int)))
        ⟨g4, none, rng n.toNat, rfl, ei4, e4, rng_len _, fun k h => absurd h (Nat.not_lt_zero _), fun p hp _ => rng_get hp⟩ ?_ ?_
      · rintro i _ H5 N hN hi ⟨g5, v6, ns, rfl, e5, f5, hl5, h5, h5'⟩
        have qf5 := sq_l f5
        have hir : i < r.length := by omega
        have hjr : (i + 1) % r.length < r.length := Nat.mod_lt _ (by omega)
        have ej : ((0 : Int) + (i : Int) + 1).fmod sz = (((i + 1) % r.length : Nat) : Int) := by
          rw [Int.fmod_eq_emod_of_nonneg _ (by omega), hrl]
          have : ((sz.toNat : Nat) : Int) = sz := by omega
          push_cast
          rw [this]
          congr 1
          omega
        have hx := hmem r[i] (List.getElem_mem hir)
        walk_at "wq"
        refine ⟨by omega, .int r[(i + 1) % r.length], atI_of (by omega) ?_, .int r[i], atI_of (by omega) ?_, ?_⟩
        · rw [← hrl, Int.toNat_natCast, List.getElem?_map, List.getElem?_eq_getElem hjr]
          rfl
        · simp [hir]
        walk_at "wq"
        refine ⟨r[i].toNat, ixN_of hx.1 (by rw [List.length_map, hl5]; omega), fun H6 n6 => ?_⟩
        refine hN _ _ ⟨g5.put st him n6, _, ns.set r[i].toNat r[(i + 1) % r.length], rfl, ?_, n6.k hne.symm f5, by rw [List.length_set, hl5], fun k hk => ?_, fun p hp hm => ?_⟩
        · rw [n6.at_, List.map_set]
          simp only [hrl]
        · by_cases hki : k = i
          · subst hki
            exact ⟨r[k], r[(k + 1) % r.length], by simp [hir], by simp [hjr], by rw [List.getElem?_set_self (by rw [hl5]; omega)]⟩
          · obtain ⟨x, y, a1, a2, a3⟩ := h5 k (by omega)
            refine ⟨x, y, a1, a2, ?_⟩
            have hk2 : k < r.length := (List.getElem?_eq_some_iff.mp a1).1
            have hxx : r[k] = x := (List.getElem?_eq_some_iff.mp a1).2
            have hx2 := hmem x (List.mem_of_getElem? a1)
            have : r[i] ≠ x := by
              rw [← hxx]
              intro e
              exact hki ((List.getElem?_inj hk2 hnd).mp (by rw [List.getElem?_eq_getElem hk2, List.getElem?_eq_getElem hir, e]))
            rw [List.getElem?_set_ne (by omega)]
            exact a3
        · rw [List.take_succ, List.mem_append, not_or] at hm
          have : r[i] ≠ (p : Int) := fun e => hm.2 (by simp [hir, e])
          rw [List.getElem?_set_ne (by omega)]
          exact h5' p hp hm.1
      · rintro _ H5 ⟨g5, v6, ns, rfl, e5, f5, hl5, h5, h5'⟩
        walk_at "wq"
        refine fun q H6 n6 => k q ns H6 (g5.new n6) (g5.fr n6.fr) n6.at_ (ring_perm h2 hl5 (fun k hk => h5 k (by omega)) fun p hp hm => h5' p hp ?_)
        rw [List.take_of_length_le (by omega)]
        exact hm
  have hn2 : 2 ≤ n := by omega
  walk_at "sq"
  split
  · walk_at "sq"
    refine ⟨s, l, _, rfl, by omega, g2.st, fun r H3 g3 q0 q1 q2 => ?_⟩
    have hr : r < n := by
      by_cases z : n - 1 < 2
      · rw [q2 z]; omega
      · have := q1 (by omega); omega
    have g3' := g2.trans g3
    walk_at "wq"
    refine ⟨by omega, by omega, ?_⟩
    refine cr_by (fun C i acc H' => Ge s l H H' ∧ acc = (((rng n.toNat).take i).map fun k => (k + (1 + r)).fmod n).map V.int) (fun C H0 n0 => ⟨g3'.new n0, by simp⟩) ?_ ?_
    · rintro C i acc H4 N hC hi ha ⟨g4, rfl⟩ hN
      walk_at "wq"
      refine ⟨by omega, cst ha (szl' (by simp; omega)) fun H5 n5 => hN _ _ n5.at_ ⟨g4.put st (g3'.fr hC) n5, ?_⟩⟩
      rw [List.take_succ, rng_get hi]
      simp
    · rintro C acc H4 hC ha ⟨g4, rfl⟩
      rw [List.take_of_length_le (by rw [rng_len]; omega)] at ha
      walk_at "wq"
      refine fun q H5 n5 => k q _ H5 (g4.new n5) (g4.fr n5.fr) n5.at_ ?_
      have := rot_perm (n := n.toNat) (s := (1 + r).toNat) (by omega)
      rw [show (((1 + r).toNat : Nat) : Int) = 1 + r by omega, show ((n.toNat : Nat) : Int) = n by omega] at this
      exact this
  walk_at "sq"
  split
  · walk_at "wq"
    refine ⟨by omega, by omega, ?_⟩
    refine cr_by (fun C i acc H' => Ge s l H H' ∧ acc = (((rng n.toNat).take i).map fun k => n - 1 - k).map V.int) (fun C H0 n0 => ⟨g2.new n0, by simp⟩) ?_ ?_
    · rintro C i acc H4 N hC hi ha ⟨g4, rfl⟩ hN
      walk_at "wq"
      refine cst ha (szl' (by simp; omega)) fun H5 n5 => hN _ _ n5.at_ ⟨g4.put st (g2.fr hC) n5, ?_⟩
      rw [List.take_succ, rng_get hi]
      simp
    · rintro C acc H4 hC ha ⟨g4, rfl⟩
      rw [List.take_of_length_le (by rw [rng_len]; omega)] at ha
      walk_at "wq"
      refine fun q H5 n5 => k q _ H5 (g4.new n5) (g4.fr n5.fr) n5.at_ ?_
      have := rev_perm (n := n.toNat)
      rw [show ((n.toNat : Nat) : Int) = n by omega] at this
      exact this
  · walk_at "wq"
    refine ⟨s, l, im, _, n, rfl, g2.st, q2, by rw [List.length_map, rng_len]; omega, by omega, fun qr H4 ys rest g34 hqr e4 hp hl => ?_⟩
    walk_at "wq"
    refine fun q H5 n5 => ?_
    have g4 := g2.trans g34
    obtain ⟨L, h1, h2⟩ := perm_ints hp
    obtain ⟨r, rst, rfl, rfl, rfl⟩ := append_ints h1
    have hll := h2.length_eq
    rw [List.length_append, rng_len] at hll
    have hrl : rst = [] := by
      rw [List.length_map, List.length_map, rng_len] at hl
      have : r.length = n.toNat := by rw [hl]; split <;> omega
      exact List.eq_nil_of_length_eq_zero (by omega)
    rw [hrl, List.append_nil] at h2
    exact k q r H5 (g4.new n5) (g4.fr n5.fr) n5.at_ h2
end

/-! ## T7 -/

theorem Db.tup1 {E : List Addr} {H : Hp} {b : Nat} {v : V} {p : Addr} (h : Db E H b v) (hp : p ∉ E) (hq : H p = some (.tup [v])) : Db E H (b + 1) (.ref p) := by
  have := Db.seq (E := E) (H := H) (b := b) (xs := [v]) (p := p) (fun x hx => by rw [List.mem_singleton.mp hx]; exact h) hp (.inl hq)
  simpa using this
theorem Db.int {E : List Addr} {H : Hp} {b : Nat} (i : Int) (h : 1 ≤ b) : Db E H b (.int i) := ⟨_, 1, .lf (.int i), h⟩
theorem Db.bl {E : List Addr} {H : Hp} {b : Nat} (i : Bool) (h : 1 ≤ b) : Db E H b (.bl i) := ⟨_, 1, .lf (.bl i), h⟩
theorem Db.non {E : List Addr} {H : Hp} {b : Nat} (h : 1 ≤ b) : Db E H b .non := ⟨_, 1, .lf .non, h⟩
theorem Db.str {E : List Addr} {H : Hp} {b : Nat} {z : Str} (h : z.length + 1 ≤ b) : Db E H b (.str z) := ⟨_, _, .lf (.str z), h⟩
section
variable {P : Program} {w : World} {K : PySem.W.Frag} {mg : Str → Option Value} {base : Heap}
/-! pick of a text -/
def sp_pickS : Sp := fun vs H Q _ => ∃ (s l : Addr) (z : Str), vs = [.ref s, .str z] ∧ Sto s l H ∧ 0 < z.length ∧ z.length ≤ 1000 ∧ ∀ c H', Ge s l H H' → c ∈ z.cps.toList → Q (.str ⟨#[c]⟩) H'
theorem ok_law_pickS (D : Df K mg "_law_pick" st_law_pick) (T : NoB mg) (C_law_take : Cl P w K mg base 2 "_law_take" ["store", "many"] sp_take) : Cl P w K mg base 3 "_law_pick" ["store", "things"] sp_pickS := by
  refine cl_of D sc_law_pick (fun _ _ _ _ _ _ us hl => match us, hl with | [_, _], _ => rfl) (fun vs H Q E h => ?_) (fun f cdv A outer sh H vs Q E hr h => ?_)
  · obtain ⟨_, _, _, rfl, _⟩ := h; rfl
  obtain ⟨s, l, z, rfl, st, hz0, hz1, k⟩ := h
  refine ⟨_, (pss_one (ps_ret (pe_ix ix_str (pv 1) (pe_cl C_law_take hr (by rfl) (pa_cons (pv 0) (pa_cons (pe_callB call_len_str (by rfl) T.no_len (by decide +kernel) (pa_cons (pv 1) pa_nil)) pa_nil))) (fun _ _ => rfl)))), ?_⟩
  walk_at "wps"
  refine ⟨szl (by omega), s, l, _, rfl, by omega, st, fun r H1 g r0 r1 r2 => ?_⟩
  walk_at "wps"
  have hr : r.toNat < z.cps.toList.length := by
    rw [len_tl]
    by_cases q : z.length < 2
    · rw [r2 (by omega)]; exact hz0
    · have := r1 (by omega); omega
  exact ⟨szl (by omega), z.cps.toList[r.toNat], atI_of r0 (by simp [hr]), k _ _ g (List.getElem_mem hr)⟩
/-! bad_move -/
def sp_bad_move : Sp := fun vs H Q _ => ∃ (s l m : Addr) (E : List Addr) (n : Nat) (ns : List Int), vs = [.ref s, .ref m] ∧ Sto s l H ∧ Lv E H ∧ s ∈ E ∧ m ≠ s ∧ H m = some (.tup (ns.map V.int)) ∧ ns.Perm (rng n) ∧ n ≤ 40 ∧ ∀ v H', Ge s l H H' → Db E H' 60 v → Q v H'
end

/-! ## T8 -/

/-- a list of data of at most so much weight -/
def Dl (E : List Addr) (H : Hp) (b : Nat) (xs : List V) : Prop := ∃ ds n, DwAll E H xs ds n ∧ n ≤ b
section
variable {s l p : Addr} {E E' : List Addr} {H H1 : Hp} {o : HO} {b b' c : Nat} {xs ys : List V} {v : V}
theorem DwAll.sublist : ∀ {xs ys : List V} {ds : List PyData} {n : Nat}, ys.Sublist xs → DwAll E H xs ds n → Dl E H n ys
  | _, _, _, _, .slnil, h => by cases h; exact ⟨[], 0, .nil, by omega⟩
  | _, _, _, _, .cons x s, h => by
    cases h with
    | cons a r =>
      obtain ⟨ds, m, h1, h2⟩ := DwAll.sublist s r
      exact ⟨ds, m, h1, by omega⟩
  | _, _, _, _, .cons₂ x s, h => by
    cases h with
    | cons a r =>
      obtain ⟨ds, m, h1, h2⟩ := DwAll.sublist s r
      exact ⟨_, _, .cons a h1, by omega⟩
theorem Dl.sl (h : Dl E H b xs) (s : ys.Sublist xs) : Dl E H b ys := by
  obtain ⟨ds, n, h1, h2⟩ := h
  obtain ⟨es, m, h3, h4⟩ := h1.sublist s
  exact ⟨es, m, h3, by omega⟩
theorem Dl.le (h : Dl E H b xs) (hb : b ≤ b') : Dl E H b' xs := by
  obtain ⟨ds, n, h1, h2⟩ := h
  exact ⟨ds, n, h1, by omega⟩
theorem Dl.app (h : Dl E H b xs) (h' : Dl E H c ys) : Dl E H (b + c) (xs ++ ys) := by
  obtain ⟨ds, n, h1, h2⟩ := h
  obtain ⟨es, m, h3, h4⟩ := h'
  exact ⟨_, _, h1.app h3, by omega⟩
theorem Dl.one (h : Db E H b v) : Dl E H b [v] := by
  obtain ⟨d, n, h1, h2⟩ := h
  exact ⟨_, _, .one h1, by omega⟩
theorem Dl.nil : Dl E H b [] := ⟨[], 0, .nil, by omega⟩
theorem Dl.len (h : Dl E H b xs) : xs.length ≤ b := by
  obtain ⟨d, n, h1, h2⟩ := h
  exact Nat.le_trans h1.len.2 h2
theorem Dl.rev (h : Dl E H b xs) : Dl E H b xs.reverse := by
  obtain ⟨ds, n, h1, h2⟩ := h
  suffices ∀ {xs : List V} {ds : List PyData} {n : Nat}, DwAll E H xs ds n → Dl E H n xs.reverse from (this h1).le h2
  intro xs ds n h
  clear h1 h2
  induction xs generalizing ds n with
  | nil => exact .nil
  | cons x r ih =>
    cases h with
    | @cons _ _ d _ a b w q =>
      rw [List.reverse_cons]
      have := (ih q).app (Dl.one ⟨d, a, w, Nat.le_refl _⟩)
      exact this.le (by omega)
theorem Dl.ge (h : Dl E H b xs) (g : Ge s l H H1) (hs : s ∈ E) : Dl E H1 b xs := by
  obtain ⟨ds, n, h1, h2⟩ := h
  exact ⟨ds, n, h1.ge g hs, h2⟩
theorem Dl.same (h : Dl E H b xs) (g : Same H H1) : Dl E H1 b xs := by
  obtain ⟨ds, n, h1, h2⟩ := h
  exact ⟨ds, n, h1.same g, h2⟩
theorem Dl.put (h : Dl E H b xs) (g : Put H p o H1) (hp : p ∈ E) : Dl E H1 b xs := by
  obtain ⟨ds, n, h1, h2⟩ := h
  exact ⟨ds, n, h1.put g hp, h2⟩
theorem Dl.fresh (h : Dl E H b xs) (hp : H p = none) : Dl (p :: E) H b xs := by
  obtain ⟨ds, n, h1, h2⟩ := h
  exact ⟨ds, n, h1.fresh hp, h2⟩
theorem Dl.sub (h : Dl E H b xs) (k : ∀ a, a ∈ E' → a ∈ E) : Dl E' H b xs := by
  obtain ⟨ds, n, h1, h2⟩ := h
  exact ⟨ds, n, h1.sub k, h2⟩
theorem Db.fresh (h : Db E H b v) (hp : H p = none) : Db (p :: E) H b v := by
  obtain ⟨ds, n, h1, h2⟩ := h
  exact ⟨ds, n, h1.fresh hp, h2⟩
theorem Dl.db (h : Dl E H b xs) (hp : p ∉ E) (hq : H p = some (.tup xs) ∨ H p = some (.lst xs)) : Db E H (b + 1) (.ref p) := by
  obtain ⟨ds, n, h1, h2⟩ := h
  rcases hq with q | q
  · exact ⟨_, _, .tup hp q h1, by omega⟩
  · exact ⟨_, _, .lst hp q h1, by omega⟩
theorem Dl.mem (h : Dl E H b xs) (hv : v ∈ xs) : Db E H b v := by
  obtain ⟨ds, n, h1, h2⟩ := h
  obtain ⟨e, m, _, h3, h4⟩ := h1.mem hv
  exact ⟨e, m, h3, by omega⟩
theorem Dl.set (h : Dl E H b xs) (hv : Db E H c v) (i : Nat) : Dl E H (b + c) (xs.set i v) := by
  by_cases hi : i < xs.length
  · rw [List.set_eq_take_append_cons_drop, if_pos hi]
    obtain ⟨ds, n, h1, h2⟩ := h
    have e : xs = xs.take i ++ xs.drop i := (List.take_append_drop i xs).symm
    suffices ∀ {as bs : List V} {ds : List PyData} {n : Nat}, DwAll E H (as ++ bs) ds n → ∃ a b, Dl E H a as ∧ Dl E H b bs ∧ a + b ≤ n by
      rw [e] at h1
      obtain ⟨a, b', q1, q2, q3⟩ := this h1
      have z : (xs.drop (i + 1)).Sublist (xs.drop i) := by rw [← List.drop_drop]; exact List.drop_sublist _ _
      have := q1.app ((Dl.one hv).app (q2.sl z))
      exact this.le (by omega)
    intro as bs ds n h
    clear h1 h2 e
    induction as generalizing ds n with
    | nil => exact ⟨0, n, .nil, ⟨ds, n, h, Nat.le_refl _⟩, by omega⟩
    | cons x r ih =>
      cases h with
      | @cons _ _ d _ a b w q =>
        obtain ⟨a', b', q1, q2, q3⟩ := ih q
        exact ⟨a + a', b', (Dl.one ⟨d, a, w, Nat.le_refl _⟩).app q1, q2, by omega⟩
  · rw [List.set_eq_of_length_le (by omega)]
    exact h.le (by omega)
theorem cutV_sub (xs : List V) (lo hi : Option Int) : (cutV xs lo hi).Sublist xs := (List.take_sublist _ _).trans (List.drop_sublist _ _)
/-- what data is -/
theorem Db.cases (h : Db E H b v) : (∃ d n, Lf v d n ∧ n ≤ b) ∨ ∃ a xs, v = .ref a ∧ a ∉ E ∧ (H a = some (.tup xs) ∨ H a = some (.lst xs)) ∧ Dl E H (b - 1) xs ∧ 1 ≤ b := by
  obtain ⟨d, n, h, hn⟩ := h
  cases h with
  | lf l => exact .inl ⟨d, n, l, hn⟩
  | lst ne e a => exact .inr ⟨_, _, rfl, ne, .inr e, ⟨_, _, a, by omega⟩, by omega⟩
  | tup ne e a => exact .inr ⟨_, _, rfl, ne, .inl e, ⟨_, _, a, by omega⟩, by omega⟩
end
section
variable {P : Program} {w : World} {K : PySem.W.Frag} {mg : Str → Option Value} {base : Heap}
/-! bent_text -/
def sp_bent_text : Sp := fun vs H Q _ => ∃ (s l : Addr) (t : Str), vs = [.ref s, .str t] ∧ Sto s l H ∧ t.length ≤ 1000000 ∧ ∀ z H', Ge s l H H' → z.length ≤ 4 * t.length + 2 → (Vis t → Vis z) → Q (.str z) H'
theorem one_vis {c : Nat} {z : Str} (h : c ∈ z.cps.toList) (v : Vis z) : Vis ⟨#[c]⟩ := fun x hx => by
  have : x = c := by simpa using hx
  rw [this]; exact v c h
theorem picked_vis : ((PySem.Str.ofString "() 0123456789-+,\nae" : Str).cps.toList.all fun c => decide (c = 10 ∨ (32 ≤ c ∧ c < 127))) = true ∧ 0 < (PySem.Str.ofString "() 0123456789-+,\nae" : Str).length ∧ (PySem.Str.ofString "() 0123456789-+,\nae" : Str).length ≤ 1000 := by decide +kernel
abbrev st_law_bent_text : Stmt := topS 63
theorem sc_law_bent_text : FnScope ["store", "text", "pick", "sign", "at"] ["store", "text"] (defScope st_law_bent_text) := ⟨rfl, rfl, rfl, by decide +kernel, rfl, by decide +kernel, by decide +kernel⟩
theorem ok_law_bent_text (D : Df K mg "_law_bent_text" st_law_bent_text) (T : NoB mg) (C_law_pickS : Cl P w K mg base 3 "_law_pick" ["store", "things"] sp_pickS) (C_law_place : Cl P w K mg base 3 "_law_place" ["store", "size"] sp_place) (C_law_sign : Cl P w K mg base 3 "_law_sign" ["store"] sp_sign) (C_law_take : Cl P w K mg base 2 "_law_take" ["store", "many"] sp_take) : Cl P w K mg base 6 "_law_bent_text" ["store", "text"] sp_bent_text := by
  refine cl_of D sc_law_bent_text (fun _ _ _ _ _ _ us hl => match us, hl with | [_, _], _ => rfl) (fun vs H Q E h => ?_) (fun f cdv A outer sh H vs Q E hr h => ?_)
  · obtain ⟨_, _, _, rfl, _⟩ := h; rfl
  obtain ⟨s, l, t, rfl, st, ht, k⟩ := h
  refine ⟨_, (pss_cons (ps_set (i := 2) sc_law_bent_text.nd rfl (Or.inl rfl) (pe_cl C_law_take hr (by rfl) (pa_cons (pv 0) (pa_cons pe_int pa_nil))))
    (pss_cons (ps_set (i := 3) sc_law_bent_text.nd rfl (Or.inl rfl) (pe_cl C_law_sign hr (by rfl) (pa_cons (pv 0) pa_nil)))
    (pss_cons (ps_if (pt_cmpR op_gt (pe_cl C_law_take hr (by rfl) (pa_cons (pv 0) (pa_cons pe_int pa_nil))) pe_int (nomark _)) (pss_one (ps_set (i := 3) sc_law_bent_text.nd rfl (Or.inl rfl) (pe_cl C_law_pickS hr (by rfl) (pa_cons (pv 0) (pa_cons pe_str pa_nil))))) pss_nil)
    (pss_cons (ps_if (pt_cmpR op_eq (pv 2) pe_int (nomark _)) (pss_one (ps_ret (pe_op op_add_str (pv 1) pe_str))) pss_nil)
    (pss_cons (ps_if (PW.pt (pw_or (pt_cmpR op_eq (pv 2) pe_int (nomark _)) (pw_or1 (pt_cmpR op_eq (pv 1) pe_str (nomark _))))) (pss_one (ps_ret (pe_op op_add_str (pv 1) (pv 3)))) pss_nil)
    (pss_cons (ps_set (i := 4) sc_law_bent_text.nd rfl (Or.inl rfl) (pe_cl C_law_place hr (by rfl) (pa_cons (pv 0) (pa_cons (pe_callB call_len_str (by rfl) T.no_len (by decide +kernel) (pa_cons (pv 1) pa_nil)) pa_nil))))
    (pss_cons (ps_if (pt_cmpR op_eq (pv 2) pe_int (nomark _)) (pss_one (ps_ret (pe_op op_add_str (pe_slice sl_str (pv 1) po_none (po_some (pv 4))) (pe_slice sl_str (pv 1) (po_some (pe_op op_add (pv 4) pe_int)) po_none)))) pss_nil)
    (pss_cons (ps_if (pt_cmpR op_eq (pv 2) pe_int (nomark _)) (pss_one (ps_ret (pe_op op_add_str (pe_op op_add_str (pe_slice sl_str (pv 1) po_none (po_some (pv 4))) (pe_ix ix_str (pv 1) (pv 4) (fun _ _ => rfl))) (pe_slice sl_str (pv 1) (po_some (pv 4)) po_none)))) pss_nil)
    (pss_cons (ps_if (pt_cmpR op_eq (pv 2) pe_int (nomark _)) (pss_one (ps_ret (pe_op op_add_str (pe_op op_add_str (pe_op op_add_str (pe_slice sl_str (pv 1) po_none (po_some (pv 4))) (pe_slice sl_str (pv 1) (po_some (pe_op op_add (pv 4) pe_int)) (po_some (pe_op op_add (pv 4) pe_int)))) (pe_ix ix_str (pv 1) (pv 4) (fun _ _ => rfl))) (pe_slice sl_str (pv 1) (po_some (pe_op op_add (pv 4) pe_int)) po_none)))) pss_nil)
    (pss_cons (ps_if (pt_cmpR op_eq (pv 2) pe_int (nomark _)) (pss_one (ps_ret (pe_slice sl_str (pv 1) po_none (po_some (pv 4))))) pss_nil)
    (pss_cons (ps_if (pt_cmpR op_eq (pv 2) pe_int (nomark _)) (pss_one (ps_ret (pe_op op_add_str (pe_op op_add_str (pe_slice sl_str (pv 1) po_none (po_some (pv 4))) (pv 3)) (pe_slice sl_str (pv 1) (po_some (pv 4)) po_none)))) pss_nil)
    (pss_one (ps_ret (pe_op op_add_str (pe_op op_add_str (pe_slice sl_str (pv 1) po_none (po_some (pv 4))) (pv 3)) (pe_slice sl_str (pv 1) (po_some (pe_op op_add (pv 4) pe_int)) po_none))))))))))))))), ?_⟩
  walk_at "sq"
  refine ⟨s, l, _, rfl, by decide, st, fun pk H1 g1 r0 r1 r2 => ?_⟩
  walk_at "sq"
  refine ⟨s, l, rfl, g1.st, fun sg H2 g2 z1 z2 => ?_⟩
  have g2' := g1.trans g2
  refine seq_join (fun σ H' => ∃ sg, σ = [some (.ref s), some (.str t), some (.int pk), some (.str sg), none] ∧ Ge s l H H' ∧ sg.length = 1 ∧ Vis sg) (fun N hN => ?_) ?_
  · walk_at "wq"
    refine ⟨s, l, _, rfl, by decide, g2.st, fun r H3 g3 q0 q1 q2 => ?_⟩
    walk_at "wn"
    split
    · refine ⟨s, l, _, rfl, g3.st, picked_vis.2.1, picked_vis.2.2, fun c H4 g4 hc => ?_⟩
      exact hN _ _ ⟨_, rfl, (g2'.trans g3).trans g4, rfl, one_vis hc fun x hx => of_decide_eq_true (List.all_eq_true.mp picked_vis.1 x hx)⟩
    · exact hN _ _ ⟨_, rfl, g2'.trans g3, z1, z2⟩
  · clear z1 z2
    rintro _ H3 ⟨sg, rfl, g3, z1, z2⟩
    walk_at "sq"
    have hlf : (Str.ofString "\n").length = 1 ∧ Vis (Str.ofString "\n") := ⟨by decide +kernel, fun c hc => by
      have : ∀ c ∈ (Str.ofString "\n").cps.toList, c = 10 := by decide +kernel
      exact .inl (this c hc)⟩
    split
    · exact ⟨szl (by omega), k _ _ g3 (by rw [len_app]; omega) fun v => v.app hlf.2⟩
    walk_at "sq"
    have app1 : t.length + sg.length ≤ sizeLine ∧ Q (V.str (t ++ sg)) H3 := ⟨szl (by omega), k _ _ g3 (by rw [len_app]; omega) fun v => v.app z2⟩
    split
    · exact ⟨szl (by omega), app1.2⟩
    split
    · exact ⟨szl (by omega), app1.2⟩
    rename_i hne
    have hpos : 0 < t.length := by
      rcases Nat.eq_zero_or_pos t.length with z | z
      · refine absurd ?_ hne
        obtain ⟨c⟩ := t
        have : c = #[] := Array.size_eq_zero_iff.mp z
        rw [this]; decide +kernel
      · exact z
    walk_at "sq"
    refine ⟨szl (by omega), s, l, _, rfl, g3.st, by omega, by omega, fun at_ H4 g4 a0 a1 => ?_⟩
    have g4' := g3.trans g4
    have hc : ∀ lo hi, (cutS t lo hi).length ≤ t.length := fun lo hi => cut_le t lo hi
    have hch : at_.toNat < t.cps.toList.length := by rw [len_tl]; omega
    have hat : atI t.cps.toList at_ = some t.cps.toList[at_.toNat] := atI_of a0 (by simp [hch])
    have h1 : ∀ c : Nat, (⟨#[c]⟩ : Str).length = 1 := fun c => rfl
    have hvc : Vis t → Vis ⟨#[t.cps.toList[at_.toNat]]⟩ := one_vis (List.getElem_mem hch)
    have hl : t.length ≤ sizeLine := szl (by omega)
    walk_at "sq"
    split
    · refine ⟨szl (by have := hc none (some at_); have := hc (some (at_ + 1)) none; omega), k _ _ g4' (by rw [len_app]; have := hc none (some at_); have := hc (some (at_ + 1)) none; omega) fun v => (v.cut _ _).app (v.cut _ _)⟩
    walk_at "sq"
    have c1 := hc none (some at_)
    have c2 := hc (some at_) none
    have c3 := hc (some (at_ + 1)) (some (at_ + 2))
    have c4 := hc (some (at_ + 2)) none
    have c5 := hc (some (at_ + 1)) none
    split
    · refine ⟨szl (by first | omega | (rw [h1]; omega)), szl (by rw [len_app]; first | omega | (rw [h1]; omega)), k _ _ g4' (by rw [len_app, len_app]; first | omega | (rw [h1]; omega)) fun v => ((v.cut _ _).app (hvc v)).app (v.cut _ _)⟩
    walk_at "sq"
    split
    · refine ⟨szl (by omega), szl (by rw [len_app]; first | omega | (rw [h1]; omega)), szl (by rw [len_app, len_app]; first | omega | (rw [h1]; omega)), k _ _ g4' (by rw [len_app, len_app, len_app]; first | omega | (rw [h1]; omega)) fun v => (((v.cut _ _).app (v.cut _ _)).app (hvc v)).app (v.cut _ _)⟩
    walk_at "sq"
    split
    · exact k _ _ g4' (by omega) fun v => v.cut _ _
    walk_at "sq"
    split
    · refine ⟨szl (by omega), szl (by rw [len_app]; omega), k _ _ g4' (by rw [len_app, len_app]; omega) fun v => ((v.cut _ _).app z2).app (v.cut _ _)⟩
    walk_at "wq"
    refine ⟨szl (by omega), szl (by rw [len_app]; omega), k _ _ g4' (by rw [len_app, len_app]; omega) fun v => ((v.cut _ _).app z2).app (v.cut _ _)⟩
/-! bent_leaf -/
def sp_bent_leaf : Sp := fun vs H Q _ => ∃ (s l : Addr) (E : List Addr) (v : V) (d : PyData) (n : Nat), vs = [.ref s, v] ∧ Sto s l H ∧ Lv E H ∧ s ∈ E ∧ Lf v d n ∧ n ≤ 1000000 ∧ ∀ u H', Ge s l H H' → Db E H' (4 * n + 40) u → Q u H'
end

/-! ## T9 -/

theorem seq_ty {s l a : Addr} {H : Hp} {xs : List V} (hs : a ≠ s) (h : H a = some (.tup xs) ∨ H a = some (.lst xs)) : ∃ t r, kitB t "tuple" = some r ∧ kitB t "list" = some (!r) ∧ ∀ H', Ge s l H H' → tyN H' (.ref a) = some t := by
  rcases h with h | h
  · exact ⟨"tuple", true, by decide +kernel, by decide +kernel, fun H' g => ty_t (g.k hs h)⟩
  · exact ⟨"list", false, by decide +kernel, by decide +kernel, fun H' g => ty_l (g.k hs h)⟩
theorem sq_of {a : Addr} {H : Hp} {xs : List V} (h : H a = some (.tup xs) ∨ H a = some (.lst xs)) : sq H a = some xs := by
  rcases h with h | h
  · exact sq_t h
  · exact sq_l h
theorem or_ge {s l a : Addr} {H H' : Hp} {xs : List V} (hs : a ≠ s) (g : Ge s l H H') (h : H a = some (.tup xs) ∨ H a = some (.lst xs)) : H' a = some (.tup xs) ∨ H' a = some (.lst xs) := by
  rcases h with h | h
  · exact .inl (g.k hs h)
  · exact .inr (g.k hs h)
section
variable {P : Program} {w : World} {K : PySem.W.Frag} {mg : Str → Option Value} {base : Heap}
/-! bent_part -/
def sp_bent_part : Sp := fun vs H Q _ => ∃ (s l a : Addr) (E : List Addr) (xs : List V) (n : Nat), vs = [.ref s, .ref a] ∧ Sto s l H ∧ Lv E H ∧ s ∈ E ∧ a ∉ E ∧ (H a = some (.tup xs) ∨ H a = some (.lst xs)) ∧ Dl E H n xs ∧ n ≤ 1000000 ∧ ∀ u H', Ge s l H H' → Db E H' (4 * n + 8) u → Q u H'
/-! bent -/
/-- the way down: at each step a seq and a place in it -/
def PathOk (E : List Addr) (H : Hp) (n : Nat) (x : V) : Prop := ∃ t h xs, ∃ i : Nat, x = .ref t ∧ H t = some (.tup [.ref h, .int i]) ∧ h ∉ E ∧ (H h = some (.tup xs) ∨ H h = some (.lst xs)) ∧ Dl E H n xs ∧ i < xs.length
theorem PathOk.keep {E : List Addr} {H H' : Hp} {n : Nat} {x : V} (p : PathOk E H n x) (k : ∀ a xs, H a = some (.tup xs) → H' a = some (.tup xs)) (k2 : ∀ a o, a ∉ E → H a = some o → H' a = some o) : PathOk E H' n x := by
  obtain ⟨t, h, xs, i, rfl, e, hE, q, d, hi⟩ := p
  obtain ⟨ds, m, h1, h2⟩ := d
  refine ⟨t, h, xs, i, rfl, k _ _ e, hE, ?_, ⟨ds, m, h1.kp k2, h2⟩, hi⟩
  rcases q with q | q
  · exact .inl (k2 _ _ hE q)
  · exact .inr (k2 _ _ hE q)
theorem PathOk.ge {E : List Addr} {H H' : Hp} {n : Nat} {x : V} {s l : Addr} (p : PathOk E H n x) (st : Sto s l H) (g : Ge s l H H') (hs : s ∈ E) : PathOk E H' n x := by
  obtain ⟨ns, i1, i2, i3, i4, i5, i6, h1, _⟩ := st
  exact p.keep (fun a xs e => g.k (ne_of e h1 (by intro z; cases z)) e) fun a o ha e => g.k (fun z => ha (z ▸ hs)) e
theorem PathOk.same {E : List Addr} {H H' : Hp} {n : Nat} {x : V} (p : PathOk E H n x) (g : Same H H') : PathOk E H' n x := p.keep (fun a xs e => g _ _ e) fun a o _ e => g _ _ e
theorem PathOk.put {E : List Addr} {H H' : Hp} {n : Nat} {x : V} {q : Addr} {ys : List V} {o : HO} (p : PathOk E H n x) (hq : H q = some (.lst ys)) (g : Put H q o H') (hs : q ∈ E) : PathOk E H' n x :=
  p.keep (fun a xs e => g.k (ne_of e hq (by intro z; cases z)) e) fun a o ha e => g.k (fun z => ha (z ▸ hs)) e
def sp_bent : Sp := fun vs H Q _ => ∃ (s l : Addr) (E : List Addr) (v : V) (n : Nat), vs = [.ref s, v] ∧ Sto s l H ∧ Lv E H ∧ s ∈ E ∧ Db E H n v ∧ n ≤ 100000 ∧ ∀ u H', Ge s l H H' → Db E H' (9 * n + 50) u → Q u H'
/-! judged -/
def sp_judged : Sp := fun vs H Q _ => ∃ (s l : Addr) (E : List Addr) (v : V) (n : Nat), vs = [.ref s, v] ∧ Sto s l H ∧ Lv E H ∧ s ∈ E ∧ Db E H n v ∧ n ≤ 1000 ∧ ∀ u H', Ge s l H H' → Db E H' (81 * n + 500) u → Q u H'
end

/-! ## T10 -/

section
variable {P : Program} {w : World} {K : PySem.W.Frag} {mg : Str → Option Value} {base : Heap}
/-! the program's is_whole -/
abbrev stis_whole : Stmt := topS 37
theorem scis_whole : FnScope ["value"] ["value"] (defScope stis_whole) := ⟨rfl, rfl, rfl, by decide +kernel, rfl, by decide +kernel, by decide +kernel⟩
theorem okis_whole (D : Df K mg "is_whole" stis_whole) (T : NoB mg)  : Cl P w K mg base 1 "is_whole" ["value"] sp_isw := by
  refine cl_of D scis_whole (fun _ _ _ _ _ _ us hl => match us, hl with | [_], _ => rfl) (fun vs H Q E h => ?_) (fun f cdv A outer sh H vs Q E hr h => ?_)
  · obtain ⟨_, _, _, _, rfl, _⟩ := h; rfl
  obtain ⟨v, d, n, E, rfl, hv, k⟩ := h
  refine ⟨_, (pss_one (ps_ret (pe_and (pe_callB isi1 (by rfl) T.no_isinstance (by decide +kernel) (pa_cons (pv 0) (pa_cons (pe_bltn (by rfl) T.no_int (by decide +kernel) (show RelV (.ty "int") _ from rfl)) pa_nil))) (pe_one (pe_not (pe_callB isi1 (by rfl) T.no_isinstance (by decide +kernel) (pa_cons (pv 0) (pa_cons (pe_bltn (by rfl) T.no_bool (by decide +kernel) (show RelV (.ty "bool") _ from rfl)) pa_nil)))))))), ?_⟩
  cases hv with
  | lf l => cases l <;> (walk_at "wps"; exact k)
  | lst ne h a =>
    have ht := ty_l h
    walk_at "wps"
    exact k
  | tup ne h a =>
    have ht := ty_t h
    walk_at "wps"
    exact k
/-! is_move -/
def sp_is_move : Sp := fun vs H Q _ => ∃ (v : V) (E : List Addr) (d : PyData) (n : Nat), vs = [v] ∧ Dw E H v d n ∧ ∀ H', Same H H' → Q (.bl (isMoveD d)) H'
theorem isWh_int {v : V} (h : isWh v = true) : ∃ i, v = .int i := by
  cases v <;> first | exact ⟨_, rfl⟩ | cases h
theorem ints_of : ∀ {xs : List V}, (∀ x ∈ xs, isWh x = true) → ∃ ns : List Int, xs = ns.map V.int
  | [], _ => ⟨[], rfl⟩
  | x :: r, h => by
    obtain ⟨i, rfl⟩ := isWh_int (h x List.mem_cons_self)
    obtain ⟨ns, rfl⟩ := ints_of fun y hy => h y (List.mem_cons_of_mem _ hy)
    exact ⟨i :: ns, rfl⟩
theorem not_move_leaf {v : V} {d : PyData} {n : Nat} (l : Lf v d n) : isMoveD d = false := isMove_f fun ⟨ns, e, _⟩ => by cases l <;> cases e
theorem not_move_list {ds : List PyData} : isMoveD (.list ds) = false := isMove_f fun ⟨ns, e, _⟩ => by cases e
abbrev stis_move : Stmt := topS 38
theorem scis_move : FnScope ["value", "entry"] ["value"] (defScope stis_move) := ⟨rfl, rfl, rfl, by decide +kernel, rfl, by decide +kernel, by decide +kernel⟩
theorem okis_move (D : Df K mg "is_move" stis_move) (T : NoB mg) (Cis_whole : Cl P w K mg base 1 "is_whole" ["value"] sp_isw) {tk : Tok} (G_MOST_POINTS : mg "MOST_POINTS" = some (.int 12 tk)): Cl P w K mg base 2 "is_move" ["value"] sp_is_move := by
  refine cl_of D scis_move (fun _ _ _ _ _ _ us hl => match us, hl with | [_], _ => rfl) (fun vs H Q E h => ?_) (fun f cdv A outer sh H vs Q E hr h => ?_)
  · obtain ⟨_, _, _, _, rfl, _⟩ := h; rfl
  obtain ⟨v, E, d, n, rfl, hv, k⟩ := h
  refine ⟨_, (pss_cons (ps_if (PW.pt (pw_or (pt_not (pt_val (pe_callB isi1 (by rfl) T.no_isinstance (by decide +kernel) (pa_cons (pv 0) (pa_cons (pe_bltn (by rfl) T.no_tuple (by decide +kernel) (show RelV (.ty "tuple") _ from rfl)) pa_nil))))) (pw_or1 (pt_cmpR op_gt (pe_callB len1 (by rfl) T.no_len (by decide +kernel) (pa_cons (pv 0) pa_nil)) (pe_glob (by rfl) G_MOST_POINTS (show RelV (.int 12) _ from ⟨_, rfl⟩)) (nomark _))))) (pss_one (ps_ret pe_bl)) pss_nil)
    (pss_cons (ps_for PassesOwn.never rfl (pi_sq (pv 0)) (pg_name (i := 1) scis_move.nd rfl (Or.inl rfl)) (pss_one (ps_if (pt_not (pt_val (pe_cl Cis_whole hr (by rfl) (pa_cons (pv 1) pa_nil)))) (pss_one (ps_ret pe_bl)) pss_nil)))
    (pss_one (ps_ret (pe_cmpR (op_eqD hr.units) (pe_callB sorted1 (by rfl) T.no_sorted (by decide +kernel) (pa_cons (pv 0) pa_nil)) (pe_listRg rfl (by rfl) T.no_list (prg_1 (by rfl) T.no_range (pe_callB len1 (by rfl) T.no_len (by decide +kernel) (pa_cons (pv 0) pa_nil)))) (nomark _)))))), ?_⟩
  cases hv with
  | lf l =>
    have fin : Q (.bl false) H := by have := k H (Same.refl _); rw [not_move_leaf l] at this; exact this
    cases l <;> walk_at "wps"
  | lst ne h a =>
    have ht := ty_l h
    have fin : Q (.bl false) H := by have := k H (Same.refl _); rw [not_move_list] at this; exact this
    walk_at "wps"
  | @tup a xs ds m ne h da =>
    have ht := ty_t h
    have qa := sq_t h
    have hl := da.len.1
    walk_at "sq"
    split
    · rename_i hlt
      have := k H (Same.refl _)
      rw [isMove_f fun ⟨ns, e, h1, _⟩ => by have h5 := congrArg List.length (PyData.tuple.inj e); rw [List.length_map] at h5; omega] at this
      exact this
    rename_i hlt
    have hlt : xs.length ≤ 12 := by omega
    walk_at "sq"
    refine fs_by qa (fun i σ H' => ∃ v1, σ = [some (.ref a), v1] ∧ H = H' ∧ ∀ x ∈ xs.take i, isWh x = true) ⟨none, rfl, rfl, by simp⟩ (fun i σ' H' p o ho => by obtain ⟨_, _, e, _⟩ := p; rw [← e]; exact ho) ?_ ?_
    · rintro i x _ _ N hN hi ⟨v1, rfl, rfl, hx⟩
      obtain ⟨e, c, h1, h2, h3⟩ := da.get hi
      walk_at "wn"
      refine ⟨x, e, c, E, rfl, h2, ?_⟩
      walk_at "wn"
      split
      · rename_i hw
        have := k H (Same.refl _)
        rw [isMove_f fun ⟨ns, ed, _⟩ => by
          cases ed
          have := dw_ints' da
          rw [this] at hi
          have hm := List.mem_of_getElem? hi
          obtain ⟨z, _, rfl⟩ := List.mem_map.mp hm
          cases hw] at this
        exact this
      · rename_i hw
        have hw : isWh x = true := by simpa using hw
        refine hN _ _ ⟨_, rfl, rfl, fun y hy => ?_⟩
        rw [List.take_succ, hi] at hy
        rcases List.mem_append.mp hy with z | z
        · exact hx y z
        · have : y = x := by simpa using z
          rw [this]; exact hw
    · rintro _ _ ⟨v1, rfl, rfl, hx⟩
      rw [List.take_length] at hx
      obtain ⟨ns, rfl⟩ := ints_of hx
      have hds := dw_ints da
      subst hds
      rw [List.length_map] at hlt
      have hlt12 : ns.length ≤ 12 := by omega
      walk_at "wq"
      refine ⟨ns, rfl, by omega, fun ns' p H2 hp hs n2 => ?_⟩
      have q2 := same_sq n2.same qa
      have e2 := n2.at_
      walk_at "wn"
      refine ⟨_, q2, .of_le (by decide) (by rw [List.length_map]; omega) (by decide) (by omega), fun q H3 n3 => ?_⟩
      have e3 := n3.at_
      rw [rgV_rng (by omega)] at e3
      refine ⟨.list (ns'.map .int), .list ((rng ns.length).map .int), .lst (SqL.of (n3.k e2)) (dpAll_ints _), ?_, shaped_ints _, shaped_ints _, ?_⟩
      · refine .lst (SqL.of (e3.trans ?_)) (dpAll_ints _)
        rw [List.length_map] <;> rfl
      · have kk := k H3 (n2.same.trans n3.same)
        rw [eqv_ints]
        by_cases hm : ns.Perm (rng ns.length)
        · rw [isMove_t ⟨ns, rfl, hlt12, hm⟩] at kk
          have : ns' = rng ns.length := perm_sorted_eq (hp.trans hm) hs (rng_sorted _)
          rw [decide_eq_true this]; exact kk
        · rw [isMove_f fun ⟨ms, e, _, h2⟩ => by
            have : ms = ns := by
              have e' := (PyData.tuple.inj e)
              exact ((List.map_inj_right fun _ _ h => PyData.int.inj h).mp e').symm
            rw [this] at h2; exact hm h2] at kk
          have : ¬ ns' = rng ns.length := fun e => hm (hp.symm.trans (by rw [e]))
          rw [decide_eq_false this]; exact kk
/-! counted -/
theorem move_counts {E : List Addr} {H : Hp} {xs : List V} {ds : List PyData} {n : Nat} (da : DwAll E H xs ds n) (hl : xs.length ≤ 12) : IsMoveP (.tuple ds) ↔ ∀ k, k < xs.length → xs.count (V.int (k : Int)) = 1 := by
  constructor
  · rintro ⟨ns, e, h1, h2⟩ k hk
    have e' := PyData.tuple.inj e
    subst e'
    have := dw_ints' da
    subst this
    rw [List.length_map] at hk
    have hp : (ns.map V.int).Perm ((rng ns.length).map V.int) := h2.map _
    rw [hp.count_eq]
    have nd : ((rng ns.length).map V.int).Nodup := List.Pairwise.map _ (fun a b (h : a ≠ b) z => h (V.int.inj z)) (rng_nodup _)
    rw [List.Nodup.count nd, if_pos (List.mem_map.mpr ⟨_, mem_rng.mpr ⟨by omega, by omega⟩, rfl⟩)]
  · intro h
    have hp : xs.Perm ((rng xs.length).map V.int) := by
      refine sub_perm (List.Pairwise.map _ (fun a b (h : a ≠ b) z => h (V.int.inj z)) (rng_nodup _)) (fun a ha => ?_) (by rw [List.length_map, rng_len]; exact Nat.le_refl _)
      obtain ⟨i, hi, rfl⟩ := List.mem_map.mp ha
      have := mem_rng.mp hi
      have c := h i.toNat (by omega)
      rw [show ((i.toNat : Nat) : Int) = i by omega] at c
      exact List.count_pos_iff.mp (by omega)
    obtain ⟨ns, rfl, hp2⟩ := perm_ints hp
    refine ⟨ns, by rw [dw_ints da], by rw [List.length_map] at hl; exact hl, ?_⟩
    rw [List.length_map] at hp2
    exact hp2
end

/-! ## T11 -/

def AllI (xs : List V) : Prop := ∀ x ∈ xs, ∃ i, x = V.int i
theorem AllI.dl {E : List Addr} {H : Hp} : ∀ {xs : List V}, AllI xs → Dl E H xs.length xs
  | [], _ => .nil
  | x :: r, h => by
    obtain ⟨i, rfl⟩ := h x List.mem_cons_self
    have := (Dl.one (Db.int (E := E) (H := H) i (Nat.le_refl 1))).app (AllI.dl (xs := r) fun y hy => h y (List.mem_cons_of_mem _ hy))
    exact this.le (by simp only [List.length_cons]; omega)
theorem AllI.map (ns : List Int) : AllI (ns.map V.int) := fun x hx => by
  obtain ⟨i, _, rfl⟩ := List.mem_map.mp hx
  exact ⟨i, rfl⟩
theorem AllI.db {E : List Addr} {H : Hp} {xs : List V} {p : Addr} {b : Nat} (h : AllI xs) (hp : p ∉ E) (hq : H p = some (.tup xs) ∨ H p = some (.lst xs)) (hb : xs.length + 1 ≤ b) : Db E H b (.ref p) := (h.dl.db hp hq).le hb
theorem AllI.rep {xs : List V} {k : Nat} (h : AllI xs) : AllI (List.replicate k xs).flatten := fun x hx => by
  obtain ⟨l, hl, hx⟩ := List.mem_flatten.mp hx
  rw [(List.mem_replicate.mp hl).2] at hx
  exact h x hx
theorem rep_len (k : Nat) (xs : List V) : (List.replicate k xs).flatten.length = k * xs.length := by simp
section
variable {P : Program} {w : World} {K : PySem.W.Frag} {mg : Str → Option Value} {base : Heap}
/-! store -/
def sp_store (K : PySem.W.Frag) : Sp := fun vs H Q _ => ∃ (a : Addr) (ns : List Int), vs = [.ref a] ∧ SqL K H a (ns.map V.int) ∧ ns.length ≤ 1000 ∧ ∀ s l H', Same H H' → H s = none → Sto s l H' → Q (.ref s) H'
abbrev st_law_store : Stmt := topS 51
theorem sc_law_store : FnScope ["script", "cell"] ["script"] (defScope st_law_store) := ⟨rfl, rfl, rfl, by decide +kernel, rfl, by decide +kernel, by decide +kernel⟩
theorem ok_law_store (D : Df K mg "_law_store" st_law_store) (T : NoB mg)  : Cl P w K mg base 1 "_law_store" ["script"] (sp_store K) := by
  refine cl_of D sc_law_store (fun _ _ _ _ _ _ us hl => match us, hl with | [_], _ => rfl) (fun vs H Q E h => ?_) (fun f cdv A outer sh H vs Q E hr h => ?_)
  · obtain ⟨_, _, rfl, _⟩ := h; rfl
  obtain ⟨a, ns, rfl, hs, hn, k⟩ := h
  refine ⟨_, (pss_one (ps_ret (pe_lst (pa_cons (pe_lc (own := [("cell", 1)]) (g := gName 1) (tt := tYes) rfl sc_law_store.nd (pi_sq (pe_slice sl_list (pv 0) po_none (po_some pe_int))) (blkOk_by (own := [("cell", 1)]) (N := ["script", "cell"]) (sc := defScope st_law_store) (by decide +kernel)) (fun _ _ _ _ _ => (pg_name (i := 1) sc_law_store.nd rfl (Or.inl rfl))) (fun _ _ _ _ _ => pts_nil) (fun _ _ _ _ _ => (pe_callTy int1 (by rfl) T.no_int (by decide +kernel) (pa_cons (pv 1) pa_nil)))) (pa_cons pe_int (pa_cons pe_int (pa_cons pe_int (pa_cons pe_int (pa_cons pe_int (pa_cons pe_int pa_nil)))))))))), ?_⟩
  walk_at "wn"
  refine ⟨ns.map V.int, hs, fun p H1 n1 => ?_⟩
  have e1 := n1.at_
  have hc : ∃ ms : List Int, cutV (ns.map V.int) none (some 63) = ms.map V.int ∧ ms.length ≤ ns.length := by
    unfold cutV
    refine ⟨(ns.drop _).take _, by rw [← List.map_drop, ← List.map_take], ?_⟩
    rw [List.length_take, List.length_drop]
    omega
  obtain ⟨ms, em, hm⟩ := hc
  rw [em] at e1
  walk_at "wn"
  refine cs_by (sq_l e1) (fun C i acc H' => Same H1 H' ∧ acc = (ms.take i).map V.int) (fun C H0 n0 => ⟨n0.same, by simp⟩) (fun C i acc H' _ p o ho => p.1 _ _ ho) ?_ ?_
  · rintro C i x acc H2 N hC hi ha ⟨s2, rfl⟩ hN
    rw [List.getElem?_map] at hi
    cases e : ms[i]? with
    | none => rw [e] at hi; cases hi
    | some z =>
      rw [e] at hi
      cases hi
      walk_at "wn"
      refine cst ha (szl' (by rw [List.length_map, List.length_take]; omega)) fun H5 n5 => hN _ _ n5.at_ ⟨n5.same s2 hC, ?_⟩
      rw [List.take_succ, e]
      simp
  · rintro C acc H2 hC ha ⟨s2, rfl⟩
    rw [List.length_map, List.take_length] at ha
    walk_at "wn"
    refine ⟨szl (by decide), fun s H3 n3 => ?_⟩
    have sm := (n1.same.trans s2).trans n3.same
    exact k s C H3 sm ((n1.same.trans s2).free n3.fr) ⟨ms, 0, 0, 0, 0, 0, 0, n3.at_, n3.k ha, n3.ne ha, by decide⟩
/-! near -/
def sp_near : Sp := fun vs H Q _ => ∃ (s l : Addr) (E : List Addr), vs = [.ref s] ∧ Sto s l H ∧ Lv E H ∧ s ∈ E ∧ ∀ u H', Ge s l H H' → Db E H' 250000 u → Q u H'
end

/-! ## HoV -/
/-- an own error of the class at C, at a, its dict -/
def XoAt (a C : Addr) (d : Option Addr) (H : Hp) : Prop := H a = some (exo a C d) ∧ match d with
  | none => True
  | some dd => ∃ fs, H dd = some (exd dd fs)
theorem XoAt.same {a C : Addr} {d : Option Addr} {H H' : Hp} (h : XoAt a C d H) (s : Same H H') : XoAt a C d H' := ⟨s _ _ h.1, by
  have h2 := h.2
  cases d with
  | none => trivial
  | some dd => exact h2.imp fun fs e => s _ _ e⟩
/-- an __init__ without parameters -/
def sp_ini0 (C : Addr) : Sp := fun vs H Q _ => ∃ x : Addr, vs = [.ref x] ∧ H x = some (exo x C none) ∧ Q .non H
structure ErrC0 (P : Program) (w : World) (K : PySem.W.Frag) (mg : Str → Option Value) (base : Heap) (k : Nat) (x : Str) (C : Addr) : Prop where
  g : mg x = some (.ref C)
  T : OexC K C
  ini : ∃ (fI : Addr) (fd : FuncData) (ps : List Str), PySem.W.findIn K (.ref C) "__init__" = some (some (.ref fI)) ∧ PySem.W.typeIn K (.ref fI) = some (.type "function") ∧ Binds K fd ps [] ∧ FnOk P w K mg base CX0 k fI fd ps (sp_ini0 C)
  xf : XfC K C
  ec : ExcC K C
section
variable {X : Cx} {C : Addr} {ok : List V → Hp → Prop} {fl : List Str} {k : Nat} {x : Str}
theorem run_err {pins : List (Addr × Obj)} {σ : L2.St} {H1 : Hp} {s1 : Shared} {us : List Value} {vs : List V} {Q : VK} {sp : Sp} {j : Nat} {fI : Addr} {fd : FuncData} {ps : List Str} (T : OexC X.K C) (iC : PySem.W.findIn X.K (.ref C) "__init__" = some (some (.ref fI))) (tI : PySem.W.typeIn X.K (.ref fI) = some (.type "function"))
    (hb : Binds X.K fd ps []) (F1 : FnOk X.prog X.w X.K X.mg X.base CX0 j fI fd ps sp) (hr : Room (j + 1) X.A) (I1 : Inv X pins σ H1 s1) (r1 : Vals vs us) (hs : vs.length ≤ 1000) (h : ∀ a, H1 a = none → sp (.ref a :: vs) (upd H1 a (exo a C none)) (fun v H2 => v = .non ∧ Q (.ref a) H2) fun _ _ _ => False) :
    wpAny (model X.prog X.w) X.A (call (.ref C) us) (EP X pins σ Q) X.xe s1 := by
  obtain ⟨nm, q, N, bs, bm, sn, sub, ab, col, dd, k0, k1, k2, k3, k5, hC, hbm⟩ := T.cls
  obtain ⟨hp, g, dr, tk, os⟩ := s1
  generalize hx : hp.objs.size + 1 = a
  have hsz : hp.objs.size ≤ a := by omega
  have hn : H1 a = none := I1.hok.fresh hsz
  have kk : ∀ b o, hp.get? b = some o → ((hp.push (PySem.W.kdv_tup us)).push (PySem.HandSPX.excO C hp.objs.size)).get? b = some o := fun b o e => Heap.get?_push_of_some _ (Heap.get?_push_of_some _ e)
  have hget : ((hp.push (PySem.W.kdv_tup us)).push (PySem.HandSPX.excO C hp.objs.size)).get? a = some (PySem.HandSPX.excO C hp.objs.size) := by subst hx; heap_get
  have I2 : Inv X pins σ (upd H1 a (exo a C none)) ⟨(hp.push (PySem.W.kdv_tup us)).push (PySem.HandSPX.excO C hp.objs.size), g, dr, tk, os⟩ := I1.laid (t' := tk) kk hsz (exo_ok hget)
  have r2 : Vals (V.ref a :: vs) (Value.ref a :: us) := .cons rfl r1
  have hq := h a hn
  have hl : (Value.ref a :: us ++ []).length = ps.length := by
    have e := r2.length
    rw [F1.len _ _ _ _ hq] at e
    rw [List.append_nil]
    exact e.symm
  have hus : us.length ≤ sizeLine := by
    rw [← Paired.length r1, sizeLine_eq]
    omega
  have b2 := hb _ (Value.ref a :: us) I2.kIn hl
  rw [List.append_nil] at b2
  refine wpAny_call (PySem.HandSPX.call_own F.excBase_ValueError (fun Y => PySem.HandSPX.refsVE_contains Y bm hbm) (I1.kIn _ _ hC) (PySem.W.looks_findIn I1.kIn iC) (fun self => PySem.W.bind_fn I1.kIn self tI) hus ?_)
  rw [hx]
  refine codeAny_mono (F1.run _ X.stack _ _ ⟨Value.ref a :: us, []⟩ (Value.ref a :: us) _ _ (fun _ _ _ => False) (hr.make C us []) (I2.env0.make C us []) b2 r2 hq) fun r s' hq' => ?_
  rcases r with er | fl'
  · exact False.elim hq'
  cases fl' with
  | ret u =>
    obtain ⟨v, H', I3, rv, ev, q3⟩ := I2.after hq'
    subst ev
    exact ⟨rv, ⟨V.ref a, H', I3, rfl, q3⟩⟩
  | next => exact False.elim hq'
  | brk => exact False.elim hq'
  | cont => exact False.elim hq'
/-- C(e, ..) as a value -/
def tErrV (C : Addr) (ok : List V → Hp → Prop) (fl : List Str) (ta : TA) : TE := fun σ H Q => ta σ H fun vs H1 => vs.length = fl.length ∧ ok vs H1 ∧ ∀ a d Hm H2, New H1 a (exo a C (some d)) Hm → New Hm d (exd d ((fl.zip vs).reverse)) H2 → Q (.ref a) H2
theorem pe_errV {j : Nat} {e : Expr} {es : List Expr} {ta : TA} {p pos : Pos} (D : ErrC X.prog X.w X.K X.mg X.base j x C ok fl) (hr : Room k X.A) (hg : Gl X x) (ha : PA X (e :: es) ta) (hjk : j + 1 ≤ k := by decide)
    (hdb : (x == ("__debug__" : Str)) = false := by decide) (he : starEach (e :: es) X.env = (false, eval e X.env) :: starEach es X.env := by rfl) (hpl : (backTo pos (starEach es X.env)).any (·.1) = false := by rfl) :
    PE X (.Call (.Name x p) (e :: es) [] pos) (tErrV C ok fl ta) := by
  refine ⟨fun pins s σ H Q I h => ?_⟩
  obtain ⟨fI, fd, ps, iC, tI, hb, F1⟩ := D.ini
  refine wpAny_Call_Name_kw (ld_glob I hg D.g ?_ hdb)
  refine PySem.W.callWith_K (h₀ := X.base) I.ok.mod.kin D.T.kC (thn (ha.run pos pins s σ H _ I h) fun us s1 ⟨vs, H1, I1, r1, hvl, hok, q1⟩ => ⟨I1.kIn, ?_⟩) he hpl
  refine run_err D.T iC tI hb F1 (hr.mono hjk) I1 r1 (by rw [hvl]; have := D.sz; omega) fun a hn => ?_
  refine ⟨a, vs, rfl, hvl, D.okm _ _ _ (New.mk' (o := exo a C none) hn).same hok, upd_same, fun d H' i => ⟨rfl, q1 a d (upd H1 a (exo a C (some d))) H' (New.mk' hn) ⟨?_, i.ad, fun b hb => ?_⟩⟩⟩
  · rw [upd_ne i.ne]
    have := i.fr
    rwa [upd_ne i.ne] at this
  · by_cases hba : b = a
    · rw [hba, upd_same, i.ax]
    · rw [upd_ne hba, i.old b hba hb, upd_ne hba]
/-- C() as a value -/
def tErrV0 (C : Addr) : TE := fun _ H Q => ∀ a H', New H a (exo a C none) H' → Q (.ref a) H'
theorem pe_errV0 {j : Nat} {p pos : Pos} (D : ErrC0 X.prog X.w X.K X.mg X.base j x C) (hr : Room k X.A) (hg : Gl X x) (hjk : j + 1 ≤ k := by decide) (hdb : (x == ("__debug__" : Str)) = false := by decide) :
    PE X (.Call (.Name x p) [] [] pos) (tErrV0 C) := by
  refine ⟨fun pins s σ H Q I h => ?_⟩
  obtain ⟨fI, fd, ps, iC, tI, hb, F1⟩ := D.ini
  refine wpAny_Call_Name_kw (ld_glob I hg D.g ?_ hdb)
  refine PySem.W.callWith_K0 I.kIn D.T.kC ?_
  exact run_err (us := []) D.T iC tI hb F1 (hr.mono hjk) I .nil (by simp) fun a hn => ⟨a, rfl, upd_same, rfl, h a _ (New.mk' hn)⟩
/-- v.n, v an error held as a value -/
def tXo (K : PySem.W.Frag) (n : Str) (te : TE) : TE := fun σ H Q => te σ H fun x H1 => ∃ (a : Addr) (C d : Addr) (fs : List (Str × V)) (v : V), x = .ref a ∧ H1 a = some (exo a C (some d)) ∧ H1 d = some (exd d fs) ∧ fs.lookup n = some v ∧ XfC K C ∧ PySem.W.findIn K (.ref C) n = some none ∧ Q v H1
theorem xo_inst {pins : List (Addr × Obj)} {σ : L2.St} {H : Hp} {s : Shared} {a C : Addr} {d : Option Addr} (I : Inv X pins σ H s) (h : XoAt a C d H) : ∃ o od, PySem.W.InstAt s.heap a o C od := by
  obtain ⟨t1, ho⟩ := exo_at I.hok h.1
  have h2 := h.2
  cases d with
  | none => exact ⟨_, none, ho, rfl, rfl, trivial⟩
  | some dd =>
    obtain ⟨fs, e⟩ := h2
    obtain ⟨mA, hns, hr⟩ := exd_at I.hok e
    obtain ⟨oD, es, ep, hoD, _⟩ := hns
    exact ⟨_, some oD, ho, rfl, rfl, hoD⟩
theorem pe_xO {e : Expr} {te : TE} {pos : Pos} {n : Str} (he : PE X e te) (hb : attributeBase e n X.env (eval e X.env) = eval e X.env := by rfl) : PE X (.Attribute e n pos) (tXo X.K n te) := by
  refine ⟨fun pins s σ H Q I h => attr_of hb (thn (he.run pins s σ H _ I h) fun u s1 hh => ?_)⟩
  obtain ⟨x, H1, I1, rx, a, C, d, fs, v, rfl, ea, ed, l, T, hno, q⟩ := hh
  obtain rfl : u = Value.ref a := rx
  obtain ⟨t1, ho⟩ := exo_at I1.hok ea
  obtain ⟨mA, hns, hr⟩ := exd_at I1.hok ed
  obtain ⟨od, hod, hl⟩ := lookIn_ns hns
  obtain ⟨u, hu, ru⟩ := RelO.some_of (v := v) (o := mA n) (by rw [← l]; exact hr n)
  have J : PySem.W.InstAt s1.heap a _ C (some od) := ⟨ho, rfl, rfl, hod⟩
  exact HandSPX.exc_get I1.kIn J T.ga T.gg T.exC (PySem.W.findObj_own T.hdC hno rfl (by rw [hl, hu])) (handed_of ru) ⟨v, H1, I1.tok _, ru, q⟩
/-- isinstance(v, c), v an error held as a value -/
def rIsO (K : PySem.W.Frag) (a C : Addr) (d : Option Addr) : List V → Hp → VK → Prop := fun xs H Q => ∃ (c : V) (cv : Value) (b : Bool), xs = [.ref a, c] ∧ (∀ u, RelV c u → u = cv) ∧ PySem.W.kitOne K (.ref C) cv = some b ∧ XoAt a C d H ∧ Q (.bl b) H
theorem call_isO {a C : Addr} {d : Option Addr} (E : ExcC X.K C) : CallR X (.builtin "isinstance") (rIsO X.K a C d) := by
  intro pins s σ H xs us Q I r h
  obtain ⟨c, cv, b, rfl, hcv, e, hx, q⟩ := h
  obtain ⟨o, od, J⟩ := xo_inst I hx
  cases r with
  | cons rx rr =>
    cases rr with
    | cons rt rr =>
      cases rr
      cases rx
      obtain rfl := hcv _ rt
      obtain ⟨cd, hc, _⟩ := PySem.W.any_some E.hd
      exact PySem.W.kia_one (PySem.W.kitx_exc (by rw [hc]; rfl) E.hg E.hk E.hs E.ha E.hn E.ht E.hm) I.kIn J e (fun z => nomatch z) fun tk => ⟨.bl b, H, I.kept (t' := tk) fun _ _ z => z, rfl, q⟩
def tIsO (i : Nat) (a C : Addr) (d : Option Addr) (b : Bool) : TE := fun σ H Q => σ[i]? = some (some (.ref a)) ∧ XoAt a C d H ∧ Q (.bl b) H
variable {D : Str} {d : Option Addr} {a : Addr} {i : Nat} {y : Str} {py px pp pos : Pos}
theorem pe_isOV {c : V} {cv : Value} {b : Bool} (N : ErN X.K X.mg D) (hm : X.mg "isinstance" = none) (hg : Gl X "isinstance") (hy : PE X (.Name y py) (tVar i)) (hx : PE X (.Name x px) (tC c))
    (hcv : ∀ u, RelV c u → u = cv) (hk : PySem.W.kitOne X.K (.ref (He.ga X.K D)) cv = some b) : PE X (.Call (.Name "isinstance" pp) [.Name y py, .Name x px] [] pos) (tIsO i a (He.ga X.K D) d b) := by
  have P := pe_callB (x := "isinstance") (p := pp) (pos := pos) (call_isO (a := a) (d := d) N.ec) hg hm (by decide +kernel) (pa_cons hy (pa_cons hx pa_nil))
  refine ⟨fun pins s σ H Q I h => P.run pins s σ H Q I ?_⟩
  obtain ⟨h1, h2, h3⟩ := h
  exact ⟨_, h1, ⟨c, cv, b, rfl, hcv, hk, h2, h3⟩⟩
theorem pe_isOE (N : ErN X.K X.mg D) (a : Addr) (d : Option Addr) (hm : X.mg "isinstance" = none) (hg : Gl X "isinstance") (hy : PE X (.Name y py) (tVar i)) (hgx : Gl X x) (hx : x ∈ errNames := by decide) (hd : (x == ("__debug__" : Str)) = false := by decide) :
    PE X (.Call (.Name "isinstance" pp) [.Name y py, .Name x px] [] pos) (tIsO i a (He.ga X.K D) d (decide (x = D))) :=
  pe_isOV (c := .ref (He.ga X.K x)) N hm hg hy (pe_glob hgx (N.g x hx) (show RelV (.ref (He.ga X.K x)) _ from rfl) hd) (fun _ r => r) (N.k x hx)
theorem pe_isOH (N : ErN X.K X.mg D) (a : Addr) (d : Option Addr) (hm : X.mg "isinstance" = none) (hg : Gl X "isinstance") (hy : PE X (.Name y py) (tVar i)) (hgx : Gl X "HeldorderError") :
    PE X (.Call (.Name "isinstance" pp) [.Name y py, .Name "HeldorderError" px] [] pos) (tIsO i a (He.ga X.K D) d true) :=
  pe_isOV (c := .ref (He.ga X.K "HeldorderError")) N hm hg hy (pe_glob hgx N.gH (show RelV (.ref (He.ga X.K "HeldorderError")) _ from rfl)) (fun _ r => r) N.kH
theorem pe_isOVE (N : ErN X.K X.mg D) (a : Addr) (d : Option Addr) (hm : X.mg "isinstance" = none) (hg : Gl X "isinstance") (hy : PE X (.Name y py) (tVar i)) (hgx : Gl X "ValueError") :
    PE X (.Call (.Name "isinstance" pp) [.Name y py, .Name "ValueError" px] [] pos) (tIsO i a (He.ga X.K D) d true) :=
  pe_isOV (c := .ty "ValueError") N hm hg hy (pe_bltn hgx N.gV (by decide +kernel) (show RelV (.ty "ValueError") _ from rfl)) (fun _ r => r) N.kV
end
theorem a_isO {i : Nat} {a C : Addr} {d : Option Addr} {b : Bool} {σ : L2.St} {H : Hp} {Q : VK} : tIsO i a C d b σ H Q = (σ[i]? = some (some (.ref a)) ∧ XoAt a C d H ∧ Q (.bl b) H) := rfl
theorem a_errV {C : Addr} {ok : List V → Hp → Prop} {fl : List Str} {ta : TA} {σ : L2.St} {H : Hp} {Q : VK} : tErrV C ok fl ta σ H Q = ta σ H fun vs H1 => vs.length = fl.length ∧ ok vs H1 ∧ ∀ a d Hm H2, New H1 a (exo a C (some d)) Hm → New Hm d (exd d ((fl.zip vs).reverse)) H2 → Q (.ref a) H2 := rfl
theorem a_errV0 {C : Addr} {σ : L2.St} {H : Hp} {Q : VK} : tErrV0 C σ H Q = ∀ a H', New H a (exo a C none) H' → Q (.ref a) H' := rfl
theorem a_xo {K : PySem.W.Frag} {n : Str} {te : TE} {σ : L2.St} {H : Hp} {Q : VK} : tXo K n te σ H Q = te σ H fun x H1 => ∃ (a : Addr) (C d : Addr) (fs : List (Str × V)) (v : V), x = .ref a ∧ H1 a = some (exo a C (some d)) ∧ H1 d = some (exd d fs) ∧ fs.lookup n = some v ∧ XfC K C ∧ PySem.W.findIn K (.ref C) n = some none ∧ Q v H1 := rfl

/-! ## E1 -/

section
variable {P : Program} {w : World} {K : PySem.W.Frag} {mg : Str → Option Value} {base : Heap}
/-- what shown can show -/
def ShOk (v : V) (H : Hp) : Prop := (∃ i : Int, v = .int i ∧ i.natAbs.log2 < 1920) ∨ (∃ b, v = .bl b) ∨ ∃ t, tyN H v = some t ∧ kitB t "int" = some false
theorem tyN_same {H H' : Hp} {v : V} {t : String} (s : Same H H') (h : tyN H v = some t) : tyN H' v = some t := by
  cases v with
  | ref p =>
    unfold tyN at h ⊢
    simp only at h ⊢
    cases e : H p with
    | none => rw [e] at h; cases h
    | some o => rw [s _ _ e]; rw [e] at h; exact h
  | _ => exact h
theorem ShOk.same {v : V} {H H' : Hp} (s : Same H H') (h : ShOk v H) : ShOk v H' := by
  rcases h with h | h | ⟨t, h, k⟩
  · exact .inl h
  · exact .inr (.inl h)
  · exact .inr (.inr ⟨t, tyN_same s h, k⟩)
def sp_shown : Sp := fun vs H Q _ => ∃ v, vs = [v] ∧ ShOk v H ∧ ∀ y : Str, y.length ≤ 2000 → Q (.str y) H
theorem shown_len {i : Int} (h : i.natAbs.log2 < 1920) : (Str.ofString (toString i)).length ≤ 2000 := by
  have e := int_text_length_le (k := 1920) (by decide) h
  rw [PySem.ofString_length]
  omega
abbrev stshown : Stmt := topS 2
theorem scshown : FnScope ["value"] ["value"] (defScope stshown) := ⟨rfl, rfl, rfl, by decide +kernel, rfl, by decide +kernel, by decide +kernel⟩
theorem okshown (D : Df K mg "shown" stshown) (T : NoB mg)  : Cl P w K mg base 1 "shown" ["value"] sp_shown := by
  refine cl_of D scshown (fun _ _ _ _ _ _ us hl => match us, hl with | [_], _ => rfl) (fun vs H Q E h => ?_) (fun f cdv A outer sh H vs Q E hr h => ?_)
  · obtain ⟨_, rfl, _⟩ := h; rfl
  obtain ⟨v, rfl, hs, k⟩ := h
  refine ⟨_, (pss_one (ps_ret (pe_ifExp (pt_val (pe_callB isi1 (by rfl) T.no_isinstance (by decide +kernel) (pa_cons (pv 0) (pa_cons (pe_bltn (by rfl) T.no_int (by decide +kernel) (show RelV (.ty "int") _ from rfl)) pa_nil)))) (pe_callTy str2 (by rfl) T.no_str (by decide +kernel) (pa_cons (pv 0) pa_nil)) pe_str))), ?_⟩
  rcases hs with ⟨i, rfl, hi⟩ | ⟨b, rfl⟩ | ⟨t, ht, hk⟩
  · walk_at "wps"
    rw [b_stri]
    exact ⟨hi, k _ (shown_len hi)⟩
  · walk_at "wps"
    rw [b_strb]
    exact k _ (by cases b <;> decide)
  · walk_at "wn"
    refine ⟨t, ht, false, hk, ?_⟩
    rw [if_neg Bool.false_ne_true]
    exact k _ (by decide)
theorem prt_shn {i : Nat} {v : V} {σ : L2.St} {H : Hp} (h : σ[i]? = some (some v)) (o : ShOk v H) : Prt (tFmt (tCall sp_shown [] E0 (tCons (tVar i) tNil))) σ H :=
  fun Q k => ⟨v, h, v, rfl, o, fun y hy => .inl ⟨y, rfl, by rw [sizeLine_eq]; omega, k y (by omega)⟩⟩
/-- what an __init__ wants: 0: shown can show it; 1: a short text; 2: any -/
def okV : Nat → V → Hp → Prop
  | 0, v, H => ShOk v H
  | 1, v, _ => ∃ z : Str, v = .str z ∧ z.length ≤ 2000
  | _, _, _ => True
def okP : List Nat → List V → Hp → Prop
  | k :: ks, v :: vs, H => okV k v H ∧ okP ks vs H
  | _, _, _ => True
theorem okP_mono : ∀ (ks : List Nat) (us : List V) (H H' : Hp), Same H H' → okP ks us H → okP ks us H'
  | [], [], _, _, _, _ => trivial
  | [], _ :: _, _, _, _, _ => trivial
  | _ :: _, [], _, _, _, _ => trivial
  | k :: ks, v :: vs, H, H', s, h => ⟨by
      have h1 := h.1
      unfold okV at h1 ⊢
      split at h1
      · exact h1.same s
      · exact h1
      · trivial, okP_mono ks vs H H' s h.2⟩
abbrev stini_BadNumber : Stmt := clsFn (topS 4) 0
theorem scini_BadNumber : NdefX.NScope ["self", "value", "low", "high", "__class__"] ["self", "value", "low", "high"] ["__class__"] (defScope stini_BadNumber) := NdefX.nscope_by (by decide +kernel)
abbrev ErT_BadNumber (P : Program) (w : World) (K : PySem.W.Frag) (mg : Str → Option Value) (base : Heap) : Prop := ErrC P w K mg base 2 "BadNumber" (He.ga K "BadNumber") (okP [0, 0, 0]) ["value", "low", "high"]
theorem okini_BadNumber {f c cda C : Addr} {fd : FuncData} (D : SupTxt P K mg C f c cda "__init__" "BadNumber.__init__" (defArgs stini_BadNumber) (defBody stini_BadNumber) (defScope stini_BadNumber) fd) (hno1 : PySem.W.findIn K (.ref C) "value" = some none) (hno2 : PySem.W.findIn K (.ref C) "low" = some none) (hno3 : PySem.W.findIn K (.ref C) "high" = some none) (Cshown : Cl P w K mg base 1 "shown" ["value"] sp_shown) :
    FnOk P w K mg base CX0 2 f fd ["self", "value", "low", "high"] (sp_ini C (okP [0, 0, 0]) ["value", "low", "high"]) := by
  refine fn_super D scini_BadNumber (by rfl) ⟨_, rfl⟩ (by decide) rfl (by decide +kernel) (fun _ => rfl) (fun _ => rfl) (fun _ => rfl) (fun vs H Q E h => ?_) (fun A outer s H vs ws Q E hr hw h => ?_)
  · obtain ⟨x, us, rfl, hl, _⟩ := h
    simp [hl]
  obtain ⟨x, us, rfl, hl, hok, hx, k⟩ := h
  obtain ⟨v1, v2, v3, rfl⟩ : ∃ (v1 : V) (v2 : V) (v3 : V), us = [v1, v2, v3] := match us, hl with | [v1, v2, v3], _ => ⟨v1, v2, v3, rfl⟩
  obtain ⟨o1, o2, o3, _⟩ := hok
  obtain ⟨w0, rfl⟩ : ∃ w0, ws = [w0] := match ws, hw with | [a], _ => ⟨a, rfl⟩
  refine ⟨x, _, _, _, rfl, hx, pa_cons (pe_joined (.cons (pe_fmt (pe_cl Cshown hr (by rfl) (pa_cons (pv 1) pa_nil))) (.cons pe_str (.cons (pe_fmt (pe_cl Cshown hr (by rfl) (pa_cons (pv 2) pa_nil))) (.cons pe_str (.cons (pe_fmt (pe_cl Cshown hr (by rfl) (pa_cons (pv 3) pa_nil))) .nil)))))) pa_nil, (pss_cons (ps_ost (pv 0) (pv 1)) (pss_cons (ps_ost (pv 0) (pv 2)) (pss_one (ps_ost (pv 0) (pv 3))))), ?_⟩
  have hst : NdefX.startF ["self", "value", "low", "high", "__class__"] [V.ref x, v1, v2, v3] [w0] = [some (V.ref x), some v1, some v2, some v3, w0] := rfl
  rw [hst]
  refine js_parts (fun out => ?_) (js_cons (prt_shn rfl o1) (js_cons prt_lit (js_cons (prt_shn rfl o2) (js_cons prt_lit (js_cons (prt_shn rfl o3) js_nil))))) (by decide)
  refine ⟨by show 1 ≤ 1000; decide, hx, ?_⟩
  refine ⟨_, rfl, _, rfl, x, C, rfl, D.T, hno1, .inl ⟨hx, fun dx n ne => ?_⟩⟩
  have i1 := InS.first (C := C) (f := "value") (y := v1) n ne
  refine ⟨_, rfl, _, rfl, x, C, rfl, D.T, hno2, .inr ⟨dx, _, i1.ax, i1.ad, Nat.le_of_ble_eq_true rfl, ?_⟩⟩
  have i2 := i1.more (f := "low") (y := v2)
  refine ⟨_, rfl, _, rfl, x, C, rfl, D.T, hno3, .inr ⟨dx, _, i2.ax, i2.ad, Nat.le_of_ble_eq_true rfl, ?_⟩⟩
  have i3 := i2.more (f := "high") (y := v3)
  exact k dx _ i3
abbrev stini_NotAMove : Stmt := clsFn (topS 6) 0
theorem scini_NotAMove : NdefX.NScope ["self", "index", "__class__"] ["self", "index"] ["__class__"] (defScope stini_NotAMove) := NdefX.nscope_by (by decide +kernel)
abbrev ErT_NotAMove (P : Program) (w : World) (K : PySem.W.Frag) (mg : Str → Option Value) (base : Heap) : Prop := ErrC P w K mg base 2 "NotAMove" (He.ga K "NotAMove") (okP [0]) ["index"]
theorem okini_NotAMove {f c cda C : Addr} {fd : FuncData} (D : SupTxt P K mg C f c cda "__init__" "NotAMove.__init__" (defArgs stini_NotAMove) (defBody stini_NotAMove) (defScope stini_NotAMove) fd) (hno1 : PySem.W.findIn K (.ref C) "index" = some none) (Cshown : Cl P w K mg base 1 "shown" ["value"] sp_shown) :
    FnOk P w K mg base CX0 2 f fd ["self", "index"] (sp_ini C (okP [0]) ["index"]) := by
  refine fn_super D scini_NotAMove (by rfl) ⟨_, rfl⟩ (by decide) rfl (by decide +kernel) (fun _ => rfl) (fun _ => rfl) (fun _ => rfl) (fun vs H Q E h => ?_) (fun A outer s H vs ws Q E hr hw h => ?_)
  · obtain ⟨x, us, rfl, hl, _⟩ := h
    simp [hl]
  obtain ⟨x, us, rfl, hl, hok, hx, k⟩ := h
  obtain ⟨v1, rfl⟩ : ∃ (v1 : V), us = [v1] := match us, hl with | [v1], _ => ⟨v1, rfl⟩
  obtain ⟨o1, _⟩ := hok
  obtain ⟨w0, rfl⟩ : ∃ w0, ws = [w0] := match ws, hw with | [a], _ => ⟨a, rfl⟩
  refine ⟨x, _, _, _, rfl, hx, pa_cons (pe_joined (.cons pe_str (.cons (pe_fmt (pe_cl Cshown hr (by rfl) (pa_cons (pv 1) pa_nil))) (.cons pe_str .nil)))) pa_nil, (pss_one (ps_ost (pv 0) (pv 1))), ?_⟩
  have hst : NdefX.startF ["self", "index", "__class__"] [V.ref x, v1] [w0] = [some (V.ref x), some v1, w0] := rfl
  rw [hst]
  refine js_parts (fun out => ?_) (js_cons prt_lit (js_cons (prt_shn rfl o1) (js_cons prt_lit js_nil))) (by decide)
  refine ⟨by show 1 ≤ 1000; decide, hx, ?_⟩
  refine ⟨_, rfl, _, rfl, x, C, rfl, D.T, hno1, .inl ⟨hx, fun dx n ne => ?_⟩⟩
  have i1 := InS.first (C := C) (f := "index") (y := v1) n ne
  exact k dx _ i1
abbrev stini_BadText : Stmt := clsFn (topS 10) 0
theorem scini_BadText : NdefX.NScope ["self", "line", "__class__"] ["self", "line"] ["__class__"] (defScope stini_BadText) := NdefX.nscope_by (by decide +kernel)
abbrev ErT_BadText (P : Program) (w : World) (K : PySem.W.Frag) (mg : Str → Option Value) (base : Heap) : Prop := ErrC P w K mg base 2 "BadText" (He.ga K "BadText") (okP [0]) ["line"]
theorem okini_BadText {f c cda C : Addr} {fd : FuncData} (D : SupTxt P K mg C f c cda "__init__" "BadText.__init__" (defArgs stini_BadText) (defBody stini_BadText) (defScope stini_BadText) fd) (hno1 : PySem.W.findIn K (.ref C) "line" = some none) (Cshown : Cl P w K mg base 1 "shown" ["value"] sp_shown) :
    FnOk P w K mg base CX0 2 f fd ["self", "line"] (sp_ini C (okP [0]) ["line"]) := by
  refine fn_super D scini_BadText (by rfl) ⟨_, rfl⟩ (by decide) rfl (by decide +kernel) (fun _ => rfl) (fun _ => rfl) (fun _ => rfl) (fun vs H Q E h => ?_) (fun A outer s H vs ws Q E hr hw h => ?_)
  · obtain ⟨x, us, rfl, hl, _⟩ := h
    simp [hl]
  obtain ⟨x, us, rfl, hl, hok, hx, k⟩ := h
  obtain ⟨v1, rfl⟩ : ∃ (v1 : V), us = [v1] := match us, hl with | [v1], _ => ⟨v1, rfl⟩
  obtain ⟨o1, _⟩ := hok
  obtain ⟨w0, rfl⟩ : ∃ w0, ws = [w0] := match ws, hw with | [a], _ => ⟨a, rfl⟩
  refine ⟨x, _, _, _, rfl, hx, pa_cons (pe_joined (.cons pe_str (.cons (pe_fmt (pe_cl Cshown hr (by rfl) (pa_cons (pv 1) pa_nil))) (.cons pe_str .nil)))) pa_nil, (pss_one (ps_ost (pv 0) (pv 1))), ?_⟩
  have hst : NdefX.startF ["self", "line", "__class__"] [V.ref x, v1] [w0] = [some (V.ref x), some v1, w0] := rfl
  rw [hst]
  refine js_parts (fun out => ?_) (js_cons prt_lit (js_cons (prt_shn rfl o1) (js_cons prt_lit js_nil))) (by decide)
  refine ⟨by show 1 ≤ 1000; decide, hx, ?_⟩
  refine ⟨_, rfl, _, rfl, x, C, rfl, D.T, hno1, .inl ⟨hx, fun dx n ne => ?_⟩⟩
  have i1 := InS.first (C := C) (f := "line") (y := v1) n ne
  exact k dx _ i1
end

/-! ## E4 -/
local macro_rules | `(tactic| walk_at "wp") => `(tactic| (try simp only [a_var, a_c, a_op, a_un, a_test, a_b, a_and, a_or, a_not, a_andV, a_orV, a_notV, a_if, a_next, a_seq, a_break, a_cont, a_drop, a_ret, a_retN, a_ifS, a_asg, a_name, a_sub, a_nil, a_cons, a_tup, a_lst, a_call, a_cb, a_bm0, a_bm, a_sl, a_nopart, a_part, a_aug, b_rI, b_rI0, b_rU, b_eq, b_ne, b_isTF, b_int, b_intb, b_list, b_tuple, b_ix, b_len, b_setL, b_app, b_pop, b_popAt, b_sl, b_rep, b_cat, b_lstRg, b_tupRg, b_rg1, b_rg2, a_forR, a_forR2, a_forS, b_fsq, a_lcR, a_lcR2, a_lcS, b_csq, wipe_nil, wipe_cons, a_yes, wh_i, wh_s, wh_b, wh_r, wh_n, Bool.not_eq_true, eq_self, not_true_eq_false, not_false_eq_true, b_isi, kb_all, ty_non, ty_bl, ty_int, ty_str, a_m1, b_ixS, b_slS, List.cons.injEq, and_assoc, exists_and_left, cxK, List.getElem?_cons_zero, List.getElem?_cons_succ, List.set_cons_zero, List.set_cons_succ, Option.some.injEq, exists_eq_left', exists_eq_left, V.bl.injEq, V.int.injEq, V.ref.injEq, V.str.injEq, HO.lst.injEq, HO.tup.injEq, decide_eq_true_eq, true_and, and_true, L2.start, List.map_cons, List.map_nil, List.length_cons, List.length_nil, Nat.zero_add, Nat.reduceAdd, Nat.reduceSub, List.replicate_succ, List.replicate_zero, List.cons_append, List.nil_append, if_true, if_false, Bool.false_eq_true, Bool.not_true, Bool.not_false, decide_not, Bool.not_eq_true', decide_eq_false_iff_not, scal_ii, scal_bb, scal_ss, scal_is, scal_si, reduceCtorEq, Bool.true_eq_false, decide_false, decide_true, if_pos, ne_eq, Int.reduceNeg, atI_0, atI_1, atI_2, atI_3, atI_4, atI_5, atI_6, ixN_7, b_ins, a_revL, b_isT, V.ty.injEq, Bool.true_or, Bool.or_true, Bool.false_or, Bool.or_false, Bool.or_self, b_sorted, b_repT, a_err, a_callS, a_xp, a_isP, a_lcE, a_forE, a_isV, a_lcH, a_ch, a_forES]))
local macro_rules | `(tactic| walk_at "wps") => `(tactic| (try simp only [a_var, a_c, a_op, a_un, a_test, a_b, a_and, a_or, a_not, a_andV, a_orV, a_notV, a_if, a_next, a_seq, a_break, a_cont, a_drop, a_ret, a_retN, a_ifS, a_asg, a_name, a_sub, a_nil, a_cons, a_tup, a_lst, a_call, a_cb, a_bm0, a_bm, a_sl, a_nopart, a_part, a_aug, b_rI, b_rI0, b_rU, b_eq, b_ne, b_isTF, b_int, b_intb, b_list, b_tuple, b_ix, b_len, b_setL, b_app, b_pop, b_popAt, b_sl, b_rep, b_cat, b_lstRg, b_tupRg, b_rg1, b_rg2, a_forR, a_forR2, a_forS, b_fsq, a_lcR, a_lcR2, a_lcS, b_csq, wipe_nil, wipe_cons, a_yes, wh_i, wh_s, wh_b, wh_r, wh_n, Bool.not_eq_true, eq_self, not_true_eq_false, not_false_eq_true, b_isi, kb_all, ty_non, ty_bl, ty_int, ty_str, a_m1, b_ixS, b_slS, List.cons.injEq, and_assoc, exists_and_left, cxK, List.getElem?_cons_zero, List.getElem?_cons_succ, List.set_cons_zero, List.set_cons_succ, Option.some.injEq, exists_eq_left', exists_eq_left, V.bl.injEq, V.int.injEq, V.ref.injEq, V.str.injEq, HO.lst.injEq, HO.tup.injEq, decide_eq_true_eq, true_and, and_true, L2.start, List.map_cons, List.map_nil, List.length_cons, List.length_nil, Nat.zero_add, Nat.reduceAdd, Nat.reduceSub, List.replicate_succ, List.replicate_zero, List.cons_append, List.nil_append, if_true, if_false, Bool.false_eq_true, Bool.not_true, Bool.not_false, decide_not, Bool.not_eq_true', decide_eq_false_iff_not, scal_ii, scal_bb, scal_ss, scal_is, scal_si, reduceCtorEq, Bool.true_eq_false, decide_false, decide_true, if_pos, ne_eq, Int.reduceNeg, atI_0, atI_1, atI_2, atI_3, atI_4, atI_5, atI_6, ixN_7, b_ins, a_revL, b_isT, V.ty.injEq, Bool.true_or, Bool.or_true, Bool.false_or, Bool.or_false, Bool.or_self, b_sorted, b_repT, a_err, a_callS, a_xp, a_isP, a_lcE, a_forE, a_isV, a_lcH, a_ch, a_forES, *]))
local macro_rules | `(tactic| walk_at "wq") => `(tactic| (try simp only [a_var, a_c, a_op, a_un, a_test, a_b, a_and, a_or, a_not, a_andV, a_orV, a_notV, a_if, a_next, a_break, a_cont, a_drop, a_ret, a_retN, a_ifS, a_asg, a_name, a_sub, a_nil, a_cons, a_tup, a_lst, a_call, a_cb, a_bm0, a_bm, a_sl, a_nopart, a_part, a_aug, b_rI, b_rI0, b_rU, b_eq, b_ne, b_isTF, b_int, b_intb, b_list, b_tuple, b_ix, b_len, b_setL, b_app, b_pop, b_popAt, b_sl, b_rep, b_cat, b_lstRg, b_tupRg, b_rg1, b_rg2, a_forR, a_forR2, a_forS, b_fsq, a_lcR, a_lcR2, a_lcS, b_csq, wipe_nil, wipe_cons, a_yes, wh_i, wh_s, wh_b, wh_r, wh_n, Bool.not_eq_true, eq_self, not_true_eq_false, not_false_eq_true, b_isi, kb_all, ty_non, ty_bl, ty_int, ty_str, a_m1, b_ixS, b_slS, List.cons.injEq, and_assoc, exists_and_left, cxK, List.getElem?_cons_zero, List.getElem?_cons_succ, List.set_cons_zero, List.set_cons_succ, Option.some.injEq, exists_eq_left', exists_eq_left, V.bl.injEq, V.int.injEq, V.ref.injEq, V.str.injEq, HO.lst.injEq, HO.tup.injEq, decide_eq_true_eq, true_and, and_true, L2.start, List.map_cons, List.map_nil, List.length_cons, List.length_nil, Nat.zero_add, Nat.reduceAdd, Nat.reduceSub, List.replicate_succ, List.replicate_zero, List.cons_append, List.nil_append, if_true, if_false, Bool.false_eq_true, Bool.not_true, Bool.not_false, decide_not, Bool.not_eq_true', decide_eq_false_iff_not, scal_ii, scal_bb, scal_ss, scal_is, scal_si, reduceCtorEq, Bool.true_eq_false, decide_false, decide_true, if_pos, ne_eq, Int.reduceNeg, atI_0, atI_1, atI_2, atI_3, atI_4, atI_5, atI_6, ixN_7, b_ins, a_revL, b_isT, V.ty.injEq, Bool.true_or, Bool.or_true, Bool.false_or, Bool.or_false, Bool.or_self, b_sorted, b_repT, a_err, a_callS, a_xp, a_isP, a_lcE, a_forE, a_isV, a_lcH, a_ch, a_forES, *]))
local macro_rules | `(tactic| walk_at "wn") => `(tactic| (try simp only [a_var, a_c, a_op, a_un, a_test, a_b, a_and, a_or, a_not, a_andV, a_orV, a_notV, a_if, a_next, a_break, a_cont, a_drop, a_ret, a_retN, a_ifS, a_asg, a_name, a_sub, a_nil, a_cons, a_tup, a_lst, a_call, a_cb, a_bm0, a_bm, a_sl, a_nopart, a_part, a_aug, b_rI, b_rI0, b_rU, b_eq, b_ne, b_isTF, b_int, b_intb, b_list, b_tuple, b_ix, b_len, b_setL, b_app, b_pop, b_popAt, b_sl, b_rep, b_cat, b_lstRg, b_tupRg, b_rg1, b_rg2, a_forR, a_forR2, a_forS, b_fsq, a_lcR, a_lcR2, a_lcS, b_csq, wipe_nil, wipe_cons, a_yes, wh_i, wh_s, wh_b, wh_r, wh_n, Bool.not_eq_true, eq_self, not_true_eq_false, not_false_eq_true, b_isi, kb_all, ty_non, ty_bl, ty_int, ty_str, a_m1, b_ixS, b_slS, List.cons.injEq, and_assoc, exists_and_left, cxK, List.getElem?_cons_zero, List.getElem?_cons_succ, List.set_cons_zero, List.set_cons_succ, Option.some.injEq, exists_eq_left', exists_eq_left, V.bl.injEq, V.int.injEq, V.ref.injEq, V.str.injEq, HO.lst.injEq, HO.tup.injEq, decide_eq_true_eq, true_and, and_true, L2.start, List.map_cons, List.map_nil, List.length_cons, List.length_nil, Nat.zero_add, Nat.reduceAdd, Nat.reduceSub, List.replicate_succ, List.replicate_zero, List.cons_append, List.nil_append, if_true, if_false, Bool.false_eq_true, Bool.not_true, Bool.not_false, decide_not, Bool.not_eq_true', decide_eq_false_iff_not, scal_ii, scal_bb, scal_ss, scal_is, scal_si, reduceCtorEq, Bool.true_eq_false, decide_false, decide_true, if_pos, ne_eq, Int.reduceNeg, atI_0, atI_1, atI_2, atI_3, atI_4, atI_5, atI_6, ixN_7, b_ins, a_revL, b_isT, V.ty.injEq, Bool.true_or, Bool.or_true, Bool.false_or, Bool.or_false, Bool.or_self, b_sorted, b_repT, a_err, a_callS, a_xp, a_isP, a_lcE, a_forE, a_isV, a_lcH, a_ch, a_forES]))
local macro_rules | `(tactic| walk_at "sq") => `(tactic| ((try dsimp only); rw [a_seq]; walk_at "wq"))
local macro_rules | `(tactic| walk_at "sn") => `(tactic| ((try dsimp only); rw [a_seq]; walk_at "wn"))

section
variable {P : Program} {w : World} {K : PySem.W.Frag} {mg : Str → Option Value} {base : Heap} {C : Addr}
def sp_iswH : HSp := fun _ _ _ vs H Q _ => ∃ (v : V) (d : PyData) (n : Nat) (E : List Addr), vs = [v] ∧ Dw E H v d n ∧ Q (.bl (isWh v)) H
theorem ok_law_is_wholeH (D : Df K mg "_law_is_whole" st_law_is_whole) (T : NoB mg)  : ClH P w K mg base 1 "_law_is_whole" ["value"] sp_iswH := by
  refine clH_of D sc_law_is_whole (fun _ _ _ _ _ _ us hl => match us, hl with | [_], _ => rfl) (fun _ _ _ vs H Q E h => ?_) (fun f cdv A outer sh H vs Q E p cls dd hot hz hc hr h => ?_)
  · obtain ⟨_, _, _, _, rfl, _⟩ := h; rfl
  have hf : ∃ vs, p.2.data = .fields vs := hot.2.imp fun _ h => h.1
  obtain ⟨v, d, n, E, rfl, hv, k⟩ := h
  refine ⟨_, (pss_one (ps_ret (pe_and (pe_callB isi1 (by rfl) T.no_isinstance (by decide +kernel) (pa_cons (pv 0) (pa_cons (pe_bltn (by rfl) T.no_int (by decide +kernel) (show RelV (.ty "int") _ from rfl)) pa_nil))) (pe_one (pe_not (pe_callB isi1 (by rfl) T.no_isinstance (by decide +kernel) (pa_cons (pv 0) (pa_cons (pe_bltn (by rfl) T.no_bool (by decide +kernel) (show RelV (.ty "bool") _ from rfl)) pa_nil)))))))), ?_⟩
  cases hv with
  | lf l => cases l <;> (walk_at "wps"; exact k)
  | lst ne h a =>
    have ht := ty_l h
    walk_at "wps"
    exact k
  | tup ne h a =>
    have ht := ty_t h
    walk_at "wps"
    exact k
theorem _root_.Ho.XdAt.kp {d : Option Addr} {H H' : Hp} (h : XdAt d H) (s : Same H H') : XdAt d H' := by
  cases d with
  | none => trivial
  | some dd => exact h.imp fun fs e => s _ _ e
def sp_aloneH (K : PySem.W.Frag) (mg : Str → Option Value) : HSp := fun a c d vs H Q _ => ∃ En : Str, ErN K mg En ∧ (errNames.filter fun z => decide (z = En)).length = 1 ∧ vs = [.ref a] ∧ c = .ref (He.ga K En) ∧ XdAt d H ∧ ∀ H', Same H H' → Q (.bl true) H'
abbrev st_law_alone : Stmt := topS 70
theorem sc_law_alone : FnScope ["error", "of", "one", "entry"] ["error"] (defScope st_law_alone) := ⟨rfl, rfl, rfl, by decide +kernel, rfl, by decide +kernel, by decide +kernel⟩
theorem ok_law_aloneH (D : Df K mg "_law_alone" st_law_alone) (T : NoB mg)  : ClH P w K mg base 1 "_law_alone" ["error"] (sp_aloneH K mg) := by
  refine clH_of D sc_law_alone (fun _ _ _ _ _ _ us hl => match us, hl with | [_], _ => rfl) (fun _ _ _ vs H Q E h => ?_) (fun f cdv A outer sh H vs Q E p cls dd hot hz hc hr h => ?_)
  · obtain ⟨_, _, _, rfl, _⟩ := h; rfl
  have hf : ∃ vs, p.2.data = .fields vs := hot.2.imp fun _ h => h.1
  obtain ⟨En, EN, hEn, rfl, rfl, hx, k⟩ := h
  refine ⟨_, (pss_cons (ps_set (i := 1) sc_law_alone.nd rfl (Or.inl rfl) (pe_lst (pa_cons (pe_isE EN List.mem_cons_self hz hf T.no_isinstance (by rfl) (pv 0) (by rfl)) (pa_cons (pe_isE EN List.mem_cons_self hz hf T.no_isinstance (by rfl) (pv 0) (by rfl)) (pa_cons (pe_isE EN List.mem_cons_self hz hf T.no_isinstance (by rfl) (pv 0) (by rfl)) pa_nil)))))
    (pss_cons (ps_set (i := 1) sc_law_alone.nd rfl (Or.inl rfl) (pe_op op_cat (pv 1) (pe_lst (pa_cons (pe_isE EN List.mem_cons_self hz hf T.no_isinstance (by rfl) (pv 0) (by rfl)) (pa_cons (pe_isE EN List.mem_cons_self hz hf T.no_isinstance (by rfl) (pv 0) (by rfl)) (pa_cons (pe_isE EN List.mem_cons_self hz hf T.no_isinstance (by rfl) (pv 0) (by rfl)) pa_nil))))))
    (pss_cons (ps_set (i := 1) sc_law_alone.nd rfl (Or.inl rfl) (pe_op op_cat (pv 1) (pe_lst (pa_cons (pe_isE EN List.mem_cons_self hz hf T.no_isinstance (by rfl) (pv 0) (by rfl)) (pa_cons (pe_isE EN List.mem_cons_self hz hf T.no_isinstance (by rfl) (pv 0) (by rfl)) (pa_cons (pe_isE EN List.mem_cons_self hz hf T.no_isinstance (by rfl) (pv 0) (by rfl)) pa_nil))))))
    (pss_cons (ps_set (i := 1) sc_law_alone.nd rfl (Or.inl rfl) (pe_op op_cat (pv 1) (pe_lst (pa_cons (pe_isE EN List.mem_cons_self hz hf T.no_isinstance (by rfl) (pv 0) (by rfl)) (pa_cons (pe_isE EN List.mem_cons_self hz hf T.no_isinstance (by rfl) (pv 0) (by rfl)) (pa_cons (pe_isE EN List.mem_cons_self hz hf T.no_isinstance (by rfl) (pv 0) (by rfl)) pa_nil))))))
    (pss_cons (ps_set (i := 1) sc_law_alone.nd rfl (Or.inl rfl) (pe_op op_cat (pv 1) (pe_lst (pa_cons (pe_isE EN List.mem_cons_self hz hf T.no_isinstance (by rfl) (pv 0) (by rfl)) (pa_cons (pe_isE EN List.mem_cons_self hz hf T.no_isinstance (by rfl) (pv 0) (by rfl)) (pa_cons (pe_isE EN List.mem_cons_self hz hf T.no_isinstance (by rfl) (pv 0) (by rfl)) pa_nil))))))
    (pss_cons (ps_set (i := 1) sc_law_alone.nd rfl (Or.inl rfl) (pe_op op_cat (pv 1) (pe_lst (pa_cons (pe_isE EN List.mem_cons_self hz hf T.no_isinstance (by rfl) (pv 0) (by rfl)) (pa_cons (pe_isE EN List.mem_cons_self hz hf T.no_isinstance (by rfl) (pv 0) (by rfl)) (pa_cons (pe_isE EN List.mem_cons_self hz hf T.no_isinstance (by rfl) (pv 0) (by rfl)) pa_nil))))))
    (pss_cons (ps_set (i := 1) sc_law_alone.nd rfl (Or.inl rfl) (pe_op op_cat (pv 1) (pe_lst (pa_cons (pe_isE EN List.mem_cons_self hz hf T.no_isinstance (by rfl) (pv 0) (by rfl)) (pa_cons (pe_isE EN List.mem_cons_self hz hf T.no_isinstance (by rfl) (pv 0) (by rfl)) (pa_cons (pe_isE EN List.mem_cons_self hz hf T.no_isinstance (by rfl) (pv 0) (by rfl)) pa_nil))))))
    (pss_cons (ps_set (i := 1) sc_law_alone.nd rfl (Or.inl rfl) (pe_op op_cat (pv 1) (pe_lst (pa_cons (pe_isE EN List.mem_cons_self hz hf T.no_isinstance (by rfl) (pv 0) (by rfl)) (pa_cons (pe_isE EN List.mem_cons_self hz hf T.no_isinstance (by rfl) (pv 0) (by rfl)) (pa_cons (pe_isE EN List.mem_cons_self hz hf T.no_isinstance (by rfl) (pv 0) (by rfl)) pa_nil))))))
    (pss_cons (ps_set (i := 1) sc_law_alone.nd rfl (Or.inl rfl) (pe_op op_cat (pv 1) (pe_lst (pa_cons (pe_isE EN List.mem_cons_self hz hf T.no_isinstance (by rfl) (pv 0) (by rfl)) (pa_cons (pe_isE EN List.mem_cons_self hz hf T.no_isinstance (by rfl) (pv 0) (by rfl)) (pa_cons (pe_isE EN List.mem_cons_self hz hf T.no_isinstance (by rfl) (pv 0) (by rfl)) pa_nil))))))
    (pss_cons (ps_set (i := 1) sc_law_alone.nd rfl (Or.inl rfl) (pe_op op_cat (pv 1) (pe_lst (pa_cons (pe_isE EN List.mem_cons_self hz hf T.no_isinstance (by rfl) (pv 0) (by rfl)) (pa_cons (pe_isE EN List.mem_cons_self hz hf T.no_isinstance (by rfl) (pv 0) (by rfl)) (pa_cons (pe_isE EN List.mem_cons_self hz hf T.no_isinstance (by rfl) (pv 0) (by rfl)) pa_nil))))))
    (pss_cons (ps_set (i := 1) sc_law_alone.nd rfl (Or.inl rfl) (pe_op op_cat (pv 1) (pe_lst (pa_cons (pe_isE EN List.mem_cons_self hz hf T.no_isinstance (by rfl) (pv 0) (by rfl)) (pa_cons (pe_isE EN List.mem_cons_self hz hf T.no_isinstance (by rfl) (pv 0) (by rfl)) pa_nil)))))
    (pss_cons (ps_set (i := 2) sc_law_alone.nd rfl (Or.inl rfl) (pe_cmpR op_eq (pe_callB len1 (by rfl) T.no_len (by decide +kernel) (pa_cons (pe_lcH hc (own := [("entry", 3)]) (g := gName 3) (tt := _) sc_law_alone.nd (pv 1) (blkOk_by (own := [("entry", 3)]) (N := ["error", "of", "one", "entry"]) (sc := defScope st_law_alone) (by decide +kernel)) (fun _ _ _ _ _ _ => (pg_name (i := 3) sc_law_alone.nd rfl (Or.inl rfl))) (fun _ _ _ _ _ _ => (pts_one (pt_val (pv 3)))) (fun _ _ _ _ _ _ => (pv 3))) pa_nil)) pe_int (nomark _)))
    (pss_one (ps_ret (pe_and (pv 2) (pe_and (pe_isH EN List.mem_cons_self hz hf T.no_isinstance (by rfl) (pv 0) (by rfl)) (pe_one (pe_isVE EN List.mem_cons_self hz hf T.no_isinstance (by rfl) (pv 0) (by rfl))))))))))))))))))), ?_⟩
  rw [a_seq]
  walk_at "wn"
  refine ⟨hx, hx, hx, by rw [sizeLine_eq]; decide, fun p1 H1 n1 => ?_⟩
  have x1 := hx.kp n1.same
  have h1 := n1.at_
  have s1 := n1.same
  dsimp only
  rw [a_seq]
  walk_at "wn"
  refine ⟨x1, x1, x1, by rw [sizeLine_eq]; decide, fun r1 Ha1 na1 => ⟨_, na1.k h1, _, na1.at_, by rw [sizeLine_eq]; simp, fun q1 Hb1 nb1 => ?_⟩⟩
  have s2 := (s1.trans na1.same).trans nb1.same
  have x2 := hx.kp s2
  have h2 := nb1.at_
  dsimp only
  rw [a_seq]
  walk_at "wn"
  refine ⟨x2, x2, x2, by rw [sizeLine_eq]; decide, fun r2 Ha2 na2 => ⟨_, na2.k h2, _, na2.at_, by rw [sizeLine_eq]; simp, fun q2 Hb2 nb2 => ?_⟩⟩
  have s3 := (s2.trans na2.same).trans nb2.same
  have x3 := hx.kp s3
  have h3 := nb2.at_
  dsimp only
  rw [a_seq]
  walk_at "wn"
  refine ⟨x3, x3, x3, by rw [sizeLine_eq]; decide, fun r3 Ha3 na3 => ⟨_, na3.k h3, _, na3.at_, by rw [sizeLine_eq]; simp, fun q3 Hb3 nb3 => ?_⟩⟩
  have s4 := (s3.trans na3.same).trans nb3.same
  have x4 := hx.kp s4
  have h4 := nb3.at_
  dsimp only
  rw [a_seq]
  walk_at "wn"
  refine ⟨x4, x4, x4, by rw [sizeLine_eq]; decide, fun r4 Ha4 na4 => ⟨_, na4.k h4, _, na4.at_, by rw [sizeLine_eq]; simp, fun q4 Hb4 nb4 => ?_⟩⟩
  have s5 := (s4.trans na4.same).trans nb4.same
  have x5 := hx.kp s5
  have h5 := nb4.at_
  dsimp only
  rw [a_seq]
  walk_at "wn"
  refine ⟨x5, x5, x5, by rw [sizeLine_eq]; decide, fun r5 Ha5 na5 => ⟨_, na5.k h5, _, na5.at_, by rw [sizeLine_eq]; simp, fun q5 Hb5 nb5 => ?_⟩⟩
  have s6 := (s5.trans na5.same).trans nb5.same
  have x6 := hx.kp s6
  have h6 := nb5.at_
  dsimp only
  rw [a_seq]
  walk_at "wn"
  refine ⟨x6, x6, x6, by rw [sizeLine_eq]; decide, fun r6 Ha6 na6 => ⟨_, na6.k h6, _, na6.at_, by rw [sizeLine_eq]; simp, fun q6 Hb6 nb6 => ?_⟩⟩
  have s7 := (s6.trans na6.same).trans nb6.same
  have x7 := hx.kp s7
  have h7 := nb6.at_
  dsimp only
  rw [a_seq]
  walk_at "wn"
  refine ⟨x7, x7, x7, by rw [sizeLine_eq]; decide, fun r7 Ha7 na7 => ⟨_, na7.k h7, _, na7.at_, by rw [sizeLine_eq]; simp, fun q7 Hb7 nb7 => ?_⟩⟩
  have s8 := (s7.trans na7.same).trans nb7.same
  have x8 := hx.kp s8
  have h8 := nb7.at_
  dsimp only
  rw [a_seq]
  walk_at "wn"
  refine ⟨x8, x8, x8, by rw [sizeLine_eq]; decide, fun r8 Ha8 na8 => ⟨_, na8.k h8, _, na8.at_, by rw [sizeLine_eq]; simp, fun q8 Hb8 nb8 => ?_⟩⟩
  have s9 := (s8.trans na8.same).trans nb8.same
  have x9 := hx.kp s9
  have h9 := nb8.at_
  dsimp only
  rw [a_seq]
  walk_at "wn"
  refine ⟨x9, x9, x9, by rw [sizeLine_eq]; decide, fun r9 Ha9 na9 => ⟨_, na9.k h9, _, na9.at_, by rw [sizeLine_eq]; simp, fun q9 Hb9 nb9 => ?_⟩⟩
  have s10 := (s9.trans na9.same).trans nb9.same
  have x10 := hx.kp s10
  have h10 := nb9.at_
  dsimp only
  rw [a_seq]
  walk_at "wn"
  refine ⟨x10, x10, by rw [sizeLine_eq]; decide, fun r10 Ha10 na10 => ⟨_, na10.k h10, _, na10.at_, by rw [sizeLine_eq]; simp, fun q10 Hb10 nb10 => ?_⟩⟩
  have s11 := (s10.trans na10.same).trans nb10.same
  have x11 := hx.kp s11
  have h11 := nb10.at_
  dsimp only
  rw [a_seq]
  walk_at "wn"
  refine ⟨errNames.map fun z => V.bl (decide (z = En)), SqL.of h11, fun D hD => ⟨fun i => ((errNames.take i).filter fun z => decide (z = En)).map fun z => V.bl (decide (z = En)), rfl, fun i y hy => ?_, _, sq_l upd_same, ?_⟩⟩
  · obtain ⟨z, hz, ey⟩ : ∃ z, errNames[i]? = some z ∧ y = V.bl (decide (z = En)) := by
      rw [List.getElem?_map] at hy
      cases e : errNames[i]? with
      | none => rw [e] at hy; cases hy
      | some z => rw [e] at hy; exact ⟨z, rfl, (Option.some.inj hy).symm⟩
    subst ey
    refine ⟨?_, _, rfl, ?_⟩
    · dsimp only
      rw [List.length_map]
      have a1 := List.length_filter_le (fun z => decide (z = En)) (errNames.take i)
      have a2 : (errNames.take i).length ≤ 32 := by rw [List.length_take]; exact Nat.min_le_right _ _
      rw [sizeLine_eq]
      omega
    · have e1 : errNames.take (i + 1) = errNames.take i ++ [z] := by rw [List.take_add_one, hz]; rfl
      dsimp only
      rw [e1, List.filter_append, List.map_append]
      by_cases c : z = En
      · rw [if_pos (by simp [c]), List.filter_cons, if_pos (by simp [c])]
        rfl
      · rw [if_neg (by simp [c]), List.filter_cons, if_neg (by simp [c])]
        simp
  · rw [if_pos (by rw [List.length_map, List.length_map, List.take_length]; exact congrArg (fun n : Nat => (n : Int)) hEn)]
    have sf : Same Hb10 (upd Hb10 D (.lst (((errNames.take (errNames.map fun z => V.bl (decide (z = En))).length).filter fun z => decide (z = En)).map fun z => V.bl (decide (z = En))))) := (New.mk' hD).same
    have sg := s11.trans sf
    exact ⟨hx.kp sg, hx.kp sg, k _ sg⟩
def sp_sameH : HSp := fun _ _ _ vs H Q _ => ∃ (x y : V) (d : PyData) (n m : Nat), vs = [x, y] ∧ Dw [] H x d n ∧ Dw [] H y d m ∧ n ≤ 4000000 ∧ ∀ H', Same H H' → Q (.bl true) H'
theorem ok_law_sameH (D : Df K mg "_law_same" st_law_same) (T : NoB mg) (C_law_is_wholeH : ClH P w K mg base 1 "_law_is_whole" ["value"] sp_iswH) : ClH P w K mg base 2 "_law_same" ["actual", "due"] sp_sameH := by
  refine clH_of D sc_law_same (fun _ _ _ _ _ _ us hl => match us, hl with | [_, _], _ => rfl) (fun _ _ _ vs H Q E h => ?_) (fun f cdv A outer sh H vs Q E p cls dd hot hz hc hr h => ?_)
  · obtain ⟨_, _, _, _, _, rfl, _⟩ := h; rfl
  have hf : ∃ vs, p.2.data = .fields vs := hot.2.imp fun _ h => h.1
  obtain ⟨x, y, d, n, m, rfl, hx, hy, hn, k⟩ := h
  refine ⟨_, (pss_cons (ps_set (i := 2) sc_law_same.nd rfl (Or.inl rfl) (pe_lst (pa_cons (pe_tup (pa_cons (pv 0) (pa_cons (pv 1) pa_nil))) pa_nil)))
    (pss_cons (ps_while PassesOwn.never (pt_cmpR op_gt (pe_callB len1 (by rfl) T.no_len (by decide +kernel) (pa_cons (pv 2) pa_nil)) pe_int (nomark _)) (pss_cons (ps_set (i := 3) sc_law_same.nd rfl (Or.inl rfl) (pe_bm0 PySem.F.plainAttrs_list PySem.F.slot_list_pop PySem.F.type_list_pop mt_pop (pv 2)))
    (pss_cons (ps_set (i := 4) sc_law_same.nd rfl (Or.inl rfl) (pe_ix ix1 (pv 3) pe_int (fun _ _ => rfl)))
    (pss_cons (ps_set (i := 5) sc_law_same.nd rfl (Or.inl rfl) (pe_ix ix1 (pv 3) pe_int (fun _ _ => rfl)))
    (pss_one (ps_if (PW.pt (pw_or (pt_cmpR op_isN (pv 5) pe_non (nomark _)) (pw_or (pt_cmpR op_isTF (pv 5) pe_bl (nomark _)) (pw_or1 (pt_cmpR op_isTF (pv 5) pe_bl (nomark _)))))) (pss_one (ps_if (pt_not (PW.pt (pw_or (PW.pt (pw_and (pt_cmpR op_isN (pv 5) pe_non (nomark _)) (pw_and1 (pt_cmpR op_isN (pv 4) pe_non (nomark _))))) (pw_or (PW.pt (pw_and (pt_cmpR op_isTF (pv 5) pe_bl (nomark _)) (pw_and1 (pt_cmpR op_isTF (pv 4) pe_bl (nomark _))))) (pw_or1 (PW.pt (pw_and (pt_cmpR op_isTF (pv 5) pe_bl (nomark _)) (pw_and1 (pt_cmpR op_isTF (pv 4) pe_bl (nomark _)))))))))) (pss_one (ps_ret pe_bl)) pss_nil)) (pss_one (ps_if (pt_val (pe_callB isi1 (by rfl) T.no_isinstance (by decide +kernel) (pa_cons (pv 5) (pa_cons (pe_bltn (by rfl) T.no_int (by decide +kernel) (show RelV (.ty "int") _ from rfl)) pa_nil)))) (pss_one (ps_if (PW.pt (pw_or (pt_not (pt_val (pe_clH C_law_is_wholeH hot List.mem_cons_self hz hr (by rfl) (pa_cons (pv 4) pa_nil)))) (pw_or1 (pt_cmpR op_ne (pv 4) (pv 5) (nomark _))))) (pss_one (ps_ret pe_bl)) pss_nil)) (pss_one (ps_if (pt_val (pe_callB isi1 (by rfl) T.no_isinstance (by decide +kernel) (pa_cons (pv 5) (pa_cons (pe_bltn (by rfl) T.no_str (by decide +kernel) (show RelV (.ty "str") _ from rfl)) pa_nil)))) (pss_one (ps_if (PW.pt (pw_or (pt_not (pt_val (pe_callB isi1 (by rfl) T.no_isinstance (by decide +kernel) (pa_cons (pv 4) (pa_cons (pe_bltn (by rfl) T.no_str (by decide +kernel) (show RelV (.ty "str") _ from rfl)) pa_nil))))) (pw_or1 (pt_cmpR op_ne (pv 4) (pv 5) (nomark _))))) (pss_one (ps_ret pe_bl)) pss_nil)) (pss_cons (ps_if (PW.pt (pw_and (pt_val (pe_callB isi1 (by rfl) T.no_isinstance (by decide +kernel) (pa_cons (pv 5) (pa_cons (pe_bltn (by rfl) T.no_tuple (by decide +kernel) (show RelV (.ty "tuple") _ from rfl)) pa_nil)))) (pw_and1 (pt_not (pt_val (pe_callB isi1 (by rfl) T.no_isinstance (by decide +kernel) (pa_cons (pv 4) (pa_cons (pe_bltn (by rfl) T.no_tuple (by decide +kernel) (show RelV (.ty "tuple") _ from rfl)) pa_nil)))))))) (pss_one (ps_ret pe_bl)) pss_nil)
    (pss_cons (ps_if (PW.pt (pw_and (pt_val (pe_callB isi1 (by rfl) T.no_isinstance (by decide +kernel) (pa_cons (pv 5) (pa_cons (pe_bltn (by rfl) T.no_list (by decide +kernel) (show RelV (.ty "list") _ from rfl)) pa_nil)))) (pw_and1 (pt_not (pt_val (pe_callB isi1 (by rfl) T.no_isinstance (by decide +kernel) (pa_cons (pv 4) (pa_cons (pe_bltn (by rfl) T.no_list (by decide +kernel) (show RelV (.ty "list") _ from rfl)) pa_nil)))))))) (pss_one (ps_ret pe_bl)) pss_nil)
    (pss_cons (ps_if (pt_cmpR op_ne (pe_callB len1 (by rfl) T.no_len (by decide +kernel) (pa_cons (pv 4) pa_nil)) (pe_callB len1 (by rfl) T.no_len (by decide +kernel) (pa_cons (pv 5) pa_nil)) (nomark _)) (pss_one (ps_ret pe_bl)) pss_nil)
    (pss_one (L2H.ps_forH PassesOwn.never hc (L2H.pi_range1H (by rfl) T.no_range (pa_cons (pe_callB len1 (by rfl) T.no_len (by decide +kernel) (pa_cons (pv 5) pa_nil)) pa_nil)) (pg_name (i := 6) sc_law_same.nd rfl (Or.inl rfl)) (pss_one (ps_expr (pe_bm PySem.F.plainAttrs_list PySem.F.slot_list_append PySem.F.type_list_append mt_append (pv 2) (pa_cons (pe_tup (pa_cons (pe_ix ix1 (pv 4) (pv 6) (fun _ _ => rfl)) (pa_cons (pe_ix ix1 (pv 5) (pv 6) (fun _ _ => rfl)) pa_nil))) pa_nil)))))))))))))))))))
    (pss_one (ps_ret pe_bl)))), ?_⟩
  walk_at "sq"
  refine ⟨szl (by decide), fun t0 H1 n1 => ?_⟩
  walk_at "wq"
  refine ⟨szl (by decide), fun L H2 n2 => ?_⟩
  have s2 : Same H H2 := n1.same.trans n2.same
  have hL : H L = none := n1.same.free n2.fr
  walk_at "sq"
  refine wh_by (fun m σ H' => m ≤ 4000000 ∧ Same H H' ∧ ∃ xs v3 v4 v5 v6, σ = [some x, some y, some (.ref L), v3, v4, v5, v6] ∧ H' L = some (.lst xs) ∧ Its H H' xs m) n
    ⟨hn, s2, [.ref t0], _, _, _, _, rfl, n2.at_, by have := Its.snoc (H := H) (H' := H2) .nil (n2.k n1.at_) hx hy; simpa using this⟩ ?_
  rintro m _ H3 N R hN hR ⟨hm, s3, xs, v3, v4, v5, v6, rfl, e3, it⟩
  have hq := sq_l e3
  walk_at "wq"
  refine hR _ _ (wst (fun hb => ?_) (fun hb => ?_))
  · have hb : 0 < xs.length := by simpa using hb
    cases it with
    | nil => exact absurd hb (by simp)
    | @snoc xs m n' k' t a b d it et wa wb =>
      have htL : t ≠ L := ne_of et e3 (by intro z; cases z)
      walk_at "sq"
      refine ⟨tyl e3, .ref t, by simp, fun H4 n4 => ?_⟩
      have n4' : Put H3 L (.lst xs) H4 := by
        have e := List.dropLast_concat (l₁ := xs) (b := V.ref t)
        rw [e] at n4; exact n4
      clear n4
      have e4 := n4'.at_
      have et4 := n4'.k htL et
      have hq4 := sq_t et4
      have s4 : Same H H4 := fun b o e => n4'.k (ne_of_none e hL) (s3 _ _ e)
      have it4 : Its H H4 xs m := it.keep fun t ys e => n4'.k (ne_of e e3 (by intro z; cases z)) e
      walk_at "sq"
      walk_at "sq"
      have fin : N [some x, some y, some (.ref L), some (.ref t), some a, some b, v6] H4 := hN m _ _ (by have := wa.pos; omega) ⟨by omega, s4, xs, _, _, _, _, rfl, e4, it4⟩
      have loop : ∀ (ap bp : Addr) (as bs : List V) (ds : List PyData) (n1 k1 : Nat), sq H ap = some as → sq H bp = some bs → DwAll [] H as ds n1 → DwAll [] H bs ds k1 → n1 + 1 = n' → as.length = bs.length → FRg 0 bs.length (gName 6) (tDrop
            (tBM K "list" rAppend (tVar 2)
              (tCons (tTup (tCons (tOp rIx1 (tVar 4) (tVar 6)) (tCons (tOp rIx1 (tVar 5) (tVar 6)) tNil))) tNil)))
          { nx := N, rt := Q, bk := tRet (tC (V.bl true)) { nx := fun x H' => Q V.non H', rt := Q }, ct := N }
          [some x, some y, some (V.ref L), some (V.ref t), some (V.ref ap), some (V.ref bp), v6] H4 := by
        intro ap bp as bs ds n1 k1 qa qb da db hn1 hl
        refine fr_by (fun i σ H' => Same H H' ∧ ∃ ys v6 w r r', σ = [some x, some y, some (V.ref L), some (V.ref t), some (V.ref ap), some (V.ref bp), v6] ∧ H' L = some (.lst ys) ∧ Its H H' ys (m + w) ∧ DwAll [] H (as.drop i) (ds.drop i) r ∧ DwAll [] H (bs.drop i) (ds.drop i) r' ∧ w + r = n1)
          ⟨s4, xs, v6, 0, n1, k1, rfl, e4, it4, da, db, by omega⟩ ?_ ?_
        · rintro i _ H5 N' hN' hi ⟨s5, ys, v6, w, r, r', rfl, e5, it5, d5, d5', hw⟩
          have qa5 := same_sq s5 qa
          have qb5 := same_sq s5 qb
          have hia : i < as.length := by omega
          rw [List.drop_eq_getElem_cons hia] at d5
          rw [List.drop_eq_getElem_cons hi] at d5'
          generalize hd : ds.drop i = dd at d5 d5'
          cases d5 with
          | @cons _ _ d0 ds0 c1 c2 p1 p2 =>
            cases d5' with
            | @cons _ _ _ _ c3 c4 p3 p4 =>
              have hd1 : ds.drop (i + 1) = ds0 := by rw [← List.drop_drop, hd] <;> rfl
              walk_at "wq"
              refine ⟨tyl e5, as[i], atI_of (by omega) (by simp [hia]), bs[i], atI_of (by omega) (by simp [hi]), szl (by decide), fun t6 H6 n6 => ?_⟩
              have e6 := n6.k e5
              walk_at "wq"
              have hlen := it5.len
              refine ⟨szl' (by omega), fun H7 n7 => ?_⟩
              have ht6 : t6 ≠ L := (n6.ne e5).symm
              refine hN' _ _ ⟨n7.same (s5.trans n6.same) hL, _, _, w + c1, c2, c4, rfl, n7.at_, ?_, by rw [hd1]; exact p2, by rw [hd1]; exact p4, by omega⟩
              have it7 : Its H H7 ys (m + w) := it5.keep fun t ys e => n7.k (ne_of (n6.k e) e6 (by intro z; cases z)) (n6.k e)
              have := Its.snoc it7 (n7.k ht6 n6.at_) p1 p3
              rw [← Nat.add_assoc]
              exact this
        · rintro _ H5 ⟨s5, ys, v6, w, r, r', rfl, e5, it5, d5, d5', hw⟩
          exact hN (m + w) _ _ (by omega) ⟨by omega, s5, ys, _, _, _, _, rfl, e5, it5⟩
      cases wb with
      | lf l =>
        cases l with
        | non => cases wa with | lf l' => cases l'; walk_at "wps"; first | done | exact fin
        | bl c => cases wa with | lf l' => cases l'; cases c <;> walk_at "wps" <;> first | done | exact fin
        | int c =>
          cases wa with
          | lf l' =>
            cases l'
            walk_at "wps"
            refine ⟨.int c, .int c, 1, [], rfl, .lf (.int c), ?_⟩
            walk_at "wps"
        | str c => cases wa with | lf l' => cases l'; walk_at "wps"; first | done | exact fin
      | @lst bp bs ds k'' bne eb db =>
        cases wa with
        | lf l' => cases l'
        | @lst ap as _ n'' ane ea da =>
          have eb4 := s4 _ _ eb
          have ea4 := s4 _ _ ea
          have tb := ty_l eb4
          have ta := ty_l ea4
          have qb := sq_l eb4
          have qa := sq_l ea4
          walk_at "wps"
          have hl := da.len.1.trans db.len.1.symm
          have hl2 := da.len.2
          rw [if_neg (by omega)]
          exact ⟨by omega, by omega, loop ap bp as bs ds _ _ (sq_l ea) (sq_l eb) da db rfl hl⟩
      | @tup bp bs ds k'' bne eb db =>
        cases wa with
        | lf l' => cases l'
        | @tup ap as _ n'' ane ea da =>
          have eb4 := s4 _ _ eb
          have ea4 := s4 _ _ ea
          have tb := ty_t eb4
          have ta := ty_t ea4
          have qb := sq_t eb4
          have qa := sq_t ea4
          walk_at "wps"
          have hl := da.len.1.trans db.len.1.symm
          have hl2 := da.len.2
          rw [if_neg (by omega)]
          exact ⟨by omega, by omega, loop ap bp as bs ds _ _ (sq_t ea) (sq_t eb) da db rfl hl⟩
  · (walk_at "wq") <;> exact k _ s3
end

/-! ## F1 -/

/-! what is due -/
inductive Flt where
  | num (v : V) (lo hi : Int) | mv (i : Int) | many (z : Str) (l : Int) | pt (v : V) | rep (v : V) | sz (x y : Int) | txt (i : Int)
def Flt.cls : Flt → Str
  | .num .. => "BadNumber"
  | .mv _ => "NotAMove"
  | .many .. => "TooMany"
  | .pt _ => "NotAPoint"
  | .rep _ => "RepeatedPoint"
  | .sz .. => "UnlikeSizes"
  | .txt _ => "BadText"
def Flt.fs : Flt → List (Str × V)
  | .num v lo hi => [("high", .int hi), ("low", .int lo), ("value", v)]
  | .mv i => [("index", .int i)]
  | .many z l => [("limit", .int l), ("what", .str z)]
  | .pt v => [("value", v)]
  | .rep v => [("value", v)]
  | .sz x y => [("second", .int y), ("first", .int x)]
  | .txt i => [("line", .int i)]
def Flt.due : Flt → List V
  | .num v lo hi => [.str "BadNumber", v, .int lo, .int hi]
  | .mv i => [.str "NotAMove", .int i]
  | .many z l => [.str "TooMany", .str z, .int l]
  | .pt v => [.str "NotAPoint", v]
  | .rep v => [.str "RepeatedPoint", v]
  | .sz x y => [.str "UnlikeSizes", .int x, .int y]
  | .txt i => [.str "BadText", .int i]
def Raises (K : PySem.W.Frag) (f : Flt) (H : Hp) (Er : XK) : Prop := ∀ dd H0 H1, Same H H0 → New H0 dd (.xd f.fs) H1 → Er (.ref (He.ga K f.cls)) (some dd) H1
theorem Raises.same {K : PySem.W.Frag} {f : Flt} {H H' : Hp} {Er : XK} (r : Raises K f H Er) (s : Same H H') : Raises K f H' Er := fun dd H0 H1 s0 n => r dd H0 H1 (s.trans s0) n
def numOk : V → Int → Int → Bool
  | .int i, lo, hi => decide (lo ≤ i) && decide (i ≤ hi)
  | _, _, _ => false
theorem numOk_wh {v : V} {lo hi : Int} (h : numOk v lo hi = true) : ∃ i, v = .int i ∧ lo ≤ i ∧ i ≤ hi := by
  cases v with
  | int i => exact ⟨i, rfl, by simpa [numOk] using h⟩
  | _ => cases h
/-- a value that shown can show -/
theorem dw_show {E : List Addr} {H : Hp} {v : V} {d : PyData} {n : Nat} (h : Dw E H v d n) (hi : ∀ i, v = .int i → i.natAbs.log2 < 1920) : ShOk v H := by
  cases h with
  | lf l =>
    cases l with
    | non => exact .inr (.inr ⟨_, rfl, by decide +kernel⟩)
    | bl b => exact .inr (.inl ⟨b, rfl⟩)
    | int i => exact .inl ⟨i, rfl, hi i rfl⟩
    | str z => exact .inr (.inr ⟨_, rfl, by decide +kernel⟩)
  | lst ne h a => exact .inr (.inr ⟨_, ty_l h, by decide +kernel⟩)
  | tup ne h a => exact .inr (.inr ⟨_, ty_t h, by decide +kernel⟩)
def Sm (v : V) : Prop := ∀ i, v = .int i → i.natAbs.log2 < 1920
theorem sm_int {i : Int} (h : i.natAbs.log2 < 1920) : Sm (.int i) := fun j e => by cases e; exact h
theorem sm_small {i : Int} (h : -(10 ^ 40) < i ∧ i < 10 ^ 40) : Sm (.int i) := sm_int (log_sm (by
  have : (i.natAbs : Int) < 10 ^ 40 := by omega
  have e : ((10 : Nat) ^ 40 : Nat) < 2 ^ 1000 := by decide +kernel
  have h2 : i.natAbs < 10 ^ 40 := by exact_mod_cast this
  exact Nat.lt_trans h2 e))
theorem sm_any {v : V} (h : ∀ i, v ≠ .int i) : Sm v := fun i e => absurd e (h i)
section
variable {P : Program} {w : World} {K : PySem.W.Frag} {mg : Str → Option Value} {base : Heap}
def sp_number (K : PySem.W.Frag) : Sp := fun vs H Q Er => ∃ (v : V) (lo hi : Int) (E : List Addr) (d : PyData) (n : Nat), vs = [v, .int lo, .int hi] ∧ Dw E H v d n ∧ Sm v ∧ lo.natAbs.log2 < 1920 ∧ hi.natAbs.log2 < 1920 ∧
  (numOk v lo hi = true → Q .non H) ∧ (numOk v lo hi = false → Raises K (.num v lo hi) H Er)
abbrev stcheck_number : Stmt := topS 39
theorem sccheck_number : FnScope ["value", "low", "high"] ["value", "low", "high"] (defScope stcheck_number) := ⟨rfl, rfl, rfl, by decide +kernel, rfl, by decide +kernel, by decide +kernel⟩
theorem okcheck_number (D : Df K mg "check_number" stcheck_number) (T : NoB mg) (Cis_whole : Cl P w K mg base 1 "is_whole" ["value"] sp_isw) (Er_BadNumber : ErT_BadNumber P w K mg base): ClX P w K mg base 4 "check_number" ["value", "low", "high"] (sp_number K) := by
  refine clX_of D sccheck_number (fun _ _ _ _ _ _ us hl => match us, hl with | [_, _, _], _ => rfl) (fun vs H Q E h => ?_) (fun f cdv A outer sh H vs Q E hr tk h => ?_)
  · obtain ⟨_, _, _, _, _, _, rfl, _⟩ := h; rfl
  obtain ⟨v, lo, hi, E', d, n, rfl, hv, hs, hlo, hhi, k1, k2⟩ := h
  refine ⟨_, (pss_one (ps_if (PW.pt (pw_or (pt_not (pt_val (pe_cl Cis_whole hr (by rfl) (pa_cons (pv 0) pa_nil)))) (pw_or (pt_cmpR op_lt (pv 0) (pv 1) (nomark _)) (pw_or1 (pt_cmpR op_gt (pv 0) (pv 2) (nomark _)))))) (pss_one (L2N.ps_raise rfl tk (pmk_err Er_BadNumber hr (by rfl) (pa_cons (pv 0) (pa_cons (pv 1) (pa_cons (pv 2) pa_nil)))))) pss_nil)), ?_⟩
  have bad : numOk v lo hi = false → ∀ d2 H2, New H d2 (.xd [("high", .int hi), ("low", .int lo), ("value", v)]) H2 → E (.ref (He.ga K "BadNumber")) (some d2) H2 := fun e d2 H2 n2 => k2 e d2 H H2 (Same.refl _) n2
  have ok : okP [0, 0, 0] [v, .int lo, .int hi] H := ⟨dw_show hv hs, .inl ⟨lo, rfl, hlo⟩, .inl ⟨hi, rfl, hhi⟩, trivial⟩
  walk_at "wn"
  refine ⟨v, d, n, E', rfl, hv, ?_⟩
  by_cases hw : isWh v = true
  · obtain ⟨i, rfl⟩ := isWh_int hw
    rw [hw]
    walk_at "wn"
    by_cases c1 : i < lo
    · walk_at "wps"
      exact fun d2 H2 n2 => bad (by simp [numOk]; omega) d2 H2 n2
    by_cases c2 : hi < i
    · walk_at "wps"
      exact fun d2 H2 n2 => bad (by simp [numOk]; omega) d2 H2 n2
    · walk_at "wps"
      exact k1 (by simp [numOk]; omega)
  · have hf : isWh v = false := by simpa using hw
    rw [hf]
    walk_at "wn"
    refine ⟨ok, fun d2 H2 n2 => bad (by cases v <;> first | rfl | exact absurd rfl hw) d2 H2 n2⟩
def sp_points (K : PySem.W.Frag) : Sp := fun vs H Q Er => ∃ (v : V) (E : List Addr) (d : PyData) (n : Nat), vs = [v] ∧ Dw E H v d n ∧ Sm v ∧
  (numOk v 0 12 = true → Q .non H) ∧ (numOk v 0 12 = false → Raises K (.num v 0 12) H Er)
abbrev stcheck_points : Stmt := topS 40
theorem sccheck_points : FnScope ["points"] ["points"] (defScope stcheck_points) := ⟨rfl, rfl, rfl, by decide +kernel, rfl, by decide +kernel, by decide +kernel⟩
theorem okcheck_points (D : Df K mg "check_points" stcheck_points) (T : NoB mg) (Ccheck_number : ClX P w K mg base 4 "check_number" ["value", "low", "high"] (sp_number K)) {tkp : Tok} (G_MOST_POINTS : mg "MOST_POINTS" = some (.int 12 tkp)): ClX P w K mg base 5 "check_points" ["points"] (sp_points K) := by
  refine clX_of D sccheck_points (fun _ _ _ _ _ _ us hl => match us, hl with | [_], _ => rfl) (fun vs H Q E h => ?_) (fun f cdv A outer sh H vs Q E hr tk h => ?_)
  · obtain ⟨_, _, _, _, rfl, _⟩ := h; rfl
  obtain ⟨v, E', d, n, rfl, hv, hs, k1, k2⟩ := h
  refine ⟨_, (pss_one (ps_expr (pe_clX Ccheck_number tk hr (by rfl) (pa_cons (pv 0) (pa_cons pe_int (pa_cons (pe_glob (by rfl) G_MOST_POINTS (show RelV (.int 12) _ from ⟨_, rfl⟩)) pa_nil)))))), ?_⟩
  walk_at "wn"
  exact ⟨v, 0, 12, E', d, n, rfl, hv, hs, by decide, by decide, k1, k2⟩
def sp_ptof : Sp := fun vs H Q _ => ∃ (v : V) (n : Int) (E : List Addr) (d : PyData) (m : Nat), vs = [.int n, v] ∧ Dw E H v d m ∧ Q (.bl (numOk v 0 (n - 1))) H
/-- a row: its items' faults -/
def ptFlt (n : Int) : List V → Option Flt
  | [] => none
  | x :: r => if numOk x 0 (n - 1) = true then ptFlt n r else some (.pt x)
def crowFlt (n : Int) (xs : List V) : Option Flt := if 24 < xs.length then some (.many "row" 24) else ptFlt n xs
/-- what a def answers: good, or the fault that is due -/
def Ans (K : PySem.W.Frag) (o : Option Flt) (H : Hp) (Er : XK) (good : Prop) : Prop := match o with
  | none => good
  | some f => Raises K f H Er
def AllD (H : Hp) (xs : List V) : Prop := ∀ x ∈ xs, Sm x ∧ ∃ E d m, Dw E H x d m
theorem AllD.same {H H' : Hp} {xs : List V} (a : AllD H xs) (s : Same H H') : AllD H' xs := fun x hx => ⟨(a x hx).1, (a x hx).2.imp fun E h => h.imp fun d h => h.imp fun m h => h.same s⟩
def sp_crow (K : PySem.W.Frag) : Sp := fun vs H Q Er => ∃ (n : Int) (p : Addr) (xs : List V), vs = [.int n, .ref p] ∧ sq H p = some xs ∧ AllD H xs ∧ Ans K (crowFlt n xs) H Er (∀ H', Same H H' → Q .non H')
theorem move_at {E : List Addr} {H : Hp} {v : V} {d : PyData} {n : Nat} (hd : isMoveD d = true) (hv : Dw E H v d n) : ∃ (a : Addr) (ns : List Int), v = .ref a ∧ H a = some (.tup (ns.map V.int)) ∧ d = .tuple (ns.map .int) ∧ ns.length ≤ 12 ∧ ns.Perm (rng ns.length) ∧ a ∉ E := by
  have hm : IsMoveP d := Classical.byContradiction fun z => by rw [isMove_f z] at hd; cases hd
  obtain ⟨ns, rfl, hl, hp⟩ := hm
  cases hv with
  | lf l => cases l
  | tup ne h da => exact ⟨_, ns, rfl, by rw [dw_ints' da] at h; exact h, rfl, hl, hp, ne⟩
theorem dwT {H : Hp} {p : Addr} {ns : List Int} (h : H p = some (.tup (ns.map V.int))) : Dw [] H (.ref p) (.tuple (ns.map .int)) (ns.length + 1) := .tup (by simp) h (DwAll.ints ns)
def sp_chk (K : PySem.W.Frag) : Sp := fun vs H Q Er => ∃ (v : V) (i : Int) (E : List Addr) (d : PyData) (n : Nat), vs = [v, .int i] ∧ i.natAbs.log2 < 1920 ∧ Dw E H v d n ∧ (isMoveD d = true → ∀ H', Same H H' → Q .non H') ∧ (isMoveD d = false → Raises K (.mv i) H Er)
abbrev stcheck_move : Stmt := topS 41
theorem sccheck_move : FnScope ["value", "index"] ["value", "index"] (defScope stcheck_move) := ⟨rfl, rfl, rfl, by decide +kernel, rfl, by decide +kernel, by decide +kernel⟩
theorem okcheck_move (D : Df K mg "check_move" stcheck_move) (T : NoB mg) (Cis_move : Cl P w K mg base 2 "is_move" ["value"] sp_is_move) (Er_NotAMove : ErT_NotAMove P w K mg base): ClX P w K mg base 4 "check_move" ["value", "index"] (sp_chk K) := by
  refine clX_of D sccheck_move (fun _ _ _ _ _ _ us hl => match us, hl with | [_, _], _ => rfl) (fun vs H Q E h => ?_) (fun f cdv A outer sh H vs Q E hr tk h => ?_)
  · obtain ⟨_, _, _, _, _, rfl, _⟩ := h; rfl
  obtain ⟨v, i, E', d, n, rfl, hi, hv, k1, k2⟩ := h
  refine ⟨_, (pss_one (ps_if (pt_not (pt_val (pe_cl Cis_move hr (by rfl) (pa_cons (pv 0) pa_nil)))) (pss_one (L2N.ps_raise rfl tk (pmk_err Er_NotAMove hr (by rfl) (pa_cons (pv 1) pa_nil)))) pss_nil)), ?_⟩
  walk_at "wn"
  refine ⟨v, E', d, n, rfl, hv, fun H1 s1 => ?_⟩
  walk_at "wn"
  cases hd : isMoveD d with
  | true => exact k1 hd H1 s1
  | false => exact ⟨⟨.inl ⟨i, rfl, hi⟩, trivial⟩, fun dd H2 n2 => k2 hd dd H1 H2 s1 n2⟩
/-- carried: the row's points lie in the move, else what is due -/
def sp_carried (K : PySem.W.Frag) : Sp := fun vs H Q Er => ∃ (v : V) (p : Addr) (xs : List V) (E : List Addr) (d : PyData) (n : Nat), vs = [v, .ref p] ∧ Dw E H v d n ∧ sq H p = some xs ∧ AllD H xs ∧
  (isMoveD d = false → Raises K (.mv 0) H Er) ∧
  (∀ (a : Addr) (ns : List Int), v = .ref a → H a = some (.tup (ns.map V.int)) → d = .tuple (ns.map .int) → isMoveD d = true → Ans K (crowFlt ns.length xs) H Er (∀ (c is : List Int), xs = c.map V.int → is.length = c.length → (∀ (k : Nat) (z : Int), c[k]? = some z → ns[z.toNat]? = is[k]?) → ∀ q H1 H2, Same H H1 → New H1 q (.tup (is.map V.int)) H2 → Q (.ref q) H2))
theorem ptFlt_none : ∀ {n : Int} {xs : List V}, ptFlt n xs = none → ∃ c : List Int, xs = c.map V.int ∧ ∀ z ∈ c, 0 ≤ z ∧ z < n
  | _, [], _ => ⟨[], rfl, by simp⟩
  | n, x :: r, h => by
    rw [show ptFlt n (x :: r) = (if numOk x 0 (n - 1) = true then ptFlt n r else some (.pt x)) from rfl] at h
    by_cases c : numOk x 0 (n - 1) = true
    · rw [if_pos c] at h
      obtain ⟨cs, rfl, hc⟩ := ptFlt_none h
      obtain ⟨i, rfl, h0, h1⟩ := numOk_wh c
      refine ⟨i :: cs, rfl, fun z hz => ?_⟩
      rcases List.mem_cons.mp hz with e | hz
      · rw [e]; omega
      · exact hc z hz
    · rw [if_neg c] at h; cases h
theorem crowFlt_none {n : Int} {xs : List V} (h : crowFlt n xs = none) : xs.length ≤ 24 ∧ ∃ c : List Int, xs = c.map V.int ∧ ∀ z ∈ c, 0 ≤ z ∧ z < n := by
  unfold crowFlt at h
  by_cases c : 24 < xs.length
  · rw [if_pos c] at h; cases h
  · rw [if_neg c] at h
    exact ⟨by omega, ptFlt_none h⟩
end

/-! ## F2 -/

/-! rows and their faults -/
def rowSt (n : Int) : List Int → List V → Except Flt (List Int)
  | st, [] => .ok st
  | st, x :: r => if numOk x 0 (n - 1) = true then (if unV x ∈ st then .error (.rep x) else rowSt n (st ++ [unV x]) r) else .error (.pt x)
def rowsSt (n : Int) : List Int → List (List V) → Except Flt (List Int)
  | st, [] => .ok st
  | st, xs :: r => if 24 < xs.length then .error (.many "row" 24) else match rowSt n st xs with
    | .error f => .error f
    | .ok st' => rowsSt n st' r
def fcFlt (n : Int) (rvs : List (List V)) : Option Flt := if 24 < rvs.length then some (.many "cycles" 24) else match rowsSt n [] rvs with
  | .error f => some f
  | .ok _ => none
theorem rowSt_cons {n : Int} {st : List Int} {x : V} {r : List V} : rowSt n st (x :: r) = (if numOk x 0 (n - 1) = true then (if unV x ∈ st then .error (.rep x) else rowSt n (st ++ [unV x]) r) else .error (.pt x)) := rfl
theorem rowsSt_cons {n : Int} {st : List Int} {xs : List V} {r : List (List V)} : rowsSt n st (xs :: r) = (if 24 < xs.length then .error (.many "row" 24) else match rowSt n st xs with
    | .error f => .error f
    | .ok st' => rowsSt n st' r) := rfl
theorem rowSt_ok {n : Int} : ∀ {xs : List V} {st st' : List Int}, rowSt n st xs = .ok st' → ∃ c : List Int, xs = c.map V.int ∧ st' = st ++ c ∧ (st.Nodup → st'.Nodup) ∧ ∀ z ∈ c, 0 ≤ z ∧ z < n
  | [], st, st', h => by
    cases h
    exact ⟨[], rfl, by simp, id, by simp⟩
  | x :: r, st, st', h => by
    rw [rowSt_cons] at h
    by_cases c : numOk x 0 (n - 1) = true
    · rw [if_pos c] at h
      by_cases c2 : unV x ∈ st
      · rw [if_pos c2] at h; cases h
      · rw [if_neg c2] at h
        obtain ⟨cs, rfl, e, nd, rg⟩ := rowSt_ok h
        obtain ⟨i, rfl, h0, h1⟩ := numOk_wh c
        refine ⟨i :: cs, rfl, by rw [e]; simp [unV], fun hn => nd ?_, fun z hz => ?_⟩
        · rw [List.nodup_append]
          refine ⟨hn, by simp, fun a ha b hb e => ?_⟩
          rw [List.mem_singleton.mp hb] at e
          rw [e] at ha
          exact c2 ha
        · rcases List.mem_cons.mp hz with e | hz
          · rw [e]; omega
          · exact rg z hz
    · rw [if_neg c] at h; cases h
theorem rowsSt_ok {n : Int} : ∀ {rvs : List (List V)} {st st' : List Int}, rowsSt n st rvs = .ok st' → ∃ rs : List (List Int), rvs = rs.map (fun c => c.map V.int) ∧ st' = st ++ rs.flatten ∧ (st.Nodup → st'.Nodup) ∧ (∀ z ∈ rs.flatten, 0 ≤ z ∧ z < n) ∧ ∀ c ∈ rs, c.length ≤ 24
  | [], st, st', h => by
    cases h
    exact ⟨[], rfl, by simp, id, by simp, by simp⟩
  | xs :: r, st, st', h => by
    rw [rowsSt_cons] at h
    by_cases c : 24 < xs.length
    · rw [if_pos c] at h; cases h
    · rw [if_neg c] at h
      cases e1 : rowSt n st xs with
      | error f => rw [e1] at h; cases h
      | ok st1 =>
        rw [e1] at h
        obtain ⟨c1, rfl, e2, nd1, rg1⟩ := rowSt_ok e1
        obtain ⟨rs, rfl, e3, nd2, rg2, l2⟩ := rowsSt_ok (show rowsSt n st1 r = .ok st' from h)
        rw [List.length_map] at c
        refine ⟨c1 :: rs, rfl, by rw [e3, e2]; simp, fun hn => nd2 (nd1 hn), fun z hz => ?_, fun c' hc' => ?_⟩
        · rw [List.flatten_cons, List.mem_append] at hz
          exact hz.elim (rg1 z) (rg2 z)
        · rcases List.mem_cons.mp hc' with e | hc'
          · rw [e]; omega
          · exact l2 c' hc'
theorem fcFlt_none {n : Int} {rvs : List (List V)} (h0 : 0 ≤ n) (h : fcFlt n rvs = none) : rvs.length ≤ 24 ∧ ∃ rs : List (List Int), rvs = rs.map (fun c => c.map V.int) ∧ Rws n.toNat rs ∧ ∀ c ∈ rs, c.length ≤ 24 := by
  unfold fcFlt at h
  by_cases c : 24 < rvs.length
  · rw [if_pos c] at h; cases h
  · rw [if_neg c] at h
    cases e : rowsSt n [] rvs with
    | error f => rw [e] at h; cases h
    | ok st =>
      obtain ⟨rs, h1, h2, h3, h4, h5⟩ := rowsSt_ok e
      refine ⟨by omega, rs, h1, ⟨?_, fun z hz => ?_⟩, h5⟩
      · have := h3 (by simp)
        rw [h2] at this
        simpa using this
      · have := h4 z hz
        omega
/-- the rows stand (lists or tuples) -/
def RowsV (H : Hp) (rws : List Addr) (rvs : List (List V)) : Prop := rws.length = rvs.length ∧ ∀ (k : Nat) (r : Addr) (xs : List V), rws[k]? = some r → rvs[k]? = some xs → sq H r = some xs
theorem RowsV.same {H H' : Hp} {rws : List Addr} {rvs : List (List V)} (h : RowsV H rws rvs) (s : Same H H') : RowsV H' rws rvs := ⟨h.1, fun k r xs h1 h2 => same_sq s (h.2 k r xs h1 h2)⟩
theorem sq_some {H : Hp} {p : Addr} {xs : List V} (h : sq H p = some xs) : ∃ o, H p = some o := by
  rcases sq_or h with h | h <;> exact ⟨_, h⟩
section
variable {P : Program} {w : World} {K : PySem.W.Frag} {mg : Str → Option Value} {base : Heap}
def sp_imgs : Sp := fun vs H Q _ => ∃ (n : Int) (p : Addr) (rws : List Addr) (rs : List (List Int)), vs = [.int n, .ref p] ∧ 0 ≤ n ∧ n ≤ 12 ∧ sq H p = some (rws.map V.ref) ∧ RowsV H rws (rs.map fun c => c.map V.int) ∧ Rws n.toNat rs ∧ (∀ c ∈ rs, c.length ≤ 24) ∧
  ∀ q H1 H2, Same H H1 → New H1 q (.tup ((asg (rng n.toNat) (rs.flatMap prA)).map V.int)) H2 → Q (.ref q) H2
abbrev stimages_after : Stmt := topS 42
theorem scimages_after : FnScope ["points", "rows", "images", "row", "index", "point"] ["points", "rows"] (defScope stimages_after) := ⟨rfl, rfl, rfl, by decide +kernel, rfl, by decide +kernel, by decide +kernel⟩
theorem okimages_after (D : Df K mg "images_after" stimages_after) (T : NoB mg)  : Cl P w K mg base 2 "images_after" ["points", "rows"] sp_imgs := by
  refine cl_of D scimages_after (fun _ _ _ _ _ _ us hl => match us, hl with | [_, _], _ => rfl) (fun vs H Q E h => ?_) (fun f cdv A outer sh H vs Q E hr h => ?_)
  · obtain ⟨_, _, _, _, rfl, _⟩ := h; rfl
  obtain ⟨n, p, rws, rs, rfl, h0, h1, hq, hr, hw, hl24, k⟩ := h
  refine ⟨_, (pss_cons (ps_set (i := 2) scimages_after.nd rfl (Or.inl rfl) (pe_listRg rfl (by rfl) T.no_list (prg_1 (by rfl) T.no_range (pv 0))))
    (pss_cons (ps_for PassesOwn.never rfl (pi_sq (pv 1)) (pg_name (i := 3) scimages_after.nd rfl (Or.inl rfl)) (pss_one (ps_for PassesOwn.never rfl (pi_enumS (by rfl) T.no_enumerate (pa_cons (pv 3) pa_nil)) (pg_tup rfl (pgs_cons (pg_name (i := 4) scimages_after.nd rfl (Or.inl rfl)) (pgs_cons (pg_name (i := 5) scimages_after.nd rfl (Or.inl rfl)) pgs_nil))) (pss_one (ps_asg (pe_ix ix1 (pv 3) (pe_op op_modN (pe_op op_add (pv 4) pe_int) (pe_callB len1 (by rfl) T.no_len (by decide +kernel) (pa_cons (pv 3) pa_nil))) (fun _ _ => rfl)) (pg_sub (pv 2) (pv 5) set_list))))))
    (pss_one (ps_ret (pe_callTy tup1 (by rfl) T.no_tuple (by decide +kernel) (pa_cons (pv 2) pa_nil)))))), ?_⟩
  walk_at "sn"
  refine ⟨.of_le (by decide) (by omega) (by decide) (by omega), fun L H1 n1 => ?_⟩
  have e1 := n1.at_
  rw [rgV_rng h0] at e1
  have hL := n1.fr
  walk_at "sn"
  refine fs_by (same_sq n1.same hq) (fun i σ H' => Same H H' ∧ ∃ v3 v4 v5, σ = [some (.int n), some (.ref p), some (.ref L), v3, v4, v5] ∧ H' L = some (.lst ((asg (rng n.toNat) ((rs.take i).flatMap prA)).map V.int))) ⟨n1.same, _, _, _, rfl, e1⟩ (fun i σ' H' f o ho => ?_) ?_ ?_
  · obtain ⟨o2, ho2⟩ := sq_some hq
    rw [n1.k ho2] at ho
    cases ho
    exact f.1 _ _ ho2
  · rintro i x _ H2 N hN hx ⟨s2, v3, v4, v5, rfl, eL⟩
    obtain ⟨r, hr1, rfl⟩ : ∃ r, rws[i]? = some r ∧ x = V.ref r := by
      rw [List.getElem?_map] at hx
      cases e : rws[i]? with
      | none => rw [e] at hx; cases hx
      | some r => rw [e] at hx; exact ⟨r, rfl, (Option.some.inj hx).symm⟩
    have hil : i < rs.length := by
      have := (List.getElem?_eq_some_iff.mp hr1).1
      rw [hr.1, List.length_map] at this
      exact this
    obtain ⟨c, hc⟩ : ∃ c, rs[i]? = some c := ⟨_, List.getElem?_eq_getElem hil⟩
    have hcm := List.mem_of_getElem? hc
    have qr := hr.2 i r (c.map V.int) hr1 (by rw [List.getElem?_map, hc]; rfl)
    have qr2 := same_sq s2 qr
    have hcl := hl24 c hcm
    have hlm : (c.map V.int).length = c.length := List.length_map _
    obtain ⟨o2, ho2⟩ := sq_some qr
    have hrL : r ≠ L := ne_of_none ho2 hL
    have hzl : (c.zip (rotL c)).length = c.length := by rw [List.length_zip, rotL_len, Nat.min_self]
    walk_at "wn"
    refine fes_by (i1 := 4) (i2 := 5) qr2 (fun j σ H' => Same H H' ∧ (∃ v4 v5, σ = [some (.int n), some (.ref p), some (.ref L), some (.ref r), v4, v5]) ∧ H' L = some (.lst ((asg (rng n.toNat) ((rs.take i).flatMap prA ++ (prA c).take j)).map V.int))) ⟨s2, ⟨_, _, rfl⟩, by rw [List.take_zero, List.append_nil]; exact eL⟩ (fun j σ' H' f o ho => ?_) ?_ ?_
    · rw [s2 _ _ ho2] at ho
      cases ho
      exact f.1 _ _ ho2
    · rintro j x _ H3 N3 T H4 hN3 hx3 ⟨s3, ⟨v4, v5, rfl⟩, eL3⟩ n4
      obtain ⟨z, hz, rfl⟩ : ∃ z, c[j]? = some z ∧ x = V.int z := by
        rw [List.getElem?_map] at hx3
        cases e : c[j]? with
        | none => rw [e] at hx3; cases hx3
        | some z => rw [e] at hx3; exact ⟨z, rfl, (Option.some.inj hx3).symm⟩
      have hj := (List.getElem?_eq_some_iff.mp hz).1
      have hzr := hw.rg z (List.mem_flatten.mpr ⟨c, hcm, List.mem_of_getElem? hz⟩)
      obtain ⟨y, hy⟩ : ∃ y, (rotL c)[j]? = some y := ⟨_, List.getElem?_eq_getElem (by rw [rotL_len]; exact hj)⟩
      have hym := hy
      rw [rotL_at hj] at hym
      have qr4 := same_sq (s3.trans n4.same) qr
      have eL4 := n4.k eL3
      have hTL : L ≠ T := n4.ne eL3
      walk_at "wn"
      have ef : ((j : Int) + 1).fmod ((c.map V.int).length : Int) = (((j + 1) % c.length : Nat) : Int) := by
        rw [hlm, Int.fmod_eq_emod_of_nonneg _ (by omega), Int.natCast_emod]
        congr 1
      refine ⟨_, qr4, by omega, _, qr4, .int y, ?_, ?_⟩
      · rw [ef]
        exact atI_of (by omega) (by rw [Int.toNat_natCast, List.getElem?_map, hym]; rfl)
      · refine ⟨_, eL4, z.toNat, ixN_of hzr.1 (by rw [List.length_map, asg_len, rng_len]; exact hzr.2), fun H5 p5 => hN3 _ _ ⟨fun b o hb => p5.k (ne_of_none hb hL) (n4.k (s3 b o hb)), ⟨_, _, rfl⟩, ?_⟩⟩
        have ep : (prA c).take (j + 1) = (prA c).take j ++ [(z, y)] := by
          rw [List.take_add_one]
          congr 1
          unfold prA
          rw [show (c.zip (rotL c))[j]? = some (z, y) from List.getElem?_zip_eq_some.mpr ⟨hz, hy⟩]
          rfl
        rw [p5.at_, ep, ← List.append_assoc, asg_snoc, List.map_set]
    · rintro _ H3 ⟨s3, ⟨v4, v5, rfl⟩, eL3⟩
      refine hN _ _ ⟨s3, _, _, _, rfl, ?_⟩
      rw [eL3]
      have e1 : (prA c).take (c.map V.int).length = prA c := by
        rw [hlm]
        exact List.take_of_length_le (by unfold prA; rw [hzl]; exact Nat.le_refl _)
      rw [e1, List.take_add_one, hc]
      simp
  · rintro _ H2 ⟨s2, v3, v4, v5, rfl, eL⟩
    have hlen : rws.length = rs.length := by rw [hr.1, List.length_map]
    rw [List.length_map, hlen, List.take_length] at eL
    walk_at "wn"
    exact ⟨_, eL, fun q H3 n3 => k q H2 H3 s2 n3⟩
/-- from_cycles: the number of points, then the rows, then the move -/
def sp_fromc (K : PySem.W.Frag) : Sp := fun vs H Q Er => ∃ (pv rv : V) (E : List Addr) (d : PyData) (m : Nat), vs = [pv, rv] ∧ Dw E H pv d m ∧ Sm pv ∧ (numOk pv 0 12 = false → Raises K (.num pv 0 12) H Er) ∧
  ∀ n, pv = .int n → 0 ≤ n → n ≤ 12 → ∃ (p : Addr) (rws : List Addr) (rvs : List (List V)), rv = .ref p ∧ sq H p = some (rws.map V.ref) ∧ RowsV H rws rvs ∧ (∀ xs ∈ rvs, AllD H xs) ∧
    Ans K (fcFlt n rvs) H Er (∀ rs : List (List Int), rvs = rs.map (fun c => c.map V.int) → Rws n.toNat rs → ∀ q H1 H2, Same H H1 → New H1 q (.tup ((asg (rng n.toNat) (rs.flatMap prA)).map V.int)) H2 → Q (.ref q) H2)
theorem repF (n : Nat) : (List.replicate n [V.bl false]).flatten = List.map V.bl (List.replicate n false) := by
  induction n with
  | zero => rfl
  | succ n ih => rw [List.replicate_succ, List.flatten_cons, ih, List.replicate_succ]; rfl
def Stood (n : Int) (st : List Int) (S : Addr) (H : Hp) : Prop := ∃ bs : List Bool, H S = some (.lst (bs.map V.bl)) ∧ (bs.length : Int) = n ∧ ∀ j : Nat, (j : Int) < n → bs[j]? = some (decide ((j : Int) ∈ st))
end

/-! ## F3 -/

def errL : List Str := ["BadNumber", "BadText"]
section
variable {P : Program} {w : World} {K : PySem.W.Frag} {mg : Str → Option Value} {base : Heap}
def sp_refG (K : PySem.W.Frag) : HSp := fun a c d vs H Q _ => ∃ (f : Flt) (du dd : Addr) (ds : List PyData) (n : Nat), vs = [.ref a, .ref du] ∧ c = .ref (He.ga K f.cls) ∧ f.cls ∈ errL ∧ d = some dd ∧ H dd = some (.xd f.fs) ∧ H du = some (.tup f.due) ∧ DwAll [] H f.due ds n ∧ n ≤ 3000000 ∧ ∀ H', Same H H' → Q (.bl true) H'
abbrev st_law_refusal : Stmt := topS 71
theorem sc_law_refusal : FnScope ["error", "due", "told"] ["error", "due"] (defScope st_law_refusal) := ⟨rfl, rfl, rfl, by decide +kernel, rfl, by decide +kernel, by decide +kernel⟩
theorem ok_law_refusalH (D : Df K mg "_law_refusal" st_law_refusal) (T : NoB mg) (C_law_aloneH : ClH P w K mg base 1 "_law_alone" ["error"] (sp_aloneH K mg)) (C_law_sameH : ClH P w K mg base 2 "_law_same" ["actual", "due"] sp_sameH) (ENF : ∀ f : Flt, f.cls ∈ errL → ErN K mg f.cls) (Er_BadNumber : ErT_BadNumber P w K mg base) (Er_BadText : ErT_BadText P w K mg base): ClH P w K mg base 3 "_law_refusal" ["error", "due"] (sp_refG K) := by
  refine clH_of D sc_law_refusal (fun _ _ _ _ _ _ us hl => match us, hl with | [_, _], _ => rfl) (fun _ _ _ vs H Q E h => ?_) (fun f cdv A outer sh H vs Q E p cls dd hot hz hc hr h => ?_)
  · obtain ⟨_, _, _, _, _, rfl, _⟩ := h; rfl
  have hf : ∃ vs, p.2.data = .fields vs := hot.2.imp fun _ h => h.1
  obtain ⟨ft, du, dx, ds, n, rfl, rfl, hcl, rfl, hx, hd, hda, hn, k⟩ := h
  have EN0 := ENF ft hcl
  have fin : ∀ t H1, New H t (.tup ft.due) H1 → ∀ H2, Same H1 H2 → sp_sameH p.1 (.ref (He.ga K ft.cls)) (some dx) [.ref t, .ref du] H2 Q E0 := fun t H1 n1 H2 s2 =>
    ⟨.ref t, .ref du, .tuple ds, n + 1, n + 1, rfl, .tup (by simp) (s2 _ _ n1.at_) (hda.same (n1.same.trans s2)), .tup (by simp) (s2 _ _ (n1.k hd)) (hda.same (n1.same.trans s2)), by omega, fun H3 s3 => k _ ((n1.same.trans s2).trans s3)⟩
  cases ft with
  | num v lo hi =>
    have EN : ErN K mg "BadNumber" := EN0
    have ErD := Er_BadNumber
    refine ⟨_, (pss_cons (ps_set (i := 2) sc_law_refusal.nd rfl (Or.inl rfl) pe_non)
    (pss_cons (ps_if (pt_val (pe_isE EN List.mem_cons_self hz hf T.no_isinstance (by rfl) (pv 0) (by rfl))) (pss_one (ps_set (i := 2) sc_law_refusal.nd rfl (Or.inl rfl) (pe_tup (pa_cons pe_str (pa_cons (pe_xP ErD.xf (ErD.no _ (by decide)) List.mem_cons_self hz hf (pv 0)) (pa_cons (pe_xP ErD.xf (ErD.no _ (by decide)) List.mem_cons_self hz hf (pv 0)) (pa_cons (pe_xP ErD.xf (ErD.no _ (by decide)) List.mem_cons_self hz hf (pv 0)) pa_nil))))))) pss_nil)
    (pss_cons (ps_if (pt_val (pe_isE EN List.mem_cons_self hz hf T.no_isinstance (by rfl) (pv 0) (by rfl))) (pss_cons ps_never pss_nil) pss_nil)
    (pss_one (ps_ret (pe_and (pe_cmpR op_notN (pv 1) pe_non (nomark _)) (pe_and (pe_clH C_law_aloneH hot List.mem_cons_self hz hr (by rfl) (pa_cons (pv 0) pa_nil)) (pe_one (pe_clH C_law_sameH hot List.mem_cons_self hz hr (by rfl) (pa_cons (pv 2) (pa_cons (pv 1) pa_nil))))))))))), ?_⟩
    have d1 : decide (("BadText" : Str) = ("BadNumber" : Str)) = false := by decide +kernel
    rw [d1]
    rw [a_seq]
    walk_at "wn"
    rw [a_seq]
    walk_at "wn"
    refine ⟨⟨_, hx⟩, _, hx, _, rfl, _, hx, _, rfl, _, hx, _, rfl, by rw [sizeLine_eq]; decide, fun t H1 n1 => ?_⟩
    have hx1 := n1.k hx
    walk_at "sn"
    refine ⟨⟨_, hx1⟩, ?_⟩
    (try dsimp only)
    walk_at "wn"
    exact ⟨_, EN, by decide +kernel, rfl, rfl, ⟨_, hx1⟩, fun H2 s2 => ⟨true, rfl, fin t H1 n1 H2 s2⟩⟩
  | mv i => exact absurd hcl (show ¬ ("NotAMove" : Str) ∈ errL by decide +kernel)
  | many z l => exact absurd hcl (show ¬ ("TooMany" : Str) ∈ errL by decide +kernel)
  | pt v => exact absurd hcl (show ¬ ("NotAPoint" : Str) ∈ errL by decide +kernel)
  | rep v => exact absurd hcl (show ¬ ("RepeatedPoint" : Str) ∈ errL by decide +kernel)
  | sz x y => exact absurd hcl (show ¬ ("UnlikeSizes" : Str) ∈ errL by decide +kernel)
  | txt i =>
    have EN : ErN K mg "BadText" := EN0
    have ErD := Er_BadText
    refine ⟨_, (pss_cons (ps_set (i := 2) sc_law_refusal.nd rfl (Or.inl rfl) pe_non)
    (pss_cons (ps_if (pt_val (pe_isE EN List.mem_cons_self hz hf T.no_isinstance (by rfl) (pv 0) (by rfl))) (pss_cons ps_never pss_nil) pss_nil)
    (pss_cons (ps_if (pt_val (pe_isE EN List.mem_cons_self hz hf T.no_isinstance (by rfl) (pv 0) (by rfl))) (pss_one (ps_set (i := 2) sc_law_refusal.nd rfl (Or.inl rfl) (pe_tup (pa_cons pe_str (pa_cons (pe_xP ErD.xf (ErD.no _ (by decide)) List.mem_cons_self hz hf (pv 0)) pa_nil))))) pss_nil)
    (pss_one (ps_ret (pe_and (pe_cmpR op_notN (pv 1) pe_non (nomark _)) (pe_and (pe_clH C_law_aloneH hot List.mem_cons_self hz hr (by rfl) (pa_cons (pv 0) pa_nil)) (pe_one (pe_clH C_law_sameH hot List.mem_cons_self hz hr (by rfl) (pa_cons (pv 2) (pa_cons (pv 1) pa_nil))))))))))), ?_⟩
    have d0 : decide (("BadNumber" : Str) = ("BadText" : Str)) = false := by decide +kernel
    rw [d0]
    rw [a_seq]
    walk_at "wn"
    rw [a_seq]
    walk_at "wn"
    refine ⟨⟨_, hx⟩, ?_⟩
    rw [a_seq]
    walk_at "wn"
    refine ⟨⟨_, hx⟩, _, hx, _, rfl, by rw [sizeLine_eq]; decide, fun t H1 n1 => ?_⟩
    have hx1 := n1.k hx
    (try dsimp only)
    walk_at "wn"
    exact ⟨_, EN, by decide +kernel, rfl, rfl, ⟨_, hx1⟩, fun H2 s2 => ⟨true, rfl, fin t H1 n1 H2 s2⟩⟩
end

/-! ## G1 -/
local macro_rules | `(tactic| walk_at "wp") => `(tactic| (try simp only [a_var, a_c, a_op, a_un, a_test, a_b, a_and, a_or, a_not, a_andV, a_orV, a_notV, a_if, a_next, a_seq, a_break, a_cont, a_drop, a_ret, a_retN, a_ifS, a_asg, a_name, a_sub, a_nil, a_cons, a_tup, a_lst, a_call, a_cb, a_bm0, a_bm, a_sl, a_nopart, a_part, a_aug, b_rI, b_rI0, b_rU, b_eq, b_ne, b_isTF, b_int, b_intb, b_list, b_tuple, b_ix, b_len, b_setL, b_app, b_pop, b_popAt, b_sl, b_rep, b_cat, b_lstRg, b_tupRg, b_rg1, b_rg2, a_forR, a_forR2, a_forS, b_fsq, a_lcR, a_lcR2, a_lcS, b_csq, wipe_nil, wipe_cons, a_yes, wh_i, wh_s, wh_b, wh_r, wh_n, Bool.not_eq_true, eq_self, not_true_eq_false, not_false_eq_true, b_isi, kb_all, ty_non, ty_bl, ty_int, ty_str, a_m1, b_ixS, b_slS, List.cons.injEq, and_assoc, exists_and_left, cxK, List.getElem?_cons_zero, List.getElem?_cons_succ, List.set_cons_zero, List.set_cons_succ, Option.some.injEq, exists_eq_left', exists_eq_left, V.bl.injEq, V.int.injEq, V.ref.injEq, V.str.injEq, HO.lst.injEq, HO.tup.injEq, decide_eq_true_eq, true_and, and_true, L2.start, List.map_cons, List.map_nil, List.length_cons, List.length_nil, Nat.zero_add, Nat.reduceAdd, Nat.reduceSub, List.replicate_succ, List.replicate_zero, List.cons_append, List.nil_append, if_true, if_false, Bool.false_eq_true, Bool.not_true, Bool.not_false, decide_not, Bool.not_eq_true', decide_eq_false_iff_not, scal_ii, scal_bb, scal_ss, scal_is, scal_si, reduceCtorEq, Bool.true_eq_false, decide_false, decide_true, if_pos, ne_eq, Int.reduceNeg, atI_0, atI_1, atI_2, atI_3, atI_4, atI_5, atI_6, ixN_7, b_ins, a_revL, b_isT, V.ty.injEq, Bool.true_or, Bool.or_true, Bool.false_or, Bool.or_false, Bool.or_self, b_sorted, b_repT, a_err, a_callS, a_xp, a_isP, a_lcE, a_forE, a_isV, a_lcH, a_ch, a_forES, a_lcG]))
local macro_rules | `(tactic| walk_at "wps") => `(tactic| (try simp only [a_var, a_c, a_op, a_un, a_test, a_b, a_and, a_or, a_not, a_andV, a_orV, a_notV, a_if, a_next, a_seq, a_break, a_cont, a_drop, a_ret, a_retN, a_ifS, a_asg, a_name, a_sub, a_nil, a_cons, a_tup, a_lst, a_call, a_cb, a_bm0, a_bm, a_sl, a_nopart, a_part, a_aug, b_rI, b_rI0, b_rU, b_eq, b_ne, b_isTF, b_int, b_intb, b_list, b_tuple, b_ix, b_len, b_setL, b_app, b_pop, b_popAt, b_sl, b_rep, b_cat, b_lstRg, b_tupRg, b_rg1, b_rg2, a_forR, a_forR2, a_forS, b_fsq, a_lcR, a_lcR2, a_lcS, b_csq, wipe_nil, wipe_cons, a_yes, wh_i, wh_s, wh_b, wh_r, wh_n, Bool.not_eq_true, eq_self, not_true_eq_false, not_false_eq_true, b_isi, kb_all, ty_non, ty_bl, ty_int, ty_str, a_m1, b_ixS, b_slS, List.cons.injEq, and_assoc, exists_and_left, cxK, List.getElem?_cons_zero, List.getElem?_cons_succ, List.set_cons_zero, List.set_cons_succ, Option.some.injEq, exists_eq_left', exists_eq_left, V.bl.injEq, V.int.injEq, V.ref.injEq, V.str.injEq, HO.lst.injEq, HO.tup.injEq, decide_eq_true_eq, true_and, and_true, L2.start, List.map_cons, List.map_nil, List.length_cons, List.length_nil, Nat.zero_add, Nat.reduceAdd, Nat.reduceSub, List.replicate_succ, List.replicate_zero, List.cons_append, List.nil_append, if_true, if_false, Bool.false_eq_true, Bool.not_true, Bool.not_false, decide_not, Bool.not_eq_true', decide_eq_false_iff_not, scal_ii, scal_bb, scal_ss, scal_is, scal_si, reduceCtorEq, Bool.true_eq_false, decide_false, decide_true, if_pos, ne_eq, Int.reduceNeg, atI_0, atI_1, atI_2, atI_3, atI_4, atI_5, atI_6, ixN_7, b_ins, a_revL, b_isT, V.ty.injEq, Bool.true_or, Bool.or_true, Bool.false_or, Bool.or_false, Bool.or_self, b_sorted, b_repT, a_err, a_callS, a_xp, a_isP, a_lcE, a_forE, a_isV, a_lcH, a_ch, a_forES, a_lcG, *]))
local macro_rules | `(tactic| walk_at "wq") => `(tactic| (try simp only [a_var, a_c, a_op, a_un, a_test, a_b, a_and, a_or, a_not, a_andV, a_orV, a_notV, a_if, a_next, a_break, a_cont, a_drop, a_ret, a_retN, a_ifS, a_asg, a_name, a_sub, a_nil, a_cons, a_tup, a_lst, a_call, a_cb, a_bm0, a_bm, a_sl, a_nopart, a_part, a_aug, b_rI, b_rI0, b_rU, b_eq, b_ne, b_isTF, b_int, b_intb, b_list, b_tuple, b_ix, b_len, b_setL, b_app, b_pop, b_popAt, b_sl, b_rep, b_cat, b_lstRg, b_tupRg, b_rg1, b_rg2, a_forR, a_forR2, a_forS, b_fsq, a_lcR, a_lcR2, a_lcS, b_csq, wipe_nil, wipe_cons, a_yes, wh_i, wh_s, wh_b, wh_r, wh_n, Bool.not_eq_true, eq_self, not_true_eq_false, not_false_eq_true, b_isi, kb_all, ty_non, ty_bl, ty_int, ty_str, a_m1, b_ixS, b_slS, List.cons.injEq, and_assoc, exists_and_left, cxK, List.getElem?_cons_zero, List.getElem?_cons_succ, List.set_cons_zero, List.set_cons_succ, Option.some.injEq, exists_eq_left', exists_eq_left, V.bl.injEq, V.int.injEq, V.ref.injEq, V.str.injEq, HO.lst.injEq, HO.tup.injEq, decide_eq_true_eq, true_and, and_true, L2.start, List.map_cons, List.map_nil, List.length_cons, List.length_nil, Nat.zero_add, Nat.reduceAdd, Nat.reduceSub, List.replicate_succ, List.replicate_zero, List.cons_append, List.nil_append, if_true, if_false, Bool.false_eq_true, Bool.not_true, Bool.not_false, decide_not, Bool.not_eq_true', decide_eq_false_iff_not, scal_ii, scal_bb, scal_ss, scal_is, scal_si, reduceCtorEq, Bool.true_eq_false, decide_false, decide_true, if_pos, ne_eq, Int.reduceNeg, atI_0, atI_1, atI_2, atI_3, atI_4, atI_5, atI_6, ixN_7, b_ins, a_revL, b_isT, V.ty.injEq, Bool.true_or, Bool.or_true, Bool.false_or, Bool.or_false, Bool.or_self, b_sorted, b_repT, a_err, a_callS, a_xp, a_isP, a_lcE, a_forE, a_isV, a_lcH, a_ch, a_forES, a_lcG, *]))
local macro_rules | `(tactic| walk_at "wn") => `(tactic| (try simp only [a_var, a_c, a_op, a_un, a_test, a_b, a_and, a_or, a_not, a_andV, a_orV, a_notV, a_if, a_next, a_break, a_cont, a_drop, a_ret, a_retN, a_ifS, a_asg, a_name, a_sub, a_nil, a_cons, a_tup, a_lst, a_call, a_cb, a_bm0, a_bm, a_sl, a_nopart, a_part, a_aug, b_rI, b_rI0, b_rU, b_eq, b_ne, b_isTF, b_int, b_intb, b_list, b_tuple, b_ix, b_len, b_setL, b_app, b_pop, b_popAt, b_sl, b_rep, b_cat, b_lstRg, b_tupRg, b_rg1, b_rg2, a_forR, a_forR2, a_forS, b_fsq, a_lcR, a_lcR2, a_lcS, b_csq, wipe_nil, wipe_cons, a_yes, wh_i, wh_s, wh_b, wh_r, wh_n, Bool.not_eq_true, eq_self, not_true_eq_false, not_false_eq_true, b_isi, kb_all, ty_non, ty_bl, ty_int, ty_str, a_m1, b_ixS, b_slS, List.cons.injEq, and_assoc, exists_and_left, cxK, List.getElem?_cons_zero, List.getElem?_cons_succ, List.set_cons_zero, List.set_cons_succ, Option.some.injEq, exists_eq_left', exists_eq_left, V.bl.injEq, V.int.injEq, V.ref.injEq, V.str.injEq, HO.lst.injEq, HO.tup.injEq, decide_eq_true_eq, true_and, and_true, L2.start, List.map_cons, List.map_nil, List.length_cons, List.length_nil, Nat.zero_add, Nat.reduceAdd, Nat.reduceSub, List.replicate_succ, List.replicate_zero, List.cons_append, List.nil_append, if_true, if_false, Bool.false_eq_true, Bool.not_true, Bool.not_false, decide_not, Bool.not_eq_true', decide_eq_false_iff_not, scal_ii, scal_bb, scal_ss, scal_is, scal_si, reduceCtorEq, Bool.true_eq_false, decide_false, decide_true, if_pos, ne_eq, Int.reduceNeg, atI_0, atI_1, atI_2, atI_3, atI_4, atI_5, atI_6, ixN_7, b_ins, a_revL, b_isT, V.ty.injEq, Bool.true_or, Bool.or_true, Bool.false_or, Bool.or_false, Bool.or_self, b_sorted, b_repT, a_err, a_callS, a_xp, a_isP, a_lcE, a_forE, a_isV, a_lcH, a_ch, a_forES, a_lcG]))
local macro_rules | `(tactic| walk_at "sq") => `(tactic| ((try dsimp only); rw [a_seq]; walk_at "wq"))
local macro_rules | `(tactic| walk_at "sn") => `(tactic| ((try dsimp only); rw [a_seq]; walk_at "wn"))

section
variable {P : Program} {w : World} {K : PySem.W.Frag} {mg : Str → Option Value} {base : Heap}
def sp_frozenH (N : Nat) : HSp := fun _ _ _ vs H Q E => sp_frozen N vs H Q E
end

/-! ## F4 -/

theorem db_int {E : List Addr} {H : Hp} {i : Int} {b : Nat} (h : 1 ≤ b) : Db E H b (.int i) := ⟨_, _, .lf (.int i), h⟩
theorem dr_ints {n : Int} {ys rest : List V} (h : (ys ++ rest).Perm ((rng n.toNat).map V.int)) : ∃ r : List Int, ys = r.map V.int ∧ (∀ z ∈ r, 0 ≤ z ∧ z < n) ∧ r.Nodup := by
  obtain ⟨L, h1, h2⟩ := perm_ints h
  obtain ⟨r, rst, rfl, rfl, rfl⟩ := append_ints h1
  refine ⟨r, rfl, fun z hz => ?_, (List.nodup_append.mp (h2.nodup_iff.mpr (rng_nodup _))).1⟩
  have := mem_rng.mp (h2.mem_iff.mp (List.mem_append_left _ hz))
  omega
theorem ite2 {c d : Prop} [Decidable c] [Decidable d] {A B : Prop} (a : A) (b : B) : if c then (if d then A else B) else B := by
  split
  · split
    · exact a
    · exact b
  · exact b
section
variable {P : Program} {w : World} {K : PySem.W.Frag} {mg : Str → Option Value} {base : Heap}
def sp_badn : Sp := fun vs H Q _ => ∃ (s l : Addr) (lo hi : Int) (b : Bool) (E : List Addr), vs = [.ref s, .int lo, .int hi, .bl b] ∧ Sto s l H ∧ Lv E H ∧ s ∈ E ∧ -1000 ≤ lo ∧ lo ≤ 1000 ∧ -1000 ≤ hi ∧ hi ≤ 1000 ∧ ∀ v H', Ge s l H H' → Db E H' 20 v → Sm v → numOk v lo hi = false → Q v H'
abbrev st_law_bad_number : Stmt := topS 59
theorem sc_law_bad_number : FnScope ["store", "low", "high", "nothing", "pick"] ["store", "low", "high", "nothing"] (defScope st_law_bad_number) := ⟨rfl, rfl, rfl, by decide +kernel, rfl, by decide +kernel, by decide +kernel⟩
theorem ok_law_bad_number (D : Df K mg "_law_bad_number" st_law_bad_number) (T : NoB mg) (C_law_pick : Cl P w K mg base 3 "_law_pick" ["store", "things"] sp_pick) (C_law_take : Cl P w K mg base 2 "_law_take" ["store", "many"] sp_take) : Cl P w K mg base 4 "_law_bad_number" ["store", "low", "high", "nothing"] sp_badn := by
  refine cl_of D sc_law_bad_number (fun _ _ _ _ _ _ us hl => match us, hl with | [_, _, _, _], _ => rfl) (fun vs H Q E h => ?_) (fun f cdv A outer sh H vs Q E hr h => ?_)
  · obtain ⟨_, _, _, _, _, _, rfl, _⟩ := h; rfl
  obtain ⟨s, l, lo, hi, b, E', rfl, st, lv, hsE, l0, l1, h0, h1, k⟩ := h
  refine ⟨_, (pss_cons (ps_set (i := 4) sc_law_bad_number.nd rfl (Or.inl rfl) (pe_cl C_law_take hr (by rfl) (pa_cons (pv 0) (pa_cons pe_int pa_nil))))
    (pss_cons (ps_if (pt_cmpR op_lt (pv 4) pe_int (nomark _)) (pss_one (ps_ret (pe_op op_sub (pv 1) pe_int))) pss_nil)
    (pss_cons (ps_if (pt_cmpR op_lt (pv 4) pe_int (nomark _)) (pss_one (ps_ret (pe_op op_add (pv 2) pe_int))) pss_nil)
    (pss_cons (ps_if (pt_cmpR op_eq (pv 4) pe_int (nomark _)) (pss_one (ps_ret (pe_op op_sub (pe_op op_sub (pv 1) pe_int) (pe_cl C_law_take hr (by rfl) (pa_cons (pv 0) (pa_cons pe_int pa_nil)))))) pss_nil)
    (pss_cons (ps_if (pt_cmpR op_eq (pv 4) pe_int (nomark _)) (pss_one (ps_ret (pe_op op_add (pe_op op_add (pv 2) pe_int) (pe_cl C_law_take hr (by rfl) (pa_cons (pv 0) (pa_cons pe_int pa_nil)))))) pss_nil)
    (pss_cons (ps_if (pt_cmpR op_eq (pv 4) pe_int (nomark _)) (pss_one (ps_ret (pe_cl C_law_pick hr (by rfl) (pa_cons (pv 0) (pa_cons (pe_lst (pa_cons (pe_op op_add (pv 2) (pe_op op_pow pe_int pe_int)) (pa_cons (pe_op op_sub (pv 1) (pe_op op_pow pe_int pe_int)) pa_nil))) pa_nil))))) pss_nil)
    (pss_cons (ps_if (pt_cmpR op_lt (pv 4) pe_int (nomark _)) (pss_one (ps_ret (pe_cmpR op_eq (pv 4) pe_int (nomark _)))) pss_nil)
    (pss_cons (ps_if (pt_cmpR op_eq (pv 4) pe_int (nomark _)) (pss_one (ps_ret (pe_cl C_law_pick hr (by rfl) (pa_cons (pv 0) (pa_cons (pe_lst (pa_cons pe_str (pa_cons (pe_callTy call_str_int (by rfl) T.no_str (by decide +kernel) (pa_cons (pv 1) pa_nil)) (pa_cons pe_str pa_nil)))) pa_nil))))) pss_nil)
    (pss_cons (ps_if (PW.pt (pw_and (pt_cmpR op_eq (pv 4) pe_int (nomark _)) (pw_and1 (pt_val (pv 3))))) (pss_one (ps_ret pe_non)) pss_nil)
    (pss_one (ps_ret (pe_cl C_law_pick hr (by rfl) (pa_cons (pv 0) (pa_cons (pe_lst (pa_cons (pe_tup pa_nil) (pa_cons (pe_tup (pa_cons (pv 1) pa_nil)) (pa_cons (pe_lst (pa_cons (pv 1) pa_nil)) (pa_cons (pe_lst pa_nil) (pa_cons (pe_tup (pa_cons (pe_tup (pa_cons (pv 1) pa_nil)) (pa_cons pe_non pa_nil))) pa_nil)))))) pa_nil)))))))))))))), ?_⟩
  have ki : ∀ (i : Int) (H' : Hp), Ge s l H H' → -(10 ^ 40) < i ∧ i < 10 ^ 40 → (i < lo ∨ hi < i) → Q (.int i) H' := fun i H' g hb ho => k _ _ g (db_int (by decide)) (sm_small hb) (by simp [numOk]; omega)
  walk_at "sn"
  refine ⟨s, l, _, rfl, by decide, st, fun pk H1 g1 r0 r1 r2 => ?_⟩
  have := r1 (by decide)
  walk_at "sn"
  split
  · exact ki _ _ g1 (by omega) (by omega)
  walk_at "sn"
  split
  · exact ki _ _ g1 (by omega) (by omega)
  walk_at "sn"
  split
  · refine ⟨s, l, _, rfl, by decide, g1.st, fun c H2 g2 c0 c1 c2 => ?_⟩
    have := c1 (by decide)
    walk_at "wn"
    refine ki _ _ (g1.trans g2) ?_ ?_ <;> omega
  walk_at "sn"
  split
  · refine ⟨s, l, _, rfl, by decide, g1.st, fun c H2 g2 c0 c1 c2 => ?_⟩
    have := c1 (by decide)
    walk_at "wn"
    refine ki _ _ (g1.trans g2) ?_ ?_ <;> omega
  walk_at "sn"
  split
  · refine ⟨⟨by decide, by decide⟩, ⟨by decide, by decide⟩, szl (by decide), fun p H2 n2 => ?_⟩
    have g2 := g1.new n2
    refine ⟨s, l, p, _, rfl, g2.st, (st.ne (g1.fr n2.fr)).1, sq_l n2.at_, by simp, by simp, fun x H3 g3 hx => ?_⟩
    have e29 : (10 : Int) ^ Int.toNat 29 = 100000000000000000000000000000 := by decide +kernel
    rw [e29] at hx
    simp only [List.mem_cons, List.not_mem_nil, or_false] at hx
    rcases hx with rfl | rfl <;> (refine ki _ _ (g2.trans g3) ?_ ?_ <;> omega)
  walk_at "sn"
  split
  · exact k _ _ g1 ⟨_, _, .lf (.bl _), by decide⟩ (sm_any (by simp)) rfl
  walk_at "sn"
  split
  · refine ⟨sm_small (i := lo) (by omega) _ rfl, szl (by decide), fun p H2 n2 => ?_⟩
    have g2 := g1.new n2
    refine ⟨s, l, p, _, rfl, g2.st, (st.ne (g1.fr n2.fr)).1, sq_l n2.at_, by simp, by simp, fun x H3 g3 hx => ?_⟩
    simp only [List.mem_cons, List.not_mem_nil, or_false] at hx
    rcases hx with rfl | rfl | rfl
    · exact k _ _ (g2.trans g3) ⟨_, _, .lf (.str _), by decide⟩ (sm_any (by simp)) rfl
    · refine k _ _ (g2.trans g3) ⟨_, _, .lf (.str _), ?_⟩ (sm_any (by simp)) rfl
      have := str_len10 (a := lo) (k := 4) (by decide) (by omega)
      omega
    · exact k _ _ (g2.trans g3) ⟨_, _, .lf (.str _), by decide⟩ (sm_any (by simp)) rfl
  have hnon : Q .non H1 := k _ _ g1 ⟨_, _, .lf .non, by decide⟩ (sm_any (by simp)) rfl
  walk_at "sn"
  refine ite2 hnon ?_
  refine ⟨szl (by decide), fun p1 H2 n1 => ⟨szl (by decide), fun p2 H3 n2 => ⟨szl (by decide), fun p3 H4 n3 => ⟨szl (by decide), fun p4 H5 n4 => ⟨szl (by decide), fun p5 H6 n5 => ⟨szl (by decide), fun p6 H7 n6 => ⟨szl (by decide), fun p7 H8 n7 => ?_⟩⟩⟩⟩⟩⟩⟩
  have g2 := g1.new n1
  have g3 := g2.new n2
  have g4 := g3.new n3
  have g5 := g4.new n4
  have g6 := g5.new n5
  have g7 := g6.new n6
  have g8 := g7.new n7
  refine ⟨s, l, p7, _, rfl, g8.st, (st.ne (g7.fr n7.fr)).1, sq_l n7.at_, by simp, by simp, fun x H9 g89 hx => ?_⟩
  have g9 := g8.trans g89
  have at9 : ∀ {p : Addr} {o : HO}, H p = none → H8 p = some o → H9 p = some o := fun hp h => g89.at st hp h
  have f1 := g1.fr n1.fr
  have f2 := g2.fr n2.fr
  have f3 := g3.fr n3.fr
  have f4 := g4.fr n4.fr
  have f5 := g5.fr n5.fr
  have f6 := g6.fr n6.fr
  simp only [List.mem_cons, List.not_mem_nil, or_false] at hx
  rcases hx with rfl | rfl | rfl | rfl | rfl
  · exact k _ _ g9 ⟨_, _, .tup (lv.out f1) (at9 f1 (n7.k (n6.k (n5.k (n4.k (n3.k (n2.k n1.at_))))))) .nil, by decide⟩ (sm_any (by simp)) rfl
  · exact k _ _ g9 ⟨_, _, .tup (lv.out f2) (at9 f2 (n7.k (n6.k (n5.k (n4.k (n3.k n2.at_)))))) (.cons (.lf (.int lo)) .nil), by decide⟩ (sm_any (by simp)) rfl
  · exact k _ _ g9 ⟨_, _, .lst (lv.out f3) (at9 f3 (n7.k (n6.k (n5.k (n4.k n3.at_))))) (.cons (.lf (.int lo)) .nil), by decide⟩ (sm_any (by simp)) rfl
  · exact k _ _ g9 ⟨_, _, .lst (lv.out f4) (at9 f4 (n7.k (n6.k (n5.k n4.at_)))) .nil, by decide⟩ (sm_any (by simp)) rfl
  · exact k _ _ g9 ⟨_, _, .tup (lv.out f6) (at9 f6 (n7.k n6.at_)) (.cons (.tup (lv.out f5) (at9 f5 (n7.k (n6.k n5.at_))) (.cons (.lf (.int lo)) .nil)) (.cons (.lf .non) .nil)), by decide⟩ (sm_any (by simp)) rfl
/-! a bad point -/
def sp_badp : Sp := fun vs H Q _ => ∃ (s l : Addr) (n : Int) (E : List Addr), vs = [.ref s, .int n] ∧ Sto s l H ∧ Lv E H ∧ s ∈ E ∧ 0 ≤ n ∧ n ≤ 12 ∧ ∀ v H', Ge s l H H' → Db E H' 20 v → Sm v → numOk v 0 (n - 1) = false → Q v H'
/-! a row of points -/
def sp_row : Sp := fun vs H Q _ => ∃ (s l : Addr) (n m : Int), vs = [.ref s, .int n, .int m] ∧ Sto s l H ∧ 0 ≤ n ∧ n ≤ 12 ∧ 0 ≤ m ∧ m ≤ 100 ∧ ∀ (q : Addr) (ns : List Int) H', Ge s l H H' → H q = none → H' q = some (.lst (ns.map V.int)) → (ns.length : Int) ≤ m → (∀ z ∈ ns, 0 ≤ z ∧ z < n) → Q (.ref q) H'
end

/-! ## K1 -/

theorem map_int_inj : ∀ {a b : List Int}, a.map V.int = b.map V.int → a = b
  | [], [], _ => rfl
  | [], _ :: _, h => by cases h
  | _ :: _, [], h => by cases h
  | x :: a, y :: b, h => by
    simp only [List.map_cons, List.cons.injEq] at h
    obtain ⟨h1, h2⟩ := h
    cases h1
    rw [map_int_inj h2]
/-- the move done k times -/
def itr (ns : List Int) (k : Nat) : List Int := (rng ns.length).map (it ns k)
theorem itr_len {ns : List Int} {k : Nat} : (itr ns k).length = ns.length := by unfold itr; rw [List.length_map, rng_len]
theorem itr_succ {ns : List Int} {k : Nat} : (itr ns k).map (im ns) = itr ns (k + 1) := by
  unfold itr
  rw [List.map_map]
  rfl
theorem itr_0 {ns : List Int} : itr ns 0 = rng ns.length := by
  unfold itr
  have : (it ns 0) = id := rfl
  rw [this, List.map_id]
theorem itr_1 {ns : List Int} (m : Mv ns) : itr ns 1 = ns := by
  unfold itr
  refine List.ext_getElem? fun k => ?_
  by_cases hk : k < ns.length
  · rw [List.getElem?_map, rng_get hk]
    have := (m.at (p := (k : Int)) ⟨by omega, by omega⟩).1
    rw [Int.toNat_natCast] at this
    rw [this]
    rfl
  · rw [List.getElem?_eq_none (by rw [List.length_map, rng_len]; omega), List.getElem?_eq_none (by omega)]
theorem itr_rg {ns : List Int} (m : Mv ns) {k : Nat} : ∀ z ∈ itr ns k, 0 ≤ z ∧ z < ns.length := fun z hz => by
  obtain ⟨p, hp, rfl⟩ := List.mem_map.mp hz
  exact it_rg m (mem_rng.mp hp) k
theorem itr_still {ns : List Int} {k : Nat} : itr ns k = rng ns.length ↔ ∀ p, InR ns p → it ns k p = p := by
  unfold itr
  constructor
  · intro h p hp
    have h2 : (rng ns.length).map (it ns k) = (rng ns.length).map id := by rw [h, List.map_id]
    exact List.map_inj_left.mp h2 p (mem_rng.mpr hp)
  · intro h
    have h2 : (rng ns.length).map (it ns k) = (rng ns.length).map id := List.map_congr_left fun p hp => h p (mem_rng.mp hp)
    rw [h2, List.map_id]
/-- the round length -/
structure RL (ns : List Int) (L : Nat) : Prop where
  pos : 1 ≤ L
  le : L ≤ 60
  back : itr ns L = rng ns.length
  least : ∀ k, 1 ≤ k → k < L → itr ns k ≠ rng ns.length
theorem rl_ex {ns : List Int} (m : Mv ns) (hn : ns.length ≤ 12) : ∃ L, RL ns L := by
  obtain ⟨k, k1, k2, k3⟩ := order_60 m hn
  let f : Nat → Bool := fun j => decide (itr ns (j + 1) = rng ns.length)
  cases e : (List.range 60).find? f with
  | none =>
    rw [List.find?_eq_none] at e
    have := e (k - 1) (List.mem_range.mpr (by omega))
    exact absurd (show f (k - 1) = true by show decide (itr ns (k - 1 + 1) = _) = true; rw [show k - 1 + 1 = k by omega]; exact decide_eq_true (itr_still.mpr k3)) this
  | some j =>
    rw [List.find?_range_eq_some] at e
    obtain ⟨e1, e2, e3⟩ := e
    have e2 := List.mem_range.mp e2
    refine ⟨j + 1, by omega, by omega, of_decide_eq_true e1, fun i h1 h2 z => ?_⟩
    have := e3 (i - 1) (by omega)
    have h3 : f (i - 1) = true := by
      show decide (itr ns (i - 1 + 1) = _) = true
      rw [show i - 1 + 1 = i by omega]
      exact decide_eq_true z
    rw [h3] at this
    cases this
theorem RL.uniq {ns : List Int} {a b : Nat} (x : RL ns a) (y : RL ns b) : a = b := by
  rcases Nat.lt_trichotomy a b with h | h | h
  · exact absurd x.back (y.least a x.pos h)
  · exact h
  · exact absurd y.back (x.least b y.pos h)
section
variable {P : Program} {w : World} {K : PySem.W.Frag} {mg : Str → Option Value} {base : Heap}
def sp_joined : Sp := fun vs H Q _ => ∃ (a b : Addr) (as bs : List Int), vs = [.ref a, .ref b] ∧ H a = some (.tup (as.map V.int)) ∧ H b = some (.tup (bs.map V.int)) ∧ (∀ z ∈ as, 0 ≤ z ∧ z < bs.length) ∧ as.length ≤ 12 ∧
  ∀ p H1 H2, Same H H1 → New H1 p (.tup ((as.map (im bs)).map V.int)) H2 → Q (.ref p) H2
def sp_still (K : PySem.W.Frag) : Sp := fun vs H Q Er => ∃ (v : V) (E : List Addr) (d : PyData) (n : Nat), vs = [v] ∧ Dw E H v d n ∧ Sm v ∧ (numOk v 0 12 = false → Raises K (.num v 0 12) H Er) ∧
  ∀ n, v = .int n → 0 ≤ n → n ≤ 12 → ∀ p H1 H2, Same H H1 → New H1 p (.tup ((rng n.toNat).map V.int)) H2 → Q (.ref p) H2
def sp_rlen (K : PySem.W.Frag) : Sp := fun vs H Q Er => ∃ (v : V) (E : List Addr) (d : PyData) (n : Nat), vs = [v] ∧ Dw E H v d n ∧ (isMoveD d = false → Raises K (.mv 0) H Er) ∧
  ∀ (a : Addr) (ns : List Int), v = .ref a → H a = some (.tup (ns.map V.int)) → d = .tuple (ns.map .int) → isMoveD d = true → ∀ (L : Nat) H', Same H H' → RL ns L → Q (.int L) H'
/-- the move done times times, times taken by the round length -/
def sp_power (K : PySem.W.Frag) : Sp := fun vs H Q Er => ∃ (v t : V) (E : List Addr) (d dt : PyData) (n nt : Nat), vs = [v, t] ∧ Dw E H v d n ∧ (isMoveD d = false → Raises K (.mv 0) H Er) ∧
  (isMoveD d = true → Dw E H t dt nt ∧ Sm t ∧ (numOk t (-1000) 1000 = false → Raises K (.num t (-1000) 1000) H Er) ∧
    ∀ (a : Addr) (ns : List Int) (j : Int), v = .ref a → H a = some (.tup (ns.map V.int)) → d = .tuple (ns.map .int) → t = .int j → -1000 ≤ j → j ≤ 1000 → ∀ (L : Nat), RL ns L → ∀ p H', Same H H' → H p = none → H' p = some (.tup ((itr ns (j.fmod L).toNat).map V.int)) → Q (.ref p) H')
/-! moves in turn -/
def dLen : PyData → Nat
  | .tuple ds => ds.length
  | _ => 0
noncomputable def mvOn (n : Nat) (d : PyData) : Bool := isMoveD d && dLen d == n
noncomputable def mvFlt (n : Nat) : Nat → List PyData → Option Flt
  | _, [] => none
  | i, d :: r => if mvOn n d = true then mvFlt n (i + 1) r else some (.mv i)
noncomputable def cmFlt (n : Nat) (ds : List PyData) (z : Str) (lim : Nat) : Option Flt := if lim < ds.length then some (.many z lim) else mvFlt n 0 ds
def sp_chks (K : PySem.W.Frag) : Sp := fun vs H Q Er => ∃ (n : Nat) (p : Addr) (z : Str) (lim : Nat) (xs : List V) (E : List Addr) (ds : List PyData) (m : Nat), vs = [.int n, .ref p, .str z, .int lim] ∧ z.length ≤ 2000 ∧ lim ≤ 10000 ∧ sq H p = some xs ∧ DwAll E H xs ds m ∧ Ans K (cmFlt n ds z lim) H Er (∀ H', Same H H' → Q .non H')
def MvL (H : Hp) (n : Nat) (xs : List V) (mss : List (List Int)) : Prop := mss.length = xs.length ∧ ∀ (k : Nat) (x : V) (ns : List Int), xs[k]? = some x → mss[k]? = some ns → ∃ a, x = .ref a ∧ H a = some (.tup (ns.map V.int)) ∧ ns.length = n ∧ ns.Perm (rng n)
theorem MvL.same {H H' : Hp} {n : Nat} {xs : List V} {mss : List (List Int)} (h : MvL H n xs mss) (s : Same H H') : MvL H' n xs mss := ⟨h.1, fun k x ns h1 h2 => by
  obtain ⟨a, e1, e2, e3⟩ := h.2 k x ns h1 h2
  exact ⟨a, e1, s _ _ e2, e3⟩⟩
theorem mvl_of {E : List Addr} {H : Hp} {n : Nat} : ∀ {xs : List V} {ds : List PyData} {m i : Nat}, DwAll E H xs ds m → mvFlt n i ds = none → ∃ mss, MvL H n xs mss
  | _, _, _, _, .nil, _ => ⟨[], rfl, fun k x ns h => by simp at h⟩
  | _, _, _, i, .cons (d := d) (ds := ds) h1 h2, h => by
    rw [show mvFlt n i (d :: ds) = (if mvOn n d = true then mvFlt n (i + 1) ds else some (.mv i)) from rfl] at h
    by_cases c : mvOn n d = true
    · rw [if_pos c] at h
      obtain ⟨mss, hl, hm⟩ := mvl_of h2 h
      obtain ⟨c1, c2⟩ := Bool.and_eq_true_iff.mp c
      obtain ⟨a, ns, rfl, eh, ed, hle, hp, ne⟩ := move_at c1 h1
      have hdl : ns.length = n := by
        have := of_decide_eq_true c2
        rw [ed] at this
        have e : dLen (.tuple (ns.map PyData.int)) = ns.length := List.length_map _
        rw [← e]
        exact this
      refine ⟨ns :: mss, by simp [hl], fun k x zs h3 h4 => ?_⟩
      cases k with
      | zero =>
        simp at h3 h4
        subst h3 h4
        exact ⟨a, rfl, eh, hdl, by rw [← hdl]; exact hp⟩
      | succ k => exact hm k x zs (by simpa using h3) (by simpa using h4)
    · rw [if_neg c] at h; cases h
def turnM (n : Nat) (mss : List (List Int)) : List Int := mss.foldl (fun r ns => r.map (im ns)) (rng n)
theorem turnM_rg {n : Nat} : ∀ {mss : List (List Int)}, (∀ ns ∈ mss, ns.length = n ∧ ns.Perm (rng n)) → (turnM n mss).length = n ∧ ∀ z ∈ turnM n mss, 0 ≤ z ∧ z < n := by
  intro mss
  unfold turnM
  have gen : ∀ (mss : List (List Int)) (r : List Int), (∀ ns ∈ mss, ns.length = n ∧ ns.Perm (rng n)) → r.length = n → (∀ z ∈ r, 0 ≤ z ∧ z < n) → (mss.foldl (fun r ns => r.map (im ns)) r).length = n ∧ ∀ z ∈ mss.foldl (fun r ns => r.map (im ns)) r, 0 ≤ z ∧ z < n := by
    intro mss
    induction mss with
    | nil => exact fun r _ h1 h2 => ⟨h1, h2⟩
    | cons ns mss ih =>
      intro r h h1 h2
      obtain ⟨e1, e2⟩ := h ns List.mem_cons_self
      refine ih (r.map (im ns)) (fun ns h' => h ns (List.mem_cons_of_mem _ h')) (by rw [List.length_map]; exact h1) fun z hz => ?_
      obtain ⟨y, hy, rfl⟩ := List.mem_map.mp hz
      have m : Mv ns := ⟨by rw [e1]; exact e2⟩
      have := (m.at (p := y) (by rw [e1]; exact h2 y hy)).2
      rw [e1] at this
      exact this
  exact fun h => gen mss (rng n) h (rng_len n) fun z hz => mem_rng.mp hz
def sp_inturn (K : PySem.W.Frag) : Sp := fun vs H Q Er => ∃ (pz rv : V) (E : List Addr) (d : PyData) (m : Nat), vs = [pz, rv] ∧ Dw E H pz d m ∧ Sm pz ∧ (numOk pz 0 12 = false → Raises K (.num pz 0 12) H Er) ∧
  ∀ n : Nat, pz = .int n → n ≤ 12 → ∃ (p : Addr) (xs : List V) (E2 : List Addr) (ds : List PyData) (m2 : Nat), rv = .ref p ∧ sq H p = some xs ∧ DwAll E2 H xs ds m2 ∧ Ans K (cmFlt n ds "list" 400) H Er (∀ mss, MvL H n xs mss → ∀ q H', Same H H' → H q = none → H' q = some (.tup ((turnM n mss).map V.int)) → Q (.ref q) H')
end

/-! ## K2 -/

/-- each point carried many steps along its own round -/
def rsd (ns : List Int) (j : Int) : List Int := (rng ns.length).map fun p => it ns (j.fmod (ell ns p)).toNat p
theorem RL.it {ns : List Int} {L : Nat} (h : RL ns L) {p : Int} (hp : InR ns p) : Ho.it ns L p = p := itr_still.mp h.back p hp
theorem rsd_eq {ns : List Int} (m : Mv ns) {L : Nat} (h : RL ns L) (j : Int) : rsd ns j = itr ns (j.fmod L).toNat := by
  unfold rsd itr
  refine List.map_congr_left fun p hp => ?_
  have hp := mem_rng.mp hp
  have hd := ell_dvd m hp (h.it hp)
  obtain ⟨c, hc⟩ := hd
  have ep := ell_pos (ns := ns) (p := p)
  have lp := h.pos
  have s := (ell_spec m hp).2.1
  have e0 : 0 ≤ j.fmod L := (fm_bound (x := j) (m := (L : Int)) (by omega)).1
  have e1 : 0 ≤ j.fmod (ell ns p) := (fm_bound (x := j) (m := (ell ns p : Int)) (by omega)).1
  have e2 : (j.fmod L).toNat % ell ns p = (j.fmod (ell ns p)).toNat := by
    have h3 : ((j.fmod L).toNat % ell ns p : Nat) = ((j.fmod L) % (ell ns p : Int)).toNat := by
      have : (((j.fmod L).toNat % ell ns p : Nat) : Int) = (j.fmod L) % (ell ns p : Int) := by
        rw [Int.natCast_emod, Int.toNat_of_nonneg e0]
      omega
    rw [h3, Int.fmod_eq_emod_of_nonneg _ (by omega), Int.fmod_eq_emod_of_nonneg _ (by omega)]
    congr 1
    have hdv : (ell ns p : Int) ∣ (L : Int) := ⟨c, by rw [hc]; simp⟩
    exact Int.emod_emod_of_dvd j hdv
  show it ns _ p = it ns _ p
  rw [← e2, it_mod s]
section
variable {P : Program} {w : World} {K : PySem.W.Frag} {mg : Str → Option Value} {base : Heap}
def sp_between : Sp := fun vs H Q _ => ∃ (s l : Addr) (lo hi : Int), vs = [.ref s, .int lo, .int hi] ∧ Sto s l H ∧ lo ≤ hi ∧ -10000 ≤ lo ∧ hi ≤ 10000 ∧ ∀ r H', Ge s l H H' → lo ≤ r → r ≤ hi → Q (.int r) H'
def sp_along : Sp := fun vs H Q _ => ∃ (a : Addr) (ns : List Int) (p j : Int), vs = [.ref a, .int p, .int j] ∧ H a = some (.tup (ns.map V.int)) ∧ ns.length ≤ 12 ∧ ns.Perm (rng ns.length) ∧ InR ns p ∧ ∀ H', Same H H' → Q (.int (it ns (j.fmod (ell ns p)).toNat p)) H'
def sp_raised : Sp := fun vs H Q _ => ∃ (a : Addr) (ns : List Int) (j : Int), vs = [.ref a, .int j] ∧ H a = some (.tup (ns.map V.int)) ∧ ns.length ≤ 12 ∧ ns.Perm (rng ns.length) ∧ ∀ p H1 H2, Same H H1 → New H1 p (.tup ((rsd ns j).map V.int)) H2 → Q (.ref p) H2
def sp_round : Sp := fun vs H Q _ => ∃ (a : Addr) (ns : List Int) (L : Nat), vs = [.ref a] ∧ H a = some (.tup (ns.map V.int)) ∧ ns.length ≤ 12 ∧ ns.Perm (rng ns.length) ∧ RL ns L ∧ ∀ H', Same H H' → Q (.int L) H'
def sp_undone : Sp := fun vs H Q _ => ∃ (a : Addr) (ns : List Int), vs = [.ref a] ∧ H a = some (.tup (ns.map V.int)) ∧ ns.length ≤ 12 ∧ ns.Perm (rng ns.length) ∧ ∀ (p : Addr) (iv : List Int) H1 H2, Same H H1 → New H1 p (.tup (iv.map V.int)) H2 → iv.Perm (rng ns.length) → (∀ z, InR ns z → im iv (im ns z) = z) → Q (.ref p) H2
end

/-! ## K3 -/

/-- what is due stands as a tuple of data -/
def DueAt (H : Hp) (du : Addr) (f : Flt) : Prop := f.cls ∈ errL ∧ H du = some (.tup f.due) ∧ ∃ ds k, DwAll [] H f.due ds k ∧ k ≤ 2000
theorem DueAt.same {H H' : Hp} {du : Addr} {f : Flt} (h : DueAt H du f) (s : Same H H') : DueAt H' du f := ⟨h.1, s _ _ h.2.1, by
  obtain ⟨ds, k, h1, h2⟩ := h.2.2
  exact ⟨ds, k, h1.same s, h2⟩⟩
theorem DueAt.ref {K : PySem.W.Frag} {H : Hp} {du a : Addr} {f : Flt} {dd : Addr} {Q : VK} (h : DueAt H du f) (hx : H dd = some (.xd f.fs)) (k : ∀ H', Same H H' → Q (.bl true) H') : sp_refG K a (.ref (He.ga K f.cls)) (some dd) [.ref a, .ref du] H Q E0 := by
  obtain ⟨ds, kk, h1, h2⟩ := h.2.2
  exact ⟨f, du, dd, ds, kk, rfl, rfl, h.1, rfl, hx, h.2.1, h1, by omega, k⟩
section
variable {P : Program} {w : World} {K : PySem.W.Frag} {mg : Str → Option Value} {base : Heap}
theorem pow_by {H : Hp} {Q : VK} {Er : XK} {mv t : V} {f : Flt} {E' E2 : List Addr} {d dt : PyData} {n nt : Nat} (hd : Dw E' H mv d n) (ht : Dw E2 H t dt nt) (hs : Sm t) (hb : isMoveD d = false → f = .mv 0)
    (hg : isMoveD d = true → numOk t (-1000) 1000 = false ∧ f = .num t (-1000) 1000) (er : Raises K f H Er) : sp_power K [mv, t] H Q Er := by
  refine ⟨mv, t, [], d, dt, n, nt, rfl, hd.sub (fun a z => absurd z (by simp)), fun hno => ?_, fun hmv => ⟨ht.sub (fun a z => absurd z (by simp)), hs, fun _ => ?_, fun a ns j ea eh ed et j0 j1 => ?_⟩⟩
  · rw [← hb hno]; exact er
  · rw [← (hg hmv).2]; exact er
  · have h1 := (hg hmv).1
    subst et
    simp [numOk] at h1
    omega
def sp_powtold : Sp := fun vs H Q _ => ∃ (mv t : V) (du : Addr) (f : Flt) (E E2 : List Addr) (d dt : PyData) (n nt : Nat), vs = [mv, t, .ref du] ∧ Dw E H mv d n ∧ Dw E2 H t dt nt ∧ Sm t ∧ DueAt H du f ∧ (isMoveD d = false → f = .mv 0) ∧ (isMoveD d = true → numOk t (-1000) 1000 = false ∧ f = .num t (-1000) 1000) ∧ ∀ H', Same H H' → Q (.bl true) H'
def sp_rtold : Sp := fun vs H Q _ => ∃ (v : V) (E : List Addr) (d : PyData) (n : Nat), vs = [v] ∧ Dw E H v d n ∧ isMoveD d = false ∧ ∀ H', Same H H' → Q (.bl true) H'
def sp_stold : Sp := fun vs H Q _ => ∃ (x : V) (d : PyData) (n : Nat), vs = [x] ∧ Sm x ∧ Dw [] H x d n ∧ n ≤ 1000 ∧ numOk x 0 12 = false ∧ ∀ H', Same H H' → Q (.bl true) H'
theorem turn_by {H : Hp} {Q : VK} {Er : XK} {pz : V} {p : Addr} {f : Flt} {E' E2 : List Addr} {d : PyData} {n : Nat} {xs : List V} {ds : List PyData} {m2 : Nat} (hd : Dw E' H pz d n) (hs : Sm pz) (hb : numOk pz 0 12 = false → f = .num pz 0 12) (hq : sq H p = some xs) (hda : DwAll E2 H xs ds m2)
    (hg : ∀ n : Nat, pz = .int n → n ≤ 12 → cmFlt n ds "list" 400 = some f) (er : Raises K f H Er) : sp_inturn K [pz, .ref p] H Q Er := by
  refine ⟨pz, .ref p, E', d, n, rfl, hd, hs, fun hno => ?_, fun n e h => ⟨p, xs, E2, ds, m2, rfl, hq, hda, ?_⟩⟩
  · rw [← hb hno]; exact er
  · rw [hg n e h]; exact er
def sp_ttold : Sp := fun vs H Q _ => ∃ (pz : V) (p du : Addr) (f : Flt) (E' E : List Addr) (d dp : PyData) (n m : Nat) (xs : List V) (ds : List PyData) (m2 : Nat), vs = [pz, .ref p, .ref du] ∧ Dw E' H pz d n ∧ Sm pz ∧ DueAt H du f ∧ Lv E H ∧ Dw E H (.ref p) dp m ∧ m ≤ 400000 ∧ sq H p = some xs ∧ DwAll E H xs ds m2 ∧ (numOk pz 0 12 = false → f = .num pz 0 12) ∧
  (∀ n : Nat, pz = .int n → n ≤ 12 → cmFlt n ds "list" 400 = some f) ∧ ∀ H', Same H H' → Q (.bl true) H'
end

/-! ## K4 -/

section
variable {K : PySem.W.Frag} {H : Hp} {Q : VK}
end
theorem Sto.net {s l p : Addr} {H : Hp} {xs : List V} (h : Sto s l H) (e : H p = some (.tup xs)) : p ≠ s := fun z => by
  obtain ⟨ns, i1, i2, i3, i4, i5, i6, hs, _⟩ := h
  rw [z, hs] at e
  cases e
/-- no move on n points -/
def VNo (n : Nat) (s : Addr) (H : Hp) (v : V) : Prop := ∃ d k, Dw [s] H v d k ∧ k ≤ 100 ∧ mvOn n d = false
theorem VNo.ge {n : Nat} {s l : Addr} {H H' : Hp} {v : V} (h : VNo n s H v) (g : Ge s l H H') : VNo n s H' v := by
  obtain ⟨d, k, h1, h2⟩ := h
  exact ⟨d, k, h1.ge g (by simp), h2⟩
theorem VNo.same {n : Nat} {s : Addr} {H H' : Hp} {v : V} (h : VNo n s H v) (g : Same H H') : VNo n s H' v := by
  obtain ⟨d, k, h1, h2⟩ := h
  exact ⟨d, k, h1.same g, h2⟩
theorem mvOn_f {n : Nat} {d : PyData} (h : isMoveD d = false) : mvOn n d = false := by unfold mvOn; rw [h]; rfl
theorem vno_leaf {n : Nat} {s : Addr} {H : Hp} {v : V} {d : PyData} {k : Nat} (l : Lf v d k) (h : k ≤ 100) : VNo n s H v := ⟨d, k, .lf l, h, mvOn_f (not_move_leaf l)⟩
theorem vno_ints {n : Nat} {s l u : Addr} {H : Hp} {zs : List Int} (st : Sto s l H) (e : H u = some (.tup (zs.map V.int))) (hl : zs.length ≤ 20) (h : zs.length ≠ n ∨ ∃ z ∈ zs, ¬ (0 ≤ z ∧ z < zs.length)) : VNo n s H (.ref u) := by
  refine ⟨.tuple (zs.map .int), _, .tup (by simpa using st.net e) e (DwAll.ints zs), by omega, ?_⟩
  rcases h with h | ⟨z, hz, hn⟩
  · unfold mvOn
    have : (dLen (.tuple (zs.map PyData.int)) == n) = false := by
      show ((zs.map PyData.int).length == n) = false
      rw [List.length_map]
      simpa using h
    rw [this, Bool.and_false]
  · refine mvOn_f (isMove_f fun ⟨ms, e, _, hp⟩ => hn ?_)
    have e := PyData.tuple.inj e
    have hlen := congrArg List.length e
    rw [List.length_map, List.length_map] at hlen
    have hm : PyData.int z ∈ ms.map PyData.int := by rw [← e]; exact List.mem_map_of_mem hz
    obtain ⟨y, hy, ey⟩ := List.mem_map.mp hm
    cases ey
    have := mem_rng.mp (hp.mem_iff.mp hy)
    omega
theorem vno_first {n : Nat} {s l u : Addr} {H : Hp} {x : V} {xs : List V} {d : PyData} {ds : List PyData} {k : Nat} (st : Sto s l H) (e : H u = some (.tup (x :: xs))) (h : DwAll [s] H (x :: xs) (d :: ds) k) (hk : k ≤ 99) (hd : ∀ i, d ≠ .int i) : VNo n s H (.ref u) := by
  refine ⟨_, _, .tup (by simpa using st.net e) e h, by omega, mvOn_f (isMove_f fun ⟨ms, e, _, hp⟩ => ?_)⟩
  have e := PyData.tuple.inj e
  cases ms with
  | nil => cases e
  | cons z zs =>
    rw [List.map_cons] at e
    exact hd z (List.cons.inj e).1
section
variable {P : Program} {w : World} {K : PySem.W.Frag} {mg : Str → Option Value} {base : Heap}
def sp_nomove : Sp := fun vs H Q _ => ∃ (s l : Addr) (n : Int), vs = [.ref s, .int n] ∧ Sto s l H ∧ 0 ≤ n ∧ n ≤ 12 ∧ ∀ v H', Ge s l H H' → VNo n.toNat s H' v → Q v H'
end

/-! ## W1 -/
local macro_rules | `(tactic| walk_at "wp") => `(tactic| (try simp only [a_var, a_c, a_op, a_un, a_test, a_b, a_and, a_or, a_not, a_andV, a_orV, a_notV, a_if, a_next, a_seq, a_break, a_cont, a_drop, a_ret, a_retN, a_ifS, a_asg, a_name, a_sub, a_nil, a_cons, a_tup, a_lst, a_call, a_cb, a_bm0, a_bm, a_sl, a_nopart, a_part, a_aug, b_rI, b_rI0, b_rU, b_eq, b_ne, b_isTF, b_int, b_intb, b_list, b_tuple, b_ix, b_len, b_setL, b_app, b_pop, b_popAt, b_sl, b_rep, b_cat, b_lstRg, b_tupRg, b_rg1, b_rg2, a_forR, a_forR2, a_forS, b_fsq, a_lcR, a_lcR2, a_lcS, b_csq, wipe_nil, wipe_cons, a_yes, wh_i, wh_s, wh_b, wh_r, wh_n, Bool.not_eq_true, eq_self, not_true_eq_false, not_false_eq_true, b_isi, kb_all, ty_non, ty_bl, ty_int, ty_str, a_m1, b_ixS, b_slS, List.cons.injEq, and_assoc, exists_and_left, cxK, List.getElem?_cons_zero, List.getElem?_cons_succ, List.set_cons_zero, List.set_cons_succ, Option.some.injEq, exists_eq_left', exists_eq_left, V.bl.injEq, V.int.injEq, V.ref.injEq, V.str.injEq, HO.lst.injEq, HO.tup.injEq, decide_eq_true_eq, true_and, and_true, L2.start, List.map_cons, List.map_nil, List.length_cons, List.length_nil, Nat.zero_add, Nat.reduceAdd, Nat.reduceSub, List.replicate_succ, List.replicate_zero, List.cons_append, List.nil_append, if_true, if_false, Bool.false_eq_true, Bool.not_true, Bool.not_false, decide_not, Bool.not_eq_true', decide_eq_false_iff_not, scal_ii, scal_bb, scal_ss, scal_is, scal_si, reduceCtorEq, Bool.true_eq_false, decide_false, decide_true, if_pos, ne_eq, Int.reduceNeg, atI_0, atI_1, atI_2, atI_3, atI_4, atI_5, atI_6, ixN_7, b_ins, a_revL, b_isT, V.ty.injEq, Bool.true_or, Bool.or_true, Bool.false_or, Bool.or_false, Bool.or_self, b_sorted, b_repT, a_err, a_callS, a_xp, a_isP, a_lcE, a_forE, a_isV, a_lcH, a_ch, a_forES, a_lcG, a_lcI, b_tupA, a_forSt, a_dcR]))
local macro_rules | `(tactic| walk_at "wps") => `(tactic| (try simp only [a_var, a_c, a_op, a_un, a_test, a_b, a_and, a_or, a_not, a_andV, a_orV, a_notV, a_if, a_next, a_seq, a_break, a_cont, a_drop, a_ret, a_retN, a_ifS, a_asg, a_name, a_sub, a_nil, a_cons, a_tup, a_lst, a_call, a_cb, a_bm0, a_bm, a_sl, a_nopart, a_part, a_aug, b_rI, b_rI0, b_rU, b_eq, b_ne, b_isTF, b_int, b_intb, b_list, b_tuple, b_ix, b_len, b_setL, b_app, b_pop, b_popAt, b_sl, b_rep, b_cat, b_lstRg, b_tupRg, b_rg1, b_rg2, a_forR, a_forR2, a_forS, b_fsq, a_lcR, a_lcR2, a_lcS, b_csq, wipe_nil, wipe_cons, a_yes, wh_i, wh_s, wh_b, wh_r, wh_n, Bool.not_eq_true, eq_self, not_true_eq_false, not_false_eq_true, b_isi, kb_all, ty_non, ty_bl, ty_int, ty_str, a_m1, b_ixS, b_slS, List.cons.injEq, and_assoc, exists_and_left, cxK, List.getElem?_cons_zero, List.getElem?_cons_succ, List.set_cons_zero, List.set_cons_succ, Option.some.injEq, exists_eq_left', exists_eq_left, V.bl.injEq, V.int.injEq, V.ref.injEq, V.str.injEq, HO.lst.injEq, HO.tup.injEq, decide_eq_true_eq, true_and, and_true, L2.start, List.map_cons, List.map_nil, List.length_cons, List.length_nil, Nat.zero_add, Nat.reduceAdd, Nat.reduceSub, List.replicate_succ, List.replicate_zero, List.cons_append, List.nil_append, if_true, if_false, Bool.false_eq_true, Bool.not_true, Bool.not_false, decide_not, Bool.not_eq_true', decide_eq_false_iff_not, scal_ii, scal_bb, scal_ss, scal_is, scal_si, reduceCtorEq, Bool.true_eq_false, decide_false, decide_true, if_pos, ne_eq, Int.reduceNeg, atI_0, atI_1, atI_2, atI_3, atI_4, atI_5, atI_6, ixN_7, b_ins, a_revL, b_isT, V.ty.injEq, Bool.true_or, Bool.or_true, Bool.false_or, Bool.or_false, Bool.or_self, b_sorted, b_repT, a_err, a_callS, a_xp, a_isP, a_lcE, a_forE, a_isV, a_lcH, a_ch, a_forES, a_lcG, a_lcI, b_tupA, a_forSt, a_dcR, *]))
local macro_rules | `(tactic| walk_at "wq") => `(tactic| (try simp only [a_var, a_c, a_op, a_un, a_test, a_b, a_and, a_or, a_not, a_andV, a_orV, a_notV, a_if, a_next, a_break, a_cont, a_drop, a_ret, a_retN, a_ifS, a_asg, a_name, a_sub, a_nil, a_cons, a_tup, a_lst, a_call, a_cb, a_bm0, a_bm, a_sl, a_nopart, a_part, a_aug, b_rI, b_rI0, b_rU, b_eq, b_ne, b_isTF, b_int, b_intb, b_list, b_tuple, b_ix, b_len, b_setL, b_app, b_pop, b_popAt, b_sl, b_rep, b_cat, b_lstRg, b_tupRg, b_rg1, b_rg2, a_forR, a_forR2, a_forS, b_fsq, a_lcR, a_lcR2, a_lcS, b_csq, wipe_nil, wipe_cons, a_yes, wh_i, wh_s, wh_b, wh_r, wh_n, Bool.not_eq_true, eq_self, not_true_eq_false, not_false_eq_true, b_isi, kb_all, ty_non, ty_bl, ty_int, ty_str, a_m1, b_ixS, b_slS, List.cons.injEq, and_assoc, exists_and_left, cxK, List.getElem?_cons_zero, List.getElem?_cons_succ, List.set_cons_zero, List.set_cons_succ, Option.some.injEq, exists_eq_left', exists_eq_left, V.bl.injEq, V.int.injEq, V.ref.injEq, V.str.injEq, HO.lst.injEq, HO.tup.injEq, decide_eq_true_eq, true_and, and_true, L2.start, List.map_cons, List.map_nil, List.length_cons, List.length_nil, Nat.zero_add, Nat.reduceAdd, Nat.reduceSub, List.replicate_succ, List.replicate_zero, List.cons_append, List.nil_append, if_true, if_false, Bool.false_eq_true, Bool.not_true, Bool.not_false, decide_not, Bool.not_eq_true', decide_eq_false_iff_not, scal_ii, scal_bb, scal_ss, scal_is, scal_si, reduceCtorEq, Bool.true_eq_false, decide_false, decide_true, if_pos, ne_eq, Int.reduceNeg, atI_0, atI_1, atI_2, atI_3, atI_4, atI_5, atI_6, ixN_7, b_ins, a_revL, b_isT, V.ty.injEq, Bool.true_or, Bool.or_true, Bool.false_or, Bool.or_false, Bool.or_self, b_sorted, b_repT, a_err, a_callS, a_xp, a_isP, a_lcE, a_forE, a_isV, a_lcH, a_ch, a_forES, a_lcG, a_lcI, b_tupA, a_forSt, a_dcR, *]))
local macro_rules | `(tactic| walk_at "wn") => `(tactic| (try simp only [a_var, a_c, a_op, a_un, a_test, a_b, a_and, a_or, a_not, a_andV, a_orV, a_notV, a_if, a_next, a_break, a_cont, a_drop, a_ret, a_retN, a_ifS, a_asg, a_name, a_sub, a_nil, a_cons, a_tup, a_lst, a_call, a_cb, a_bm0, a_bm, a_sl, a_nopart, a_part, a_aug, b_rI, b_rI0, b_rU, b_eq, b_ne, b_isTF, b_int, b_intb, b_list, b_tuple, b_ix, b_len, b_setL, b_app, b_pop, b_popAt, b_sl, b_rep, b_cat, b_lstRg, b_tupRg, b_rg1, b_rg2, a_forR, a_forR2, a_forS, b_fsq, a_lcR, a_lcR2, a_lcS, b_csq, wipe_nil, wipe_cons, a_yes, wh_i, wh_s, wh_b, wh_r, wh_n, Bool.not_eq_true, eq_self, not_true_eq_false, not_false_eq_true, b_isi, kb_all, ty_non, ty_bl, ty_int, ty_str, a_m1, b_ixS, b_slS, List.cons.injEq, and_assoc, exists_and_left, cxK, List.getElem?_cons_zero, List.getElem?_cons_succ, List.set_cons_zero, List.set_cons_succ, Option.some.injEq, exists_eq_left', exists_eq_left, V.bl.injEq, V.int.injEq, V.ref.injEq, V.str.injEq, HO.lst.injEq, HO.tup.injEq, decide_eq_true_eq, true_and, and_true, L2.start, List.map_cons, List.map_nil, List.length_cons, List.length_nil, Nat.zero_add, Nat.reduceAdd, Nat.reduceSub, List.replicate_succ, List.replicate_zero, List.cons_append, List.nil_append, if_true, if_false, Bool.false_eq_true, Bool.not_true, Bool.not_false, decide_not, Bool.not_eq_true', decide_eq_false_iff_not, scal_ii, scal_bb, scal_ss, scal_is, scal_si, reduceCtorEq, Bool.true_eq_false, decide_false, decide_true, if_pos, ne_eq, Int.reduceNeg, atI_0, atI_1, atI_2, atI_3, atI_4, atI_5, atI_6, ixN_7, b_ins, a_revL, b_isT, V.ty.injEq, Bool.true_or, Bool.or_true, Bool.false_or, Bool.or_false, Bool.or_self, b_sorted, b_repT, a_err, a_callS, a_xp, a_isP, a_lcE, a_forE, a_isV, a_lcH, a_ch, a_forES, a_lcG, a_lcI, b_tupA, a_forSt, a_dcR]))
local macro_rules | `(tactic| walk_at "sq") => `(tactic| ((try dsimp only); rw [a_seq]; walk_at "wq"))
local macro_rules | `(tactic| walk_at "sn") => `(tactic| ((try dsimp only); rw [a_seq]; walk_at "wn"))

/-- a move, held at v -/
structure MvA (H : Hp) (v : V) (a : Addr) (ns : List Int) : Prop where
  e : v = .ref a
  at_ : H a = some (.tup (ns.map V.int))
  le : ns.length ≤ 12
  p : ns.Perm (rng ns.length)
theorem MvA.same {H H' : Hp} {v : V} {a : Addr} {ns : List Int} (m : MvA H v a ns) (s : Same H H') : MvA H' v a ns := ⟨m.e, s _ _ m.at_, m.le, m.p⟩
theorem MvA.of {E : List Addr} {H : Hp} {v : V} {d : PyData} {n : Nat} (hd : isMoveD d = true) (hv : Dw E H v d n) : ∃ a ns, MvA H v a ns ∧ d = .tuple (ns.map .int) := by
  obtain ⟨a, ns, e1, e2, e3, e4, e5, _⟩ := move_at hd hv
  exact ⟨a, ns, ⟨e1, e2, e4, e5⟩, e3⟩
theorem MvA.d {H : Hp} {v : V} {a : Addr} {ns : List Int} (m : MvA H v a ns) : isMoveD (.tuple (ns.map .int)) = true := isMove_t ⟨ns, rfl, m.le, m.p⟩
theorem MvA.dw {H : Hp} {v : V} {a : Addr} {ns : List Int} (m : MvA H v a ns) : Dw [] H v (.tuple (ns.map .int)) (ns.length + 1) := by
  rw [m.e]
  exact dwT m.at_
theorem MvA.m {H : Hp} {v : V} {a : Addr} {ns : List Int} (m : MvA H v a ns) : Mv ns := ⟨m.p⟩
theorem MvA.uniq {H : Hp} {v : V} {a b : Addr} {as bs : List Int} (x : MvA H v a as) (y : MvA H v b bs) : a = b ∧ as = bs := by
  have e := x.e.symm.trans y.e
  cases e
  have h := x.at_.symm.trans y.at_
  simp only [Option.some.injEq, HO.tup.injEq] at h
  exact ⟨rfl, map_int_inj h⟩
/-- the rows' tuples stand -/
def RowsAt (H : Hp) (rows : List Addr) (cs : List (List Int)) : Prop := rows.length = cs.length ∧ ∀ (k : Nat) (r : Addr) (c : List Int), rows[k]? = some r → cs[k]? = some c → H r = some (.tup (c.map V.int))
theorem RowsAt.same {H H' : Hp} {rows : List Addr} {cs : List (List Int)} (h : RowsAt H rows cs) (s : Same H H') : RowsAt H' rows cs := ⟨h.1, fun k r c h1 h2 => s _ _ (h.2 k r c h1 h2)⟩
theorem flat_len : ∀ cs : List (List Int), (∀ c ∈ cs, 1 ≤ c.length) → cs.length ≤ cs.flatten.length
  | [], _ => by simp
  | c :: cs, h => by
    have h1 := flat_len cs fun c' hc' => h c' (List.mem_cons_of_mem _ hc')
    have h2 := h c List.mem_cons_self
    rw [List.flatten_cons, List.length_append, List.length_cons]
    omega
theorem sub_len {l : List Int} {n : Nat} (nd : l.Nodup) (h : ∀ p ∈ l, p ∈ rng n) : l.length ≤ n := by
  have := nd.length_le_of_subset h
  rw [rng_len] at this
  exact this
section
variable {P : Program} {w : World} {K : PySem.W.Frag} {mg : Str → Option Value} {base : Heap}
def sp_cyc (K : PySem.W.Frag) : Sp := fun vs H Q Er => ∃ (v : V) (E : List Addr) (d : PyData) (n : Nat), vs = [v] ∧ Dw E H v d n ∧
  (∀ (a : Addr) (ns : List Int), MvA H v a ns → d = .tuple (ns.map .int) → ∀ (p : Addr) (rows : List Addr) (H2 : Hp), Same H H2 → H p = none → H2 p = some (.lst (rows.map V.ref)) → RowsAt H2 rows (cyc ns) → Q (.ref p) H2) ∧
  (isMoveD d = false → Raises K (.mv 0) H Er)
abbrev stcycles : Stmt := topS 43
theorem sccycles : FnScope ["move", "found", "done", "start", "cycle", "point"] ["move"] (defScope stcycles) := ⟨rfl, rfl, rfl, by decide +kernel, rfl, by decide +kernel, by decide +kernel⟩
theorem okcycles (D : Df K mg "cycles" stcycles) (T : NoB mg) (Ccheck_move : ClX P w K mg base 4 "check_move" ["value", "index"] (sp_chk K)) : ClX P w K mg base 5 "cycles" ["move"] (sp_cyc K) := by
  refine clX_of D sccycles (fun _ _ _ _ _ _ us hl => match us, hl with | [_], _ => rfl) (fun vs H Q E h => ?_) (fun f cdv A outer sh H vs Q E hr tk h => ?_)
  · obtain ⟨_, _, _, _, rfl, _⟩ := h; rfl
  obtain ⟨v, E', d, n, rfl, hv, k1, k2⟩ := h
  refine ⟨_, (pss_cons (ps_expr (pe_clX Ccheck_move tk hr (by rfl) (pa_cons (pv 0) (pa_cons pe_int pa_nil))))
    (PSs.nox (pss_cons (ps_set (i := 1) sccycles.nd rfl (Or.inl rfl) (pe_lst pa_nil))
    (pss_cons (ps_set (i := 2) sccycles.nd rfl (Or.inl rfl) (pe_op op_rep (pe_lst (pa_cons pe_bl pa_nil)) (pe_callB len1 (by rfl) T.no_len (by decide +kernel) (pa_cons (pv 0) pa_nil))))
    (pss_cons (ps_for PassesOwn.never rfl (pi_range1 (by rfl) T.no_range (pa_cons (pe_callB len1 (by rfl) T.no_len (by decide +kernel) (pa_cons (pv 0) pa_nil)) pa_nil)) (pg_name (i := 3) sccycles.nd rfl (Or.inl rfl)) (pss_cons (ps_if (PW.pt (pw_or (pt_val (pe_ix ix1 (pv 2) (pv 3) (fun _ _ => rfl))) (pw_or1 (pt_cmpR op_eq (pe_ix ix1 (pv 0) (pv 3) (fun _ _ => rfl)) (pv 3) (nomark _))))) (pss_one ps_continue) pss_nil)
    (pss_cons (ps_set (i := 4) sccycles.nd rfl (Or.inl rfl) (pe_lst pa_nil))
    (pss_cons (ps_set (i := 5) sccycles.nd rfl (Or.inl rfl) (pv 3))
    (pss_cons (ps_while PassesOwn.never (pt_not (pt_val (pe_ix ix1 (pv 2) (pv 5) (fun _ _ => rfl)))) (pss_cons (ps_asg pe_bl (pg_sub (pv 2) (pv 5) set_list))
    (pss_cons (ps_expr (pe_bm PySem.F.plainAttrs_list PySem.F.slot_list_append PySem.F.type_list_append mt_append (pv 4) (pa_cons (pv 5) pa_nil)))
    (pss_one (ps_set (i := 5) sccycles.nd rfl (Or.inl rfl) (pe_ix ix1 (pv 0) (pv 5) (fun _ _ => rfl)))))))
    (pss_one (ps_expr (pe_bm PySem.F.plainAttrs_list PySem.F.slot_list_append PySem.F.type_list_append mt_append (pv 1) (pa_cons (pe_callTy tup1 (by rfl) T.no_tuple (by decide +kernel) (pa_cons (pv 4) pa_nil)) pa_nil)))))))))
    (pss_one (ps_ret (pv 1)))))))), ?_⟩
  rw [a_seq]
  walk_at "wn"
  refine ⟨v, 0, E', d, n, rfl, by decide, hv, fun hd H1 s1 => ?_, fun hd => k2 hd⟩
  obtain ⟨a, ns, rfl, ha, ed, hl, hp, ne⟩ := move_at hd hv
  have hla : (ns.map V.int).length = ns.length := List.length_map _
  walk_at "sn"
  refine ⟨szl (by decide), fun F H2 n2 => ?_⟩
  have hF : H F = none := s1.free n2.fr
  walk_at "sn"
  refine ⟨szl (by decide), fun p0 H3 n3 => ⟨_, sq_t (n3.k (n2.k (s1 _ _ ha))), _, n3.at_, by omega, by omega, by rw [sizeLine_eq]; simp; omega, fun D1 H4 n4 => ?_⟩⟩
  have s2 := s1.trans n2.same
  have s3 := s2.trans n3.same
  have s4 := s3.trans n4.same
  have hD : H D1 = none := s3.free n4.fr
  have hFD : F ≠ D1 := n4.ne (n3.k n2.at_)
  walk_at "sn"
  refine ⟨_, sq_t (s4 _ _ ha), by omega, by omega, ?_⟩
  have m : Mv ns := ⟨hp⟩
  refine fr_by (fun i σ H' => Same H H' ∧ ∃ (v3 v4 v5 : Option V) (rows : List Addr) (cs : List (List Int)) (ds : List Bool), σ = [some (V.ref a), some (V.ref F), some (V.ref D1), v3, v4, v5] ∧ H' F = some (.lst (rows.map V.ref)) ∧ H' D1 = some (.lst (ds.map V.bl)) ∧
    ds.length = ns.length ∧ (∀ j : Nat, j < ns.length → ds[j]? = some (decide ((j : Int) ∈ cs.flatten))) ∧ RowsAt H' rows cs ∧ Outer ns cs i)
    ⟨s4, _, _, _, [], [], List.replicate ns.length false, rfl, n4.k (n3.k n2.at_), by rw [n4.at_, hla, ← repF]; rfl, by simp, fun j hj => by simp [hj], ⟨rfl, fun k r c h => by simp at h⟩, Outer.start⟩ ?_ ?_
  · rintro i _ H5 N hN hi ⟨s5, v3, v4, v5, rows, cs, ds, rfl, eF, eD, hdl, hds, hrows, ho⟩
    have hi' : i < ns.length := by rw [hla] at hi; omega
    walk_at "wn"
    have ei := m.at (p := (i : Int)) ⟨by omega, by omega⟩
    have ein : ns[i]? = some (im ns i) := by simpa using ei.1
    have qD := sq_l eD
    have qa := sq_t (s5 _ _ ha)
    have skip : ((i : Int) ∈ cs.flatten ∨ im ns i = i) → N [some (V.ref a), some (V.ref F), some (V.ref D1), some (V.int (0 + ↑i)), v4, v5] H5 := fun z =>
      hN _ _ ⟨s5, _, _, _, rows, cs, ds, rfl, eF, eD, hdl, hds, hrows, by have := ho.skip z; simpa using this⟩
    rw [a_seq]
    walk_at "wn"
    refine ⟨_, qD, .bl (decide ((i : Int) ∈ cs.flatten)), atI_of (by omega) (by simp [hds i hi']), ?_⟩
    walk_at "wn"
    split
    · rename_i hin
      exact skip (.inl hin)
    rename_i hin
    refine ⟨_, qa, .int (im ns i), atI_of (by omega) (by simp [ein]), rfl, ?_⟩
    split
    · rename_i he
      exact skip (.inr (by have := V.int.inj he; omega))
    rename_i hne
    have hmv : im ns i ≠ i := fun z => hne (by rw [z]; congr 1; omega)
    walk_at "sn"
    refine ⟨szl (by decide), fun C1 H6 n6 => ?_⟩
    have hC : H C1 = none := s5.free n6.fr
    have hCF : F ≠ C1 := n6.ne eF
    have hCD : D1 ≠ C1 := n6.ne eD
    walk_at "sn"
    rw [a_seq]
    have w0 := Walk.start (ns := ns) (s := (i : Int)) ho.nd ho.mv ho.cl ho.cb ⟨⟨by omega, by omega⟩, hmv, hin⟩
    have hz : (0 : Int) + (i : Int) = i := by omega
    rw [hz]
    refine wh_by (fun mm σ H' => Same H H' ∧ ∃ (cyc : List Int) (pt : Int) (ds' : List Bool), σ = [some (V.ref a), some (V.ref F), some (V.ref D1), some (V.int i), some (V.ref C1), some (V.int pt)] ∧ H' F = some (.lst (rows.map V.ref)) ∧ H' D1 = some (.lst (ds'.map V.bl)) ∧ H' C1 = some (.lst (cyc.map V.int)) ∧
      ds'.length = ns.length ∧ (∀ j : Nat, j < ns.length → ds'[j]? = some (decide ((j : Int) ∈ cs.flatten ++ cyc))) ∧ RowsAt H' rows cs ∧ Walk ns cs.flatten cyc i pt ∧ mm + (cs.flatten ++ cyc).length = ns.length) (ns.length - cs.flatten.length)
      ⟨s5.trans n6.same, [], i, ds, rfl, n6.k eF, n6.k eD, n6.at_, hdl, by simpa using hds, ⟨hrows.1, fun k r c h1 h2 => n6.k (hrows.2 k r c h1 h2)⟩, w0, ?_⟩ ?_
    · have := (sub_len ho.nd (fun p hp => mem_rng.mpr (ho.mv p hp).1))
      rw [List.append_nil]
      omega
    rintro mm _ H7 N2 R hN2 hR ⟨s7, cyc, pt, ds', rfl, eF7, eD7, eC7, hdl7, hds7, hrows7, wk, hmm⟩
    walk_at "wn"
    have hptn : (pt.toNat : Int) = pt := Int.toNat_of_nonneg wk.ptr.1
    have hd1 := hds7 pt.toNat (by have := wk.ptr; omega)
    rw [hptn] at hd1
    refine ⟨_, sq_l eD7, .bl (decide (pt ∈ cs.flatten ++ cyc)), atI_of wk.ptr.1 (by rw [List.getElem?_map, hd1]; rfl), _, rfl, ?_⟩
    refine hR _ _ (wst (fun hb => ?_) (fun hb => ?_))
    · have hnin : pt ∉ cs.flatten ++ cyc := by simpa using hb
      walk_at "sn"
      refine ⟨_, eD7, pt.toNat, ixN_of wk.ptr.1 (by rw [List.length_map]; have := wk.ptr; omega), fun H8 p8 => ?_⟩
      have s8 : Same H H8 := fun b o h => p8.k (ne_of_none h hD) (s7 b o h)
      have eC8 := p8.k (Ne.symm hCD) eC7
      have eF8 := p8.k hFD eF7
      have hrows8 : RowsAt H8 rows cs := ⟨hrows7.1, fun k r c h1 h2 => p8.k (ne_of (hrows7.2 k r c h1 h2) eD7 (by intro z; cases z)) (hrows7.2 k r c h1 h2)⟩
      have hlt : (cs.flatten ++ cyc).length < ns.length := by
        have h1 := sub_len (l := cs.flatten ++ (cyc ++ [pt])) (n := ns.length) (wk.step m hnin).nd (fun p hp => mem_rng.mpr ((wk.step m hnin).mv p hp).1)
        rw [← List.append_assoc, List.length_append] at h1
        simp only [List.length_singleton] at h1
        omega
      walk_at "sn"
      refine ⟨tyl eC8, _, eC8, by rw [List.length_map, sizeLine_eq]; rw [List.length_append] at hlt; omega, fun H9 p9 => ?_⟩
      have s9 : Same H H9 := fun b o h => p9.k (ne_of_none h hC) (s8 b o h)
      walk_at "wn"
      have ap := m.at wk.ptr
      refine ⟨_, sq_t (s9 _ _ ha), .int (im ns pt), atI_of wk.ptr.1 (by rw [List.getElem?_map, ap.1]; rfl), ?_⟩
      refine hN2 (mm - 1) _ _ (by omega) ⟨s9, cyc ++ [pt], im ns pt, ds'.set pt.toNat true, rfl, p9.k hCF eF8, by rw [p9.k hCD p8.at_, List.map_set], by rw [p9.at_, List.map_append]; rfl, by rw [List.length_set]; exact hdl7, fun j hj => ?_,
        ⟨hrows8.1, fun k r c h1 h2 => p9.k (ne_of (hrows8.2 k r c h1 h2) eC8 (by intro z; cases z)) (hrows8.2 k r c h1 h2)⟩, wk.step m hnin, by rw [← List.append_assoc, List.length_append]; simp only [List.length_singleton]; omega⟩
      by_cases hjp : j = pt.toNat
      · subst hjp
        rw [List.getElem?_set_self (by omega), hptn, decide_eq_true (List.mem_append_right _ (List.mem_append_right _ List.mem_cons_self))]
      · rw [List.getElem?_set_ne (Ne.symm hjp), hds7 j hj]
        congr 1
        have : (j : Int) ≠ pt := by omega
        simp [this]
    · have hin2 : pt ∈ cs.flatten ++ cyc := Classical.byContradiction fun z => by
        rw [decide_eq_false z] at hb
        cases hb
      walk_at "wn"
      have hrl : rows.length ≤ 1000 := by
        rw [hrows7.1]
        have h1 : cs.length ≤ cs.flatten.length := flat_len cs fun c hc => by have := (ho.rows c hc).two; omega
        have h3 := sub_len ho.nd (fun p hp => mem_rng.mpr (ho.mv p hp).1)
        omega
      refine ⟨tyl eF7, _, eC7, fun q H8 n8 => ⟨_, n8.k eF7, by rw [List.length_map, sizeLine_eq]; omega, fun H9 p9 => hN _ _ ⟨fun b o h => p9.k (ne_of_none h hF) (n8.k (s7 b o h)), _, _, _, rows ++ [q], cs ++ [cyc], ds', rfl, by rw [p9.at_, List.map_append]; rfl, p9.k (Ne.symm hFD) (n8.k eD7), hdl7, fun j hj => by rw [hds7 j hj]; simp, ⟨?_, fun k r c h1 h2 => ?_⟩, by have := ho.add m wk hin2; simpa using this⟩⟩⟩
      · rw [List.length_append, List.length_append, hrows7.1]
        rfl
      · by_cases hk : k < rows.length
        · rw [List.getElem?_append_left hk] at h1
          rw [List.getElem?_append_left (by rw [← hrows7.1]; exact hk)] at h2
          have h3 := hrows7.2 k r c h1 h2
          exact p9.k (ne_of (n8.k h3) (n8.k eF7) (by intro z; cases z)) (n8.k h3)
        · have hk2 : k = rows.length := by
            have := (List.getElem?_eq_some_iff.mp h1).1
            rw [List.length_append] at this
            simp at this
            omega
          subst hk2
          rw [List.getElem?_append_right (Nat.le_refl _)] at h1
          rw [hrows7.1, List.getElem?_append_right (Nat.le_refl _)] at h2
          have e1 : q = r := by simpa using h1
          have e2 : cyc = c := by simpa using h2
          subst e1 e2
          exact p9.k (ne_of n8.at_ (n8.k eF7) (by intro z; cases z)) n8.at_
  · rintro _ H5 ⟨s5, v3, v4, v5, rows, cs, ds, rfl, eF, eD, hdl, hds, hrows, ho⟩
    have e : (((ns.map V.int).length : Nat) : Int).toNat = ns.length := by rw [hla]; omega
    rw [e] at ho
    walk_at "wn"
    have hcy := outer_cyc m ho
    subst hcy
    exact k1 a ns ⟨rfl, ha, hl, hp⟩ ed F rows H5 s5 hF eF hrows
end

/-! ## W2 -/

theorem rdW_succ {n : Nat} {z : Str} : rdW (n + 1) z = if z = pt n then some n else rdW n z := by
  by_cases c : z = pt n
  · rw [if_pos c, c, rdW_pt (by omega)]
  · rw [if_neg c]
    cases e : rdW n z with
    | some i =>
      obtain ⟨h1, rfl⟩ := rdW_some e
      exact rdW_pt (by omega)
    | none =>
      refine rdW_no fun i hi e2 => ?_
      by_cases h : i = n
      · exact c (h ▸ e2)
      · exact rdW_none e i (by omega) e2
theorem pt_int {z : Int} (h : 0 ≤ z) : Str.ofString (toString z) = pt z.toNat := by
  obtain ⟨k, rfl⟩ : ∃ k : Nat, z = k := ⟨z.toNat, by omega⟩
  rfl
theorem cyc_len {ns c : List Int} (m : Mv ns) (h : c ∈ cyc ns) : 1 ≤ c.length ∧ c.length ≤ ns.length ∧ ∀ z ∈ c, 0 ≤ z ∧ z < ns.length := by
  obtain ⟨p, hp, rfl⟩ := List.mem_map.mp h
  have hr := mem_rng.mp (List.mem_filter.mp hp).1
  rw [orb_len]
  exact ⟨ell_pos, (ell_spec m hr).1, orb_rg m hr⟩
theorem cyc_cnt {ns : List Int} (m : Mv ns) : (cyc ns).length ≤ ns.length := by
  unfold cyc
  rw [List.length_map]
  have := List.length_filter_le (isHd ns) (rng ns.length)
  rw [rng_len] at this
  exact this
theorem sum_le {α : Type} (f : α → Nat) {b : Nat} : ∀ {l : List α}, (∀ x ∈ l, f x ≤ b) → (l.map f).sum ≤ b * l.length
  | [], _ => by simp
  | x :: r, h => by
    have h1 := h x (by simp)
    have h2 := sum_le f (l := r) fun y hy => h y (by simp [hy])
    rw [List.map_cons, List.sum_cons, List.length_cons, Nat.mul_succ]
    omega
theorem rowI_len {c : List Int} (h : ∀ z ∈ c, 0 ≤ z ∧ z < 1000) : ((c.map fun z => pt z.toNat).map (·.length)).sum ≤ 3 * c.length := by
  rw [List.map_map]
  refine sum_le _ fun z hz => ?_
  exact (pt_len (by have := h z hz; omega)).2
theorem txt_len (sep : Str) (l : List Str) : (Txt.join sep l).length ≤ (l.map (·.length)).sum + l.length * sep.length := by
  rw [TL.join_eq]
  exact PySem.StrLaws.join_length_le sep l
theorem rowT_len {c : List Int} (h : ∀ z ∈ c, 0 ≤ z ∧ z < 1000) : (rowT c).length ≤ 4 * c.length + 2 := by
  have h1 := rowI_len h
  have h2 := txt_len " " (c.map fun z => pt z.toNat)
  have l1 : (" " : Str).length = 1 := by decide +kernel
  have lb1 : ("(" : Str).length = 1 := by decide +kernel
  have lb2 : (")" : Str).length = 1 := by decide +kernel
  rw [List.length_map, l1] at h2
  unfold rowT rowI
  rw [len_app, len_app, lb1, lb2]
  omega
theorem emp_app (a b : Str) : (Str.empty ++ a) ++ b = a ++ b := by
  have : Str.empty ++ a = a := TL.ext_tl (by rw [TL.tl_append]; rfl)
  rw [this]
section
variable {P : Program} {w : World} {K : PySem.W.Frag} {mg : Str → Option Value} {base : Heap}
/-- the points' texts, each with its point -/
def NumsAt (D : Addr) (n : Nat) (H : Hp) : Prop := ∃ kvs, H D = some (.dK kvs) ∧ ∀ z : Str, valV kvs (.inr z) = (rdW n z).map fun (i : Nat) => V.int (i : Int)
theorem NumsAt.same {D : Addr} {n : Nat} {H H' : Hp} (h : NumsAt D n H) (s : Same H H') : NumsAt D n H' := by
  obtain ⟨kvs, e, h⟩ := h
  exact ⟨kvs, s _ _ e, h⟩
def sp_nb : Sp := fun vs H Q _ => ∃ n : Nat, vs = [.int n] ∧ n ≤ 12 ∧ ∀ D H', Same H H' → H D = none → NumsAt D n H' → Q (.ref D) H'
abbrev stnumbers_below : Stmt := topS 45
theorem scnumbers_below : FnScope ["limit", "number"] ["limit"] (defScope stnumbers_below) := ⟨rfl, rfl, rfl, by decide +kernel, rfl, by decide +kernel, by decide +kernel⟩
theorem oknumbers_below (D : Df K mg "numbers_below" stnumbers_below) (T : NoB mg)  : Cl P w K mg base 1 "numbers_below" ["limit"] sp_nb := by
  refine cl_of D scnumbers_below (fun _ _ _ _ _ _ us hl => match us, hl with | [_], _ => rfl) (fun vs H Q E h => ?_) (fun f cdv A outer sh H vs Q E hr h => ?_)
  · obtain ⟨_, rfl, _⟩ := h; rfl
  obtain ⟨n, rfl, hn, k⟩ := h
  refine ⟨_, (pss_one (ps_ret (pe_dc (own := [("number", 1)]) (g := gName 1) (tt := tYes) rfl scnumbers_below.nd (pi_range1 (by rfl) T.no_range (pa_cons (pv 0) pa_nil)) (blkOk_by (own := [("number", 1)]) (N := ["limit", "number"]) (sc := defScope stnumbers_below) (by decide +kernel)) (fun _ _ _ _ _ => (pg_name (i := 1) scnumbers_below.nd rfl (Or.inl rfl))) (fun _ _ _ _ _ => pts_nil) (fun _ _ _ _ _ => (pe_callTy call_str_int (by rfl) T.no_str (by decide +kernel) (pa_cons (pv 1) pa_nil))) (fun _ _ _ _ _ => (pv 1))))), ?_⟩
  walk_at "wn"
  refine ⟨by omega, by omega, ?_⟩
  rw [Int.toNat_natCast]
  refine dcr_by (fun D i kvs H' => Same H H' ∧ kvs.length ≤ i ∧ ∀ z : Str, valV kvs (.inr z) = (rdW i z).map fun (i : Nat) => V.int (i : Int)) (fun D H0 n0 => ⟨n0.same, by simp, fun z => by simp [valV, rdW]⟩) ?_ ?_
  · rintro D i kvs H1 N hD hi e1 ⟨s1, hkl, hkv⟩ hN
    refine ⟨rfl, ?_⟩
    walk_at "wn"
    rw [Int.zero_add]
    refine ⟨log_sm (Nat.lt_of_le_of_lt (show (i : Int).natAbs ≤ 12 by omega) (by decide)), kvs, .inr (pt i), rfl, e1, by rw [sizeLine_eq]; omega, hN _ _ upd_same ⟨?_, ?_, fun z => ?_⟩⟩
    · exact (Put.mk' (H := H1) (p := D)).same s1 hD
    · rw [putK_new _ (by
        rw [hkv (pt i), rdW_no fun j hj e => by (have := pt_inj e; omega)]
        rfl)]
      simp
      omega
    · rw [valV_put, rdW_succ]
      by_cases c : z = pt i
      · rw [if_pos (congrArg Sum.inr c), if_pos c]
        rfl
      · rw [if_neg (fun e => c (Sum.inr.inj e)), if_neg c, hkv z]
  · rintro D kvs H1 hD e1 ⟨s1, hkl, hkv⟩
    exact k D H1 s1 hD ⟨kvs, e1, hkv⟩
def sp_fmt (K : PySem.W.Frag) : Sp := fun vs H Q Er => ∃ (v : V) (E : List Addr) (d : PyData) (n : Nat), vs = [v] ∧ Dw E H v d n ∧ (isMoveD d = false → Raises K (.mv 0) H Er) ∧
  ∀ (a : Addr) (ns : List Int), MvA H v a ns → d = .tuple (ns.map .int) → ∀ H', Same H H' → Q (.str (rowsT (cyc ns))) H'
abbrev stformat_move : Stmt := topS 46
theorem scformat_move : FnScope ["move", "groups", "cycle", "words", "point"] ["move"] (defScope stformat_move) := ⟨rfl, rfl, rfl, by decide +kernel, rfl, by decide +kernel, by decide +kernel⟩
theorem okformat_move (D : Df K mg "format_move" stformat_move) (T : NoB mg) (Ccycles : ClX P w K mg base 5 "cycles" ["move"] (sp_cyc K)) : ClX P w K mg base 6 "format_move" ["move"] (sp_fmt K) := by
  refine clX_of D scformat_move (fun _ _ _ _ _ _ us hl => match us, hl with | [_], _ => rfl) (fun vs H Q E h => ?_) (fun f cdv A outer sh H vs Q E hr tk h => ?_)
  · obtain ⟨_, _, _, _, rfl, _⟩ := h; rfl
  obtain ⟨v, E', d, n, rfl, hv, kb, kg⟩ := h
  refine ⟨_, (pss_cons (ps_set (i := 1) scformat_move.nd rfl (Or.inl rfl) (pe_lst pa_nil))
    (pss_cons (ps_for (passes_of rfl) rfl (pi_sq (pe_clX Ccycles tk hr (by rfl) (pa_cons (pv 0) pa_nil))) (pg_name (i := 2) scformat_move.nd rfl (Or.inl rfl)) (PSs.nox (pss_cons (ps_set (i := 3) scformat_move.nd rfl (Or.inl rfl) (pe_join pe_str (pe_lc (own := [("point", 4)]) (g := gName 4) (tt := tYes) rfl scformat_move.nd (pi_sq (pv 2)) (blkOk_by (own := [("point", 4)]) (N := ["move", "groups", "cycle", "words", "point"]) (sc := defScope stformat_move) (by decide +kernel)) (fun _ _ _ _ _ => (pg_name (i := 4) scformat_move.nd rfl (Or.inl rfl))) (fun _ _ _ _ _ => pts_nil) (fun _ _ _ _ _ => (pe_callTy call_str_int (by rfl) T.no_str (by decide +kernel) (pa_cons (pv 4) pa_nil))))))
    (pss_one (ps_expr (pe_bm PySem.F.plainAttrs_list PySem.F.slot_list_append PySem.F.type_list_append mt_append (pv 1) (pa_cons (pe_joined (.cons pe_str (.cons (pe_fmt (pv 3)) (.cons pe_str .nil)))) pa_nil)))))))
    (PSs.nox (pss_one (ps_ret (pe_ifExp (pt_truth (pv 1) (fun _ => rfl)) (pe_join pe_str (pv 1)) pe_str)))))), ?_⟩
  walk_at "sn"
  refine ⟨szl (by decide), fun G H1 n1 => ?_⟩
  walk_at "sn"
  refine ⟨v, E', d, n, rfl, hv.same n1.same, fun a ns ma ed p rows H2 s2 fp ep hr => ?_, fun hno => (kb hno).same n1.same⟩
  have hG : H G = none := n1.fr
  have eG := s2 _ _ n1.at_
  have pG : p ≠ G := fun e => by (have h := n1.at_; rw [← e, fp] at h; cases h)
  walk_at "wn"
  refine fs_by (sq_l ep) (fun i σ H' => (Same H H' ∧ H' p = some (.lst (rows.map V.ref)) ∧ RowsAt H' rows (cyc ns)) ∧ ∃ v2 v3 : Option V, σ = [some v, some (.ref G), v2, v3, none] ∧ H' G = some (.lst ((((cyc ns).take i).map rowT).map V.str))) ⟨⟨n1.same.trans s2, ep, hr⟩, _, _, rfl, eG⟩ (fun i σ' H' f o ho => by rw [ep] at ho; cases ho; exact f.1.2.1) ?_ ?_
  · rintro i x _ H3 N hN hx ⟨⟨s3, ep3, hr3⟩, v2, v3, rfl, eG3⟩
    obtain ⟨r, hr1, rfl⟩ : ∃ r, rows[i]? = some r ∧ x = V.ref r := by
      rw [List.getElem?_map] at hx
      cases e : rows[i]? with
      | none => rw [e] at hx; cases hx
      | some r => rw [e] at hx; exact ⟨r, rfl, (Option.some.inj hx).symm⟩
    have hil : i < (cyc ns).length := by
      have := (List.getElem?_eq_some_iff.mp hr1).1
      rw [hr3.1] at this
      exact this
    have hc := List.getElem?_eq_getElem hil
    generalize (cyc ns)[i] = c at hc
    have er := hr3.2 i r c hr1 hc
    walk_at "wn"
    rw [a_seq]
    walk_at "wn"
    obtain ⟨c1, c2, c3⟩ := cyc_len ma.m (List.mem_of_getElem? hc)
    have hle := ma.le
    refine ⟨⟨_, rfl⟩, ?_⟩
    refine cs_by (sq_t er) (fun C j acc H' => Same H3 H' ∧ acc = ((c.take j).map fun z => pt z.toNat).map V.str) (fun C H0 n0 => ⟨n0.same, rfl⟩) (fun C j acc H' hC f o ho => f.1 _ _ ho) ?_ ?_
    · rintro C j x acc H4 N4 hC hx' hacc ⟨s4, rfl⟩ hN4
      obtain ⟨z, hz, rfl⟩ : ∃ z, c[j]? = some z ∧ x = V.int z := by
        rw [List.getElem?_map] at hx'
        cases e : c[j]? with
        | none => rw [e] at hx'; cases hx'
        | some z => rw [e] at hx'; exact ⟨z, rfl, (Option.some.inj hx').symm⟩
      have hzr := c3 z (List.mem_of_getElem? hz)
      have hjl := (List.getElem?_eq_some_iff.mp hz).1
      refine ⟨rfl, ?_⟩
      walk_at "wn"
      refine ⟨log_sm (Nat.lt_of_le_of_lt (show z.natAbs ≤ 12 by omega) (by decide)), cst hacc (by rw [List.length_map, List.length_map, List.length_take, sizeLine_eq]; omega) fun H5 p5 => hN4 _ _ p5.at_ ⟨p5.same s4 hC, ?_⟩⟩
      rw [pt_int hzr.1, List.take_add_one, hz]
      simp
    · rintro C acc H4 hC hacc ⟨s4, rfl⟩
      rw [List.length_map, List.take_length] at hacc
      have hsum := rowI_len (c := c) fun z hz => by have := c3 z hz; omega
      have l1 : (" " : Str).length = 1 := by decide +kernel
      have hzl := txt_len " " (c.map fun z => pt z.toNat)
      rw [List.length_map, l1] at hzl
      refine ⟨C, rfl, c.map fun z => pt z.toNat, .inl (SqL.of hacc), by rw [List.length_map, l1]; omega, tyl (s4 _ _ eG3), ?_⟩
      have lb1 : ("(" : Str).length = 1 := by decide +kernel
      have lb2 : (")" : Str).length = 1 := by decide +kernel
      have le0 : (Str.empty : Str).length = 0 := by decide
      refine ⟨"(", rfl, by rw [len_app, lb1, le0, sizeLine_eq]; omega, _, rfl, .inl ⟨_, rfl, by rw [sizeLine_eq]; omega, _, rfl, by rw [len_app, len_app, lb1, le0, sizeLine_eq]; omega, ")", rfl, by rw [len_app, len_app, len_app, lb1, lb2, le0, sizeLine_eq]; omega, ?_⟩⟩
      rw [emp_app]
      refine ⟨_, s4 _ _ eG3, by rw [List.length_map, List.length_map, List.length_take, sizeLine_eq]; have := ma.m.perm.length_eq; have h2 : (cyc ns).length ≤ 12 := (by have := hr3.1; exact Nat.le_trans (cyc_cnt ma.m) hle); omega, fun H5 p5 => hN _ _ ⟨⟨p5.same (s3.trans s4) hG, p5.k pG (s4 _ _ ep3), ⟨hr3.1, fun k r' c' h1 h2 => ?_⟩⟩, _, _, rfl, ?_⟩⟩
      · have h3 := s4 _ _ (hr3.2 k r' c' h1 h2)
        exact p5.k (ne_of h3 (s4 _ _ eG3) (by intro z; cases z)) h3
      · rw [p5.at_, List.take_add_one, hc]
        simp only [Option.toList_some, List.map_append, List.map_cons, List.map_nil]
        rfl
  · rintro _ H3 ⟨⟨s3, ep3, hr3⟩, v2, v3, rfl, eG3⟩
    obtain ⟨a0, ns0, ma0, ed0⟩ := MvA.of (ed ▸ ma.d) hv
    obtain ⟨ea, en⟩ := (ma0.same n1.same).uniq ma
    subst ea en
    have k3 := kg a0 ns0 ma0 ed0 H3 s3
    rw [List.length_map, hr3.1, List.take_length] at eG3
    walk_at "wn"
    refine ⟨_, .inl ⟨_, SqL.of eG3, rfl⟩, ?_⟩
    have hle := ma.le
    by_cases hc : cyc ns0 = []
    · have e0 : rowsT (cyc ns0) = "()" := by unfold rowsT; rw [if_pos hc]
      rw [e0] at k3
      rw [hc]
      exact k3
    · have e0 : rowsT (cyc ns0) = Txt.join "" ((cyc ns0).map rowT) := by unfold rowsT; rw [if_neg hc]
      rw [e0] at k3
      have ht : (!(((cyc ns0).map rowT).map V.str).isEmpty) = true := by
        cases e : cyc ns0 with
        | nil => exact absurd e hc
        | cons c r => rfl
      rw [ht]
      walk_at "wn"
      have hb : ((((cyc ns0).map rowT)).map (·.length)).sum ≤ 50 * (cyc ns0).length := by
        rw [List.map_map]
        refine sum_le _ fun c hc2 => ?_
        obtain ⟨c1, c2, c3⟩ := cyc_len ma.m hc2
        have := rowT_len (c := c) fun z hz => by have := c3 z hz; omega
        show (rowT c).length ≤ 50
        omega
      have hcn := cyc_cnt ma.m
      have le0 : (Str.ofString "").length = 0 := by decide +kernel
      exact ⟨⟨_, rfl⟩, _, .inl (SqL.of eG3), by rw [le0, Nat.mul_zero]; omega, k3⟩
end

/-! ## W3 -/

def RowsL (H : Hp) (rows : List Addr) (cs : List (List Int)) : Prop := rows.length = cs.length ∧ ∀ (k : Nat) (r : Addr) (c : List Int), rows[k]? = some r → cs[k]? = some c → H r = some (.lst (c.map V.int))
theorem RowsL.same {H H' : Hp} {rows : List Addr} {cs : List (List Int)} (h : RowsL H rows cs) (s : Same H H') : RowsL H' rows cs := ⟨h.1, fun k r c h1 h2 => s _ _ (h.2 k r c h1 h2)⟩
theorem RowsL.put {H H' : Hp} {rows : List Addr} {cs : List (List Int)} {a : Addr} {o : HO} (h : RowsL H rows cs) (p : Put H a o H') (hn : ∀ r ∈ rows, r ≠ a) : RowsL H' rows cs := ⟨h.1, fun k r c h1 h2 => p.k (hn r (List.mem_of_getElem? h1)) (h.2 k r c h1 h2)⟩
theorem NumsAt.put {H H' : Hp} {D a : Addr} {o : HO} {n : Nat} (h : NumsAt D n H) (hn : D ≠ a) (p : Put H a o H') : NumsAt D n H' := by
  obtain ⟨kvs, e, h⟩ := h
  exact ⟨kvs, p.k hn e, h⟩
theorem parts_len (x : Str) (w : Nat) : ∀ (cuts : List Nat) (a : Nat), ∀ p ∈ PySem.StrLaws.partsFrom x w a cuts, p.length ≤ x.length
  | [], a, p, h => by
    rw [show PySem.StrLaws.partsFrom x w a [] = [Builtin.Str.strSub x a x.length] from rfl] at h
    rw [List.mem_singleton.mp h, TL.len_tl, TL.len_tl x, TL.tl_strSub, List.length_take, List.length_drop]
    omega
  | c :: r, a, p, h => by
    rw [show PySem.StrLaws.partsFrom x w a (c :: r) = Builtin.Str.strSub x a c :: PySem.StrLaws.partsFrom x w (c + w) r from rfl] at h
    rcases List.mem_cons.mp h with e | h
    · rw [e, TL.len_tl, TL.len_tl x, TL.tl_strSub, List.length_take, List.length_drop]
      omega
    · exact parts_len x w r (c + w) p h
theorem split_mem {x y p : Str} (h : p ∈ Txt.split x y) : p.length ≤ x.length := by
  unfold Txt.split at h
  split at h
  · rw [List.mem_singleton.mp h]
    exact Nat.le_refl _
  split at h
  · rw [List.mem_singleton.mp h]
    exact Nat.le_refl _
  rw [PySem.StrLaws.partsBetween_eq] at h
  exact parts_len _ _ _ _ p h
section
variable {P : Program} {w : World} {K : PySem.W.Frag} {mg : Str → Option Value} {base : Heap}
def sp_rdg : Sp := fun vs H Q _ => ∃ (n : Nat) (z : Str), vs = [.int n, .str z] ∧ n ≤ 12 ∧ z.length ≤ 100000 ∧ (rdT n z = none → ∀ H', Same H H' → Q .non H') ∧
  ∀ rs, rdT n z = some rs → ∀ p rows H', Same H H' → H p = none → H' p = some (.lst (rows.map V.ref)) → RowsL H' rows rs → Q (.ref p) H'
abbrev stread_groups : Stmt := topS 47
theorem scread_groups : FnScope ["points", "text", "point_of", "stood", "groups", "body", "group", "word", "point"] ["points", "text"] (defScope stread_groups) := ⟨rfl, rfl, rfl, by decide +kernel, rfl, by decide +kernel, by decide +kernel⟩
theorem okread_groups (D : Df K mg "read_groups" stread_groups) (T : NoB mg) (Cnumbers_below : Cl P w K mg base 1 "numbers_below" ["limit"] sp_nb) : Cl P w K mg base 2 "read_groups" ["points", "text"] sp_rdg := by
  refine cl_of D scread_groups (fun _ _ _ _ _ _ us hl => match us, hl with | [_, _], _ => rfl) (fun vs H Q E h => ?_) (fun f cdv A outer sh H vs Q E hr h => ?_)
  · obtain ⟨_, _, rfl, _⟩ := h; rfl
  obtain ⟨n, z, rfl, hn, hz, k1, k2⟩ := h
  refine ⟨_, (pss_cons (ps_if (PW.pt (pw_or (pt_not (pt_val (pe_m1 PySem.F.slot_str_startswith PySem.F.type_str_startswith mt_startswith (pv 1) pe_str))) (pw_or1 (pt_not (pt_val (pe_m1 PySem.F.slot_str_endswith PySem.F.type_str_endswith mt_endswith (pv 1) pe_str)))))) (pss_one (ps_ret pe_non)) pss_nil)
    (pss_cons (ps_set (i := 2) scread_groups.nd rfl (Or.inl rfl) (pe_cl Cnumbers_below hr (by rfl) (pa_cons (pv 0) pa_nil)))
    (pss_cons (ps_set (i := 3) scread_groups.nd rfl (Or.inl rfl) (pe_op op_rep (pe_lst (pa_cons pe_bl pa_nil)) (pv 0)))
    (pss_cons (ps_set (i := 4) scread_groups.nd rfl (Or.inl rfl) (pe_lst pa_nil))
    (pss_cons (ps_for PassesOwn.never rfl (pi_sq (pe_split (pe_slice sl_str (pv 1) (po_some pe_int) (po_some (pe_un un_neg pe_int))) pe_str)) (pg_name (i := 5) scread_groups.nd rfl (Or.inl rfl)) (pss_cons (ps_set (i := 6) scread_groups.nd rfl (Or.inl rfl) (pe_lst pa_nil))
    (pss_cons (ps_for PassesOwn.never rfl (pi_sq (pe_ifExp (pt_truth (pv 5) (fun _ => rfl)) (pe_split (pv 5) pe_str) (pe_lst pa_nil))) (pg_name (i := 7) scread_groups.nd rfl (Or.inl rfl)) (pss_cons (ps_set (i := 8) scread_groups.nd rfl (Or.inl rfl) (pe_dget1 (hu_of hr) (pv 2) (pv 7) ⟨by rfl, by rfl, by rfl, by rfl⟩))
    (pss_cons (ps_if (PW.pt (pw_or (pt_cmpR op_isN (pv 8) pe_non (nomark _)) (pw_or1 (pt_val (pe_ix ix1 (pv 3) (pv 8) (fun _ _ => rfl)))))) (pss_one (ps_ret pe_non)) pss_nil)
    (pss_cons (ps_asg pe_bl (pg_sub (pv 3) (pv 8) set_list))
    (pss_one (ps_expr (pe_bm PySem.F.plainAttrs_list PySem.F.slot_list_append PySem.F.type_list_append mt_append (pv 6) (pa_cons (pv 8) pa_nil))))))))
    (pss_one (ps_expr (pe_bm PySem.F.plainAttrs_list PySem.F.slot_list_append PySem.F.type_list_append mt_append (pv 4) (pa_cons (pv 6) pa_nil)))))))
    (pss_one (ps_ret (pv 4)))))))), ?_⟩
  walk_at "sn"
  refine ⟨⟨_, rfl⟩, ?_⟩
  have hno : ∀ {b1 : Bool}, (Txt.startswith z "(" && Txt.endswith z ")") = b1 → rdT n z = (if b1 = true then (rdRows n [] [] ((Txt.split (cutS z (some 1) (some (-1))) ")(").map wrds)).map (·.2) else none) := fun e => by
    unfold rdT
    rw [e]
  split
  · rename_i c1
    exact k1 (by rw [hno (b1 := false) (by rw [c1]; rfl)]; rfl) H fun _ _ z => z
  rename_i c1
  refine ⟨⟨_, rfl⟩, ?_⟩
  split
  · rename_i c2
    exact k1 (by rw [hno (b1 := false) (by rw [c2, Bool.and_false])]; rfl) H fun _ _ z => z
  rename_i c2
  have hrd := hno (b1 := true) (by
    cases e1 : Txt.startswith z "(" with
    | false => exact absurd e1 c1
    | true => cases e2 : Txt.endswith z ")" with
      | false => exact absurd e2 c2
      | true => rfl)
  rw [if_pos rfl] at hrd
  walk_at "sn"
  refine ⟨n, rfl, hn, fun D0 H1 s1 hD0 nums => ?_⟩
  walk_at "sn"
  refine ⟨szl (by decide), fun p0 H2 n2 => ⟨_, n2.at_, by omega, by omega, by rw [sizeLine_eq]; simp; omega, fun S H3 n3 => ?_⟩⟩
  have s3 := (s1.trans n2.same).trans n3.same
  have hS : H S = none := (s1.trans n2.same).free n3.fr
  walk_at "sn"
  refine ⟨szl (by decide), fun G H4 n4 => ?_⟩
  have hG : H G = none := s3.free n4.fr
  have hSG : S ≠ G := n4.ne n3.at_
  have nums4 : NumsAt D0 n H4 := nums.same ((n2.same.trans n3.same).trans n4.same)
  have hDS : D0 ≠ S := fun e => by
    obtain ⟨kvs, e2, _⟩ := nums
    have := n3.fr
    rw [← e, n2.same _ _ e2] at this
    cases this
  have hDG : D0 ≠ G := fun e => by
    obtain ⟨kvs, e2, _⟩ := nums.same (n2.same.trans n3.same)
    have := n4.fr
    rw [← e, e2] at this
    cases this
  walk_at "sn"
  have hcl := cut_le z (some 1) (some (-1))
  generalize hm : cutS z (some 1) (some (-1)) = m at hrd hcl
  refine ⟨by rw [sizeLine_eq]; omega, ⟨_, rfl⟩, by decide +kernel, by rw [sizeLine_eq]; omega, fun p hp => ?_⟩
  have hpl := PyProof.Rows.split_le m ")("
  have hpm : ∀ q ∈ Txt.split m ")(", q.length ≤ 100000 := fun q hq => Nat.le_trans (split_mem hq) (by omega)
  generalize hps : Txt.split m ")(" = ps at hrd hpl hpm
  have np : New H4 p (.lst (ps.map V.str)) (upd H4 p (.lst (ps.map V.str))) := New.mk' hp
  generalize upd H4 p (.lst (ps.map V.str)) = H5 at np
  have s4 := s3.trans n4.same
  have s5 := s4.trans np.same
  have hpH : H p = none := s4.free hp
  have hGp : G ≠ p := np.ne n4.at_
  have hSp : S ≠ p := np.ne (n4.k n3.at_)
  have hDp : D0 ≠ p := fun e => by
    obtain ⟨kvs, e2, _⟩ := nums4
    rw [e, hp] at e2
    cases e2
  simp only [b_fsq]
  refine fs_by (sq_l np.at_) (fun i σ H' => Same H H' ∧ H' p = some (.lst (ps.map V.str)) ∧ NumsAt D0 n H' ∧ ∃ (v5 v6 v7 v8 : Option V) (rows : List Addr) (rs : List (List Int)) (ds : List Bool), σ = [some (.int n), some (.str z), some (.ref D0), some (.ref S), some (.ref G), v5, v6, v7, v8] ∧
    H' S = some (.lst (ds.map V.bl)) ∧ ds.length = n ∧ (∀ j : Nat, j < n → ds[j]? = some (decide ((j : Int) ∈ rs.flatten))) ∧ H' G = some (.lst (rows.map V.ref)) ∧ RowsL H' rows rs ∧ rs.length = i ∧ (∀ r ∈ rows, r ≠ S ∧ r ≠ G) ∧ rdRows n [] [] (ps.map wrds) = rdRows n rs.flatten rs ((ps.map wrds).drop i))
    ⟨s5, np.at_, nums4.same np.same, _, _, _, _, [], [], List.replicate n false, rfl, np.k (n4.k (by rw [n3.at_]; simp)), by simp, fun j hj => by simp [hj], np.k n4.at_, ⟨rfl, fun k r c h => by simp at h⟩, rfl, by simp, rfl⟩ (fun i σ' H' f o ho => by rw [np.at_] at ho; cases ho; exact f.2.1) ?_ ?_
  · rintro i x _ H6 N hN hx ⟨s6, ep, nums6, v5, v6, v7, v8, rows, rs, ds, rfl, eS, hdl, hds, eG, hrows, hrl, hne, hrem⟩
    obtain ⟨t, ht, rfl⟩ : ∃ t, ps[i]? = some t ∧ x = V.str t := by
      rw [List.getElem?_map] at hx
      cases e : ps[i]? with
      | none => rw [e] at hx; cases hx
      | some t => rw [e] at hx; exact ⟨t, rfl, (Option.some.inj hx).symm⟩
    have htl := hpm t (List.mem_of_getElem? ht)
    walk_at "wn"
    rw [a_seq]
    walk_at "wn"
    refine ⟨szl (by decide), fun g H7 n7 => ?_⟩
    walk_at "sn"
    have hg : H g = none := s6.free n7.fr
    have s7 := s6.trans n7.same
    have gG : g ≠ G := fun e => by rw [← e, n7.fr] at eG; cases eG
    have gS : g ≠ S := fun e => by rw [← e, n7.fr] at eS; cases eS
    have gp : g ≠ p := fun e => by rw [← e, n7.fr] at ep; cases ep
    have hit : (ps.map wrds).drop i = wrds t :: (ps.map wrds).drop (i + 1) := by
      have hi := (List.getElem?_eq_some_iff.mp ht).1
      rw [List.drop_eq_getElem_cons (by rw [List.length_map]; exact hi), List.getElem_map, (List.getElem?_eq_some_iff.mp ht).2]
    rw [hit, rdRows_cons] at hrem
    have hwl : (wrds t).length ≤ 100002 := by
      unfold wrds
      split
      · simp
      · have := PyProof.Rows.split_le t " "
        omega
    refine (fun (key : ∀ q H8, New H7 q (.lst ((wrds t).map V.str)) H8 → FSq K q (gName 7) ?tb ?dd ?sg H8) => ?main) ?inner
    case main =>
      refine ⟨_, ⟨by show t.length ≤ sizeLine; rw [sizeLine_eq]; omega, rfl⟩, ?_⟩
      by_cases ht0 : t.length = 0
      · rw [if_neg (by rw [ht0]; decide)]
        refine ⟨by omega, fun q H8 n8 => ?_⟩
        show FSq K q _ _ _ _ _
        refine key q H8 ?_
        have : wrds t = [] := by unfold wrds; rw [if_pos ht0]
        rw [this]
        exact n8
      · rw [if_pos (by simp; omega)]
        refine ⟨⟨_, rfl⟩, by decide +kernel, by rw [sizeLine_eq]; omega, fun q hq => ?_⟩
        show FSqV K (V.ref q) _ _ _ _ _
        rw [b_fsq]
        refine key q _ ?_
        have : wrds t = Txt.split t " " := by unfold wrds; rw [if_neg ht0]
        rw [this]
        exact New.mk' hq
    intro q H8 n8
    have s8 := s7.trans n8.same
    have hq : H q = none := s7.free n8.fr
    have qG : G ≠ q := n8.ne (n7.k eG)
    have qS : S ≠ q := n8.ne (n7.k eS)
    have qg : g ≠ q := n8.ne n7.at_
    have qp : p ≠ q := n8.ne (n7.k ep)
    have hrows8 : RowsL H8 rows rs := hrows.same (n7.same.trans n8.same)
    refine fs_by (sq_l n8.at_) (fun j σ H' => Same H H' ∧ H' p = some (.lst (ps.map V.str)) ∧ H' q = some (.lst ((wrds t).map V.str)) ∧ NumsAt D0 n H' ∧ ∃ (v7 v8 : Option V) (c : List Int) (ds : List Bool), σ = [some (.int n), some (.str z), some (.ref D0), some (.ref S), some (.ref G), some (.str t), some (.ref g), v7, v8] ∧
      H' S = some (.lst (ds.map V.bl)) ∧ ds.length = n ∧ (∀ j : Nat, j < n → ds[j]? = some (decide ((j : Int) ∈ rs.flatten ++ c))) ∧ H' G = some (.lst (rows.map V.ref)) ∧ H' g = some (.lst (c.map V.int)) ∧ RowsL H' rows rs ∧ c.length = j ∧ rdRow n rs.flatten [] (wrds t) = rdRow n (rs.flatten ++ c) c ((wrds t).drop j))
      ⟨s8, n8.k (n7.k ep), n8.at_, nums6.same (n7.same.trans n8.same), _, _, [], ds, rfl, n8.k (n7.k eS), hdl, fun j hj => by rw [List.append_nil]; exact hds j hj, n8.k (n7.k eG), n8.k n7.at_, hrows8, rfl, by rw [List.append_nil]; rfl⟩ (fun i σ' H' f o ho => by rw [n8.at_] at ho; cases ho; exact f.2.2.1) ?_ ?_
    · rintro j x _ H9 N2 hN2 hx2 ⟨s9, ep9, eq9, nums9, w7, w8, c, ds9, rfl, eS9, hdl9, hds9, eG9, eg9, hrows9, hcl9, hrem9⟩
      obtain ⟨u, hu, rfl⟩ : ∃ u, (wrds t)[j]? = some u ∧ x = V.str u := by
        rw [List.getElem?_map] at hx2
        cases e : (wrds t)[j]? with
        | none => rw [e] at hx2; cases hx2
        | some u => rw [e] at hx2; exact ⟨u, rfl, (Option.some.inj hx2).symm⟩
      have hj := (List.getElem?_eq_some_iff.mp hu).1
      have hju : (wrds t).drop j = u :: (wrds t).drop (j + 1) := by
        rw [List.drop_eq_getElem_cons hj, (List.getElem?_eq_some_iff.mp hu).2]
      rw [hju, rdRow_cons] at hrem9
      walk_at "wn"
      rw [a_seq]
      walk_at "wn"
      unfold tDGet1
      walk_at "wn"
      obtain ⟨kvs, ek, hk⟩ := nums9
      refine ⟨.inl ⟨kvs, .inl ek⟩, _, .inl ⟨kvs, .inr u, .inl ek, rfl, rfl⟩, ?_⟩
      rw [hk u]
      cases e : rdW n u with
      | none =>
        rw [Option.map_none]
        simp only [Option.getD_none]
        walk_at "sn"
        refine k1 ?_ H9 s9
        rw [e] at hrem9
        rw [hrem9] at hrem
        rw [hrd, hrem]
        rfl
      | some i0 =>
        rw [Option.map_some]
        simp only [Option.getD_some]
        rw [e] at hrem9
        simp only at hrem9
        have hi0 := (rdW_some e).1
        walk_at "sn"
        refine ⟨_, sq_l eS9, .bl (decide ((i0 : Int) ∈ rs.flatten ++ c)), atI_of (by omega) (by simp [hds9 i0 hi0]), _, rfl, ?_⟩
        split
        · rename_i hin
          refine k1 ?_ H9 s9
          rw [if_pos (of_decide_eq_true hin)] at hrem9
          rw [hrem9] at hrem
          rw [hrd, hrem]
          rfl
        rename_i hin
        have hin' : ¬ ((i0 : Int) ∈ rs.flatten ++ c) := fun x => hin (decide_eq_true x)
        rw [if_neg hin'] at hrem9
        walk_at "sn"
        have hgr : ∀ r ∈ rows, r ≠ g := fun r hr e => by
          obtain ⟨k, hk⟩ := List.getElem?_of_mem hr
          have hk2 := (List.getElem?_eq_some_iff.mp hk).1
          have h5 := hrows.2 k r _ hk (List.getElem?_eq_getElem (by rw [← hrows.1]; exact hk2))
          rw [e, n7.fr] at h5
          cases h5
        have hDg : D0 ≠ g := fun e => by
          obtain ⟨kv2, e2, _⟩ := nums6
          rw [e, n7.fr] at e2
          cases e2
        refine ⟨_, eS9, (i0 : Int).toNat, ixN_of (by omega) (by rw [List.length_map]; omega), fun H10 p10 => ⟨tyl (p10.k gS eg9), _, p10.k gS eg9, by rw [List.length_map, hcl9, sizeLine_eq]; omega, fun H11 p11 => ?_⟩⟩
        have i0n : (i0 : Int).toNat = i0 := by omega
        rw [i0n] at p10
        refine hN2 _ _ ⟨p11.same (p10.same s9 hS) hg, p11.k (Ne.symm gp) (p10.k (Ne.symm hSp) ep9), p11.k (Ne.symm qg) (p10.k (Ne.symm qS) eq9), NumsAt.put (NumsAt.put ⟨kvs, ek, hk⟩ hDS p10) hDg p11, _, _, c ++ [(i0 : Int)], ds9.set i0 true, rfl, by rw [p11.k (Ne.symm gS) p10.at_, List.map_set], by rw [List.length_set]; exact hdl9, fun j2 hj2 => ?_, p11.k (Ne.symm gG) (p10.k (Ne.symm hSG) eG9), by rw [p11.at_, List.map_append]; rfl, (hrows9.put p10 fun r hr => (hne r hr).1).put p11 hgr, by rw [List.length_append, hcl9]; rfl, ?_⟩
        · by_cases hjp : j2 = i0
          · subst hjp
            rw [List.getElem?_set_self (by omega), decide_eq_true (List.mem_append_right _ (List.mem_append_right _ List.mem_cons_self))]
          · rw [List.getElem?_set_ne (Ne.symm hjp), hds9 j2 hj2]
            congr 1
            have : (j2 : Int) ≠ (i0 : Int) := by omega
            simp [this]
        · rw [hrem9, List.append_assoc]
    · rintro _ H9 ⟨s9, ep9, eq9, nums9, w7, w8, c, ds9, rfl, eS9, hdl9, hds9, eG9, eg9, hrows9, hcl9, hrem9⟩
      walk_at "wn"
      rw [List.drop_of_length_le (by simp)] at hrem9
      have hr9 : rdRow n rs.flatten [] (wrds t) = some (rs.flatten ++ c, c) := hrem9
      rw [hr9] at hrem
      have hil := (List.getElem?_eq_some_iff.mp ht).1
      refine ⟨tyl eG9, _, eG9, by rw [List.length_map, hrows9.1, hrl, sizeLine_eq]; omega, fun H10 p10 => hN _ _ ⟨p10.same s9 hG, p10.k (Ne.symm hGp) ep9, nums9.put hDG p10, _, _, _, _, rows ++ [g], rs ++ [c], ds9, rfl, p10.k hSG eS9, hdl9, fun j hj => ?_, ?_, ⟨?_, fun k r' c' h1 h2 => ?_⟩, by rw [List.length_append, hrl]; rfl, fun r hr => ?_, ?_⟩⟩
      · rw [hds9 j hj, List.flatten_append]
        simp
      · rw [p10.at_, List.map_append]
        rfl
      · rw [List.length_append, List.length_append, hrows9.1]
        rfl
      · by_cases hk : k < rows.length
        · rw [List.getElem?_append_left hk] at h1
          rw [List.getElem?_append_left (by rw [← hrows9.1]; exact hk)] at h2
          have h3 := hrows9.2 k r' c' h1 h2
          exact p10.k (hne r' (List.mem_of_getElem? h1)).2 h3
        · have hk2 : k = rows.length := by
            have := (List.getElem?_eq_some_iff.mp h1).1
            rw [List.length_append] at this
            simp at this
            omega
          subst hk2
          rw [List.getElem?_append_right (Nat.le_refl _)] at h1
          rw [hrows9.1, List.getElem?_append_right (Nat.le_refl _)] at h2
          have e1 : g = r' := by simpa using h1
          have e2 : c = c' := by simpa using h2
          subst e1 e2
          exact p10.k gG eg9
      · rcases List.mem_append.mp hr with hr | hr
        · exact hne r hr
        · rw [List.mem_singleton.mp hr]
          exact ⟨gS, gG⟩
      · rw [hrem]
        simp [List.flatten_append]
  · rintro _ H6 ⟨s6, ep, nums6, v5, v6, v7, v8, rows, rs, ds, rfl, eS, hdl, hds, eG, hrows, hrl, hne, hrem⟩
    walk_at "wn"
    refine k2 rs ?_ G rows H6 s6 hG eG hrows
    rw [hrd, hrem, List.drop_of_length_le (by simp)]
    rfl
/-- reading, strict (b = false) or loose -/
def rdL (b : Bool) (n : Nat) (z : Str) : Option (List Int) := if b = true then (rdT n z).map (mvT n) else rdS n z
theorem rdT_rws {n : Nat} {z : Str} {rs : List (List Int)} (h : rdT n z = some rs) : Rws n rs := by
  unfold rdT at h
  split at h
  · cases e : rdRows n [] [] ((Txt.split (cutS z (some 1) (some (-1))) ")(").map wrds) with
    | none => rw [e] at h; cases h
    | some q =>
      rw [e] at h
      obtain ⟨st, rs2⟩ := q
      cases h
      exact (rdRows_rws e).1
  · cases h
theorem rdL_some {b : Bool} {n : Nat} {z : Str} {ns : List Int} (h : rdL b n z = some ns) : ∃ rs, rdT n z = some rs ∧ ns = mvT n rs ∧ (b = false → rowsT (cyc ns) = z) := by
  unfold rdL rdS at h
  split at h
  · rename_i hb
    cases e : rdT n z with
    | none => rw [e] at h; cases h
    | some rs =>
      rw [e] at h
      cases h
      exact ⟨rs, rfl, rfl, fun hb2 => by rw [hb] at hb2; cases hb2⟩
  · cases e : rdT n z with
    | none => rw [e] at h; cases h
    | some rs =>
      rw [e] at h
      simp only at h
      split at h
      · rename_i h2
        cases h
        exact ⟨rs, rfl, rfl, fun _ => h2⟩
      · cases h
theorem mvT_mv {n : Nat} {rs : List (List Int)} (h : Rws n rs) : (mvT n rs).length = n ∧ (mvT n rs).Perm (rng n) := by
  have i := img_A h
  exact ⟨i.len, i.perm h⟩
theorem Rws.row {n : Nat} {rs : List (List Int)} (h : Rws n rs) {c : List Int} (hc : c ∈ rs) : c.length ≤ n := by
  refine sub_len (l := c) ?_ fun p hp => mem_rng.mpr (h.rg p (List.mem_flatten.mpr ⟨c, hc, hp⟩))
  exact (List.sublist_flatten_of_mem hc).nodup h.nd
def sp_rdm : Sp := fun vs H Q _ => ∃ (n : Nat) (z : Str) (b : Bool), vs = [.int n, .str z, .bl b] ∧ n ≤ 12 ∧ z.length ≤ 100000 ∧ (rdL b n z = none → ∀ H', Same H H' → Q .non H') ∧
  ∀ ns, rdL b n z = some ns → ns.length = n → ∀ a H', Same H H' → H a = none → MvA H' (.ref a) a ns → Q (.ref a) H'
abbrev stread_move : Stmt := topS 48
theorem scread_move : FnScope ["points", "text", "loose", "groups", "move"] ["points", "text", "loose"] (defScope stread_move) := ⟨rfl, rfl, rfl, by decide +kernel, rfl, by decide +kernel, by decide +kernel⟩
theorem okread_move (D : Df K mg "read_move" stread_move) (T : NoB mg) (Cformat_move : ClX P w K mg base 6 "format_move" ["move"] (sp_fmt K)) (Cimages_after : Cl P w K mg base 2 "images_after" ["points", "rows"] sp_imgs) (Cread_groups : Cl P w K mg base 2 "read_groups" ["points", "text"] sp_rdg) : ClX P w K mg base 7 "read_move" ["points", "text", "loose"] sp_rdm := by
  refine clX_of D scread_move (fun _ _ _ _ _ _ us hl => match us, hl with | [_, _, _], _ => rfl) (fun vs H Q E h => ?_) (fun f cdv A outer sh H vs Q E hr tk h => ?_)
  · obtain ⟨_, _, _, rfl, _⟩ := h; rfl
  obtain ⟨n, z, b, rfl, hn, hz, k1, k2⟩ := h
  refine ⟨_, (pss_cons (ps_set (i := 3) scread_move.nd rfl (Or.inl rfl) (pe_cl Cread_groups hr (by rfl) (pa_cons (pv 0) (pa_cons (pv 1) pa_nil))))
    (pss_cons (ps_if (pt_cmpR op_isN (pv 3) pe_non (nomark _)) (PSs.nox (pss_one (ps_ret pe_non))) pss_nil)
    (pss_cons (ps_set (i := 4) scread_move.nd rfl (Or.inl rfl) (pe_cl Cimages_after hr (by rfl) (pa_cons (pv 0) (pa_cons (pv 3) pa_nil))))
    (pss_cons (ps_if (PW.pt (pw_and (pt_not (pt_truth (pv 2) (fun _ => rfl))) (pw_and1 (pt_cmpR op_ne (pe_clX Cformat_move tk hr (by rfl) (pa_cons (pv 4) pa_nil)) (pv 1) (nomark _))))) (PSs.nox (pss_one (ps_ret pe_non))) pss_nil)
    (PSs.nox (pss_one (ps_ret (pv 4)))))))), ?_⟩
  walk_at "sn"
  refine ⟨n, z, rfl, hn, hz, fun hno H1 s1 => ?_, fun rs hrs p rows H1 s1 hp ep hr => ?_⟩
  · walk_at "sn"
    refine k1 ?_ H1 s1
    cases e : rdL b n z with
    | none => rfl
    | some ns =>
      obtain ⟨rs, h, _⟩ := rdL_some e
      rw [hno] at h
      cases h
  have hw := rdT_rws hrs
  obtain ⟨ml, mp⟩ := mvT_mv hw
  walk_at "sn"
  walk_at "sn"
  refine ⟨n, p, rows, rs, rfl, by omega, by omega, sq_l ep, ⟨by rw [hr.1, List.length_map], fun k r vs h1 h2 => ?_⟩, hw, fun c hc => by have := hw.row hc; omega, fun q H2 H3 s2 n3 => ?_⟩
  · rw [List.getElem?_map] at h2
    cases e : rs[k]? with
    | none => rw [e] at h2; cases h2
    | some c =>
      rw [e] at h2
      cases h2
      exact sq_l (hr.2 k r c h1 e)
  have s3 := (s1.trans s2).trans n3.same
  have hq : H q = none := (s1.trans s2).free n3.fr
  have en : (n : Int).toNat = n := by omega
  rw [en] at n3
  have e3 : H3 q = some (.tup ((mvT n rs).map V.int)) := n3.at_
  have ma : MvA H3 (.ref q) q (mvT n rs) := ⟨rfl, e3, by omega, by rw [ml]; exact mp⟩
  walk_at "sn"
  refine ⟨b, rfl, ?_⟩
  cases b with
  | true =>
    exact k2 _ (by unfold rdL; rw [if_pos rfl, hrs]; rfl) ml q H3 s3 hq ma
  | false =>
    have hrl : rdL false n z = if rowsT (cyc (mvT n rs)) = z then some (mvT n rs) else none := by
      unfold rdL rdS
      rw [if_neg (by decide), hrs]
    rw [if_pos rfl]
    refine ⟨.ref q, [], _, _, rfl, ma.dw, fun hno => absurd ma.d (by rw [hno]; decide), fun a ns mb _ H4 s4 => ?_⟩
    obtain ⟨e1, e2⟩ := ma.uniq mb
    subst e1 e2
    refine ⟨rfl, ?_⟩
    split
    · rename_i hne
      refine k1 ?_ H4 (s3.trans s4)
      rw [hrl, if_neg (fun e => hne (by rw [e]))]
    · rename_i he
      have he2 := V.str.inj (Classical.not_not.mp he)
      exact k2 _ (by rw [hrl, if_pos he2]) ml q H4 (s3.trans s4) hq (ma.same s4)
end

/-! ## W4 -/

section
variable {P : Program} {w : World} {K : PySem.W.Frag} {mg : Str → Option Value} {base : Heap}
def sp_prm (K : PySem.W.Frag) : Sp := fun vs H Q Er => ∃ (v : V) (z : Str) (b : Bool) (E : List Addr) (d : PyData) (m : Nat), vs = [v, .str z, .bl b] ∧ z.length ≤ 100000 ∧ Dw E H v d m ∧ Sm v ∧ (numOk v 0 12 = false → Raises K (.num v 0 12) H Er) ∧
  ∀ n : Nat, v = .int n → n ≤ 12 → (rdL b n z = none → Raises K (.txt 1) H Er) ∧ ∀ ns, rdL b n z = some ns → ns.length = n → ∀ a H', Same H H' → H a = none → MvA H' (.ref a) a ns → Q (.ref a) H'
abbrev stparse_move : Stmt := topS 49
theorem scparse_move : FnScope ["points", "text", "loose", "move"] ["points", "text", "loose"] (defScope stparse_move) := ⟨rfl, rfl, rfl, by decide +kernel, rfl, by decide +kernel, by decide +kernel⟩
theorem okparse_move (D : DfK K mg "parse_move" stparse_move [("loose", .bl false)]) (T : NoB mg) (Ccheck_points : ClX P w K mg base 5 "check_points" ["points"] (sp_points K)) (Cread_move : ClX P w K mg base 7 "read_move" ["points", "text", "loose"] sp_rdm) (Er_BadText : ErT_BadText P w K mg base): ClXN P w K mg base 8 "parse_move" 2 [] (fun vs H Q E => (sp_prm K) (vs ++ [.bl false]) H Q E) ∧ ClXN P w K mg base 8 "parse_move" 2 ["loose"] (sp_prm K) := by
  refine clXN_of (ps := ["points", "text"]) D scparse_move (fun _ _ _ _ _ _ us mv hl hm => match us, mv, hl, hm with | [_, _], [_], _, _ => ⟨_, _, _, _, _, _, rfl, rfl, rfl⟩) (fun _ _ _ _ _ _ us ws hl hm => match us, ws, hl, hm with | [_, _], [_], _, _ => rfl) (fun vs H Q E h => ?_) (fun f cdv A outer sh H vs Q E hr tk h => ?_)
  · obtain ⟨_, _, _, _, _, _, rfl, _⟩ := h; rfl
  obtain ⟨v, z, b, E', d, m, rfl, hz, hv, hs, k1, k2⟩ := h
  refine ⟨_, (pss_cons (ps_expr (pe_clX Ccheck_points tk hr (by rfl) (pa_cons (pv 0) pa_nil)))
    (pss_cons (ps_set (i := 3) scparse_move.nd rfl (Or.inl rfl) (pe_clX Cread_move tk hr (by rfl) (pa_cons (pv 0) (pa_cons (pv 1) (pa_cons (pv 2) pa_nil)))))
    (pss_cons (ps_if (pt_cmpR op_isN (pv 3) pe_non (nomark _)) (pss_one (L2N.ps_raise rfl tk (pmk_err Er_BadText hr (by rfl) (pa_cons pe_int pa_nil)))) pss_nil)
    (PSs.nox (pss_one (ps_ret (pv 3))))))), ?_⟩
  walk_at "sn"
  refine ⟨v, E', d, m, rfl, hv, hs, fun hok => ?_, fun hno => k1 hno⟩
  obtain ⟨i, rfl, i0, i1⟩ := numOk_wh hok
  obtain ⟨n, rfl⟩ : ∃ n : Nat, i = n := ⟨i.toNat, by omega⟩
  obtain ⟨q1, q2⟩ := k2 n rfl (by omega)
  walk_at "sn"
  refine ⟨n, z, b, rfl, by omega, hz, fun hno H1 s1 => ?_, fun ns hns hl a H1 s1 ha ma => ?_⟩
  · walk_at "sn"
    walk_at "wn"
    exact ⟨⟨.inl ⟨1, rfl, by decide⟩, trivial⟩, fun d2 H2 n2 => q1 hno d2 H1 H2 s1 n2⟩
  · walk_at "sn"
    walk_at "wn"
    exact q2 ns hns hl a H1 s1 ha ma
end

/-! ## HoCr -/
open PySem L2
section
variable {ns : List Int}
def cycN (ns : List Int) (i : Nat) : List (List Int) := ((rng i).filter (isHd ns)).map (orb ns)
def Cov (ns : List Int) (i : Nat) (z : Int) : Prop := ∃ p : Nat, p < i ∧ z ∈ orb ns (p : Int)
theorem rng_succ (n : Nat) : rng (n + 1) = rng n ++ [(n : Int)] := by simp [rng, List.range_succ]
theorem cycN_succ (i : Nat) : cycN ns (i + 1) = cycN ns i ++ (if isHd ns i = true then [orb ns i] else []) := by
  unfold cycN
  rw [rng_succ, List.filter_append, List.map_append]
  congr 1
  cases e : isHd ns i with
  | true => rw [List.filter_cons_of_pos e, if_pos rfl]; rfl
  | false => rw [List.filter_cons_of_neg (by rw [e]; decide), if_neg (by decide)]; rfl
theorem cov_succ {i : Nat} {z : Int} : Cov ns (i + 1) z ↔ Cov ns i z ∨ z ∈ orb ns (i : Int) := by
  constructor
  · rintro ⟨p, hp, hz⟩
    by_cases e : p = i
    · subst e; exact .inr hz
    · exact .inl ⟨p, by omega, hz⟩
  · rintro (⟨p, hp, hz⟩ | h)
    · exact ⟨p, by omega, hz⟩
    · exact ⟨i, by omega, h⟩
/-- the row that the walk from i finds: none if i was seen before -/
structure Rn (ns : List Int) (i : Nat) (R : List Int) : Prop where
  rg : ∀ z ∈ R, InR ns z ∧ ¬ Cov ns i z
  nd : R.Nodup
  le : R.length ≤ ns.length
  h0 : 0 < R.length → R[0]? = some (i : Int)
  e0 : R.length = 0 → Cov ns i i
  nx : ∀ (k : Nat) (z : Int), R[k]? = some z → k + 1 < R.length → R[k + 1]? = some (im ns z)
  lt : ∀ (k : Nat) (z : Int), R[k]? = some z → k + 1 = R.length → im ns z = i
  cov : ∀ z, Cov ns (i + 1) z ↔ Cov ns i z ∨ z ∈ R
  cyc : cycN ns (i + 1) = cycN ns i ++ (if 1 < R.length then [R] else [])
theorem rn_ex (m : Mv ns) {i : Nat} (hi : i < ns.length) : ∃ R, Rn ns i R := by
  have hr : InR ns (i : Int) := ⟨by omega, by omega⟩
  by_cases c : Cov ns i i
  · refine ⟨[], ⟨by simp, by simp, by simp, by simp, fun _ => c, by simp, by simp, fun z => ?_, ?_⟩⟩
    · rw [cov_succ]
      obtain ⟨p, hp, hz⟩ := c
      have hpr : InR ns (p : Int) := ⟨by omega, by omega⟩
      have o := orb_it m hpr hz
      constructor
      · rintro (h | h)
        · exact .inl h
        · exact .inl ⟨p, hp, (o.2 z).mp h⟩
      · rintro (h | h)
        · exact .inl h
        · cases h
    · rw [cycN_succ]
      obtain ⟨p, hp, hz⟩ := c
      have hpr : InR ns (p : Int) := ⟨by omega, by omega⟩
      have o := orb_it m hpr hz
      have : isHd ns i = false := by
        unfold isHd
        refine decide_eq_false fun h => ?_
        have := h.2 p o.1
        omega
      rw [this]
      rfl
  · obtain ⟨l1, l2, l3⟩ := ell_spec m hr
    have lp := ell_pos (ns := ns) (p := (i : Int))
    have ln : (orb ns (i : Int)).length = ell ns i := orb_len
    have gt : ∀ {k : Nat} {z : Int}, (orb ns (i : Int))[k]? = some z → k < ell ns i ∧ z = it ns k i := fun {k z} h => by
      have hk := (List.getElem?_eq_some_iff.mp h).1
      rw [ln] at hk
      rw [orb_at hk] at h
      exact ⟨hk, (Option.some.inj h).symm⟩
    refine ⟨orb ns i, ⟨fun z hz => ⟨orb_rg m hr z hz, ?_⟩, orb_nd m hr, by omega, fun _ => orb_at lp, fun h => by omega, fun k z h hk => ?_, fun k z h hk => ?_, fun z => cov_succ, ?_⟩⟩
    · rintro ⟨p, hp, hz2⟩
      have hpr : InR ns (p : Int) := ⟨by omega, by omega⟩
      have o1 := orb_it m hr hz
      have o2 := orb_it m hpr hz2
      exact c ⟨p, hp, (o2.2 _).mp o1.1⟩
    · rw [ln] at hk
      rw [orb_at hk, (gt h).2]
      rfl
    · rw [(gt h).2]
      rw [ln] at hk
      rw [← hk] at l2
      exact l2
    · rw [cycN_succ]
      congr 1
      have : isHd ns i = decide (1 < ell ns i) := by
        unfold isHd
        refine decide_eq_decide.mpr ⟨fun h => ?_, fun h => ⟨l3 1 (by omega) h, fun q hq => ?_⟩⟩
        · refine Classical.byContradiction fun hn => ?_
          have e1 : ell ns i = 1 := by omega
          rw [e1] at l2
          exact h.1 l2
        · refine Classical.byContradiction fun hn => ?_
          have hqr := orb_rg m hr q hq
          have o1 := orb_it m hr hq
          obtain ⟨a, b⟩ := hqr
          have e : ((q.toNat : Nat) : Int) = q := by omega
          exact c ⟨q.toNat, by omega, by rw [e]; exact o1.1⟩
      rw [this, ln]
      by_cases h : 1 < ell ns i
      · rw [decide_eq_true h, if_pos rfl, if_pos h]
      · rw [decide_eq_false h, if_neg (by decide), if_neg h]
end

/-! ## HoLt -/
open PySem L2
theorem rot_at {c : List Int} {k j : Nat} (hk : k ≤ c.length) (hj : j < c.length) : (c.drop k ++ c.take k)[j]? = c[(k + j) % c.length]? := by
  by_cases h : k + j < c.length
  · rw [List.getElem?_append_left (by rw [List.length_drop]; omega), List.getElem?_drop, Nat.mod_eq_of_lt h]
  · rw [List.getElem?_append_right (by rw [List.length_drop]; omega), List.length_drop, List.getElem?_take]
    have e : (k + j) % c.length = j - (c.length - k) := by
      rw [Nat.mod_eq_sub_mod (by omega), Nat.mod_eq_of_lt (by omega)]
      omega
    rw [e, if_pos (by omega)]
theorem rot_len {c : List Int} {k : Nat} : (c.drop k ++ c.take k).length = c.length := by
  rw [List.length_append, List.length_drop, List.length_take]
  omega
theorem prA_mem {c : List Int} {q : Int × Int} : q ∈ prA c ↔ ∃ j, j < c.length ∧ c[j]? = some q.1 ∧ c[(j + 1) % c.length]? = some q.2 := by
  unfold prA
  constructor
  · intro h
    obtain ⟨j, hj⟩ := List.getElem?_of_mem h
    rw [List.getElem?_zip_eq_some] at hj
    have hl := (List.getElem?_eq_some_iff.mp hj.1).1
    exact ⟨j, hl, hj.1, by rw [← rotL_at hl]; exact hj.2⟩
  · rintro ⟨j, hl, h1, h2⟩
    exact List.mem_of_getElem? (i := j) (by rw [List.getElem?_zip_eq_some]; exact ⟨h1, by rw [rotL_at hl]; exact h2⟩)
theorem prA_rot {c : List Int} {k : Nat} (hk : k ≤ c.length) {q : Int × Int} (h : q ∈ prA (c.drop k ++ c.take k)) : q ∈ prA c := by
  obtain ⟨j, hl, h1, h2⟩ := prA_mem.mp h
  rw [rot_len] at hl h2
  have hp : 0 < c.length := by omega
  rw [rot_at hk hl] at h1
  rw [rot_at hk (Nat.mod_lt _ hp)] at h2
  refine prA_mem.mpr ⟨(k + j) % c.length, Nat.mod_lt _ hp, h1, ?_⟩
  rw [← h2]
  congr 1
  rw [Nat.mod_add_mod, Nat.add_mod_mod, Nat.add_assoc]
theorem rot_mem {c : List Int} {k : Nat} {z : Int} : z ∈ c.drop k ++ c.take k ↔ z ∈ c := by
  have : (c.drop k ++ c.take k).Perm c := by
    have h := List.perm_append_comm (l₁ := c.drop k) (l₂ := c.take k)
    rw [List.take_append_drop] at h
    exact h
  exact this.mem_iff
theorem rot_nd {c : List Int} {k : Nat} (h : c.Nodup) : (c.drop k ++ c.take k).Nodup := by
  have := List.perm_append_comm (l₁ := c.drop k) (l₂ := c.take k)
  rw [List.take_append_drop] at this
  exact this.nodup_iff.mpr h
section
variable {ns : List Int}
structure Lp (ns : List Int) (k : Nat) (gs : List (List Int)) : Prop where
  nd : gs.flatten.Nodup
  rg : ∀ z ∈ gs.flatten, InR ns z
  pr : ∀ c ∈ gs, ∀ q ∈ prA c, im ns q.1 = q.2
  few : gs.length ≤ gs.flatten.length + k
theorem Lp.start : Lp ns 0 [] := ⟨by simp, by simp, by simp, by simp⟩
theorem Lp.add {k : Nat} {gs : List (List Int)} {c : List Int} (h : Lp ns k gs) (c0 : c ≠ []) (nd : c.Nodup) (rg : ∀ z ∈ c, InR ns z) (dj : ∀ z ∈ c, z ∉ gs.flatten) (pr : ∀ q ∈ prA c, im ns q.1 = q.2) : Lp ns k (gs ++ [c]) := by
  have ef : (gs ++ [c]).flatten = gs.flatten ++ c := by simp
  refine ⟨?_, ?_, ?_, ?_⟩
  · rw [ef, List.nodup_append]
    exact ⟨h.nd, nd, fun a ha b hb e => dj b hb (e ▸ ha)⟩
  · rw [ef]
    intro z hz
    rcases List.mem_append.mp hz with hz | hz
    · exact h.rg z hz
    · exact rg z hz
  · intro d hd
    rcases List.mem_append.mp hd with hd | hd
    · exact h.pr d hd
    · rw [List.mem_singleton.mp hd]; exact pr
  · rw [ef, List.length_append, List.length_append]
    have := h.few
    have := List.length_pos_iff.mpr c0
    simp only [List.length_singleton]
    omega
theorem Lp.nil {k : Nat} {gs : List (List Int)} (h : Lp ns k gs) : Lp ns (k + 1) (gs ++ [[]]) := by
  have ef : (gs ++ [([] : List Int)]).flatten = gs.flatten := by simp
  refine ⟨by rw [ef]; exact h.nd, by rw [ef]; exact h.rg, fun d hd => ?_, ?_⟩
  · rcases List.mem_append.mp hd with hd | hd
    · exact h.pr d hd
    · rw [List.mem_singleton.mp hd]
      intro q hq
      cases hq
  · rw [ef, List.length_append]
    have := h.few
    simp only [List.length_singleton]
    omega
theorem Lp.perm {k : Nat} {gs hs : List (List Int)} (h : Lp ns k gs) (p : hs.Perm gs) : Lp ns k hs := by
  have pf := p.flatten
  exact ⟨pf.nodup_iff.mpr h.nd, fun z hz => h.rg z (pf.mem_iff.mp hz), fun c hc => h.pr c (p.mem_iff.mp hc), by rw [p.length_eq, pf.length_eq]; exact h.few⟩
structure Loose (ns : List Int) (gs : List (List Int)) : Prop where
  ne : gs ≠ []
  rws : Rws ns.length gs
  img : Img ns.length gs ns
  few : gs.length ≤ gs.flatten.length + 4
theorem Lp.loose {k : Nat} {gs : List (List Int)} (m : Mv ns) (h : Lp ns k gs) (hk : k ≤ 4) (ne : gs ≠ []) (cv : ∀ z, InR ns z → im ns z ≠ z → z ∈ gs.flatten) : Loose ns gs := by
  refine ⟨ne, ⟨h.nd, fun z hz => h.rg z hz⟩, ⟨rfl, fun c hc j z hz => ?_, fun p hp hn => ?_⟩, by have := h.few; omega⟩
  · have hl := (List.getElem?_eq_some_iff.mp hz).1
    have hzr := h.rg z (List.mem_flatten.mpr ⟨c, hc, List.mem_of_getElem? hz⟩)
    have hm : (j + 1) % c.length < c.length := Nat.mod_lt _ (by omega)
    have hq : (z, c[(j + 1) % c.length]) ∈ prA c := prA_mem.mpr ⟨j, hl, hz, List.getElem?_eq_getElem hm⟩
    have e := h.pr c hc _ hq
    rw [rotL_at hl, List.getElem?_eq_getElem hm, (m.at hzr).1]
    exact congrArg some e
  · have hr : InR ns (p : Int) := ⟨by omega, by omega⟩
    have e : im ns (p : Int) = p := Classical.byContradiction fun hne => hn (cv _ hr hne)
    have := (m.at hr).1
    rw [e] at this
    simpa using this
theorem Loose.perm {gs hs : List (List Int)} (h : Loose ns gs) (p : hs.Perm gs) : Loose ns hs := by
  have pf := p.flatten
  refine ⟨fun e => h.ne ?_, ⟨pf.nodup_iff.mpr h.rws.nd, fun z hz => h.rws.rg z (pf.mem_iff.mp hz)⟩, ⟨h.img.len, fun c hc => h.img.on c (p.mem_iff.mp hc), fun q hq hn => h.img.off q hq fun hm => hn (pf.mem_iff.mpr hm)⟩, by rw [p.length_eq, pf.length_eq]; exact h.few⟩
  rw [e] at p
  exact p.symm.eq_nil
theorem prA_cyc (m : Mv ns) {c : List Int} (hc : c ∈ cyc ns) {q : Int × Int} (hq : q ∈ prA c) : im ns q.1 = q.2 := by
  obtain ⟨j, hl, h1, h2⟩ := prA_mem.mp hq
  have hi := (cyc_img m).on c hc j q.1 h1
  rw [rotL_at hl, h2] at hi
  have hr := (cyc_rws m).rg q.1 (List.mem_flatten.mpr ⟨c, hc, List.mem_of_getElem? h1⟩)
  rw [(m.at hr).1] at hi
  exact Option.some.inj hi
end

/-! ## W5 -/

theorem a_dnew {σ : L2.St} {H : Hp} {Q : VK} : tDNewK σ H Q = Nw H (.dK []) fun p H' => Q (.ref p) H' := by rw [← nw_eq]; rfl
theorem a_din {ty td : TE} {σ : L2.St} {H : Hp} {Q : VK} : tDIn ty td σ H Q = ty σ H fun y H1 => td σ H1 fun x H2 => ∃ a o, x = .ref a ∧ DGet H2 a y o ∧ Q (.bl o.isSome) H2 := rfl
theorem a_dnotin {ty td : TE} {σ : L2.St} {H : Hp} {Q : VK} : tDNotIn ty td σ H Q = ty σ H fun y H1 => td σ H1 fun x H2 => ∃ a o, x = .ref a ∧ DGet H2 a y o ∧ Q (.bl (!o.isSome)) H2 := rfl
theorem b_setD {o i v : V} {H : Hp} {Q : Hp → Prop} : rSetD o i v H Q = ∃ a H', o = .ref a ∧ DPut H a i v H' ∧ Q H' := rfl
section
variable {P : Program} {w : World} {K : PySem.W.Frag} {mg : Str → Option Value} {base : Heap}
theorem RowsAt.put {H H' : Hp} {rows : List Addr} {cs : List (List Int)} {a : Addr} {o : HO} (h : RowsAt H rows cs) (p : Put H a o H') (hn : ∀ r ∈ rows, r ≠ a) : RowsAt H' rows cs := ⟨h.1, fun k r c h1 h2 => p.k (hn r (List.mem_of_getElem? h1)) (h.2 k r c h1 h2)⟩
theorem RowsAt.fr {H : Hp} {rows : List Addr} {cs : List (List Int)} {a : Addr} (h : RowsAt H rows cs) (hn : ∀ xs, H a ≠ some (.tup xs)) : ∀ r ∈ rows, r ≠ a := fun r hr e => by
  obtain ⟨k, hk⟩ := List.getElem?_of_mem hr
  have hk2 := (List.getElem?_eq_some_iff.mp hk).1
  have h5 := h.2 k r _ hk (List.getElem?_eq_getElem (by rw [← h.1]; exact hk2))
  rw [e] at h5
  exact hn _ h5
def sp_cyr : Sp := fun vs H Q _ => ∃ (a : Addr) (ns : List Int), vs = [.ref a] ∧ MvA H (.ref a) a ns ∧ ∀ (p : Addr) (rows : List Addr) (H' : Hp), Same H H' → H p = none → H' p = some (.lst (rows.map V.ref)) → RowsAt H' rows (cyc ns) → Q (.ref p) H'
abbrev st_law_cycle_rows : Stmt := topS 66
theorem sc_law_cycle_rows : FnScope ["move", "seen", "found", "start", "chain_row", "at", "k"] ["move"] (defScope st_law_cycle_rows) := ⟨rfl, rfl, rfl, by decide +kernel, rfl, by decide +kernel, by decide +kernel⟩
theorem ok_law_cycle_rows (D : Df K mg "_law_cycle_rows" st_law_cycle_rows) (T : NoB mg)  : Cl P w K mg base 2 "_law_cycle_rows" ["move"] sp_cyr := by
  refine cl_of D sc_law_cycle_rows (fun _ _ _ _ _ _ us hl => match us, hl with | [_], _ => rfl) (fun vs H Q E h => ?_) (fun f cdv A outer sh H vs Q E hr h => ?_)
  · obtain ⟨_, _, rfl, _⟩ := h; rfl
  obtain ⟨a, ns, rfl, ma, k⟩ := h
  refine ⟨_, (pss_cons (ps_set (i := 1) sc_law_cycle_rows.nd rfl (Or.inl rfl) pe_dnewK)
    (pss_cons (ps_set (i := 2) sc_law_cycle_rows.nd rfl (Or.inl rfl) (pe_lst pa_nil))
    (pss_cons (ps_for PassesOwn.never rfl (pi_range1 (by rfl) T.no_range (pa_cons (pe_callB len1 (by rfl) T.no_len (by decide +kernel) (pa_cons (pv 0) pa_nil)) pa_nil)) (pg_name (i := 3) sc_law_cycle_rows.nd rfl (Or.inl rfl)) (pss_cons (ps_set (i := 4) sc_law_cycle_rows.nd rfl (Or.inl rfl) (pe_lst pa_nil))
    (pss_cons (ps_set (i := 5) sc_law_cycle_rows.nd rfl (Or.inl rfl) (pv 3))
    (pss_cons (ps_for PassesOwn.never rfl (pi_range1 (by rfl) T.no_range (pa_cons (pe_callB len1 (by rfl) T.no_len (by decide +kernel) (pa_cons (pv 0) pa_nil)) pa_nil)) (pg_name (i := 6) sc_law_cycle_rows.nd rfl (Or.inl rfl)) (pss_one (ps_if (pt_cmp (pc_dnotin (hu_of hr) (pv 5) (pv 1)) rfl) (pss_cons (ps_asg pe_bl (pg_sub (pv 1) (pv 5) (set_dict (hu_of hr))))
    (pss_cons (ps_expr (pe_bm PySem.F.plainAttrs_list PySem.F.slot_list_append PySem.F.type_list_append mt_append (pv 4) (pa_cons (pv 5) pa_nil)))
    (pss_one (ps_set (i := 5) sc_law_cycle_rows.nd rfl (Or.inl rfl) (pe_ix ix1 (pv 0) (pv 5) (fun _ _ => rfl)))))) pss_nil)))
    (pss_one (ps_if (pt_cmpR op_gt (pe_callB len1 (by rfl) T.no_len (by decide +kernel) (pa_cons (pv 4) pa_nil)) pe_int (nomark _)) (pss_one (ps_expr (pe_bm PySem.F.plainAttrs_list PySem.F.slot_list_append PySem.F.type_list_append mt_append (pv 2) (pa_cons (pe_callTy tup1 (by rfl) T.no_tuple (by decide +kernel) (pa_cons (pv 4) pa_nil)) pa_nil)))) pss_nil))))))
    (pss_one (ps_ret (pv 2)))))), ?_⟩
  have m := ma.m
  have ha := ma.at_
  have hl := ma.le
  have hla : (ns.map V.int).length = ns.length := List.length_map _
  walk_at "sn"
  simp only [a_dnew]
  intro S H1 n1
  have hS := n1.fr
  walk_at "sn"
  refine ⟨szl (by decide), fun F H2 n2 => ?_⟩
  have s2 := n1.same.trans n2.same
  have hF : H F = none := n1.same.free n2.fr
  have hSF : S ≠ F := n2.ne n1.at_
  walk_at "sn"
  have qa2 := sq_t (s2 _ _ ha)
  refine ⟨_, qa2, by omega, by omega, ?_⟩
  have leN : ∀ {l : List Int}, l.Nodup → (∀ z ∈ l, InR ns z) → l.length ≤ ns.length := fun nd h => sub_len nd fun z hz => mem_rng.mpr (h z hz)
  have covR : ∀ {i : Nat} {z : Int}, i ≤ ns.length → Cov ns i z → InR ns z := fun {i z} hi ⟨p, hp, hz⟩ => orb_rg m ⟨by omega, by omega⟩ z hz
  refine fr_by (fun i σ H' => Same H H' ∧ ∃ (v3 v4 v5 v6 : Option V) (rws : List Addr) (sl : List Int) (kvs : List (Key × V)), σ = [some (V.ref a), some (V.ref S), some (V.ref F), v3, v4, v5, v6] ∧ H' F = some (.lst (rws.map V.ref)) ∧ H' S = some (.dK kvs) ∧
    (kvs.length ≤ sl.length ∧ (∀ z : Int, (valV kvs (.inl z)).isSome = decide (z ∈ sl)) ∧ sl.Nodup ∧ (∀ z, z ∈ sl ↔ Cov ns i z)) ∧ RowsAt H' rws (cycN ns i))
    ⟨s2, _, _, _, _, [], [], [], rfl, n2.at_, n2.k n1.at_, ⟨by simp, by simp [valV], List.nodup_nil, fun z => Iff.intro (fun h => absurd h (by simp)) (fun h => by obtain ⟨p, h, _⟩ := h; omega)⟩, ⟨rfl, fun k r c h => by simp at h⟩⟩ ?_ ?_
  · rintro i _ H3 N hN hi ⟨s3, v3, v4, v5, v6, rws, sl, kvs, rfl, eF, eS, ⟨hd1, hd2, hd3, hd4⟩, hr⟩
    have hi' : i < ns.length := by rw [hla] at hi; omega
    obtain ⟨R, rn⟩ := rn_ex m hi'
    have hrS : ∀ r ∈ rws, r ≠ S := hr.fr fun xs e => by rw [eS] at e; cases e
    have hrF : ∀ r ∈ rws, r ≠ F := hr.fr fun xs e => by rw [eF] at e; cases e
    walk_at "wn"
    walk_at "sn"
    refine ⟨szl (by decide), fun C1 H4 n4 => ?_⟩
    have hC : H C1 = none := s3.free n4.fr
    have hCF : F ≠ C1 := n4.ne eF
    have hCS : S ≠ C1 := n4.ne eS
    have hrC : ∀ r ∈ rws, r ≠ C1 := hr.fr fun xs e => by rw [n4.fr] at e; cases e
    walk_at "sn"
    have s4 := s3.trans n4.same
    have hz : (0 : Int) + (i : Int) = i := by omega
    rw [hz]
    walk_at "sn"
    refine ⟨_, sq_t (s4 _ _ ha), by omega, by omega, ?_⟩
    refine fr_by (fun kk σ H' => (∀ b o, b ≠ S → b ≠ C1 → H3 b = some o → H' b = some o) ∧ ∃ (v6 : Option V) (pt : Int) (sl : List Int) (kvs : List (Key × V)), σ = [some (V.ref a), some (V.ref S), some (V.ref F), some (V.int i), some (V.ref C1), some (V.int pt), v6] ∧ H' C1 = some (.lst ((R.take kk).map V.int)) ∧ H' S = some (.dK kvs) ∧
      (kvs.length ≤ sl.length ∧ (∀ z : Int, (valV kvs (.inl z)).isSome = decide (z ∈ sl)) ∧ sl.Nodup ∧ (∀ z, z ∈ sl ↔ Cov ns i z ∨ z ∈ R.take kk)) ∧ (kk < R.length → R[kk]? = some pt) ∧ (R.length ≤ kk → pt = i))
      ⟨fun b o _ _ h => n4.k h, _, i, sl, kvs, rfl, n4.at_, n4.k eS, ⟨hd1, hd2, hd3, fun z => by simpa using hd4 z⟩, fun h => rn.h0 h, fun _ => rfl⟩ ?_ ?_
    · rintro kk _ H5 N5 hN5 hkk ⟨k5, v6', pt, sl5, kvs5, rfl, eC5, eS5, ⟨hd1, hd2, hd3, hd4⟩, hp1, hp2⟩
      walk_at "wn"
      rw [a_dnotin]
      walk_at "wn"
      refine ⟨valV kvs5 (.inl pt), DGet.k (k := .inl pt) eS5, ?_⟩
      rw [hd2 pt]
      have hslr : ∀ z ∈ sl5, InR ns z := fun z hz => by
        rcases (hd4 z).mp hz with h | h
        · exact covR (by omega) h
        · exact (rn.rg z (List.mem_of_mem_take h)).1
      by_cases hkR : kk < R.length
      · have hp := hp1 hkR
        have hpm := List.mem_of_getElem? hp
        have hm : pt ∉ sl5 := fun h => by
          rcases (hd4 pt).mp h with h | h
          · exact (rn.rg pt hpm).2 h
          · obtain ⟨j, hj1⟩ := List.getElem?_of_mem h
            rw [List.getElem?_take] at hj1
            split at hj1
            · rename_i hj2
              have := (List.getElem?_inj hkR rn.nd).mp (hp.trans hj1.symm)
              omega
            · cases hj1
        rw [decide_eq_false hm]
        walk_at "wn"
        rw [a_seq]
        walk_at "wn"
        rw [b_setD]
        have hkl : kvs5.length ≤ 12 := by have := leN hd3 hslr; omega
        have hput := DPut.k (k := .inl pt) (v := .bl true) eS5 (by rw [sizeLine_eq]; omega)
        refine ⟨S, _, rfl, hput, ?_⟩
        have e6 : ∀ b, b ≠ S → upd H5 S (.dK (putK kvs5 (.inl pt) (.bl true))) b = H5 b := fun b hb => upd_ne hb
        rw [a_seq]
        walk_at "wn"
        have eC6 : upd H5 S (.dK (putK kvs5 (.inl pt) (.bl true))) C1 = some (.lst ((R.take kk).map V.int)) := by rw [e6 _ (Ne.symm hCS)]; exact eC5
        have hRl := rn.le
        refine ⟨tyl eC6, _, eC6, by rw [List.length_map, List.length_take, sizeLine_eq]; omega, fun H7 p7 => ?_⟩
        have k7 : ∀ b o, b ≠ S → b ≠ C1 → H3 b = some o → H7 b = some o := fun b o h1 h2 h3 => p7.k h2 ((e6 b h1).trans (k5 b o h1 h2 h3))
        have aS : a ≠ S := ne_of_none ha hS
        have aC : a ≠ C1 := ne_of_none ha hC
        have ea7 := k7 _ _ aS aC (s3 _ _ ha)
        walk_at "wn"
        have hpr := (rn.rg pt hpm).1
        have ap := m.at hpr
        have htk : R.take (kk + 1) = R.take kk ++ [pt] := by rw [List.take_add_one, hp]; rfl
        refine ⟨_, sq_t ea7, .int (im ns pt), atI_of hpr.1 (by rw [List.getElem?_map, ap.1]; rfl), ?_⟩
        refine hN5 _ _ ⟨k7, _, im ns pt, sl5 ++ [pt], _, rfl, by rw [p7.at_, htk, List.map_append]; rfl, p7.k hCS upd_same, ⟨?_, fun y => ?_, ?_, fun y => ?_⟩, fun h => rn.nx kk pt hp h, fun h => rn.lt kk pt hp (by omega)⟩
        · rw [putK_new _ (by
            have := hd2 pt
            rw [decide_eq_false hm] at this
            cases e : valV kvs5 (.inl pt) with
            | none => rfl
            | some u => rw [e] at this; cases this)]
          simp
          omega
        · rw [valV_put]
          by_cases c : y = pt
          · subst c
            simp
          · rw [if_neg (fun e => c (Sum.inl.inj e)), hd2 y]
            congr 1
            simp [c]
        · rw [List.nodup_append]
          exact ⟨hd3, by simp, fun a ha b hb e => by rw [List.mem_singleton.mp hb] at e; rw [e] at ha; exact hm ha⟩
        · rw [htk, List.mem_append, List.mem_append, hd4 y, or_assoc]
      · have hp := hp2 (by omega)
        have htk : R.take kk = R := List.take_of_length_le (by omega)
        have hm : pt ∈ sl5 := by
          rw [hd4 pt, hp, htk]
          by_cases h0 : R.length = 0
          · exact .inl (rn.e0 h0)
          · exact .inr (List.mem_of_getElem? (rn.h0 (by omega)))
        rw [decide_eq_true hm]
        walk_at "wn"
        exact hN5 _ _ ⟨k5, _, pt, sl5, kvs5, rfl, by rw [List.take_of_length_le (by omega : R.length ≤ kk + 1)]; rw [htk] at eC5; exact eC5, eS5, ⟨hd1, hd2, hd3, fun z => by rw [List.take_of_length_le (by omega : R.length ≤ kk + 1)]; rw [htk] at hd4; exact hd4 z⟩, fun h => by omega, fun _ => hp⟩
    · rintro _ H5 ⟨k5, v6', pt, sl5, kvs5, rfl, eC5, eS5, ⟨hd1, hd2, hd3, hd4⟩, hp1, hp2⟩
      have hRl := rn.le
      have hnn : (((ns.map V.int).length : Nat) : Int).toNat = ns.length := by rw [hla]; omega
      have htk : R.take ns.length = R := List.take_of_length_le (by omega)
      rw [hnn, htk] at eC5 hd4
      have r5 : RowsAt H5 rws (cycN ns i) := ⟨hr.1, fun k r c h1 h2 => k5 r _ (hrS r (List.mem_of_getElem? h1)) (hrC r (List.mem_of_getElem? h1)) (hr.2 k r c h1 h2)⟩
      have eF5 := k5 _ _ hSF.symm hCF eF
      have s5 : Same H H5 := fun b o h => k5 b o (ne_of_none h hS) (ne_of_none h hC) (s3 b o h)
      walk_at "wn"
      refine ⟨_, sq_l eC5, ?_⟩
      rw [List.length_map]
      split
      · rename_i hlt
        have hrl : rws.length ≤ 12 := by
          rw [hr.1]
          unfold cycN
          rw [List.length_map]
          have := List.length_filter_le (isHd ns) (rng i)
          rw [rng_len] at this
          omega
        refine ⟨tyl eF5, _, eC5, fun q H6 n6 => ⟨_, n6.k eF5, by rw [List.length_map, sizeLine_eq]; omega, fun H7 p7 => ?_⟩⟩
        have hcy := rn.cyc
        rw [if_pos (by omega)] at hcy
        refine hN _ _ ⟨fun b o h => p7.k (ne_of_none h hF) (n6.k (s5 b o h)), _, _, _, _, rws ++ [q], sl5, kvs5, rfl, by rw [p7.at_, List.map_append]; rfl, p7.k hSF (n6.k eS5), ⟨hd1, hd2, hd3, fun z => by rw [hd4 z, rn.cov]⟩, ?_⟩
        rw [hcy]
        refine ⟨by rw [List.length_append, List.length_append, hr.1]; rfl, fun k r c h1 h2 => ?_⟩
        by_cases hk : k < rws.length
        · rw [List.getElem?_append_left hk] at h1
          rw [List.getElem?_append_left (by rw [← hr.1]; exact hk)] at h2
          have h3 := r5.2 k r c h1 h2
          exact p7.k (ne_of (n6.k h3) (n6.k eF5) (by intro z; cases z)) (n6.k h3)
        · have hk2 : k = rws.length := by
            have := (List.getElem?_eq_some_iff.mp h1).1
            rw [List.length_append] at this
            simp at this
            omega
          subst hk2
          rw [List.getElem?_append_right (Nat.le_refl _)] at h1
          rw [hr.1, List.getElem?_append_right (Nat.le_refl _)] at h2
          have e1 : q = r := by simpa using h1
          have e2 : R = c := by simpa using h2
          subst e1 e2
          exact p7.k (ne_of n6.at_ (n6.k eF5) (by intro z; cases z)) n6.at_
      · rename_i hlt
        have hcy := rn.cyc
        rw [if_neg (by omega), List.append_nil] at hcy
        refine hN _ _ ⟨s5, _, _, _, _, rws, sl5, kvs5, rfl, eF5, eS5, ⟨hd1, hd2, hd3, fun z => by rw [hd4 z, rn.cov]⟩, by rw [hcy]; exact r5⟩
  · rintro _ H3 ⟨s3, v3, v4, v5, v6, rws, sl, kvs, rfl, eF, eS, hd, hr⟩
    walk_at "wn"
    have hnn : (((ns.map V.int).length : Nat) : Int).toNat = ns.length := by rw [hla]; omega
    rw [hnn] at hr
    exact k F rws H3 s3 hF eF hr
end

/-! ## W6 -/

section
variable {P : Program} {w : World} {K : PySem.W.Frag} {mg : Str → Option Value} {base : Heap}
def sp_rowtxt : Sp := fun vs H Q _ => ∃ (r : Addr) (c : List Int), vs = [.ref r] ∧ sq H r = some (c.map V.int) ∧ c.length ≤ 1000 ∧ (∀ z ∈ c, 0 ≤ z ∧ z < 1000) ∧ ∀ H', Same H H' → Q (.str (rowT c)) H'
abbrev st_law_row_text : Stmt := topS 65
theorem sc_law_row_text : FnScope ["row", "p"] ["row"] (defScope st_law_row_text) := ⟨rfl, rfl, rfl, by decide +kernel, rfl, by decide +kernel, by decide +kernel⟩
theorem ok_law_row_text (D : Df K mg "_law_row_text" st_law_row_text) (T : NoB mg)  : Cl P w K mg base 1 "_law_row_text" ["row"] sp_rowtxt := by
  refine cl_of D sc_law_row_text (fun _ _ _ _ _ _ us hl => match us, hl with | [_], _ => rfl) (fun vs H Q E h => ?_) (fun f cdv A outer sh H vs Q E hr h => ?_)
  · obtain ⟨_, _, rfl, _⟩ := h; rfl
  obtain ⟨r, c, rfl, hq, hl, hz, k⟩ := h
  refine ⟨_, (pss_one (ps_ret (pe_op op_add_str (pe_op op_add_str pe_str (pe_join pe_str (pe_lc (own := [("p", 1)]) (g := gName 1) (tt := tYes) rfl sc_law_row_text.nd (pi_sq (pv 0)) (blkOk_by (own := [("p", 1)]) (N := ["row", "p"]) (sc := defScope st_law_row_text) (by decide +kernel)) (fun _ _ _ _ _ => (pg_name (i := 1) sc_law_row_text.nd rfl (Or.inl rfl))) (fun _ _ _ _ _ => pts_nil) (fun _ _ _ _ _ => (pe_callTy call_str_int (by rfl) T.no_str (by decide +kernel) (pa_cons (pv 1) pa_nil)))))) pe_str))), ?_⟩
  walk_at "wn"
  refine ⟨⟨_, rfl⟩, ?_⟩
  refine cs_by hq (fun C j acc H' => Same H H' ∧ acc = ((c.take j).map fun z => pt z.toNat).map V.str) (fun C H0 n0 => ⟨n0.same, rfl⟩) (fun C j acc H' hC f o ho => f.1 _ _ ho) ?_ ?_
  · rintro C j x acc H4 N4 hC hx' hacc ⟨s4, rfl⟩ hN4
    obtain ⟨z, hz2, rfl⟩ : ∃ z, c[j]? = some z ∧ x = V.int z := by
      rw [List.getElem?_map] at hx'
      cases e : c[j]? with
      | none => rw [e] at hx'; cases hx'
      | some z => rw [e] at hx'; exact ⟨z, rfl, (Option.some.inj hx').symm⟩
    have hzr := hz z (List.mem_of_getElem? hz2)
    have hjl := (List.getElem?_eq_some_iff.mp hz2).1
    refine ⟨rfl, ?_⟩
    walk_at "wn"
    refine ⟨log_sm (Nat.lt_of_le_of_lt (show z.natAbs ≤ 1000 by omega) (by decide +kernel)), cst hacc (by rw [List.length_map, List.length_map, List.length_take, sizeLine_eq]; omega) fun H5 p5 => hN4 _ _ p5.at_ ⟨p5.same s4 hC, ?_⟩⟩
    rw [pt_int hzr.1, List.take_add_one, hz2]
    simp
  · rintro C acc H4 hC hacc ⟨s4, rfl⟩
    rw [List.length_map, List.take_length] at hacc
    have hsum := rowI_len (c := c) fun z hz3 => by have := hz z hz3; omega
    have l1 : (" " : Str).length = 1 := by decide +kernel
    have hzl := txt_len " " (c.map fun z => pt z.toNat)
    rw [List.length_map, l1] at hzl
    have lb1 : ("(" : Str).length = 1 := by decide +kernel
    have lb2 : (")" : Str).length = 1 := by decide +kernel
    refine ⟨C, rfl, c.map fun z => pt z.toNat, .inl (SqL.of hacc), by rw [List.length_map, l1]; omega, by rw [lb1, sizeLine_eq]; omega, by rw [len_app, lb1, lb2, sizeLine_eq]; omega, ?_⟩
    exact k H4 s4
def sp_movetxt : Sp := fun vs H Q _ => ∃ (a : Addr) (ns : List Int), vs = [.ref a] ∧ MvA H (.ref a) a ns ∧ ∀ H', Same H H' → Q (.str (rowsT (cyc ns))) H'
abbrev st_law_move_text : Stmt := topS 67
theorem sc_law_move_text : FnScope ["move", "found", "row"] ["move"] (defScope st_law_move_text) := ⟨rfl, rfl, rfl, by decide +kernel, rfl, by decide +kernel, by decide +kernel⟩
theorem ok_law_move_text (D : Df K mg "_law_move_text" st_law_move_text) (T : NoB mg) (C_law_cycle_rows : Cl P w K mg base 2 "_law_cycle_rows" ["move"] sp_cyr) (C_law_row_text : Cl P w K mg base 1 "_law_row_text" ["row"] sp_rowtxt) : Cl P w K mg base 3 "_law_move_text" ["move"] sp_movetxt := by
  refine cl_of D sc_law_move_text (fun _ _ _ _ _ _ us hl => match us, hl with | [_], _ => rfl) (fun vs H Q E h => ?_) (fun f cdv A outer sh H vs Q E hr h => ?_)
  · obtain ⟨_, _, rfl, _⟩ := h; rfl
  obtain ⟨a, ns, rfl, ma, k⟩ := h
  refine ⟨_, (pss_cons (ps_set (i := 1) sc_law_move_text.nd rfl (Or.inl rfl) (pe_cl C_law_cycle_rows hr (by rfl) (pa_cons (pv 0) pa_nil)))
    (pss_cons (ps_if (pt_cmpR op_eq (pe_callB len1 (by rfl) T.no_len (by decide +kernel) (pa_cons (pv 1) pa_nil)) pe_int (nomark _)) (pss_one (ps_ret pe_str)) pss_nil)
    (pss_one (ps_ret (pe_join pe_str (pe_lc (own := [("row", 2)]) (g := gName 2) (tt := tYes) rfl sc_law_move_text.nd (pi_sq (pv 1)) (blkOk_by (own := [("row", 2)]) (N := ["move", "found", "row"]) (sc := defScope st_law_move_text) (by decide +kernel)) (fun _ _ _ _ _ => (pg_name (i := 2) sc_law_move_text.nd rfl (Or.inl rfl))) (fun _ _ _ _ _ => pts_nil) (fun _ _ _ _ _ => (pe_cl C_law_row_text hr (by rfl) (pa_cons (pv 2) pa_nil))))))))), ?_⟩
  walk_at "sn"
  refine ⟨a, ns, rfl, ma, fun p rows H1 s1 hp ep hr => ?_⟩
  walk_at "sn"
  have hle := ma.le
  have hcn := cyc_cnt ma.m
  have hrl := hr.1
  refine ⟨_, sq_l ep, ?_⟩
  rw [List.length_map, hrl]
  split
  · rename_i h0
    have hc : cyc ns = [] := List.eq_nil_of_length_eq_zero (by omega)
    have e0 : rowsT (cyc ns) = "()" := by unfold rowsT; rw [if_pos hc]
    rw [e0] at k
    exact k H1 s1
  rename_i h0
  have hc : cyc ns ≠ [] := fun e => h0 (by rw [e]; rfl)
  have e0 : rowsT (cyc ns) = Txt.join "" ((cyc ns).map rowT) := by unfold rowsT; rw [if_neg hc]
  rw [e0] at k
  refine ⟨⟨_, rfl⟩, ?_⟩
  refine cs_by (sq_l ep) (fun C j acc H' => Same H1 H' ∧ acc = (((cyc ns).take j).map rowT).map V.str) (fun C H0 n0 => ⟨n0.same, rfl⟩) (fun C j acc H' hC f o ho => f.1 _ _ ho) ?_ ?_
  · rintro C j x acc H4 N4 hC hx' hacc ⟨s4, rfl⟩ hN4
    obtain ⟨r, hr1, rfl⟩ : ∃ r, rows[j]? = some r ∧ x = V.ref r := by
      rw [List.getElem?_map] at hx'
      cases e : rows[j]? with
      | none => rw [e] at hx'; cases hx'
      | some r => rw [e] at hx'; exact ⟨r, rfl, (Option.some.inj hx').symm⟩
    have hjl : j < (cyc ns).length := by
      have := (List.getElem?_eq_some_iff.mp hr1).1
      omega
    have hc2 := List.getElem?_eq_getElem hjl
    generalize (cyc ns)[j] = c at hc2
    have er := s4 _ _ (hr.2 j r c hr1 hc2)
    obtain ⟨c1, c2, c3⟩ := cyc_len ma.m (List.mem_of_getElem? hc2)
    refine ⟨rfl, ?_⟩
    walk_at "wn"
    refine ⟨r, c, rfl, sq_t er, by omega, fun z hz => by have := c3 z hz; omega, fun H5 s5 => cst (s5 _ _ hacc) (by rw [List.length_map, List.length_map, List.length_take, sizeLine_eq]; omega) fun H6 p6 => hN4 _ _ p6.at_ ⟨p6.same (s4.trans s5) hC, ?_⟩⟩
    rw [List.take_add_one, hc2]
    simp
  · rintro C acc H4 hC hacc ⟨s4, rfl⟩
    rw [List.length_map, hrl, List.take_length] at hacc
    have hb : ((((cyc ns).map rowT)).map (·.length)).sum ≤ 50 * (cyc ns).length := by
      rw [List.map_map]
      refine sum_le _ fun c hc2 => ?_
      obtain ⟨c1, c2, c3⟩ := cyc_len ma.m hc2
      have := rowT_len (c := c) fun z hz => by have := c3 z hz; omega
      show (rowT c).length ≤ 50
      omega
    have le0 : (Str.ofString "").length = 0 := by decide +kernel
    exact ⟨C, rfl, _, .inl (SqL.of hacc), by rw [le0, Nat.mul_zero]; omega, k H4 (s1.trans s4)⟩
end

/-! ## W7 -/

section
variable {P : Program} {w : World} {K : PySem.W.Frag} {mg : Str → Option Value} {base : Heap}
theorem RowsAt.ge {s l : Addr} {H H' : Hp} {rows : List Addr} {cs : List (List Int)} (h : RowsAt H rows cs) (st : Sto s l H) (g : Ge s l H H') : RowsAt H' rows cs := ⟨h.1, fun k r c h1 h2 => by
  have e := h.2 k r c h1 h2
  exact g.k (st.ne' e (by intros; intro z; cases z)) e⟩
theorem RowsAt.snoc {H : Hp} {rows : List Addr} {cs : List (List Int)} {q : Addr} {c : List Int} (h : RowsAt H rows cs) (e : H q = some (.tup (c.map V.int))) : RowsAt H (rows ++ [q]) (cs ++ [c]) := by
  refine ⟨by rw [List.length_append, List.length_append, h.1]; rfl, fun k r c' h1 h2 => ?_⟩
  by_cases hk : k < rows.length
  · rw [List.getElem?_append_left hk] at h1
    rw [List.getElem?_append_left (by rw [← h.1]; exact hk)] at h2
    exact h.2 k r c' h1 h2
  · have hk2 : k = rows.length := by
      have := (List.getElem?_eq_some_iff.mp h1).1
      rw [List.length_append] at this
      simp at this
      omega
    subst hk2
    rw [List.getElem?_append_right (Nat.le_refl _)] at h1
    rw [h.1, List.getElem?_append_right (Nat.le_refl _)] at h2
    have e1 : q = r := by simpa using h1
    have e2 : c = c' := by simpa using h2
    subst e1 e2
    exact e
theorem perm_map {α β : Type} {f : α → β} : ∀ {l : List α} {xs : List β}, xs.Perm (l.map f) → ∃ zs : List α, xs = zs.map f ∧ zs.Perm l
  | [], xs, h => ⟨[], h.eq_nil, .refl _⟩
  | a :: l, xs, h => by
    have hm : f a ∈ xs := h.mem_iff.mpr List.mem_cons_self
    obtain ⟨u, t, rfl⟩ := List.append_of_mem hm
    have h2 : (u ++ t).Perm (l.map f) := (List.perm_middle.symm.trans h).cons_inv
    obtain ⟨zs, e, hp⟩ := perm_map h2
    obtain ⟨z1, z2, rfl, rfl, rfl⟩ := List.map_eq_append_iff.mp e.symm
    exact ⟨z1 ++ a :: z2, by rw [List.map_append, List.map_cons], List.perm_middle.trans (hp.cons a)⟩
/-- drawn rows are these groups in another order -/
theorem RowsAt.draw {H : Hp} {rows : List Addr} {cs : List (List Int)} {ys : List V} (h : RowsAt H rows cs) (p : ys.Perm (rows.map V.ref)) : ∃ (rows2 : List Addr) (cs2 : List (List Int)), ys = rows2.map V.ref ∧ cs2.Perm cs ∧ RowsAt H rows2 cs2 := by
  have hz : rows = (rows.zip cs).map Prod.fst := by rw [List.map_fst_zip (by rw [h.1]; exact Nat.le_refl _)]
  have e1 : rows.map V.ref = (rows.zip cs).map fun q => V.ref q.1 := by
    conv => lhs; rw [hz]
    rw [List.map_map]
    rfl
  rw [e1] at p
  obtain ⟨zs, hzs, hp⟩ : ∃ zs : List (Addr × List Int), ys = zs.map (fun q => V.ref q.1) ∧ zs.Perm (rows.zip cs) := perm_map p
  refine ⟨zs.map Prod.fst, zs.map Prod.snd, by rw [hzs, List.map_map]; rfl, ?_, by simp, fun k r c h1 h2 => ?_⟩
  · have := hp.map Prod.snd
    rw [List.map_snd_zip (by rw [h.1]; exact Nat.le_refl _)] at this
    exact this
  · rw [List.getElem?_map] at h1 h2
    cases e : zs[k]? with
    | none => rw [e] at h1; cases h1
    | some q =>
      rw [e] at h1 h2
      cases h1
      cases h2
      obtain ⟨j, hj⟩ := List.getElem?_of_mem (hp.mem_iff.mp (List.mem_of_getElem? e))
      rw [List.getElem?_zip_eq_some] at hj
      exact h.2 j _ _ hj.1 hj.2
def sp_loose : Sp := fun vs H Q _ => ∃ (s l a : Addr) (ns : List Int), vs = [.ref s, .ref a] ∧ Sto s l H ∧ MvA H (.ref a) a ns ∧ ∀ gs H', Ge s l H H' → Loose ns gs → Q (.str (Txt.join "" (gs.map rowT))) H'
abbrev st_law_loose_text : Stmt := topS 68
theorem sc_law_loose_text : FnScope ["store", "move", "groups", "row", "at", "p", "k"] ["store", "move"] (defScope st_law_loose_text) := ⟨rfl, rfl, rfl, by decide +kernel, rfl, by decide +kernel, by decide +kernel⟩
theorem ok_law_loose_text (D : Df K mg "_law_loose_text" st_law_loose_text) (T : NoB mg) (C_law_cycle_rows : Cl P w K mg base 2 "_law_cycle_rows" ["move"] sp_cyr) (C_law_drawn : Cl P w K mg base 3 "_law_drawn" ["store", "things", "many"] sp_drawn) (C_law_row_text : Cl P w K mg base 1 "_law_row_text" ["row"] sp_rowtxt) (C_law_take : Cl P w K mg base 2 "_law_take" ["store", "many"] sp_take) : Cl P w K mg base 4 "_law_loose_text" ["store", "move"] sp_loose := by
  refine cl_of D sc_law_loose_text (fun _ _ _ _ _ _ us hl => match us, hl with | [_, _], _ => rfl) (fun vs H Q E h => ?_) (fun f cdv A outer sh H vs Q E hr h => ?_)
  · obtain ⟨_, _, _, _, rfl, _⟩ := h; rfl
  obtain ⟨s, l, a, ns, rfl, st, ma, k⟩ := h
  refine ⟨_, (pss_cons (ps_set (i := 2) sc_law_loose_text.nd rfl (Or.inl rfl) (pe_lst pa_nil))
    (pss_cons (ps_for PassesOwn.never rfl (pi_sq (pe_cl C_law_cycle_rows hr (by rfl) (pa_cons (pv 1) pa_nil))) (pg_name (i := 3) sc_law_loose_text.nd rfl (Or.inl rfl)) (pss_cons (ps_set (i := 4) sc_law_loose_text.nd rfl (Or.inl rfl) (pe_cl C_law_take hr (by rfl) (pa_cons (pv 0) (pa_cons (pe_callB len1 (by rfl) T.no_len (by decide +kernel) (pa_cons (pv 3) pa_nil)) pa_nil))))
    (pss_one (ps_expr (pe_bm PySem.F.plainAttrs_list PySem.F.slot_list_append PySem.F.type_list_append mt_append (pv 2) (pa_cons (pe_op op_catA (pe_slice sl_tupA (pv 3) (po_some (pv 4)) po_none) (pe_slice sl_tupA (pv 3) po_none (po_some (pv 4)))) pa_nil))))))
    (pss_cons (ps_for PassesOwn.never rfl (pi_range1 (by rfl) T.no_range (pa_cons (pe_callB len1 (by rfl) T.no_len (by decide +kernel) (pa_cons (pv 1) pa_nil)) pa_nil)) (pg_name (i := 5) sc_law_loose_text.nd rfl (Or.inl rfl)) (pss_one (ps_if (PW.pt (pw_and (pt_cmpR op_eq (pe_ix ix1 (pv 1) (pv 5) (fun _ _ => rfl)) (pv 5) (nomark _)) (pw_and1 (pt_cmpR op_eq (pe_cl C_law_take hr (by rfl) (pa_cons (pv 0) (pa_cons pe_int pa_nil))) pe_int (nomark _))))) (pss_one (ps_expr (pe_bm PySem.F.plainAttrs_list PySem.F.slot_list_append PySem.F.type_list_append mt_append (pv 2) (pa_cons (pe_tup (pa_cons (pv 5) pa_nil)) pa_nil)))) pss_nil)))
    (pss_cons (ps_for PassesOwn.never rfl (pi_range1 (by rfl) T.no_range (pa_cons (pe_cl C_law_take hr (by rfl) (pa_cons (pv 0) (pa_cons pe_int pa_nil))) pa_nil)) (pg_name (i := 6) sc_law_loose_text.nd rfl (Or.inl rfl)) (pss_one (ps_expr (pe_bm PySem.F.plainAttrs_list PySem.F.slot_list_append PySem.F.type_list_append mt_append (pv 2) (pa_cons (pe_tup pa_nil) pa_nil)))))
    (pss_cons (ps_if (pt_cmpR op_eq (pe_callB len1 (by rfl) T.no_len (by decide +kernel) (pa_cons (pv 2) pa_nil)) pe_int (nomark _)) (pss_one (ps_expr (pe_bm PySem.F.plainAttrs_list PySem.F.slot_list_append PySem.F.type_list_append mt_append (pv 2) (pa_cons (pe_tup pa_nil) pa_nil)))) pss_nil)
    (pss_one (ps_ret (pe_join pe_str (pe_lc (own := [("row", 3)]) (g := gName 3) (tt := tYes) rfl sc_law_loose_text.nd (pi_sq (pe_cl C_law_drawn hr (by rfl) (pa_cons (pv 0) (pa_cons (pv 2) (pa_cons (pe_callB len1 (by rfl) T.no_len (by decide +kernel) (pa_cons (pv 2) pa_nil)) pa_nil))))) (blkOk_by (own := [("row", 3)]) (N := ["store", "move", "groups", "row", "at", "p", "k"]) (sc := defScope st_law_loose_text) (by decide +kernel)) (fun _ _ _ _ _ => (pg_name (i := 3) sc_law_loose_text.nd rfl (Or.inl rfl))) (fun _ _ _ _ _ => pts_nil) (fun _ _ _ _ _ => (pe_cl C_law_row_text hr (by rfl) (pa_cons (pv 3) pa_nil)))))))))))), ?_⟩
  have m := ma.m
  have ha := ma.at_
  have hl := ma.le
  have hla : (ns.map V.int).length = ns.length := List.length_map _
  walk_at "sn"
  refine ⟨szl (by decide), fun G H1 n1 => ?_⟩
  have hG := n1.fr
  have g1 : Ge s l H H1 := (Ge.refl st).new n1
  walk_at "sn"
  refine ⟨a, ns, rfl, ma.same n1.same, fun p rows H2 s2 hp ep hr => ?_⟩
  have g2 := g1.same s2
  have pH : H p = none := n1.same.free hp
  have pG : G ≠ p := fun e => by rw [← e, n1.at_] at hp; cases hp
  have aG : a ≠ G := ne_of_none ha hG
  have hcw := cyc_rws m
  have hcn := cyc_cnt m
  simp only [b_fsq]
  refine fs_by (sq_l ep) (fun i σ H' => Ge s l H H' ∧ H' p = some (.lst (rows.map V.ref)) ∧ RowsAt H' rows (cyc ns) ∧ ∃ (v3 v4 : Option V) (gr : List Addr) (gs : List (List Int)), σ = [some (.ref s), some (.ref a), some (.ref G), v3, v4, none, none] ∧ H' G = some (.lst (gr.map V.ref)) ∧ RowsAt H' gr gs ∧ Lp ns 0 gs ∧ gs.length = i ∧ ∀ z, z ∈ gs.flatten ↔ z ∈ ((cyc ns).take i).flatten)
    ⟨g2, ep, hr, _, _, [], [], rfl, s2 _ _ n1.at_, ⟨rfl, fun k r c h => by simp at h⟩, Lp.start, rfl, by simp⟩ (fun i σ' H' f o ho => by rw [ep] at ho; cases ho; exact f.2.1) ?_ ?_
  · rintro i x _ H3 N hN hx ⟨g3, ep3, hr3, v3, v4, gr, gs, rfl, eG3, hgr, lp, hgl, hfl⟩
    obtain ⟨r, hr1, rfl⟩ : ∃ r, rows[i]? = some r ∧ x = V.ref r := by
      rw [List.getElem?_map] at hx
      cases e : rows[i]? with
      | none => rw [e] at hx; cases hx
      | some r => rw [e] at hx; exact ⟨r, rfl, (Option.some.inj hx).symm⟩
    have hil : i < (cyc ns).length := by
      have := (List.getElem?_eq_some_iff.mp hr1).1
      rw [hr3.1] at this
      exact this
    have hc := List.getElem?_eq_getElem hil
    generalize (cyc ns)[i] = c at hc
    have hcm := List.mem_of_getElem? hc
    have er := hr3.2 i r c hr1 hc
    obtain ⟨c1, c2, c3⟩ := cyc_len m hcm
    walk_at "wn"
    walk_at "sn"
    have hlc : (c.map V.int).length = c.length := List.length_map _
    refine ⟨_, sq_t er, ?_⟩
    refine ⟨s, l, _, rfl, by rw [hlc]; omega, g3.st, fun t H4 g4 t0 t1 t2 => ?_⟩
    rw [hlc] at t1 t2
    have tl : t.toNat ≤ c.length := by
      by_cases h2 : (2 : Int) ≤ c.length
      · have := t1 h2; omega
      · have := t2 (by omega); omega
    have g34 := g3.trans g4
    have gS := (st.ne hG).1
    have pS := (st.ne pH).1
    have eG4 := g4.k gS eG3
    have ep4 := g4.k pS ep3
    have hr4 := hr3.ge g3.st g4
    have hgr4 := hgr.ge g3.st g4
    refine ⟨tyl eG4, t, rfl, b_slU ⟨_, hr4.2 i r c hr1 hc, fun u1 H5 s5 e5 => ?_⟩⟩
    rw [cut_from t0] at e5
    refine ⟨t, rfl, b_slU ⟨_, s5 _ _ (hr4.2 i r c hr1 hc), fun u2 H6 s6 e6 => ?_⟩⟩
    rw [cut_to t0] at e6
    refine b_catU ⟨_, _, s6 _ _ e5, e6, by rw [List.length_drop, List.length_take, hlc, sizeLine_eq]; omega, fun u3 H7 s7 e7 => ?_⟩
    rw [← List.map_drop, ← List.map_take, ← List.map_append] at e7
    have s47 := (s5.trans s6).trans s7
    have eG7 := s47 _ _ eG4
    have gl12 : gr.length ≤ 12 := by rw [hgr.1]; omega
    refine ⟨_, eG7, by rw [List.length_map, sizeLine_eq]; omega, fun H8 p8 => ?_⟩
    have u3G : u3 ≠ G := ne_of e7 eG7 (by intro z; cases z)
    have frG : ∀ {rows : List Addr} {cs : List (List Int)}, RowsAt H7 rows cs → ∀ r ∈ rows, r ≠ G := fun h => h.fr fun xs e => by rw [eG7] at e; cases e
    have hgr7 := hgr4.same s47
    have hr7 := hr4.same s47
    have hcm2 : ∀ z ∈ c, z ∈ (cyc ns).flatten := fun z hz => List.mem_flatten.mpr ⟨c, hcm, hz⟩
    have hnd := hcw.nd
    have htk : (cyc ns).take (i + 1) = (cyc ns).take i ++ [c] := by rw [List.take_add_one, hc]; rfl
    have hdj : (((cyc ns).take i).flatten ++ c).Nodup := by
      have h1 : (cyc ns).flatten = ((cyc ns).take (i + 1)).flatten ++ ((cyc ns).drop (i + 1)).flatten := by rw [← List.flatten_append, List.take_append_drop]
      rw [h1, htk] at hnd
      have h2 := (List.nodup_append.mp hnd).1
      simpa using h2
    have hdj2 := List.nodup_append.mp hdj
    refine hN _ _ ⟨(g34.same s47).put st hG p8, p8.k (Ne.symm pG) (s47 _ _ ep4), hr7.put p8 (frG hr7), _, _, gr ++ [u3], gs ++ [c.drop t.toNat ++ c.take t.toNat], rfl, by rw [p8.at_, List.map_append]; rfl, (hgr7.put p8 (frG hgr7)).snoc (p8.k u3G e7), lp.add ?_ (rot_nd hdj2.2.1) (fun z hz => c3 z (rot_mem.mp hz)) (fun z hz => ?_) (fun q hq => prA_cyc m hcm (prA_rot tl hq)), by rw [List.length_append, hgl]; rfl, fun z => ?_⟩
    · intro e
      have := congrArg List.length e
      rw [rot_len] at this
      simp at this
      rw [this] at c1
      simp at c1
    · rw [hfl z]
      exact fun h => hdj2.2.2 z h z (rot_mem.mp hz) rfl
    · have e1 : (gs ++ [c.drop t.toNat ++ c.take t.toNat]).flatten = gs.flatten ++ (c.drop t.toNat ++ c.take t.toNat) := by simp
      have e2 : (((cyc ns).take i) ++ [c]).flatten = ((cyc ns).take i).flatten ++ c := by simp
      have e3 := rot_mem (c := c) (k := t.toNat) (z := z)
      rw [htk, e1, e2, List.mem_append, hfl z, e3, List.mem_append]
  · rintro _ H3 ⟨g3, ep3, hr3, v3, v4, gr, gs, rfl, eG3, hgr, lp, hgl, hfl⟩
    walk_at "wn"
    walk_at "sn"
    have gS := (st.ne hG).1
    have hrl : (rows.map V.ref).length = (cyc ns).length := by rw [List.length_map, hr3.1]
    rw [hrl, List.take_length] at hfl
    rw [hrl] at hgl
    have aS := st.ne' ha (by intros; intro z; cases z)
    refine ⟨_, sq_t (g3.k aS ha), by omega, by omega, ?_⟩
    refine fr_by (fun i σ H' => Ge s l H H' ∧ ∃ (v5 : Option V) (gr : List Addr) (gs : List (List Int)), σ = [some (.ref s), some (.ref a), some (.ref G), v3, v4, v5, none] ∧ H' G = some (.lst (gr.map V.ref)) ∧ RowsAt H' gr gs ∧ Lp ns 0 gs ∧ (∀ z, InR ns z → im ns z ≠ z → z ∈ gs.flatten) ∧ ∀ z ∈ gs.flatten, im ns z ≠ z ∨ z < i)
      ⟨g3, _, gr, gs, rfl, eG3, hgr, lp, fun z hz hne => (hfl z).mpr ((cyc_mem m hz).mpr hne), fun z hz => .inl ((cyc_mem m (lp.rg z hz)).mp ((hfl z).mp hz))⟩ ?_ ?_
    · rintro i _ H4 N hN hi ⟨g4, v5, gr4, gs4, rfl, eG4, hgr4, lp4, hcv, hlt⟩
      have hi' : i < ns.length := by rw [hla] at hi; omega
      have hir : InR ns (i : Int) := ⟨by omega, by omega⟩
      have hz : (0 : Int) + (i : Int) = i := by omega
      rw [hz]
      have ap := m.at hir
      walk_at "wn"
      refine ⟨_, sq_t (g4.k aS ha), .int (im ns i), atI_of hir.1 (by rw [List.getElem?_map, ap.1]; rfl), rfl, ?_⟩
      have skip : ∀ H5, Ge s l H4 H5 → N [some (.ref s), some (.ref a), some (.ref G), v3, v4, some (.int i), none] H5 := fun H5 g5 => hN _ _ ⟨g4.trans g5, _, gr4, gs4, rfl, g5.k gS eG4, hgr4.ge g4.st g5, lp4, hcv, fun z hz => by rcases hlt z hz with h | h; exact .inl h; exact .inr (by omega)⟩
      split
      · rename_i he
        have he2 := V.int.inj he
        refine ⟨s, l, _, rfl, by decide, g4.st, fun t H5 g5 t0 t1 t2 => ?_⟩
        refine ⟨rfl, ?_⟩
        split
        · have eG5 := g5.k gS eG4
          have hgr5 := hgr4.ge g4.st g5
          have hfew := lp4.few
          have hfl4 : gs4.flatten.length ≤ ns.length := sub_len lp4.nd fun z hz => mem_rng.mpr (lp4.rg z hz)
          refine ⟨tyl eG5, szl (by decide), fun q H6 n6 => ⟨_, n6.k eG5, by rw [List.length_map, hgr5.1, sizeLine_eq]; omega, fun H7 p7 => ?_⟩⟩
          have hgr6 := hgr5.same n6.same
          have qG : q ≠ G := ne_of n6.at_ (n6.k eG5) (by intro z; cases z)
          have hni : (i : Int) ∉ gs4.flatten := fun h => by
            rcases hlt _ h with h2 | h2
            · exact h2 he2
            · omega
          refine hN _ _ ⟨((g4.trans g5).new n6).put st hG p7, _, gr4 ++ [q], gs4 ++ [[(i : Int)]], rfl, by rw [p7.at_, List.map_append]; rfl, (hgr6.put p7 (hgr6.fr fun xs e => by rw [n6.k eG5] at e; cases e)).snoc (p7.k qG n6.at_), lp4.add (by simp) (by simp) (fun z hz => by rw [List.mem_singleton.mp hz]; exact hir) (fun z hz => by rw [List.mem_singleton.mp hz]; exact hni) (fun q hq => ?_), fun z hz hne => ?_, fun z hz => ?_⟩
          · have : q = ((i : Int), (i : Int)) := List.mem_singleton.mp hq
            rw [this]
            exact he2
          · rw [List.flatten_append]
            exact List.mem_append_left _ (hcv z hz hne)
          · rw [List.flatten_append] at hz
            rcases List.mem_append.mp hz with h | h
            · rcases hlt z h with h | h
              · exact .inl h
              · exact .inr (by omega)
            · have : z = (i : Int) := by simpa using h
              exact .inr (by omega)
        · exact skip H5 g5
      · exact skip H4 (Ge.refl g4.st)
    · rintro _ H4 ⟨g4, v5, gr4, gs4, rfl, eG4, hgr4, lp4, hcv, hlt⟩
      walk_at "wn"
      walk_at "sn"
      refine ⟨s, l, _, rfl, by decide, g4.st, fun t H5 g5 t0 t1 t2 => ?_⟩
      have t3 := t1 (by decide)
      refine ⟨t, rfl, by omega, by omega, ?_⟩
      refine fr_by (fun i σ H' => Ge s l H H' ∧ ∃ (v6 : Option V) (gr : List Addr) (gs : List (List Int)), σ = [some (.ref s), some (.ref a), some (.ref G), v3, v4, v5, v6] ∧ H' G = some (.lst (gr.map V.ref)) ∧ RowsAt H' gr gs ∧ Lp ns i gs ∧ (∀ z, InR ns z → im ns z ≠ z → z ∈ gs.flatten))
        ⟨g4.trans g5, _, gr4, gs4, rfl, g5.k gS eG4, hgr4.ge g4.st g5, lp4, hcv⟩ ?_ ?_
      · rintro i _ H6 N hN hi ⟨g6, v6, gr6, gs6, rfl, eG6, hgr6, lp6, hcv6⟩
        have hfew := lp6.few
        have hfl6 : gs6.flatten.length ≤ ns.length := sub_len lp6.nd fun z hz => mem_rng.mpr (lp6.rg z hz)
        walk_at "wn"
        refine ⟨tyl eG6, szl (by decide), fun q H7 n7 => ⟨_, n7.k eG6, by rw [List.length_map, hgr6.1, sizeLine_eq]; omega, fun H8 p8 => ?_⟩⟩
        have hgr7 := hgr6.same n7.same
        have qG : q ≠ G := ne_of n7.at_ (n7.k eG6) (by intro z; cases z)
        refine hN _ _ ⟨(g6.new n7).put st hG p8, _, gr6 ++ [q], gs6 ++ [[]], rfl, by rw [p8.at_, List.map_append]; rfl, (hgr7.put p8 (hgr7.fr fun xs e => by rw [n7.k eG6] at e; cases e)).snoc (p8.k qG n7.at_), lp6.nil, fun z hz hne => ?_⟩
        rw [List.flatten_append]
        exact List.mem_append_left _ (hcv6 z hz hne)
      · rintro _ H6 ⟨g6, v6, gr6, gs6, rfl, eG6, hgr6, lp6, hcv6⟩
        walk_at "wn"
        walk_at "sn"
        have i3 : t.toNat ≤ 3 := by omega
        have hfew := lp6.few
        have hfl6 : gs6.flatten.length ≤ ns.length := sub_len lp6.nd fun z hz => mem_rng.mpr (lp6.rg z hz)
        refine (fun (key : ∀ H7 gr gs, Ge s l H H7 → H7 G = some (.lst (gr.map V.ref)) → RowsAt H7 gr gs → Loose ns gs → sp_drawn [V.ref s, V.ref G, V.int ↑(gr.map V.ref).length] H7 (fun x H1 => CSqV K x (gName 3) tYes (tCall sp_rowtxt [] E0 (tCons (tVar 3) tNil)) [3] [some (V.ref s), some (V.ref a), some (V.ref G), v3, v4, v5, v6] H1 fun y H2 =>
          ∃ x, y = V.ref x ∧ ∃ x_1, (SqL K H2 x (List.map V.str x_1) ∨ SqT K H2 x (List.map V.str x_1)) ∧ (List.map (fun x => x.length) x_1).sum + x_1.length * (Str.ofString "").length ≤ 16777216 ∧ Q (V.str (Txt.join (Str.ofString "") x_1)) H2) E0) => ?main) ?inner
        case main =>
          refine ⟨_, sq_l eG6, ?_⟩
          split
          · rename_i h0
            refine ⟨tyl eG6, szl (by decide), fun q H7 n7 => ⟨_, n7.k eG6, by rw [List.length_map, hgr6.1, sizeLine_eq]; omega, fun H8 p8 => ?_⟩⟩
            have hgr7 := hgr6.same n7.same
            have qG : q ≠ G := ne_of n7.at_ (n7.k eG6) (by intro z; cases z)
            have e8 : H8 G = some (.lst ((gr6 ++ [q]).map V.ref)) := by rw [p8.at_, List.map_append]; rfl
            refine ⟨⟨_, rfl⟩, _, sq_l e8, key H8 (gr6 ++ [q]) (gs6 ++ [[]]) ((g6.new n7).put st hG p8) e8 ((hgr7.put p8 (hgr7.fr fun xs e => by rw [n7.k eG6] at e; cases e)).snoc (p8.k qG n7.at_)) (lp6.nil.loose m (by omega) (by simp) fun z hz hne => ?_)⟩
            rw [List.flatten_append]
            exact List.mem_append_left _ (hcv6 z hz hne)
          · rename_i h0
            refine ⟨⟨_, rfl⟩, _, sq_l eG6, key H6 gr6 gs6 g6 eG6 hgr6 (lp6.loose m (by omega) (fun e => h0 ?_) hcv6)⟩
            rw [List.length_map, hgr6.1, e]
            rfl
        intro H7 gr gs g7 eG7 hgr7 lo
        have gl : gr.length ≤ 16 := by
          have := lo.few
          have : gs.flatten.length ≤ ns.length := sub_len lo.rws.nd fun z hz => mem_rng.mpr (lo.rws.rg z hz)
          rw [hgr7.1]
          omega
        have hgl : (gr.map V.ref).length = gr.length := List.length_map _
        refine ⟨s, l, G, _, _, rfl, g7.st, sq_l eG7, by omega, by omega, fun q H8 ys rest g8 hq eq hp hyl => ?_⟩
        rw [if_neg (by omega)] at hyl
        have hrest : rest = [] := by
          have := hp.length_eq
          rw [List.length_append] at this
          exact List.eq_nil_of_length_eq_zero (by omega)
        rw [hrest, List.append_nil] at hp
        obtain ⟨rows2, cs2, rfl, hp2, hr8⟩ := (hgr7.ge g7.st g8).draw hp
        have lo2 : Loose ns cs2 := lo.perm hp2
        show CSqV K (V.ref q) _ _ _ _ _ _ _
        rw [b_csq]
        have g78 := g7.trans g8
        have l2 : cs2.length ≤ 16 := by
          have := lo2.few
          have : cs2.flatten.length ≤ ns.length := sub_len lo2.rws.nd fun z hz => mem_rng.mpr (lo2.rws.rg z hz)
          omega
        have hcl : ∀ c ∈ cs2, c.length ≤ 12 ∧ ∀ z ∈ c, 0 ≤ z ∧ z < 1000 := fun c hc => ⟨by have := lo2.rws.row hc; omega, fun z hz => by have := lo2.rws.rg z (List.mem_flatten.mpr ⟨c, hc, hz⟩); omega⟩
        refine cs_by (sq_l eq) (fun C j acc H' => Same H8 H' ∧ acc = ((cs2.take j).map rowT).map V.str) (fun C H0 n0 => ⟨n0.same, rfl⟩) (fun C j acc H' hC f o ho => f.1 _ _ ho) ?_ ?_
        · rintro C j x acc H9 N9 hC hx' hacc ⟨s9, rfl⟩ hN9
          obtain ⟨r, hr1, rfl⟩ : ∃ r, rows2[j]? = some r ∧ x = V.ref r := by
            rw [List.getElem?_map] at hx'
            cases e : rows2[j]? with
            | none => rw [e] at hx'; cases hx'
            | some r => rw [e] at hx'; exact ⟨r, rfl, (Option.some.inj hx').symm⟩
          have hjl : j < cs2.length := by
            have := (List.getElem?_eq_some_iff.mp hr1).1
            have := hr8.1
            omega
          have hc2 := List.getElem?_eq_getElem hjl
          generalize cs2[j] = c at hc2
          have er := s9 _ _ (hr8.2 j r c hr1 hc2)
          have hcl2 := hcl c (List.mem_of_getElem? hc2)
          refine ⟨rfl, ?_⟩
          walk_at "wn"
          refine ⟨r, c, rfl, sq_t er, by omega, hcl2.2, fun H10 s10 => cst (s10 _ _ hacc) (by rw [List.length_map, List.length_map, List.length_take, sizeLine_eq]; omega) fun H11 p11 => hN9 _ _ p11.at_ ⟨p11.same (s9.trans s10) hC, ?_⟩⟩
          rw [List.take_add_one, hc2]
          simp
        · rintro C acc H9 hC hacc ⟨s9, rfl⟩
          rw [List.length_map, hr8.1, List.take_length] at hacc
          have hb : ((cs2.map rowT).map (·.length)).sum ≤ 50 * cs2.length := by
            rw [List.map_map]
            refine sum_le _ fun c hc2 => ?_
            obtain ⟨c1, c2⟩ := hcl c hc2
            have := rowT_len c2
            show (rowT c).length ≤ 50
            omega
          have le0 : (Str.ofString "").length = 0 := by decide +kernel
          exact ⟨C, rfl, _, .inl (SqL.of hacc), by rw [le0, Nat.mul_zero]; omega, k cs2 H9 (g78.same s9) lo2⟩
end

/-! ## W8 -/

section
variable {P : Program} {w : World} {K : PySem.W.Frag} {mg : Str → Option Value} {base : Heap}
def dgV (n : Nat) (z : Str) : Int := match rdW n z with
  | some i => (i : Int)
  | none => -1
def sp_digits : Sp := fun vs H Q _ => ∃ (n : Nat) (z : Str), vs = [.str z, .int ((n : Int) - 1)] ∧ n ≤ 12 ∧ z.length ≤ 1000000 ∧ Q (.int (dgV n z)) H
abbrev st_law_digits : Stmt := topS 64
theorem sc_law_digits : FnScope ["word", "most", "sign", "number"] ["word", "most"] (defScope st_law_digits) := ⟨rfl, rfl, rfl, by decide +kernel, rfl, by decide +kernel, by decide +kernel⟩
theorem ok_law_digits (D : Df K mg "_law_digits" st_law_digits) (T : NoB mg)  : Cl P w K mg base 1 "_law_digits" ["word", "most"] sp_digits := by
  refine cl_of D sc_law_digits (fun _ _ _ _ _ _ us hl => match us, hl with | [_, _], _ => rfl) (fun vs H Q E h => ?_) (fun f cdv A outer sh H vs Q E hr h => ?_)
  · obtain ⟨_, _, rfl, _⟩ := h; rfl
  obtain ⟨n, z, rfl, hn, hz, k⟩ := h
  refine ⟨_, (pss_cons (ps_if (PW.pt (pw_or (pt_cmpR op_eq (pe_callB call_len_str (by rfl) T.no_len (by decide +kernel) (pa_cons (pv 0) pa_nil)) pe_int (nomark _)) (pw_or1 (pt_cmpR op_gt (pe_callB call_len_str (by rfl) T.no_len (by decide +kernel) (pa_cons (pv 0) pa_nil)) pe_int (nomark _))))) (pss_one (ps_ret (pe_un un_neg pe_int))) pss_nil)
    (pss_cons (ps_for PassesOwn.never rfl (pi_str (pv 0)) (pg_name (i := 2) sc_law_digits.nd rfl (Or.inl rfl)) (pss_one (ps_if (pt_cmpR op_notIn_str (pv 2) pe_str (by rfl)) (pss_one (ps_ret (pe_un un_neg pe_int))) pss_nil)))
    (pss_cons (ps_if (PW.pt (pw_and (pt_cmpR op_eq (pe_ix ix_str (pv 0) pe_int (fun _ _ => rfl)) pe_str (nomark _)) (pw_and1 (pt_cmpR op_gt (pe_callB call_len_str (by rfl) T.no_len (by decide +kernel) (pa_cons (pv 0) pa_nil)) pe_int (nomark _))))) (pss_one (ps_ret (pe_un un_neg pe_int))) pss_nil)
    (pss_cons (ps_set (i := 3) sc_law_digits.nd rfl (Or.inl rfl) (pe_callTy call_int_str (by rfl) T.no_int (by decide +kernel) (pa_cons (pv 0) pa_nil)))
    (pss_cons (ps_if (pt_cmpR op_gt (pv 3) (pv 1) (nomark _)) (pss_one (ps_ret (pe_un un_neg pe_int))) pss_nil)
    (pss_one (ps_ret (pv 3)))))))), ?_⟩
  have bad : (∀ i : Nat, i < n → z ≠ pt i) → Q (.int (-1)) H := fun hb => by
    have e : dgV n z = -1 := by unfold dgV; rw [rdW_no hb]
    rw [e] at k
    exact k
  have ptl : ∀ i : Nat, i < n → 1 ≤ (pt i).length ∧ (pt i).length ≤ 3 := fun i hi => pt_len (by omega)
  walk_at "sn"
  refine ⟨by rw [sizeLine_eq]; omega, ?_⟩
  split
  · rename_i h0
    exact bad fun i hi e => by have := ptl i hi; rw [← e] at this; omega
  rename_i h0
  refine ⟨by rw [sizeLine_eq]; omega, ?_⟩
  split
  · rename_i h3
    exact bad fun i hi e => by have := ptl i hi; rw [← e] at this; omega
  rename_i h3
  walk_at "sn"
  refine fst_by (fun i σ H' => H' = H ∧ (∃ v2, σ = [some (.str z), some (.int ((n : Int) - 1)), v2, none]) ∧ ∀ c ∈ (TL.tl z).take i, 48 ≤ c ∧ c ≤ 57) ⟨rfl, ⟨_, rfl⟩, by simp⟩ ?_ ?_
  · rintro i c _ H1 N hN hc ⟨rfl, ⟨v2, rfl⟩, hd⟩
    have hc' : (TL.tl z)[i]? = some c := hc
    walk_at "wn"
    have fo := PySem.StrLaws.found_one "0123456789" c
    have dg : (Str.ofString "0123456789").cps.toList = [48, 49, 50, 51, 52, 53, 54, 55, 56, 57] := by decide +kernel
    rw [dg] at fo
    by_cases hm : 48 ≤ c ∧ c ≤ 57
    · have : c ∈ [48, 49, 50, 51, 52, 53, 54, 55, 56, 57] := by
        simp only [List.mem_cons, List.not_mem_nil, or_false]
        omega
      rw [decide_eq_true this] at fo
      rw [if_neg (by simpa using fo)]
      refine hN _ _ ⟨rfl, ⟨_, rfl⟩, fun x hx => ?_⟩
      rw [List.take_add_one, hc'] at hx
      rcases List.mem_append.mp hx with h | h
      · exact hd x h
      · have : x = c := by simpa using h
        rw [this]
        exact hm
    · have : c ∉ [48, 49, 50, 51, 52, 53, 54, 55, 56, 57] := by
        simp only [List.mem_cons, List.not_mem_nil, or_false]
        omega
      rw [decide_eq_false this] at fo
      rw [if_pos (by simpa using fo)]
      exact bad fun i hi e => hm (pt_digits i c (e ▸ List.mem_of_getElem? hc'))
  · rintro _ H1 ⟨rfl, ⟨v2, rfl⟩, hd⟩
    have hd2 : ∀ c ∈ TL.tl z, 48 ≤ c ∧ c ≤ 57 := fun c hc => hd c (by rw [List.take_of_length_le (Nat.le_refl _)]; exact hc)
    have hlz := TL.len_tl z
    walk_at "wn"
    walk_at "sn"
    refine (fun (key : (1 < z.length → (TL.tl z)[0]? ≠ some 48) → ?cont) => ?main) ?inner
    case main =>
      refine ⟨by rw [sizeLine_eq]; omega, ?_⟩
      have h00 : (TL.tl z)[0]? = some (TL.tl z)[0] := List.getElem?_eq_getElem (by omega)
      refine ⟨(TL.tl z)[0], atI_of (by decide) h00, ?_⟩
      split
      · rename_i hc
        have hc2 : (TL.tl z)[0] = 48 := by
          have := congrArg TL.tl hc
          have e0 : TL.tl (Str.ofString "0") = [48] := by decide +kernel
          rw [e0] at this
          have t2 : [(TL.tl z)[0]] = [48] := this
          exact List.head_eq_of_cons_eq t2
        refine ⟨by rw [sizeLine_eq]; omega, ?_⟩
        split
        · rename_i h1
          refine bad fun i hi e => ?_
          have := pt_zero (i := i) (by rw [← e, h00, hc2])
          rw [← e] at this
          omega
        · rename_i h1
          exact key fun h => absurd h (by omega)
      · rename_i hc
        refine key fun _ e => hc ?_
        rw [h00] at e
        have e2 : (TL.tl z)[0] = 48 := Option.some.inj e
        rw [e2]
        exact TL.ext_tl (by decide +kernel)
    intro hz0
    obtain ⟨mm, hm, hmz⟩ := dig3 hd2 (by omega) (by omega) (by rw [← hlz]; exact hz0)
    have ez : z = pt mm := TL.ext_tl (by rw [tl_pt]; exact hmz.symm)
    walk_at "sn"
    refine ⟨(mm : Int), ?_, by omega, ?_⟩
    · rw [ez]
      exact TL.int_num (by rw [hmz]; omega)
    walk_at "sn"
    split
    · rename_i hgt
      exact bad fun i hi e => by
        have := pt_inj (ez.symm.trans e)
        omega
    · rename_i hgt
      have e : dgV n z = (mm : Int) := by unfold dgV; rw [ez, rdW_pt (by omega)]
      rw [e] at k
      exact k
end

/-! ## W9 -/

theorem one_at {l : List Nat} {i c : Nat} : ((l.drop i).take 1 == [c]) = decide (l[i]? = some c) := by
  have h : l[i]? = (l.drop i).head? := (List.head?_drop).symm
  rw [h]
  cases l.drop i with
  | nil => rfl
  | cons x r =>
    show ([x] == [c]) = decide (some x = some c)
    by_cases e : x = c
    · subst e; simp
    · simp [e]
theorem se_eq {z : Str} : (Txt.startswith z "(" && Txt.endswith z ")") = decide (2 ≤ z.length ∧ (TL.tl z)[0]? = some 40 ∧ (TL.tl z)[z.length - 1]? = some 41) := by
  have l1 : ("(" : Str).length = 1 := by decide
  have l2 : (")" : Str).length = 1 := by decide
  have e : (Txt.startswith z "(" && Txt.endswith z ")") = ((decide (0 + 1 ≤ z.length) && decide ((TL.tl z)[0]? = some 40)) && (decide (0 + 1 ≤ z.length) && decide ((TL.tl z)[z.length - 1]? = some 41))) := by
    unfold Txt.startswith Txt.endswith
    rw [PySem.StrLaws.subAt_eq, PySem.StrLaws.subAt_eq, l1, l2]
    show (decide (0 + 1 ≤ z.length) && (((TL.tl z).drop 0).take 1 == TL.tl ("(" : Str)) && (decide (0 + 1 ≤ z.length) && (((TL.tl z).drop (z.length - 1)).take 1 == TL.tl (")" : Str)))) = _
    rw [tl_c1.1, tl_c1.2.1, one_at, one_at]
  rw [e, ← Bool.decide_and, ← Bool.decide_and, ← Bool.decide_and]
  refine decide_eq_decide.mpr ⟨fun ⟨⟨a, b⟩, c, d⟩ => ⟨?_, b, d⟩, fun ⟨a, b, c⟩ => ⟨⟨by omega, b⟩, by omega, c⟩⟩
  refine Classical.byContradiction fun h => ?_
  have : z.length - 1 = 0 := by omega
  rw [this, b] at d
  cases d
section
variable {P : Program} {w : World} {K : PySem.W.Frag} {mg : Str → Option Value} {base : Heap}
/-- what was seen: a dict of points -/
def SeenAt (S : Addr) (st : List Int) (H : Hp) : Prop := ∃ kvs, H S = some (.dK kvs) ∧ kvs.length ≤ st.length ∧ ∀ z : Int, (valV kvs (.inl z)).isSome = decide (z ∈ st)
theorem SeenAt.same {S : Addr} {st : List Int} {H H' : Hp} (h : SeenAt S st H) (s : Same H H') : SeenAt S st H' := by
  obtain ⟨kvs, e, h⟩ := h
  exact ⟨kvs, s _ _ e, h⟩
theorem SeenAt.put {S a : Addr} {st : List Int} {H H' : Hp} {o : HO} (h : SeenAt S st H) (hn : S ≠ a) (p : Put H a o H') : SeenAt S st H' := by
  obtain ⟨kvs, e, h⟩ := h
  exact ⟨kvs, p.k hn e, h⟩
theorem SeenAt.add {S : Addr} {st : List Int} {H : Hp} {kvs : List (Key × V)} {z : Int} (e : H S = some (.dK kvs)) (h1 : kvs.length ≤ st.length) (h2 : ∀ z : Int, (valV kvs (.inl z)).isSome = decide (z ∈ st)) (hz : z ∉ st) : SeenAt S (st ++ [z]) (upd H S (.dK (putK kvs (.inl z) (.bl true)))) := by
  refine ⟨_, upd_same, ?_, fun y => ?_⟩
  · rw [putK_new _ (by
      have := h2 z
      rw [decide_eq_false hz] at this
      cases e : valV kvs (.inl z) with
      | none => rfl
      | some u => rw [e] at this; cases this)]
    simp
    omega
  · rw [valV_put]
    by_cases c : y = z
    · subst c
      simp
    · rw [if_neg (fun e => c (Sum.inl.inj e)), h2 y]
      congr 1
      simp [c]
def sp_lrm : Sp := fun vs H Q _ => ∃ (n : Nat) (z : Str), vs = [.int n, .str z] ∧ n ≤ 12 ∧ z.length ≤ 100000 ∧ (rdL true n z = none → ∀ H', Same H H' → Q .non H') ∧
  ∀ ns, rdL true n z = some ns → ns.length = n → ∀ a H', Same H H' → H a = none → MvA H' (.ref a) a ns → Q (.ref a) H'
abbrev st_law_read_move : Stmt := topS 69
theorem sc_law_read_move : FnScope ["points", "text", "image", "seen", "part", "row", "word", "p", "k"] ["points", "text"] (defScope st_law_read_move) := ⟨rfl, rfl, rfl, by decide +kernel, rfl, by decide +kernel, by decide +kernel⟩
theorem ok_law_read_move (D : Df K mg "_law_read_move" st_law_read_move) (T : NoB mg) (C_law_digits : Cl P w K mg base 1 "_law_digits" ["word", "most"] sp_digits) : Cl P w K mg base 2 "_law_read_move" ["points", "text"] sp_lrm := by
  refine cl_of D sc_law_read_move (fun _ _ _ _ _ _ us hl => match us, hl with | [_, _], _ => rfl) (fun vs H Q E h => ?_) (fun f cdv A outer sh H vs Q E hr h => ?_)
  · obtain ⟨_, _, rfl, _⟩ := h; rfl
  obtain ⟨n, z, rfl, hn, hz, k1, k2⟩ := h
  refine ⟨_, (pss_cons (ps_if (PW.pt (pw_or (pt_cmpR op_lt (pe_callB call_len_str (by rfl) T.no_len (by decide +kernel) (pa_cons (pv 1) pa_nil)) pe_int (nomark _)) (pw_or (pt_cmpR op_ne (pe_ix ix_str (pv 1) pe_int (fun _ _ => rfl)) pe_str (nomark _)) (pw_or1 (pt_cmpR op_ne (pe_ix ix_str (pv 1) (pe_un un_neg pe_int) (fun _ _ => rfl)) pe_str (nomark _)))))) (pss_one (ps_ret pe_non)) pss_nil)
    (pss_cons (ps_set (i := 2) sc_law_read_move.nd rfl (Or.inl rfl) (pe_listRg rfl (by rfl) T.no_list (prg_1 (by rfl) T.no_range (pv 0))))
    (pss_cons (ps_set (i := 3) sc_law_read_move.nd rfl (Or.inl rfl) pe_dnewK)
    (pss_cons (ps_for PassesOwn.never rfl (pi_sq (pe_split (pe_slice sl_str (pv 1) (po_some pe_int) (po_some (pe_un un_neg pe_int))) pe_str)) (pg_name (i := 4) sc_law_read_move.nd rfl (Or.inl rfl)) (pss_cons (ps_set (i := 5) sc_law_read_move.nd rfl (Or.inl rfl) (pe_lst pa_nil))
    (pss_cons (ps_if (pt_cmpR op_ne (pv 4) pe_str (nomark _)) (pss_one (ps_for PassesOwn.never rfl (pi_sq (pe_split (pv 4) pe_str)) (pg_name (i := 6) sc_law_read_move.nd rfl (Or.inl rfl)) (pss_cons (ps_set (i := 7) sc_law_read_move.nd rfl (Or.inl rfl) (pe_cl C_law_digits hr (by rfl) (pa_cons (pv 6) (pa_cons (pe_op op_sub (pv 0) pe_int) pa_nil))))
    (pss_cons (ps_if (PW.pt (pw_or (pt_cmpR op_lt (pv 7) pe_int (nomark _)) (pw_or1 (pt_cmp (pc_din (hu_of hr) (pv 7) (pv 3)) rfl)))) (pss_one (ps_ret pe_non)) pss_nil)
    (pss_cons (ps_asg pe_bl (pg_sub (pv 3) (pv 7) (set_dict (hu_of hr))))
    (pss_one (ps_expr (pe_bm PySem.F.plainAttrs_list PySem.F.slot_list_append PySem.F.type_list_append mt_append (pv 5) (pa_cons (pv 7) pa_nil))))))))) pss_nil)
    (pss_one (ps_for PassesOwn.never rfl (pi_range1 (by rfl) T.no_range (pa_cons (pe_callB len1 (by rfl) T.no_len (by decide +kernel) (pa_cons (pv 5) pa_nil)) pa_nil)) (pg_name (i := 8) sc_law_read_move.nd rfl (Or.inl rfl)) (pss_one (ps_asg (pe_ix ix1 (pv 5) (pe_op op_modN (pe_callTy int1 (by rfl) T.no_int (by decide +kernel) (pa_cons (pe_op op_add (pv 8) pe_int) pa_nil)) (pe_callB len1 (by rfl) T.no_len (by decide +kernel) (pa_cons (pv 5) pa_nil))) (fun _ _ => rfl)) (pg_sub (pv 2) (pe_ix ix1 (pv 5) (pv 8) (fun _ _ => rfl)) set_list))))))))
    (pss_one (ps_ret (pe_callTy tup1 (by rfl) T.no_tuple (by decide +kernel) (pa_cons (pv 2) pa_nil)))))))), ?_⟩
  have rdn : ¬ (2 ≤ z.length ∧ (TL.tl z)[0]? = some 40 ∧ (TL.tl z)[z.length - 1]? = some 41) → Q .non H := fun hn => by
    refine k1 ?_ H (Same.refl _)
    unfold rdL rdT
    rw [se_eq, decide_eq_false hn]
    rfl
  have hlz := TL.len_tl z
  walk_at "sn"
  refine ⟨by rw [sizeLine_eq]; omega, ?_⟩
  split
  · exact rdn fun h => by omega
  rename_i h2
  refine ⟨by rw [sizeLine_eq]; omega, ?_⟩
  have c00 : (TL.tl z)[0]? = some (TL.tl z)[0] := List.getElem?_eq_getElem (by omega)
  have c01 : (TL.tl z)[z.length - 1]? = some (TL.tl z)[z.length - 1] := List.getElem?_eq_getElem (by omega)
  have one : ∀ {c d : Nat} {x : Str}, TL.tl x = [d] → ((⟨#[c]⟩ : Str) = x ↔ c = d) := fun {c d x} hx => ⟨fun e => by
    have := congrArg TL.tl e
    rw [hx] at this
    have t2 : [c] = [d] := this
    exact List.head_eq_of_cons_eq t2, fun e => TL.ext_tl (by rw [hx, e])⟩
  refine ⟨_, atI_of (by decide) c00, ?_⟩
  split
  · rename_i hc
    exact rdn fun h => hc ((one tl_c1.1).mpr (by have := h.2.1; rw [c00] at this; exact Option.some.inj this))
  rename_i hc0
  refine ⟨by rw [sizeLine_eq]; omega, (TL.tl z)[z.length - 1], ?_, ?_⟩
  · unfold atI ixN
    have hl2 : z.cps.toList.length = z.length := hlz.symm
    rw [if_neg (by decide), if_pos (by omega)]
    show z.cps.toList[_]? = _
    have e : ((-1 : Int) + (z.cps.toList.length : Int)).toNat = z.length - 1 := by omega
    rw [e]
    exact c01
  split
  · rename_i hc
    exact rdn fun h => hc ((one tl_c1.2.1).mpr (by have := h.2.2; rw [c01] at this; exact Option.some.inj this))
  rename_i hc1
  have hse : (Txt.startswith z "(" && Txt.endswith z ")") = true := by
    rw [se_eq]
    exact decide_eq_true ⟨by omega, by rw [c00, (one tl_c1.1).mp (Classical.not_not.mp hc0)], by rw [c01, (one tl_c1.2.1).mp (Classical.not_not.mp hc1)]⟩
  have hrd : rdT n z = (rdRows n [] [] ((Txt.split (cutS z (some 1) (some (-1))) ")(").map wrds)).map (·.2) := by unfold rdT; rw [hse, if_pos rfl]
  have hno : rdT n z = none → ∀ H', Same H H' → Q .non H' := fun e => k1 (by unfold rdL; rw [if_pos rfl, e]; rfl)
  have hyes : ∀ rs, rdT n z = some rs → ∀ a H', Same H H' → H a = none → H' a = some (.tup ((mvT n rs).map V.int)) → Q (.ref a) H' := fun rs e a H' s ha ea => by
    obtain ⟨ml, mp⟩ := mvT_mv (rdT_rws e)
    exact k2 _ (by unfold rdL; rw [if_pos rfl, e]; rfl) ml a H' s ha ⟨rfl, ea, by omega, by rw [ml]; exact mp⟩
  walk_at "sn"
  refine ⟨.of_le (by decide) (by omega) (by decide) (by omega), fun L H1 n1 => ?_⟩
  have eL := n1.at_
  rw [rgV_rng (by omega)] at eL
  have en : (n : Int).toNat = n := by omega
  rw [en] at eL
  have hL := n1.fr
  walk_at "sn"
  simp only [a_dnew]
  intro S H2 n2
  have s2 := n1.same.trans n2.same
  have hS : H S = none := n1.same.free n2.fr
  have hLS : L ≠ S := n2.ne eL
  walk_at "sn"
  have hcl := cut_le z (some 1) (some (-1))
  generalize hm : cutS z (some 1) (some (-1)) = m at hrd hcl
  refine ⟨by rw [sizeLine_eq]; omega, ⟨_, rfl⟩, by decide +kernel, by rw [sizeLine_eq]; omega, fun p hp => ?_⟩
  have hpl := PyProof.Rows.split_le m ")("
  have hpm : ∀ q ∈ Txt.split m ")(", q.length ≤ 100000 := fun q hq => Nat.le_trans (split_mem hq) (by omega)
  generalize hps : Txt.split m ")(" = ps at hrd hpl hpm
  have np : New H2 p (.lst (ps.map V.str)) (upd H2 p (.lst (ps.map V.str))) := New.mk' hp
  generalize upd H2 p (.lst (ps.map V.str)) = H5 at np
  have s5 := s2.trans np.same
  have hpH : H p = none := s2.free hp
  have hLp : L ≠ p := np.ne (n2.k eL)
  have hSp : S ≠ p := np.ne n2.at_
  simp only [b_fsq]
  refine fs_by (sq_l np.at_) (fun i σ H' => Same H H' ∧ H' p = some (.lst (ps.map V.str)) ∧ ∃ (v4 v5 v6 v7 v8 : Option V) (rs : List (List Int)), σ = [some (.int n), some (.str z), some (.ref L), some (.ref S), v4, v5, v6, v7, v8] ∧
    H' L = some (.lst ((asg (rng n) (rs.flatMap prA)).map V.int)) ∧ SeenAt S rs.flatten H' ∧ Rws n rs ∧ rdRows n [] [] (ps.map wrds) = rdRows n rs.flatten rs ((ps.map wrds).drop i))
    ⟨s5, np.at_, _, _, _, _, _, [], rfl, np.k (n2.k eL), ⟨[], np.k n2.at_, by simp, by simp [valV]⟩, ⟨by simp, by simp⟩, rfl⟩ (fun i σ' H' f o ho => by rw [np.at_] at ho; cases ho; exact f.2.1) ?_ ?_
  · rintro i x _ H6 N hN hx ⟨s6, ep, v4, v5, v6, v7, v8, rs, rfl, eL6, seen6, hw, hrem⟩
    obtain ⟨t, ht, rfl⟩ : ∃ t, ps[i]? = some t ∧ x = V.str t := by
      rw [List.getElem?_map] at hx
      cases e : ps[i]? with
      | none => rw [e] at hx; cases hx
      | some t => rw [e] at hx; exact ⟨t, rfl, (Option.some.inj hx).symm⟩
    have htl := hpm t (List.mem_of_getElem? ht)
    have hit : (ps.map wrds).drop i = wrds t :: (ps.map wrds).drop (i + 1) := by
      have hi := (List.getElem?_eq_some_iff.mp ht).1
      rw [List.drop_eq_getElem_cons (by rw [List.length_map]; exact hi), List.getElem_map, (List.getElem?_eq_some_iff.mp ht).2]
    rw [hit, rdRows_cons] at hrem
    have hwl : (wrds t).length ≤ 100002 := by
      unfold wrds
      split
      · simp
      · have := PyProof.Rows.split_le t " "
        omega
    walk_at "wn"
    rw [a_seq]
    walk_at "wn"
    refine ⟨szl (by decide), fun g H7 n7 => ?_⟩
    have hg : H g = none := s6.free n7.fr
    have s7 := s6.trans n7.same
    have gL : g ≠ L := fun e => by rw [← e, n7.fr] at eL6; cases eL6
    have gp : g ≠ p := fun e => by rw [← e, n7.fr] at ep; cases ep
    have gS : g ≠ S := fun e => by
      obtain ⟨kvs, e2, _⟩ := seen6
      rw [← e, n7.fr] at e2
      cases e2
    walk_at "wn"
    refine seq_join (fun σ H' => Same H H' ∧ H' p = some (.lst (ps.map V.str)) ∧ ∃ (v6 v7 : Option V) (c : List Int), σ = [some (.int n), some (.str z), some (.ref L), some (.ref S), some (.str t), some (.ref g), v6, v7, v8] ∧ H' L = some (.lst ((asg (rng n) (rs.flatMap prA)).map V.int)) ∧ SeenAt S (rs.flatten ++ c) H' ∧ H' g = some (.lst (c.map V.int)) ∧ Rws n (rs ++ [c]) ∧ rdRow n rs.flatten [] (wrds t) = some (rs.flatten ++ c, c)) (fun M hM => ?_) ?_
    · walk_at "wn"
      have hwr : ∀ c : List Int, rdRow n rs.flatten [] (wrds t) = none → rdT n z = none := fun c e => by
        rw [e] at hrem
        rw [hrd, hrem]
        rfl
      have r0 : (rs ++ [([] : List Int)]).flatten = rs.flatten := by simp
      split
      · rename_i ht0
        have htl0 : t.length ≠ 0 := fun e => ht0 (TL.ext_tl (by
          rw [TL.len_tl] at e
          rw [List.eq_nil_of_length_eq_zero e]
          rfl))
        have hwt : wrds t = Txt.split t " " := by unfold wrds; rw [if_neg htl0]
        refine ⟨⟨_, rfl⟩, by decide +kernel, by rw [sizeLine_eq]; omega, fun q hq => ?_⟩
        rw [← hwt]
        have n8 : New H7 q (.lst ((wrds t).map V.str)) (upd H7 q (.lst ((wrds t).map V.str))) := New.mk' hq
        generalize upd H7 q (.lst ((wrds t).map V.str)) = H8 at n8
        show FSqV K (V.ref q) _ _ _ _ _
        rw [b_fsq]
        have s8 := s7.trans n8.same
        have hqH : H q = none := s7.free hq
        have qL : L ≠ q := n8.ne (n7.k eL6)
        have qg : g ≠ q := n8.ne n7.at_
        have qp : p ≠ q := n8.ne (n7.k ep)
        have qS : S ≠ q := fun e => by
          obtain ⟨kvs, e2, _⟩ := seen6.same n7.same
          rw [e, hq] at e2
          cases e2
        refine fs_by (sq_l n8.at_) (fun j σ H' => Same H H' ∧ H' p = some (.lst (ps.map V.str)) ∧ H' q = some (.lst ((wrds t).map V.str)) ∧ ∃ (v6 v7 : Option V) (c : List Int), σ = [some (.int n), some (.str z), some (.ref L), some (.ref S), some (.str t), some (.ref g), v6, v7, v8] ∧ H' L = some (.lst ((asg (rng n) (rs.flatMap prA)).map V.int)) ∧ SeenAt S (rs.flatten ++ c) H' ∧ H' g = some (.lst (c.map V.int)) ∧ Rws n (rs ++ [c]) ∧ rdRow n rs.flatten [] (wrds t) = rdRow n (rs.flatten ++ c) c ((wrds t).drop j))
          ⟨s8, n8.k (n7.k ep), n8.at_, _, _, [], rfl, n8.k (n7.k eL6), by rw [List.append_nil]; exact seen6.same (n7.same.trans n8.same), n8.k n7.at_, ⟨by rw [r0]; exact hw.nd, by rw [r0]; exact hw.rg⟩, by rw [List.append_nil]; rfl⟩ (fun i σ' H' f o ho => by rw [n8.at_] at ho; cases ho; exact f.2.2.1) ?_ ?_
        · rintro j x _ H9 N2 hN2 hx2 ⟨s9, ep9, eq9, w6, w7, c, rfl, eL9, seen9, eg9, hw9, hrem9⟩
          obtain ⟨u, hu, rfl⟩ : ∃ u, (wrds t)[j]? = some u ∧ x = V.str u := by
            rw [List.getElem?_map] at hx2
            cases e : (wrds t)[j]? with
            | none => rw [e] at hx2; cases hx2
            | some u => rw [e] at hx2; exact ⟨u, rfl, (Option.some.inj hx2).symm⟩
          have hj := (List.getElem?_eq_some_iff.mp hu).1
          have hul : u.length ≤ 100000 := by
            have := split_mem (x := t) (y := " ") (p := u) (by rw [← hwt]; exact List.mem_of_getElem? hu)
            omega
          have hju : (wrds t).drop j = u :: (wrds t).drop (j + 1) := by
            rw [List.drop_eq_getElem_cons hj, (List.getElem?_eq_some_iff.mp hu).2]
          rw [hju, rdRow_cons] at hrem9
          walk_at "wn"
          rw [a_seq]
          walk_at "wn"
          refine ⟨n, u, rfl, hn, by omega, ?_⟩
          walk_at "wn"
          rw [a_seq]
          walk_at "wn"
          cases e : rdW n u with
          | none =>
            have ed : dgV n u = -1 := by unfold dgV; rw [e]
            rw [e] at hrem9
            rw [ed]
            walk_at "wn"
            rw [if_pos (by decide)]
            exact hno (hwr c hrem9) H9 s9
          | some i0 =>
            have ed : dgV n u = (i0 : Int) := by unfold dgV; rw [e]
            rw [e] at hrem9
            simp only at hrem9
            have hi0 := (rdW_some e).1
            rw [ed]
            walk_at "wn"
            rw [if_neg (by omega), a_din]
            walk_at "wn"
            obtain ⟨kvs, ek, hk1, hk2⟩ := seen9
            refine ⟨valV kvs (.inl (i0 : Int)), DGet.k (k := .inl (i0 : Int)) ek, ?_⟩
            rw [hk2]
            have fl9 : (rs ++ [c]).flatten = rs.flatten ++ c := by simp
            have hstl : (rs.flatten ++ c).length ≤ n := by
              rw [← fl9]
              exact sub_len hw9.nd fun y hy => mem_rng.mpr (hw9.rg y hy)
            by_cases hin : (i0 : Int) ∈ rs.flatten ++ c
            · rw [if_pos hin] at hrem9
              rw [if_pos (decide_eq_true hin)]
              exact hno (hwr c hrem9) H9 s9
            · rw [if_neg hin] at hrem9
              rw [if_neg (by rw [decide_eq_false hin]; decide)]
              rw [a_seq]
              walk_at "wn"
              rw [b_setD]
              have hput := DPut.k (k := .inl (i0 : Int)) (v := .bl true) ek (by rw [sizeLine_eq]; omega)
              refine ⟨S, _, rfl, hput, ?_⟩
              have e6 : ∀ b, b ≠ S → upd H9 S (.dK (putK kvs (.inl (i0 : Int)) (.bl true))) b = H9 b := fun b hb => upd_ne hb
              have sadd := SeenAt.add ek hk1 hk2 hin
              generalize upd H9 S (.dK (putK kvs (.inl (i0 : Int)) (.bl true))) = H10 at e6 sadd
              have s10 : Same H H10 := fun b o h => (e6 b (ne_of_none h hS)).trans (s9 b o h)
              have eg10 : H10 g = some (.lst (c.map V.int)) := by rw [e6 g gS]; exact eg9
              walk_at "wn"
              refine ⟨tyl eg10, _, eg10, by rw [List.length_map, sizeLine_eq]; rw [List.length_append] at hstl; omega, fun H11 p11 => ?_⟩
              have fl11 : (rs ++ [c ++ [(i0 : Int)]]).flatten = (rs.flatten ++ c) ++ [(i0 : Int)] := by simp
              refine hN2 _ _ ⟨p11.same s10 hg, p11.k (Ne.symm gp) (by rw [e6 p (Ne.symm hSp)]; exact ep9), p11.k (Ne.symm qg) (by rw [e6 q (Ne.symm qS)]; exact eq9), _, _, c ++ [(i0 : Int)], rfl, p11.k (Ne.symm gL) (by rw [e6 L hLS]; exact eL9), by rw [← List.append_assoc]; exact sadd.put (Ne.symm gS) p11, by rw [p11.at_, List.map_append]; rfl, ⟨?_, fun y hy => ?_⟩, by rw [hrem9, List.append_assoc]⟩
              · rw [fl11, List.nodup_append]
                exact ⟨by rw [← fl9]; exact hw9.nd, by simp, fun a ha b hb e => by rw [List.mem_singleton.mp hb] at e; rw [e] at ha; exact hin ha⟩
              · rw [fl11] at hy
                rcases List.mem_append.mp hy with h | h
                · exact hw9.rg y (by rw [fl9]; exact h)
                · rw [List.mem_singleton.mp h]
                  omega
        · rintro _ H9 ⟨s9, ep9, eq9, w6, w7, c, rfl, eL9, seen9, eg9, hw9, hrem9⟩
          rw [List.drop_of_length_le (by simp)] at hrem9
          exact hM _ _ ⟨s9, ep9, _, _, c, rfl, eL9, seen9, eg9, hw9, hrem9⟩
      · rename_i ht0
        have ht1 : t = "" := Classical.not_not.mp ht0
        have hwt : wrds t = [] := by unfold wrds; rw [if_pos (by rw [ht1]; decide +kernel)]
        exact hM _ _ ⟨s7, n7.k ep, _, _, [], rfl, n7.k eL6, by rw [List.append_nil]; exact seen6.same n7.same, n7.at_, ⟨by rw [r0]; exact hw.nd, by rw [r0]; exact hw.rg⟩, by rw [hwt, List.append_nil]; rfl⟩
    · rintro _ H8 ⟨s8, ep8, v6', v7', c, rfl, eL8, seen8, eg8, hw8, hrow⟩
      walk_at "wn"
      have hlm : (c.map V.int).length = c.length := List.length_map _
      rw [hrow] at hrem
      have fl8 : (rs ++ [c]).flatten = rs.flatten ++ c := by simp
      have hcl8 : c.length ≤ n := hw8.row (List.mem_append_right _ List.mem_cons_self)
      have hzl : (c.zip (rotL c)).length = c.length := by rw [List.length_zip, rotL_len, Nat.min_self]
      refine ⟨_, sq_l eg8, by omega, by omega, ?_⟩
      refine fr_by (fun j σ H' => Same H H' ∧ H' p = some (.lst (ps.map V.str)) ∧ (∃ v8, σ = [some (.int n), some (.str z), some (.ref L), some (.ref S), some (.str t), some (.ref g), v6', v7', v8]) ∧ H' L = some (.lst ((asg (rng n) (rs.flatMap prA ++ (prA c).take j)).map V.int)) ∧ SeenAt S (rs.flatten ++ c) H' ∧ H' g = some (.lst (c.map V.int)))
        ⟨s8, ep8, ⟨_, rfl⟩, by rw [List.take_zero, List.append_nil]; exact eL8, seen8, eg8⟩ ?_ ?_
      · rintro j _ H9 N3 hN3 hj ⟨s9, ep9, ⟨v8', rfl⟩, eL9, seen9, eg9⟩
        have hj' : j < c.length := by omega
        have hz2 : c[j]? = some c[j] := List.getElem?_eq_getElem hj'
        generalize c[j] = y0 at hz2
        have hzr := hw8.rg y0 (by rw [fl8]; exact List.mem_append_right _ (List.mem_of_getElem? hz2))
        obtain ⟨y, hy⟩ : ∃ y, (rotL c)[j]? = some y := ⟨_, List.getElem?_eq_getElem (by rw [rotL_len]; exact hj')⟩
        have hym := hy
        rw [rotL_at hj'] at hym
        have hzj : (0 : Int) + (j : Int) = j := by omega
        rw [hzj]
        walk_at "wn"
        have ef : ((j : Int) + 1).fmod ((c.map V.int).length : Int) = (((j + 1) % c.length : Nat) : Int) := by
          rw [hlm, Int.fmod_eq_emod_of_nonneg _ (by omega), Int.natCast_emod]
          congr 1
        refine ⟨_, sq_l eg9, by omega, _, sq_l eg9, .int y, ?_, _, sq_l eg9, .int y0, atI_of (by omega) (by rw [Int.toNat_natCast, List.getElem?_map, hz2]; rfl), ?_⟩
        · rw [ef]
          exact atI_of (by omega) (by rw [Int.toNat_natCast, List.getElem?_map, hym]; rfl)
        walk_at "wn"
        refine ⟨_, eL9, y0.toNat, ixN_of hzr.1 (by rw [List.length_map, asg_len, rng_len]; omega), fun H10 p10 => hN3 _ _ ⟨p10.same s9 hL, p10.k (Ne.symm hLp) ep9, ⟨_, rfl⟩, ?_, seen9.put (Ne.symm hLS) p10, p10.k gL eg9⟩⟩
        have ep : (prA c).take (j + 1) = (prA c).take j ++ [(y0, y)] := by
          rw [List.take_add_one]
          congr 1
          unfold prA
          rw [show (c.zip (rotL c))[j]? = some (y0, y) from List.getElem?_zip_eq_some.mpr ⟨hz2, hy⟩]
          rfl
        rw [p10.at_, ep, ← List.append_assoc, asg_snoc, List.map_set]
      · rintro _ H9 ⟨s9, ep9, ⟨v8', rfl⟩, eL9, seen9, eg9⟩
        have e1 : (prA c).take (((c.map V.int).length : Nat) : Int).toNat = prA c := by
          rw [hlm]
          exact List.take_of_length_le (by unfold prA; rw [hzl]; omega)
        rw [e1] at eL9
        refine hN _ _ ⟨s9, ep9, _, _, _, _, _, rs ++ [c], rfl, by rw [List.flatMap_append]; simpa using eL9, by rw [fl8]; exact seen9, hw8, by rw [hrem, fl8]⟩
  · rintro _ H6 ⟨s6, ep, v4, v5, v6, v7, v8, rs, rfl, eL6, seen6, hw, hrem⟩
    walk_at "wn"
    have hrs : rdT n z = some rs := by
      rw [hrd, hrem, List.drop_of_length_le (by simp)]
      rfl
    exact ⟨_, eL6, fun q H7 n7 => hyes rs hrs q H7 (s6.trans n7.same) (s6.free n7.fr) n7.at_⟩
end

/-! ## HoSm -/
theorem mulOk_small {x : Str} {n : Int} (hx : x.length ≤ 1000) (h0 : -10000 ≤ n) (h1 : n ≤ 10000) : MulOk x n := by
  refine ⟨?_, fun hn _ => ?_, fun hn _ => ?_⟩
  · rw [decide_eq_false (by omega), decide_eq_false (by omega)]
    rfl
  · have hp : 0 < n := by omega
    have hm : (x.length : Int) * n ≤ 1000 * 10000 := Int.mul_le_mul (by omega) h1 (by omega) (by omega)
    have := Int.le_ediv_of_mul_le (a := (x.length : Int)) (b := 2 ^ 63 - 1) hp (by omega)
    omega
  · have h2 : x.length * n.toNat ≤ 1000 * 10000 := Nat.mul_le_mul hx (by omega)
    unfold Builtin.Str.tooLong
    rw [sizeLine_eq]
    exact decide_eq_false (by omega)
theorem tl_mul {x : Str} {n : Int} : TL.tl (Txt.mul x n) = (List.replicate n.toNat (TL.tl x)).flatten := by
  unfold Txt.mul
  split
  · have : n.toNat = 0 := by omega
    rw [this]
    rfl
  split
  · rename_i h1 h2
    rw [Bool.or_eq_true] at h2
    rcases h2 with h | h
    · have : n = 1 := by simpa using h
      subst this
      simp
    · have h3 : x.length = 0 := by simpa using h
      rw [TL.len_tl] at h3
      rw [List.eq_nil_of_length_eq_zero h3]
      exact (List.flatten_eq_nil_iff.mpr fun l hl => (List.mem_replicate.mp hl).2).symm
  · show ((List.replicate n.toNat x.cps).foldl (· ++ ·) #[]).toList = _
    have key : ∀ (k : Nat) (b : Array Nat), ((List.replicate k x.cps).foldl (· ++ ·) b).toList = b.toList ++ (List.replicate k (TL.tl x)).flatten := by
      intro k
      induction k with
      | zero => intro b; simp
      | succ k ih =>
        intro b
        rw [List.replicate_succ, List.foldl_cons, ih, List.replicate_succ, List.flatten_cons, Array.toList_append, List.append_assoc]
    rw [key]
    simp
theorem mul_len {x : Str} {n : Int} : (Txt.mul x n).length = n.toNat * x.length := by
  rw [TL.len_tl, tl_mul, TL.len_tl x, List.length_flatten]
  simp
section
variable {X : Cx}
theorem op_mulS : OpR X (binaryOp .Mult) (fun x y H Q => ∃ a n, x = .str a ∧ y = .int n ∧ (a.length ≤ 1000 ∧ -10000 ≤ n ∧ n ≤ 10000) ∧ Q (.str (Txt.mul a n)) H) := by
  intro pins s σ H x y v u Q I rx ry h
  obtain ⟨a, n, rfl, rfl, hb, q⟩ := h
  obtain ⟨t, rfl⟩ := rx
  obtain ⟨t', rfl⟩ := ry
  exact PySem.SB.mul (mulOk_small hb.1 hb.2.1 hb.2.2) (fun t' k => ⟨.str (Txt.mul a n), H, I.tok _, ⟨_, rfl⟩, q⟩)
end

/-! ## HoLo -/
theorem one_at' {l : List Nat} {i c : Nat} : ((l.drop i).take 1 == [c]) = decide (l[i]? = some c) := by
  have h : l[i]? = (l.drop i).head? := (List.head?_drop).symm
  rw [h]
  cases l.drop i with
  | nil => rfl
  | cons x r =>
    show ([x] == [c]) = decide (some x = some c)
    by_cases e : x = c
    · subst e; simp
    · simp [e]
def gsT (gs : List (List Int)) : Str := Txt.join "" (gs.map rowT)
theorem tl_rowT (c : List Int) : TL.tl (rowT c) = 40 :: (TL.tl (rowI c) ++ [41]) := by
  unfold rowT
  rw [TL.tl_append, TL.tl_append, tl_c1.1, tl_c1.2.1]
  rfl
theorem tl_gs (gs : List (List Int)) : TL.tl (gsT gs) = (gs.map fun c => 40 :: (TL.tl (rowI c) ++ [41])).flatten := by
  unfold gsT
  rw [tl_jn, tl_c1.2.2.2.2.2, joinL_nil, List.map_map]
  congr 1
  exact List.map_congr_left fun c _ => tl_rowT c
theorem rdT_all {n : Nat} {gs : List (List Int)} (r : Rws n gs) (ne : gs ≠ []) : rdT n (gsT gs) = some gs := by
  have e0 : rowsT gs = gsT gs := by unfold rowsT gsT; rw [if_neg ne]
  have e1 : rs0 gs = gs := by unfold rs0; rw [if_neg ne]
  have e := rowsT_tl gs
  rw [e0, e1] at e
  unfold rdT
  rw [if_pos (ends_in e), cut_in e]
  have hs : Txt.split (Txt.join ")(" (gs.map rowI)) ")(" = gs.map rowI := by
    refine TL.split_join tl_c1.2.2.1 (by decide +kernel) (by simpa using ne) fun p hp => ?_
    obtain ⟨c, _, rfl⟩ := List.mem_map.mp hp
    exact rowI_free (by decide)
  rw [hs, List.map_map]
  have hw : gs.map (wrds ∘ rowI) = gs.map fun c => c.map fun z => pt z.toNat := by
    refine List.map_congr_left fun c hc => ?_
    show wrds (rowI c) = _
    by_cases h : c = []
    · rw [h, wrds_nil]
      rfl
    · exact wrds_row h
  have := rdRows_back (n := n) (rs := gs) (rows := []) (by simpa using r.nd) (fun z hz => by have := r.rg z hz; omega)
  rw [hw]
  rw [show rdRows n [] [] (gs.map fun c => c.map fun z => pt z.toNat) = some _ from this]
  rfl
theorem rdL_gs {ns : List Int} {gs : List (List Int)} (r : Rws ns.length gs) (i : Img ns.length gs ns) (ne : gs ≠ []) : rdL true ns.length (gsT gs) = some ns := by
  unfold rdL
  rw [if_pos rfl, rdT_all r ne]
  show some (mvT ns.length gs) = some ns
  exact congrArg some ((img_A r).uniq i)
theorem find_rp {z : Str} {u v : List Nat} (h : TL.tl z = u ++ 41 :: v) (hu : 41 ∉ u) : Txt.find z ")" = (u.length : Int) := by
  have l1 : (")" : Str).length = 1 := by decide
  have hz : z.length = u.length + 1 + v.length := by rw [TL.len_tl, h]; simp; omega
  have at_ : ∀ i, StrLaws.At z ")" z.length i ↔ (TL.tl z)[i]? = some 41 := fun i => by
    have e : Builtin.Str.subAt z ")" i = decide ((TL.tl z)[i]? = some 41) := by
      rw [PySem.StrLaws.subAt_eq, l1]
      show (((TL.tl z).drop i).take 1 == TL.tl (")" : Str)) = _
      rw [tl_c1.2.1, one_at']
    unfold StrLaws.At
    rw [e, l1]
    constructor
    · rintro ⟨_, b⟩
      exact of_decide_eq_true b
    · intro b
      have := (List.getElem?_eq_some_iff.mp b).1
      rw [← TL.len_tl] at this
      exact ⟨by omega, decide_eq_true b⟩
  have hat : (TL.tl z)[u.length]? = some 41 := by
    rw [h, List.getElem?_append_right (Nat.le_refl _), Nat.sub_self]
    rfl
  rcases find_whole z ")" with ⟨_, b⟩ | ⟨i, a, b, c⟩
  · exact absurd ((at_ _).mpr hat) (b _)
  · have h1 := (at_ i).mp b
    have h2 : ¬ u.length < i := fun hlt => c _ hlt ((at_ _).mpr hat)
    have h3 : ¬ i < u.length := fun hlt => by
      rw [h, List.getElem?_append_left hlt] at h1
      exact hu (List.mem_of_getElem? h1)
    rw [a]
    omega
theorem tl_cutTo {z : Str} {m : Nat} (h : m ≤ z.length) : TL.tl (cutS z none (some (m : Int))) = (TL.tl z).take m := by
  unfold cutS
  have e1 : HT.sIx z.length 0 none = 0 := rfl
  have e2 : HT.sIx z.length z.length (some (m : Int)) = m := by
    show (if (m : Int) < 0 then ((m : Int) + (z.length : Int)).toNat else min (m : Int).toNat z.length) = m
    rw [if_neg (by omega)]
    omega
  rw [e1, e2]
  show ((TL.tl z).drop 0).take (m - 0) = (TL.tl z).take m
  rfl
theorem tl_cutFrom {z : Str} {m : Nat} (h : m ≤ z.length) : TL.tl (cutS z (some (m : Int)) none) = (TL.tl z).drop m := by
  unfold cutS
  have e1 : HT.sIx z.length 0 (some (m : Int)) = m := by
    show (if (m : Int) < 0 then ((m : Int) + (z.length : Int)).toNat else min (m : Int).toNat z.length) = m
    rw [if_neg (by omega)]
    omega
  have e2 : HT.sIx z.length z.length none = z.length := rfl
  rw [e1, e2]
  show ((TL.tl z).drop m).take (z.length - m) = (TL.tl z).drop m
  exact List.take_of_length_le (by rw [List.length_drop, TL.len_tl]; exact Nat.le_refl _)
theorem tl_empty : TL.tl (rowI []) = [] := by decide +kernel
theorem rep_gs (k : Nat) : TL.tl (gsT (List.replicate k [])) = (List.replicate k [40, 41]).flatten := by
  rw [tl_gs, List.map_replicate, tl_empty]
  rfl
theorem gs_app (a b : List (List Int)) : TL.tl (gsT (a ++ b)) = TL.tl (gsT a) ++ TL.tl (gsT b) := by
  rw [tl_gs, tl_gs, tl_gs, List.map_append, List.flatten_append]
/-- a loose text with empty groups in front and behind its first group -/
theorem full_ok {ns : List Int} {gs : List (List Int)} {f k : Int} (lo : Loose ns gs) :
    rdL true ns.length (Txt.mul "()" f ++ cutS (gsT gs) none (some (Txt.find (gsT gs) ")" + 1)) ++ Txt.mul "()" k ++ cutS (gsT gs) (some (Txt.find (gsT gs) ")" + 1)) none) = some ns := by
  cases gs with
  | nil => exact absurd rfl lo.ne
  | cons g rest =>
    have ht : TL.tl (gsT (g :: rest)) = (40 :: TL.tl (rowI g)) ++ 41 :: TL.tl (gsT rest) := by
      rw [tl_gs, tl_gs]
      simp
    have hu : 41 ∉ (40 :: TL.tl (rowI g)) := by
      intro h
      rcases List.mem_cons.mp h with h | h
      · cases h
      · exact rowI_free (by decide) h
    have hf := find_rp ht hu
    generalize hU : (40 :: TL.tl (rowI g)) = U at ht hu hf
    have hle : U.length + 1 ≤ (gsT (g :: rest)).length := by rw [TL.len_tl, ht]; simp
    have ec : Txt.find (gsT (g :: rest)) ")" + 1 = ((U.length + 1 : Nat) : Int) := by rw [hf]; omega
    rw [ec]
    have e1 := tl_cutTo hle
    have e2 := tl_cutFrom hle
    rw [ht] at e1 e2
    have e3 : (U ++ 41 :: TL.tl (gsT rest)).take (U.length + 1) = U ++ [41] := by
      rw [List.take_append, List.take_of_length_le (by omega)]
      have : U.length + 1 - U.length = 1 := by omega
      rw [this]
      rfl
    have e4 : (U ++ 41 :: TL.tl (gsT rest)).drop (U.length + 1) = TL.tl (gsT rest) := by
      rw [List.drop_append, List.drop_of_length_le (by omega)]
      have : U.length + 1 - U.length = 1 := by omega
      rw [this]
      rfl
    rw [e3] at e1
    rw [e4] at e2
    have e5 : Txt.mul "()" f ++ cutS (gsT (g :: rest)) none (some ((U.length + 1 : Nat) : Int)) ++ Txt.mul "()" k ++ cutS (gsT (g :: rest)) (some ((U.length + 1 : Nat) : Int)) none = gsT (List.replicate f.toNat [] ++ [g] ++ List.replicate k.toNat [] ++ rest) := by
      refine TL.ext_tl ?_
      rw [TL.tl_append, TL.tl_append, TL.tl_append, tl_mul, tl_mul, e1, e2, gs_app, gs_app, gs_app, rep_gs, rep_gs, tl_c1.2.2.2.2.1]
      have : TL.tl (gsT [g]) = U ++ [41] := by rw [tl_gs, ← hU]; simp
      rw [this]
    rw [e5]
    have fl : (List.replicate f.toNat ([] : List Int) ++ [g] ++ List.replicate k.toNat [] ++ rest).flatten = (g :: rest).flatten := by
      have er : ∀ k : Nat, (List.replicate k ([] : List Int)).flatten = [] := fun k => List.flatten_eq_nil_iff.mpr fun l hl => (List.mem_replicate.mp hl).2
      rw [List.flatten_append, List.flatten_append, List.flatten_append, er, er]
      simp
    refine rdL_gs ⟨by rw [fl]; exact lo.rws.nd, by rw [fl]; exact lo.rws.rg⟩ ⟨lo.img.len, fun c hc j z hz => ?_, fun p hp hn => lo.img.off p hp (by rw [fl] at hn; exact hn)⟩ (by simp)
    rcases List.mem_append.mp hc with hc | hc
    · rcases List.mem_append.mp hc with hc | hc
      · rcases List.mem_append.mp hc with hc | hc
        · rw [(List.mem_replicate.mp hc).2] at hz
          cases hz
        · exact lo.img.on c (by rw [List.mem_singleton.mp hc]; exact List.mem_cons_self) j z hz
      · rw [(List.mem_replicate.mp hc).2] at hz
        cases hz
    · exact lo.img.on c (List.mem_cons_of_mem _ hc) j z hz

/-! ## Y10 -/

section
variable {P : Program} {w : World} {K : PySem.W.Frag} {mg : Str → Option Value} {base : Heap} {C : Addr}
theorem due_txt {H : Hp} {du : Addr} (e : H du = some (.tup [.str "BadText", .int 1])) : DueAt H du (.txt 1) := by
  have hL : (Flt.txt 1).cls ∈ errL := by show ("BadText" : Str) ∈ errL; decide +kernel
  have l8 : ("BadText" : Str).length = 7 := by decide +kernel
  exact ⟨hL, e, _, _, .cons (.lf (.str "BadText")) (.cons (.lf (.int 1)) .nil), by omega⟩
theorem due_num {H : Hp} {du : Addr} {x : V} {d : PyData} {n : Nat} (e : H du = some (.tup [.str "BadNumber", x, .int 0, .int 12])) (hd : Dw [] H x d n) (hn : n ≤ 1000) : DueAt H du (.num x 0 12) := by
  have hL : (Flt.num x 0 12).cls ∈ errL := by show ("BadNumber" : Str) ∈ errL; decide +kernel
  have e1 : ("BadNumber" : Str).length = 9 := by decide +kernel
  exact ⟨hL, e, _, _, .cons (.lf (.str "BadNumber")) (.cons hd (.cons (.lf (.int 0)) (.cons (.lf (.int 12)) .nil))), by omega⟩
def sp_ptold : Sp := fun vs H Q _ => ∃ (x : V) (z : Str) (d : PyData) (n : Nat), vs = [x, .str z] ∧ z.length ≤ 100000 ∧ Sm x ∧ Dw [] H x d n ∧ n ≤ 1000 ∧ numOk x 0 12 = false ∧ ∀ H', Same H H' → Q (.bl true) H'
abbrev st_law_points_told : Stmt := topS 73
theorem sc_law_points_told : FnScope ["points", "text", "e"] ["points", "text"] (defScope st_law_points_told) := ⟨rfl, rfl, rfl, by decide +kernel, rfl, by decide +kernel, by decide +kernel⟩
theorem ok_law_points_told (D : Df K mg "_law_points_told" st_law_points_told) (T : NoB mg) (C_law_refusalH : ClH P w K mg base 3 "_law_refusal" ["error", "due"] (sp_refG K)) (CN_parse_move : ClXN P w K mg base 8 "parse_move" 2 [] (fun vs H Q E => (sp_prm K) (vs ++ [.bl false]) H Q E) ∧ ClXN P w K mg base 8 "parse_move" 2 ["loose"] (sp_prm K)) (EH : mg "HeldorderError" = some (.ref (He.ga K "HeldorderError"))) (exmF : ∀ f : Flt, f.cls ∈ errL → PySem.W.exmOne K (.ref (He.ga K f.cls)) (.ref (He.ga K "HeldorderError")) = some true): Cl P w K mg base 9 "_law_points_told" ["points", "text"] sp_ptold := by
  refine cl_of D sc_law_points_told (fun _ _ _ _ _ _ us hl => match us, hl with | [_, _], _ => rfl) (fun vs H Q E h => ?_) (fun f cdv A outer sh H vs Q E hr h => ?_)
  · obtain ⟨_, _, _, _, rfl, _⟩ := h; rfl
  obtain ⟨x, z, d, n, rfl, hz, hs, hd, hn, hno, k⟩ := h
  refine ⟨_, (pss_cons (L2N.ps_try_as (i := 2) rfl rfl sc_law_points_told.nd rfl rfl ⟨by rfl, by decide, .inl EH⟩ takesN0 (fun W pn xe tk po => (pss_one (ps_expr (pe_clXN CN_parse_move.2 tk hr (by rfl) (pa_cons (pv 0) (pa_cons (pv 1) pa_nil)) (pk_cons pe_bl pk_nil))))) (fun a oe cls d pn hz hf => (pss_one (ps_ret (pe_clU C_law_refusalH hz hf hr (by rfl) (pa_cons (pv 2) (pa_cons (pe_tup (pa_cons pe_str (pa_cons (pv 0) (pa_cons pe_int (pa_cons pe_int pa_nil))))) pa_nil)))))))
    (pss_one (ps_ret pe_bl))), ?_⟩
  rw [a_seq]
  walk_at "wn"
  refine ⟨x, z, true, [], d, n, rfl, hz, hd, hs, fun _ => ?_, fun n' en e1 => ?_⟩
  · intro dd G0 G1 t3 m4
    have hL : (Flt.num x 0 12).cls ∈ errL := by show ("BadNumber" : Str) ∈ errL; decide +kernel
    refine ⟨true, exmF (.num x 0 12) hL, fun _ a1 ha1 => ?_, fun z => by cases z⟩
    have t4 := t3.trans m4.same
    walk_at "wn"
    refine ⟨szl (by decide), fun du G2 n2 => ?_⟩
    have t5 := t4.trans n2.same
    exact (due_num n2.at_ (hd.same t5) hn).ref (n2.k m4.at_) fun H5 s5 => k H5 (t5.trans s5)
  · subst en
    simp [numOk] at hno
    omega
def sp_reads : Sp := fun vs H Q _ => ∃ (n : Nat) (z : Str) (b : Bool), vs = [.int n, .str z, .bl b] ∧ n ≤ 12 ∧ z.length ≤ 100000 ∧ ∀ H', Same H H' → Q (.bl true) H'
abbrev st_law_reads : Stmt := topS 72
theorem sc_law_reads : FnScope ["points", "text", "free", "due", "actual", "e"] ["points", "text", "free"] (defScope st_law_reads) := ⟨rfl, rfl, rfl, by decide +kernel, rfl, by decide +kernel, by decide +kernel⟩
theorem ok_law_reads (D : Df K mg "_law_reads" st_law_reads) (T : NoB mg) (C_law_move_text : Cl P w K mg base 3 "_law_move_text" ["move"] sp_movetxt) (C_law_read_move : Cl P w K mg base 2 "_law_read_move" ["points", "text"] sp_lrm) (C_law_refusalH : ClH P w K mg base 3 "_law_refusal" ["error", "due"] (sp_refG K)) (C_law_same : Cl P w K mg base 2 "_law_same" ["actual", "due"] sp_same) (CN_parse_move : ClXN P w K mg base 8 "parse_move" 2 [] (fun vs H Q E => (sp_prm K) (vs ++ [.bl false]) H Q E) ∧ ClXN P w K mg base 8 "parse_move" 2 ["loose"] (sp_prm K)) (EH : mg "HeldorderError" = some (.ref (He.ga K "HeldorderError"))) (exmF : ∀ f : Flt, f.cls ∈ errL → PySem.W.exmOne K (.ref (He.ga K f.cls)) (.ref (He.ga K "HeldorderError")) = some true): Cl P w K mg base 9 "_law_reads" ["points", "text", "free"] sp_reads := by
  refine cl_of D sc_law_reads (fun _ _ _ _ _ _ us hl => match us, hl with | [_, _, _], _ => rfl) (fun vs H Q E h => ?_) (fun f cdv A outer sh H vs Q E hr h => ?_)
  · obtain ⟨_, _, _, rfl, _⟩ := h; rfl
  obtain ⟨n, z, b, rfl, hn, hz, k⟩ := h
  refine ⟨_, (pss_cons (ps_set (i := 3) sc_law_reads.nd rfl (Or.inl rfl) (pe_cl C_law_read_move hr (by rfl) (pa_cons (pv 0) (pa_cons (pv 1) pa_nil))))
    (pss_cons (ps_if (PW.pt (pw_and (pt_cmpR op_notN (pv 3) pe_non (nomark _)) (pw_and (pt_not (pt_val (pv 2))) (pw_and1 (pt_cmpR op_ne (pe_cl C_law_move_text hr (by rfl) (pa_cons (pv 3) pa_nil)) (pv 1) (nomark _)))))) (pss_one (ps_set (i := 3) sc_law_reads.nd rfl (Or.inl rfl) pe_non)) pss_nil)
    (pss_cons (L2N.ps_try_as (i := 5) rfl rfl sc_law_reads.nd rfl rfl ⟨by rfl, by decide, .inl EH⟩ takesN0 (fun W pn xe tk po => (pss_one (ps_set (i := 4) sc_law_reads.nd rfl (Or.inl rfl) (pe_clXN CN_parse_move.2 tk hr (by rfl) (pa_cons (pv 0) (pa_cons (pv 1) pa_nil)) (pk_cons (pv 2) pk_nil))))) (fun a oe cls d pn hz hf => (pss_one (ps_ret (pe_and (pe_cmpR op_isN (pv 3) pe_non (nomark _)) (pe_one (pe_clU C_law_refusalH hz hf hr (by rfl) (pa_cons (pv 5) (pa_cons (pe_tup (pa_cons pe_str (pa_cons pe_int pa_nil))) pa_nil)))))))))
    (pss_one (ps_ret (pe_and (pe_cmpR op_notN (pv 3) pe_non (nomark _)) (pe_one (pe_cl C_law_same hr (by rfl) (pa_cons (pv 4) (pa_cons (pv 3) pa_nil)))))))))), ?_⟩
  refine seq_join (fun σ H' => Same H H' ∧ ∃ u : V, σ = [some (.int n), some (.str z), some (.bl b), some u, none, none] ∧ ((u = .non ∧ rdL true n z = none) ∨ ∃ a ns, u = .ref a ∧ MvA H' u a ns ∧ rdL true n z = some ns)) (fun M hM => ?_) ?_
  · walk_at "wn"
    exact ⟨n, z, rfl, hn, hz, fun hnone H1 s1 => hM _ _ ⟨s1, _, rfl, .inl ⟨rfl, hnone⟩⟩, fun ns hns hl a H1 s1 ha ma => hM _ _ ⟨s1, _, rfl, .inr ⟨a, ns, rfl, ma, hns⟩⟩⟩
  rintro _ H1 ⟨s1, u, rfl, hu⟩
  refine seq_join (fun σ H' => Same H H' ∧ ∃ u : V, σ = [some (.int n), some (.str z), some (.bl b), some u, none, none] ∧ ((u = .non ∧ rdL b n z = none) ∨ ∃ a ns, u = .ref a ∧ MvA H' u a ns ∧ rdL b n z = some ns)) (fun M hM => ?_) ?_
  · rcases hu with ⟨rfl, hno⟩ | ⟨a, ns, rfl, ma, hns⟩
    · walk_at "wn"
      refine hM _ _ ⟨s1, _, rfl, .inl ⟨rfl, ?_⟩⟩
      cases e : rdL b n z with
      | none => rfl
      | some ns =>
        obtain ⟨rs, h, _⟩ := rdL_some e
        unfold rdL at hno
        rw [if_pos rfl, h] at hno
        cases hno
    · walk_at "wn"
      obtain ⟨rs, hrs, hns2, _⟩ := rdL_some hns
      cases b with
      | true => exact hM _ _ ⟨s1, _, rfl, .inr ⟨a, ns, rfl, ma, hns⟩⟩
      | false =>
        rw [if_pos rfl]
        have hrl : rdL false n z = if rowsT (cyc ns) = z then some ns else none := by
          unfold rdL rdS
          rw [if_neg (by decide), hrs, hns2]
        refine ⟨a, ns, rfl, ma, fun H2 s2 => ⟨rfl, ?_⟩⟩
        split
        · rename_i hne
          exact hM _ _ ⟨s1.trans s2, _, rfl, .inl ⟨rfl, by rw [hrl, if_neg (fun e => hne (by rw [e]))]⟩⟩
        · rename_i he
          exact hM _ _ ⟨s1.trans s2, _, rfl, .inr ⟨a, ns, rfl, ma.same s2, by rw [hrl, if_pos (V.str.inj (Classical.not_not.mp he))]⟩⟩
  rintro _ H2 ⟨s2, u2, rfl, hu2⟩
  walk_at "sn"
  refine ⟨.int n, z, b, [], .int n, _, rfl, hz, .lf (.int (n : Int)), sm_small (by constructor <;> omega), fun hno => by simp [numOk] at hno; omega, fun n' en hn' => ?_⟩
  obtain rfl : n = n' := by have := V.int.inj en; omega
  rcases hu2 with ⟨rfl, hno⟩ | ⟨a, ns, rfl, ma, hns⟩
  · refine ⟨fun _ => ?_, fun ns h => by rw [hno] at h; cases h⟩
    intro dd G0 G1 s4 m4
    have hL : (Flt.txt 1).cls ∈ errL := by show ("BadText" : Str) ∈ errL; decide +kernel
    refine ⟨true, exmF (.txt 1) hL, fun _ a1 ha1 => ?_, fun z => by cases z⟩
    have t4 := (s2.trans s4).trans m4.same
    walk_at "wn"
    refine ⟨szl (by decide), fun du H6 n6 => ?_⟩
    exact (due_txt n6.at_).ref (n6.k m4.at_) fun H7 s7 => k H7 ((t4.trans n6.same).trans s7)
  · refine ⟨fun h => (by rw [hns] at h; cases h), fun ns' h hl' a' H3 s3 ha' ma' => ?_⟩
    rw [hns] at h
    cases h
    walk_at "wn"
    exact ⟨.ref a', .ref a, _, _, _, rfl, ma'.dw, (ma.same s3).dw, by have := ma'.le; omega, fun H4 s4 => k H4 ((s2.trans s3).trans s4)⟩
def sp_groups : Sp := fun vs H Q _ => ∃ (s l : Addr) (n : Nat), vs = [.ref s, .int n] ∧ Sto s l H ∧ n ≤ 12 ∧ ∀ z H', Ge s l H H' → z.length ≤ 1000 → Q (.str z) H'
abbrev st_law_groups : Stmt := topS 74
theorem sc_law_groups : FnScope ["store", "points", "found", "k", "row", "j", "p"] ["store", "points"] (defScope st_law_groups) := ⟨rfl, rfl, rfl, by decide +kernel, rfl, by decide +kernel, by decide +kernel⟩
theorem ok_law_groups (D : Df K mg "_law_groups" st_law_groups) (T : NoB mg) (C_law_drawn : Cl P w K mg base 3 "_law_drawn" ["store", "things", "many"] sp_drawn) (C_law_pick : Cl P w K mg base 3 "_law_pick" ["store", "things"] sp_pick) (C_law_take : Cl P w K mg base 2 "_law_take" ["store", "many"] sp_take) : Cl P w K mg base 5 "_law_groups" ["store", "points"] sp_groups := by
  refine cl_of D sc_law_groups (fun _ _ _ _ _ _ us hl => match us, hl with | [_, _], _ => rfl) (fun vs H Q E h => ?_) (fun f cdv A outer sh H vs Q E hr h => ?_)
  · obtain ⟨_, _, _, rfl, _⟩ := h; rfl
  obtain ⟨s, l, n, rfl, st, hn, k⟩ := h
  refine ⟨_, (pss_cons (ps_set (i := 2) sc_law_groups.nd rfl (Or.inl rfl) pe_str)
    (pss_cons (ps_for PassesOwn.never rfl (pi_range1 (by rfl) T.no_range (pa_cons (pe_cl C_law_take hr (by rfl) (pa_cons (pv 0) (pa_cons pe_int pa_nil))) pa_nil)) (pg_name (i := 3) sc_law_groups.nd rfl (Or.inl rfl)) (pss_cons (ps_setLc (i := 4) (own := [("j", 5)]) (g := gName 5) (tt := tYes) rfl sc_law_groups.nd rfl rfl (sw_true rfl rfl rfl (by decide +kernel)) (pi_range1 (by rfl) T.no_range (pa_cons (pe_cl C_law_take hr (by rfl) (pa_cons (pv 0) (pa_cons pe_int pa_nil))) pa_nil)) (blkOk_by (own := [("j", 5)]) (N := ["store", "points", "found", "k", "row", "j", "p"]) (sc := defScope st_law_groups) (by decide +kernel)) (fun _ _ _ _ _ => (pg_name (i := 5) sc_law_groups.nd rfl (Or.inl rfl))) (fun _ _ _ _ _ => pts_nil) (fun _ _ _ _ _ => (pe_callTy call_str_int (by rfl) T.no_str (by decide +kernel) (pa_cons (pe_cl C_law_take hr (by rfl) (pa_cons (pv 0) (pa_cons (pe_op op_add (pv 1) pe_int) pa_nil))) pa_nil))))
    (pss_cons (ps_if (pt_cmpR op_eq (pe_cl C_law_take hr (by rfl) (pa_cons (pv 0) (pa_cons pe_int pa_nil))) pe_int (nomark _)) (pss_one (ps_setLc (i := 4) (own := [("p", 6)]) (g := gName 6) (tt := tYes) rfl sc_law_groups.nd rfl rfl (sw_true rfl rfl rfl (by decide +kernel)) (pi_sq (pe_cl C_law_drawn hr (by rfl) (pa_cons (pv 0) (pa_cons (pe_listRg rfl (by rfl) T.no_list (prg_1 (by rfl) T.no_range (pv 1))) (pa_cons pe_int pa_nil))))) (blkOk_by (own := [("p", 6)]) (N := ["store", "points", "found", "k", "row", "j", "p"]) (sc := defScope st_law_groups) (by decide +kernel)) (fun _ _ _ _ _ => (pg_name (i := 6) sc_law_groups.nd rfl (Or.inl rfl))) (fun _ _ _ _ _ => pts_nil) (fun _ _ _ _ _ => (pe_callTy call_str_int (by rfl) T.no_str (by decide +kernel) (pa_cons (pv 6) pa_nil))))) pss_nil)
    (pss_cons (ps_if (pt_cmpR op_eq (pe_cl C_law_take hr (by rfl) (pa_cons (pv 0) (pa_cons pe_int pa_nil))) pe_int (nomark _)) (pss_one (ps_expr (pe_bm PySem.F.plainAttrs_list PySem.F.slot_list_append PySem.F.type_list_append mt_append (pv 4) (pa_cons (pe_cl C_law_pick hr (by rfl) (pa_cons (pv 0) (pa_cons (pe_lst (pa_cons pe_str (pa_cons pe_str (pa_cons pe_str (pa_cons pe_str (pa_cons pe_str (pa_cons pe_str (pa_cons pe_str (pa_cons pe_str (pa_cons pe_str pa_nil)))))))))) pa_nil))) pa_nil)))) pss_nil)
    (pss_one (ps_set (i := 2) sc_law_groups.nd rfl (Or.inl rfl) (pe_op op_add_str (pe_op op_add_str (pe_op op_add_str (pv 2) pe_str) (pe_join pe_str (pv 4))) pe_str)))))))
    (pss_one (ps_ret (pv 2))))), ?_⟩
  walk_at "sn"
  walk_at "sn"
  refine ⟨s, l, _, rfl, by decide, st, fun t H1 g1 t0 t1 t2 => ?_⟩
  have t3 := t1 (by decide)
  refine ⟨t, rfl, by omega, by omega, ?_⟩
  refine fr_by (fun i σ H' => Ge s l H H' ∧ ∃ (z : Str) (v3 v4 v5 v6 : Option V), z.length ≤ 60 * i ∧ σ = [some (.ref s), some (.int n), some (.str z), v3, v4, v5, v6]) ⟨g1, _, _, _, _, _, by decide +kernel, rfl⟩ ?_ ?_
  · rintro i _ H2 N hN hi ⟨g2, z, v3, v4, v5, v6, hz, rfl⟩
    walk_at "wn"
    refine seq_join (fun σ H' => Ge s l H H' ∧ ∃ (v4 v5 v6 : Option V) (R : Addr) (ws : List Str), H R = none ∧ H' R = some (.lst (ws.map V.str)) ∧ ws.length ≤ 12 ∧ (∀ w ∈ ws, w.length ≤ 3) ∧ σ = [some (.ref s), some (.int n), some (.str z), some (.int (0 + (i : Int))), some (.ref R), v5, v6]) (fun M hM => ?_) ?_
    · walk_at "wn"
      refine ⟨s, l, _, rfl, by decide, g2.st, fun t H3 g3 t0 t1 t2 => ⟨t, rfl, by omega, by omega, ?_⟩⟩
      refine cr_by (fun C j acc H' => Ge s l H3 H' ∧ ∃ ws : List Str, acc = ws.map V.str ∧ ws.length = j ∧ ∀ w ∈ ws, w.length ≤ 3) (fun C H0 n0 => ⟨(Ge.refl g3.st).new n0, [], rfl, rfl, by simp⟩) ?_ ?_
      · rintro C j acc H4 N4 hC hj hacc ⟨g4, ws, rfl, hwl, hww⟩ hN4
        refine ⟨rfl, ?_⟩
        walk_at "wn"
        refine ⟨s, l, _, rfl, by omega, g4.st, fun r H5 g5 r0 r1 r2 => ?_⟩
        have r3 := r1 (by omega)
        have hCs := (g3.st.ne hC).1
        refine ⟨r, rfl, log_sm (Nat.lt_of_le_of_lt (show r.natAbs ≤ 1000 by omega) (by decide +kernel)), cst (g5.k hCs hacc) (by rw [List.length_map, sizeLine_eq]; omega) fun H6 p6 => hN4 _ _ p6.at_ ⟨(g4.trans g5).put g3.st hC p6, ws ++ [pt r.toNat], by rw [pt_int r0, List.map_append]; rfl, by rw [List.length_append, hwl]; rfl, fun w hw => ?_⟩⟩
        rcases List.mem_append.mp hw with h | h
        · exact hww w h
        · rw [List.mem_singleton.mp h]
          exact (pt_len (by omega)).2
      · rintro C acc H4 hC hacc ⟨g4, ws, rfl, hwl, hww⟩
        have t3 := t1 (by decide)
        exact hM _ _ ⟨(g2.trans g3).trans g4, none, _, _, C, ws, (g2.trans g3).fr hC, hacc, by omega, hww, rfl⟩
    rintro _ H3 ⟨g3, _, v5, v6, R, ws, hR, eR, hwl, hww, rfl⟩
    refine seq_join (fun σ H' => Ge s l H H' ∧ ∃ (v4 v5 v6 : Option V) (R : Addr) (ws : List Str), H R = none ∧ H' R = some (.lst (ws.map V.str)) ∧ ws.length ≤ 12 ∧ (∀ w ∈ ws, w.length ≤ 3) ∧ σ = [some (.ref s), some (.int n), some (.str z), some (.int (0 + (i : Int))), some (.ref R), v5, v6]) (fun M hM => ?_) ?_
    · walk_at "wn"
      refine ⟨s, l, _, rfl, by decide, g3.st, fun t H4 g4 t0 t1 t2 => ⟨rfl, ?_⟩⟩
      have hRs := (st.ne hR).1
      split
      · refine ⟨.of_le (by decide) (by omega) (by decide) (by omega), fun q H5 n5 => ?_⟩
        have e5 := n5.at_
        rw [rgV_rng (by omega)] at e5
        have en : (n : Int).toNat = n := by omega
        rw [en] at e5
        have g35 := g4.new n5
        refine ⟨s, l, q, _, 3, rfl, g35.st, sq_l e5, by rw [List.length_map, rng_len]; omega, by decide, fun q2 H6 ys rest g6 hq2 eq2 hp hyl => ?_⟩
        obtain ⟨r, rfl, hrr, _⟩ := dr_ints (n := (n : Int)) (by rw [en]; exact hp)
        have hrl : r.length ≤ 12 := by
          have := hp.length_eq
          rw [List.length_append, List.length_map, List.length_map, rng_len] at this
          omega
        have g36 := g35.trans g6
        have q2H : H3 q2 = none := g35.fr hq2
        show CSqV K (V.ref q2) _ _ _ _ _ _ _
        rw [b_csq]
        refine cs_by (sq_l eq2) (fun C j acc H' => Same H6 H' ∧ acc = ((r.take j).map fun z => pt z.toNat).map V.str) (fun C H0 n0 => ⟨n0.same, rfl⟩) (fun C j acc H' hC f o ho => f.1 _ _ ho) ?_ ?_
        · rintro C j x acc H7 N7 hC hx' hacc ⟨s7, rfl⟩ hN7
          obtain ⟨y, hy, rfl⟩ : ∃ y, r[j]? = some y ∧ x = V.int y := by
            rw [List.getElem?_map] at hx'
            cases e : r[j]? with
            | none => rw [e] at hx'; cases hx'
            | some y => rw [e] at hx'; exact ⟨y, rfl, (Option.some.inj hx').symm⟩
          have hyr := hrr y (List.mem_of_getElem? hy)
          have hjl := (List.getElem?_eq_some_iff.mp hy).1
          refine ⟨rfl, ?_⟩
          walk_at "wn"
          refine ⟨log_sm (Nat.lt_of_le_of_lt (show y.natAbs ≤ 1000 by omega) (by decide +kernel)), cst hacc (by rw [List.length_map, List.length_map, List.length_take, sizeLine_eq]; omega) fun H8 p8 => hN7 _ _ p8.at_ ⟨p8.same s7 hC, ?_⟩⟩
          rw [pt_int hyr.1, List.take_add_one, hy]
          simp
        · rintro C acc H7 hC hacc ⟨s7, rfl⟩
          rw [List.length_map, List.take_length] at hacc
          refine hM _ _ ⟨(g3.trans g36).same s7, none, _, _, C, _, (g3.trans g36).fr hC, hacc, by rw [List.length_map]; omega, fun w hw => ?_, rfl⟩
          obtain ⟨y, hy, rfl⟩ := List.mem_map.mp hw
          have := hrr y hy
          exact (pt_len (by omega)).2
      · exact hM _ _ ⟨g3.trans g4, none, _, _, R, ws, hR, g4.k hRs eR, hwl, hww, rfl⟩
    rintro _ H4 ⟨g4, _, v5, v6, R, ws, hR, eR, hwl, hww, rfl⟩
    refine seq_join (fun σ H' => Ge s l H H' ∧ ∃ (v4 v5 v6 : Option V) (R : Addr) (ws : List Str), H R = none ∧ H' R = some (.lst (ws.map V.str)) ∧ ws.length ≤ 13 ∧ (∀ w ∈ ws, w.length ≤ 3) ∧ σ = [some (.ref s), some (.int n), some (.str z), some (.int (0 + (i : Int))), some (.ref R), v5, v6]) (fun M hM => ?_) ?_
    · walk_at "wn"
      refine ⟨s, l, _, rfl, by decide, g4.st, fun t H5 g5 t0 t1 t2 => ⟨rfl, ?_⟩⟩
      have hRs := (st.ne hR).1
      have eR5 := g5.k hRs eR
      split
      · refine ⟨tyl eR5, szl (by decide), fun q H6 n6 => ?_⟩
        have g46 := g5.new n6
        refine ⟨s, l, q, _, rfl, g46.st, (g5.st.ne n6.fr).1, sq_l n6.at_, by simp, by simp, fun x H7 g7 hx => ?_⟩
        obtain ⟨w, rfl, hw⟩ : ∃ w : Str, x = V.str w ∧ w.length ≤ 3 := by
          simp only [List.mem_cons, List.not_mem_nil, or_false] at hx
          rcases hx with rfl | rfl | rfl | rfl | rfl | rfl | rfl | rfl | rfl <;> exact ⟨_, rfl, by decide +kernel⟩
        have eR7 := g7.k hRs (n6.k eR5)
        refine ⟨_, eR7, by rw [List.length_map, sizeLine_eq]; omega, fun H8 p8 => hM _ _ ⟨((g4.trans g46).trans g7).put st hR p8, none, _, _, R, ws ++ [w], hR, by rw [p8.at_, List.map_append]; rfl, by rw [List.length_append]; simp; omega, fun u hu => ?_, rfl⟩⟩
        rcases List.mem_append.mp hu with h | h
        · exact hww u h
        · rw [List.mem_singleton.mp h]
          exact hw
      · exact hM _ _ ⟨g4.trans g5, none, _, _, R, ws, hR, eR5, by omega, hww, rfl⟩
    rintro _ H5 ⟨g5, _, v5, v6, R, ws, hR, eR, hwl, hww, rfl⟩
    walk_at "wn"
    have hz2 : z.length ≤ 300 := by omega
    have l1 : ("(" : Str).length = 1 := by decide +kernel
    have l2 : (")" : Str).length = 1 := by decide +kernel
    have l3 : (" " : Str).length = 1 := by decide +kernel
    have hsum : (ws.map (·.length)).sum ≤ 3 * ws.length := sum_le _ hww
    have hj := txt_len " " ws
    rw [l3] at hj
    refine ⟨by rw [l1, sizeLine_eq]; omega, ⟨_, rfl⟩, ws, .inl (SqL.of eR), by rw [l3]; omega, by rw [len_app, l1, sizeLine_eq]; omega, by rw [len_app, len_app, l1, l2, sizeLine_eq]; omega, hN _ _ ⟨g5, _, _, _, _, _, ?_, rfl⟩⟩
    rw [len_app, len_app, len_app, l1, l2]
    omega
  · rintro _ H2 ⟨g2, z, v3, v4, v5, v6, hz, rfl⟩
    walk_at "wn"
    exact k z H2 g2 (by omega)
end

/-! ## Y11 -/

theorem rowsT_len {ns : List Int} (m : Mv ns) (hl : ns.length ≤ 12) : (rowsT (cyc ns)).length ≤ 700 := by
  unfold rowsT
  split
  · decide +kernel
  · have hb : ((((cyc ns).map rowT)).map (·.length)).sum ≤ 50 * (cyc ns).length := by
      rw [List.map_map]
      refine sum_le _ fun c hc2 => ?_
      obtain ⟨c1, c2, c3⟩ := cyc_len m hc2
      have := rowT_len (c := c) fun z hz => by have := c3 z hz; omega
      show (rowT c).length ≤ 50
      omega
    have hcn := cyc_cnt m
    have le0 : ("" : Str).length = 0 := by decide +kernel
    have := txt_len "" ((cyc ns).map rowT)
    rw [le0, Nat.mul_zero] at this
    omega
theorem rowT_len1 {c : List Int} (h : ∀ z ∈ c, 0 ≤ z ∧ z < 1000) : (rowT c).length ≤ 4 * c.length + 2 := rowT_len h
theorem sum_flat : ∀ gs : List (List Int), (∀ c ∈ gs, (rowT c).length ≤ 4 * c.length + 2) → ((gs.map rowT).map (·.length)).sum ≤ 4 * gs.flatten.length + 2 * gs.length
  | [], _ => by simp
  | c :: r, h => by
    have h1 := h c List.mem_cons_self
    have h2 := sum_flat r fun d hd => h d (List.mem_cons_of_mem _ hd)
    rw [List.map_cons, List.map_cons, List.sum_cons, List.flatten_cons, List.length_append, List.length_cons]
    omega
theorem loose_len {ns : List Int} {gs : List (List Int)} (h : Loose ns gs) (hl : ns.length ≤ 12) : (Txt.join "" (gs.map rowT)).length ≤ 80 := by
  have fl : gs.flatten.length ≤ ns.length := sub_len h.rws.nd fun z hz => mem_rng.mpr (h.rws.rg z hz)
  have few := h.few
  have hs := sum_flat gs fun c hc => rowT_len fun z hz => by have := h.rws.rg z (List.mem_flatten.mpr ⟨c, hc, hz⟩); omega
  have le0 : ("" : Str).length = 0 := by decide +kernel
  have := txt_len "" (gs.map rowT)
  rw [le0, Nat.mul_zero] at this
  omega
section
variable {P : Program} {w : World} {K : PySem.W.Frag} {mg : Str → Option Value} {base : Heap} {C : Addr}
theorem prm_ok {n : Nat} {z : Str} {ns : List Int} {b : Bool} {H : Hp} {Q : VK} {Er : XK} (hn : n ≤ 12) (hz : z.length ≤ 100000) (h : rdL b n z = some ns) (k : ∀ a H', Same H H' → H a = none → MvA H' (.ref a) a ns → Q (.ref a) H') : sp_prm K [.int n, .str z, .bl b] H Q Er := by
  refine ⟨.int n, z, b, [], .int n, _, rfl, hz, .lf (.int (n : Int)), sm_small (by constructor <;> omega), fun hno => by simp [numOk] at hno; omega, fun n' en hn' => ?_⟩
  obtain rfl : n = n' := by have := V.int.inj en; omega
  refine ⟨fun h2 => (by rw [h] at h2; cases h2), fun ns' h2 hl a H' s ha ma => ?_⟩
  rw [h] at h2
  cases h2
  exact k a H' s ha ma
theorem Lv.store {s l : Addr} {H : Hp} (st : Sto s l H) : Lv [s] H := fun a ha e => by
  obtain ⟨_, _, _, _, _, _, _, h1, _⟩ := st
  rw [List.mem_singleton.mp ha, h1] at e
  cases e
theorem reads_ok {n : Nat} {z : Str} {b : Bool} {H : Hp} {Q : VK} (hn : n ≤ 12) (hz : z.length ≤ 100000) (k : ∀ H', Same H H' → Q (.bl true) H') : sp_reads [.int n, .str z, .bl b] H Q E0 := ⟨n, z, b, rfl, hn, hz, k⟩
def sp_law (K : PySem.W.Frag) : Sp := fun vs H Q _ => ∃ (a : Addr) (ns : List Int), vs = [.ref a] ∧ SqL K H a (ns.map V.int) ∧ ns.length ≤ 63 ∧ ∀ H', Q (.bl true) H'
abbrev stlaw : Stmt := topS 75
theorem sclaw : FnScope ["script", "store", "points", "move", "rough", "sign", "at", "many", "front", "cut", "full", "texts", "k", "bent", "text", "wrong"] ["script"] (defScope stlaw) := ⟨rfl, rfl, rfl, by decide +kernel, rfl, by decide +kernel, by decide +kernel⟩
theorem oklaw {f : Addr} {fd : FuncData} (F : FnP K "law" stlaw f fd) (T : NoB mg) (C_law_bad_number : Cl P w K mg base 4 "_law_bad_number" ["store", "low", "high", "nothing"] sp_badn) (C_law_bent_text : Cl P w K mg base 6 "_law_bent_text" ["store", "text"] sp_bent_text) (C_law_groups : Cl P w K mg base 5 "_law_groups" ["store", "points"] sp_groups) (C_law_loose_text : Cl P w K mg base 4 "_law_loose_text" ["store", "move"] sp_loose) (C_law_move : Cl P w K mg base 4 "_law_move" ["store", "points"] sp_move) (C_law_move_text : Cl P w K mg base 3 "_law_move_text" ["move"] sp_movetxt) (C_law_pick : Cl P w K mg base 3 "_law_pick" ["store", "things"] sp_pick) (C_law_pickS : Cl P w K mg base 3 "_law_pick" ["store", "things"] sp_pickS) (C_law_place : Cl P w K mg base 3 "_law_place" ["store", "size"] sp_place) (C_law_points_told : Cl P w K mg base 9 "_law_points_told" ["points", "text"] sp_ptold) (C_law_reads : Cl P w K mg base 9 "_law_reads" ["points", "text", "free"] sp_reads) (C_law_same : Cl P w K mg base 2 "_law_same" ["actual", "due"] sp_same) (C_law_sign : Cl P w K mg base 3 "_law_sign" ["store"] sp_sign) (C_law_store : Cl P w K mg base 1 "_law_store" ["script"] (sp_store K)) (C_law_take : Cl P w K mg base 2 "_law_take" ["store", "many"] sp_take) (C_law_text : Cl P w K mg base 4 "_law_text" ["store", "most"] sp_text) (CN_parse_move : ClXN P w K mg base 8 "parse_move" 2 [] (fun vs H Q E => (sp_prm K) (vs ++ [.bl false]) H Q E) ∧ ClXN P w K mg base 8 "parse_move" 2 ["loose"] (sp_prm K)) : FnOk P w K mg base CX0 12 f fd ["script"] (sp_law K) := by
  refine fn_ofF F sclaw (fun vs H Q E h => ?_) (fun f cdv A outer sh H vs Q E hr h => ?_)
  · obtain ⟨_, _, rfl, _⟩ := h; rfl
  obtain ⟨a, cells, rfl, hs, hcl, k⟩ := h
  refine ⟨_, (pss_cons (ps_set (i := 1) sclaw.nd rfl (Or.inl rfl) (pe_cl C_law_store hr (by rfl) (pa_cons (pv 0) pa_nil)))
    (pss_cons (ps_set (i := 2) sclaw.nd rfl (Or.inl rfl) (pe_cl C_law_place hr (by rfl) (pa_cons (pv 1) (pa_cons pe_int pa_nil))))
    (pss_cons (ps_set (i := 3) sclaw.nd rfl (Or.inl rfl) (pe_cl C_law_move hr (by rfl) (pa_cons (pv 1) (pa_cons (pv 2) pa_nil))))
    (pss_cons (ps_set (i := 4) sclaw.nd rfl (Or.inl rfl) (pe_cl C_law_loose_text hr (by rfl) (pa_cons (pv 1) (pa_cons (pv 3) pa_nil))))
    (pss_cons (ps_if (pt_not (pt_val (pe_cl C_law_same hr (by rfl) (pa_cons (pe_clXN CN_parse_move.2 takesN0 hr (by rfl) (pa_cons (pv 2) (pa_cons (pv 4) pa_nil)) (pk_cons pe_bl pk_nil)) (pa_cons (pv 3) pa_nil))))) (pss_one (ps_ret pe_bl)) pss_nil)
    (pss_cons (ps_set (i := 5) sclaw.nd rfl (Or.inl rfl) (pe_cl C_law_sign hr (by rfl) (pa_cons (pv 1) pa_nil)))
    (pss_cons (ps_if (pt_cmpR op_eq (pe_cl C_law_take hr (by rfl) (pa_cons (pv 1) (pa_cons pe_int pa_nil))) pe_int (nomark _)) (pss_one (ps_set (i := 5) sclaw.nd rfl (Or.inl rfl) (pe_cl C_law_pickS hr (by rfl) (pa_cons (pv 1) (pa_cons pe_str pa_nil))))) pss_nil)
    (pss_cons (ps_for PassesOwn.never rfl (pi_range1 (by rfl) T.no_range (pa_cons (pe_op op_add (pe_callB call_len_str (by rfl) T.no_len (by decide +kernel) (pa_cons (pv 4) pa_nil)) pe_int) pa_nil)) (pg_name (i := 6) sclaw.nd rfl (Or.inl rfl)) (pss_cons (ps_if (pt_not (pt_val (pe_cl C_law_reads hr (by rfl) (pa_cons (pv 2) (pa_cons (pe_op op_add_str (pe_slice sl_str (pv 4) po_none (po_some (pv 6))) (pe_slice sl_str (pv 4) (po_some (pe_op op_add (pv 6) pe_int)) po_none)) (pa_cons pe_bl pa_nil)))))) (pss_one (ps_ret pe_bl)) pss_nil)
    (pss_one (ps_if (pt_not (pt_val (pe_cl C_law_reads hr (by rfl) (pa_cons (pv 2) (pa_cons (pe_op op_add_str (pe_op op_add_str (pe_slice sl_str (pv 4) po_none (po_some (pv 6))) (pv 5)) (pe_slice sl_str (pv 4) (po_some (pv 6)) po_none)) (pa_cons pe_bl pa_nil)))))) (pss_one (ps_ret pe_bl)) pss_nil))))
    (pss_cons (ps_set (i := 7) sclaw.nd rfl (Or.inl rfl) (pe_cl C_law_place hr (by rfl) (pa_cons (pv 1) (pa_cons (pe_op op_add (pe_op op_fdivN (pe_op op_sub pe_int (pe_callB call_len_str (by rfl) T.no_len (by decide +kernel) (pa_cons (pv 4) pa_nil))) pe_int) pe_int) pa_nil))))
    (pss_cons (ps_set (i := 8) sclaw.nd rfl (Or.inl rfl) (pe_cl C_law_take hr (by rfl) (pa_cons (pv 1) (pa_cons (pe_op op_add (pv 7) pe_int) pa_nil))))
    (pss_cons (ps_set (i := 9) sclaw.nd rfl (Or.inl rfl) (pe_op op_add (pe_m1 PySem.F.slot_str_find PySem.F.type_str_find mt_find (pv 4) pe_str) pe_int))
    (pss_cons (ps_set (i := 10) sclaw.nd rfl (Or.inl rfl) (pe_op op_add_str (pe_op op_add_str (pe_op op_add_str (pe_op op_mulS pe_str (pv 8)) (pe_slice sl_str (pv 4) po_none (po_some (pv 9)))) (pe_op op_mulS pe_str (pe_op op_sub (pv 7) (pv 8)))) (pe_slice sl_str (pv 4) (po_some (pv 9)) po_none)))
    (pss_cons (ps_if (PW.pt (pw_or (pt_not (pt_val (pe_cl C_law_same hr (by rfl) (pa_cons (pe_clXN CN_parse_move.2 takesN0 hr (by rfl) (pa_cons (pv 2) (pa_cons (pv 10) pa_nil)) (pk_cons pe_bl pk_nil)) (pa_cons (pv 3) pa_nil))))) (pw_or1 (pt_not (pt_val (pe_cl C_law_reads hr (by rfl) (pa_cons (pv 2) (pa_cons (pv 10) (pa_cons pe_bl pa_nil))))))))) (pss_one (ps_ret pe_bl)) pss_nil)
    (pss_cons (ps_set (i := 11) sclaw.nd rfl (Or.inl rfl) (pe_lst (pa_cons (pe_slice sl_str (pv 10) po_none (po_some pe_int)) (pa_cons (pv 4) (pa_cons (pe_cl C_law_groups hr (by rfl) (pa_cons (pv 1) (pa_cons (pv 2) pa_nil))) (pa_cons (pe_cl C_law_groups hr (by rfl) (pa_cons (pv 1) (pa_cons (pv 2) pa_nil))) (pa_cons (pe_cl C_law_text hr (by rfl) (pa_cons (pv 1) (pa_cons pe_int pa_nil))) pa_nil)))))))
    (pss_cons (ps_for PassesOwn.never rfl (pi_range1 (by rfl) T.no_range (pa_cons pe_int pa_nil)) (pg_name (i := 12) sclaw.nd rfl (Or.inl rfl)) (pss_cons (ps_set (i := 13) sclaw.nd rfl (Or.inl rfl) (pe_cl C_law_bent_text hr (by rfl) (pa_cons (pv 1) (pa_cons (pe_cl C_law_pick hr (by rfl) (pa_cons (pv 1) (pa_cons (pe_slice sl_list (pv 11) po_none (po_some pe_int)) pa_nil))) pa_nil))))
    (pss_cons (ps_if (pt_cmpR op_eq (pe_cl C_law_take hr (by rfl) (pa_cons (pv 1) (pa_cons pe_int pa_nil))) pe_int (nomark _)) (pss_one (ps_set (i := 13) sclaw.nd rfl (Or.inl rfl) (pe_cl C_law_bent_text hr (by rfl) (pa_cons (pv 1) (pa_cons (pe_slice sl_str (pv 13) po_none (po_some pe_int)) pa_nil))))) pss_nil)
    (pss_one (ps_expr (pe_bm PySem.F.plainAttrs_list PySem.F.slot_list_append PySem.F.type_list_append mt_append (pv 11) (pa_cons (pv 13) pa_nil)))))))
    (pss_cons (ps_set (i := 11) sclaw.nd rfl (Or.inl rfl) (pe_op op_cat (pv 11) (pe_lst (pa_cons (pe_op op_mulS pe_str pe_int) (pa_cons (pe_op op_mulS pe_str pe_int) (pa_cons (pe_op op_mulS pe_str pe_int) (pa_cons (pe_op op_add_str (pe_op op_mulS pe_str pe_int) pe_str) (pa_cons pe_str (pa_cons pe_str (pa_cons (pe_cl C_law_move_text hr (by rfl) (pa_cons (pv 3) pa_nil)) pa_nil))))))))))
    (pss_cons (ps_for PassesOwn.never rfl (pi_sq (pv 11)) (pg_name (i := 14) sclaw.nd rfl (Or.inl rfl)) (pss_cons (ps_if (PW.pt (pw_or (pt_not (pt_val (pe_cl C_law_reads hr (by rfl) (pa_cons (pv 2) (pa_cons (pv 14) (pa_cons pe_bl pa_nil)))))) (pw_or1 (pt_not (pt_val (pe_cl C_law_reads hr (by rfl) (pa_cons (pe_cl C_law_place hr (by rfl) (pa_cons (pv 1) (pa_cons pe_int pa_nil))) (pa_cons (pv 14) (pa_cons pe_bl pa_nil))))))))) (pss_one (ps_ret pe_bl)) pss_nil)
    (pss_one (ps_if (pt_not (pt_val (pe_cl C_law_reads hr (by rfl) (pa_cons (pv 2) (pa_cons (pv 14) (pa_cons pe_bl pa_nil)))))) (pss_one (ps_ret pe_bl)) pss_nil))))
    (pss_cons (ps_set (i := 15) sclaw.nd rfl (Or.inl rfl) (pe_cl C_law_bad_number hr (by rfl) (pa_cons (pv 1) (pa_cons pe_int (pa_cons pe_int (pa_cons pe_bl pa_nil))))))
    (pss_cons (ps_if (PW.pt (pw_or (pt_not (pt_val (pe_cl C_law_points_told hr (by rfl) (pa_cons (pv 15) (pa_cons (pv 4) pa_nil))))) (pw_or1 (pt_not (pt_val (pe_cl C_law_points_told hr (by rfl) (pa_cons (pv 15) (pa_cons (pe_slice sl_str (pv 10) po_none (po_some (pe_un un_neg pe_int))) pa_nil)))))))) (pss_one (ps_ret pe_bl)) pss_nil)
    (pss_one (ps_ret (pe_cl C_law_same hr (by rfl) (pa_cons (pe_clXN CN_parse_move.2 takesN0 hr (by rfl) (pa_cons (pv 2) (pa_cons (pv 4) pa_nil)) (pk_cons pe_bl pk_nil)) (pa_cons (pv 3) pa_nil)))))))))))))))))))))))), ?_⟩
  walk_at "sn"
  refine ⟨a, cells, rfl, hs, by omega, fun s l H1 s1 hs1 st => ?_⟩
  walk_at "sn"
  refine ⟨s, l, _, rfl, st, by decide, by decide, fun n0 H2 g2 n1 n2 => ?_⟩
  obtain ⟨n, rfl⟩ : ∃ n : Nat, n0 = n := ⟨n0.toNat, by omega⟩
  have hn : n ≤ 12 := by omega
  walk_at "sn"
  refine ⟨s, l, _, rfl, g2.st, by omega, by omega, fun m0 ns H3 g23 fm em hp => ?_⟩
  have g3 := g2.trans g23
  have fm1 := g2.fr fm
  have ms := (st.ne fm1).1
  have en : (n : Int).toNat = n := by omega
  rw [en] at hp
  have hlen : ns.length = n := by rw [hp.length_eq, rng_len]
  have ma : MvA H3 (.ref m0) m0 ns := ⟨rfl, em, by omega, by rw [hlen]; exact hp⟩
  have m := ma.m
  have hle := ma.le
  walk_at "sn"
  refine ⟨s, l, m0, ns, rfl, g3.st, ma, fun gs H4 g34 lo => ?_⟩
  have rl := loose_len lo hle
  have hfull := fun f k : Int => full_ok (f := f) (k := k) lo
  have hrough : rdL true n (gsT gs) = some ns := by
    have := rdL_gs lo.rws lo.img lo.ne
    rw [hlen] at this
    exact this
  rw [show Txt.join "" (gs.map rowT) = gsT gs from rfl] at rl ⊢
  rw [hlen] at hfull
  generalize gsT gs = rough at rl hfull hrough
  have g4 := g3.trans g34
  have ma4 : MvA H4 (.ref m0) m0 ns := ⟨rfl, g34.k ms em, hle, ma.p⟩
  walk_at "sn"
  refine prm_ok hn (by omega) hrough fun q H7 s7 hq mq => ?_
  walk_at "wn"
  refine ⟨.ref q, .ref m0, _, _, _, rfl, mq.dw, (ma4.same s7).dw, by omega, fun H8 s8 => ?_⟩
  have t8 := s7.trans s8
  have g8 := g4.same t8
  have ma8 := ma4.same t8
  walk_at "wn"
  walk_at "sn"
  refine ⟨s, l, rfl, g8.st, fun sg0 H9 g89 sl0 sv0 => ?_⟩
  refine seq_join (fun σ H' => Ge s l H8 H' ∧ ∃ sg : Str, sg.length = 1 ∧ σ = [some (.ref a), some (.ref s), some (.int n), some (.ref m0), some (.str rough), some (.str sg), none, none, none, none, none, none, none, none, none, none]) (fun M hM => ?_) ?_
  · walk_at "wn"
    refine ⟨s, l, _, rfl, by decide, g89.st, fun c H10 g10 c0 c1 c2 => ?_⟩
    have g810 := g89.trans g10
    walk_at "wn"
    split
    · refine ⟨s, l, _, rfl, g10.st, by decide +kernel, by decide +kernel, fun ch H11 g11 hch => ?_⟩
      exact hM _ _ ⟨g810.trans g11, ⟨#[ch]⟩, rfl, rfl⟩
    · exact hM _ _ ⟨g810, sg0, sl0, rfl⟩
  rintro _ H10 ⟨g810, sg, hsg, rfl⟩
  have g10 := g8.trans g810
  have ma10 : MvA H10 (.ref m0) m0 ns := ⟨rfl, g810.k ms ma8.at_, hle, ma8.p⟩
  walk_at "sn"
  refine ⟨by rw [sizeLine_eq]; omega, by omega, by omega, ?_⟩
  have cl := fun lo hi => cut_le rough lo hi
  refine fr_by (fun i σ H' => Same H10 H' ∧ ∃ v6 : Option V, σ = [some (.ref a), some (.ref s), some (.int n), some (.ref m0), some (.str rough), some (.str sg), v6, none, none, none, none, none, none, none, none, none]) ⟨Same.refl _, _, rfl⟩ ?_ ?_
  · rintro i _ H11 N hN hi ⟨s11, v6, rfl⟩
    walk_at "wn"
    rw [a_seq]
    walk_at "wn"
    have e1 := cl none (some (0 + (i : Int)))
    have e2 := cl (some (0 + (i : Int) + 1)) none
    have e3 := cl (some (0 + (i : Int))) none
    refine ⟨by rw [sizeLine_eq]; omega, by rw [sizeLine_eq]; omega, by rw [sizeLine_eq]; omega, reads_ok hn (by rw [len_app]; omega) fun H12 s12 => ?_⟩
    walk_at "wn"
    refine ⟨by rw [sizeLine_eq]; omega, by rw [sizeLine_eq]; omega, by rw [sizeLine_eq]; omega, by rw [len_app, sizeLine_eq]; omega, reads_ok hn (by rw [len_app, len_app]; omega) fun H13 s13 => ?_⟩
    walk_at "wn"
    exact hN _ _ ⟨(s11.trans s12).trans s13, _, rfl⟩
  rintro _ H11 ⟨s11, v6, rfl⟩
  have g11 := g10.same s11
  have ma11 := ma10.same s11
  walk_at "wn"
  walk_at "sn"
  have hdv : (200 - (rough.length : Int)).fdiv 2 = (200 - (rough.length : Int)) / 2 := Int.fdiv_eq_ediv_of_nonneg _ (by decide)
  refine ⟨by rw [sizeLine_eq]; omega, ⟨by decide, by decide⟩, ?_⟩
  rw [hdv]
  refine ⟨s, l, _, rfl, g11.st, by omega, by omega, fun mn H12 g112 mn0 mn1 => ?_⟩
  have g12 := g11.trans g112
  walk_at "sn"
  refine ⟨s, l, _, rfl, by omega, g12.st, fun fr H13 g123 f0 f1 f2 => ?_⟩
  have g13 := g12.trans g123
  have hfr : fr ≤ mn := by
    by_cases h2 : (2 : Int) ≤ mn + 1
    · have := f1 h2; omega
    · have := f2 (by omega); omega
  walk_at "sn"
  walk_at "sn"
  have lpp : ("()" : Str).length = 2 := by decide +kernel
  generalize hcut : Txt.find rough ")" + 1 = cut at hfull
  have c1 := cl none (some cut)
  have c2 := cl (some cut) none
  have ml1 := mul_len (x := "()") (n := fr)
  have ml2 := mul_len (x := "()") (n := mn - fr)
  rw [lpp] at ml1 ml2
  refine ⟨⟨_, rfl⟩, by rw [lpp]; decide, by omega, by omega, by rw [sizeLine_eq]; omega, by rw [ml1, sizeLine_eq]; omega, by rw [lpp]; decide, by omega, by omega, by rw [len_app, ml1, ml2, sizeLine_eq]; omega, by rw [sizeLine_eq]; omega, by rw [len_app, len_app, ml1, ml2, sizeLine_eq]; omega, ?_⟩
  have hful := hfull fr (mn - fr)
  have fl : (Txt.mul "()" fr ++ cutS rough none (some cut) ++ Txt.mul "()" (mn - fr) ++ cutS rough (some cut) none).length ≤ 1000 := by
    rw [len_app, len_app, len_app, ml1, ml2]
    omega
  generalize Txt.mul "()" fr ++ cutS rough none (some cut) ++ Txt.mul "()" (mn - fr) ++ cutS rough (some cut) none = full at hful fl
  have ma13 : MvA H13 (.ref m0) m0 ns := ⟨rfl, g123.k ms (g112.k ms ma11.at_), hle, ma11.p⟩
  walk_at "sn"
  refine prm_ok hn (by omega) hful fun q H14 s14 hq mq => ?_
  walk_at "wn"
  refine ⟨.ref q, .ref m0, _, _, _, rfl, mq.dw, (ma13.same s14).dw, by omega, fun H15 s15 => ?_⟩
  walk_at "wn"
  refine reads_ok hn (by omega) fun H16 s16 => ?_
  have t16 := (s14.trans s15).trans s16
  have g16 := g13.same t16
  have ma16 := ma13.same t16
  walk_at "wn"
  walk_at "sn"
  have ff := cut_le full none (some 199)
  refine ⟨by rw [sizeLine_eq]; omega, s, l, n, rfl, g16.st, hn, fun z2 H17 g17 hz2 => ?_⟩
  have g1617 := g17
  refine ⟨s, l, n, rfl, g17.st, hn, fun z3 H18 g18 hz3 => ?_⟩
  have g1618 := g1617.trans g18
  refine ⟨s, l, 200, rfl, g18.st, by decide, by decide, fun z4 H19 g19 hz4 _ => ?_⟩
  have g1619 := g1618.trans g19
  refine ⟨szl (by decide), fun X H20 n20 => ?_⟩
  have g1620 := g1619.new n20
  have g20 := g16.trans g1620
  have hX := n20.fr
  have XH : H16 X = none := g1619.fr n20.fr
  have Xs := (g16.st.ne XH).1
  have ma20 : MvA H20 (.ref m0) m0 ns := ⟨rfl, g1620.k ms ma16.at_, hle, ma16.p⟩
  generalize hz1 : cutS full none (some 199) = z1 at ff
  have e20 : H20 X = some (.lst ([z1, rough, z2, z3, z4].map V.str)) := by rw [n20.at_, hz1]; rfl
  walk_at "sn"
  refine ⟨by decide, by decide, ?_⟩
  refine fr_by (fun i σ H' => Ge s l H16 H' ∧ ∃ (ex : List Str) (v12 v13 : Option V), H' X = some (.lst (([z1, rough, z2, z3, z4] ++ ex).map V.str)) ∧ ex.length = i ∧ (∀ z ∈ ex, z.length ≤ 5000) ∧ σ = [some (.ref a), some (.ref s), some (.int n), some (.ref m0), some (.str rough), some (.str sg), v6, some (.int mn), some (.int fr), some (.int cut), some (.str full), some (.ref X), v12, v13, none, none])
    ⟨g1620, [], none, none, e20, rfl, by simp, rfl⟩ ?_ ?_
  · rintro i _ H21 N hN hi ⟨g21, ex, v12, v13, eX, hexl, hex, rfl⟩
    walk_at "wn"
    rw [a_seq]
    walk_at "wn"
    have tk4 : cutV (([z1, rough, z2, z3, z4] ++ ex).map V.str) none (some 4) = [V.str z1, V.str rough, V.str z2, V.str z3] := by
      rw [cut_to (by decide)]
      rfl
    refine ⟨_, SqL.of eX, fun q4 H22 n22 => ?_⟩
    have e22 := n22.at_
    rw [tk4] at e22
    have g22 := (Ge.refl g21.st).new n22
    refine ⟨s, l, q4, _, rfl, g22.st, (g21.st.ne n22.fr).1, sq_l e22, by simp, by simp, fun x H23 g23 hx => ?_⟩
    have g2123 := g22.trans g23
    obtain ⟨zz, rfl, hzz⟩ : ∃ zz : Str, x = V.str zz ∧ zz.length ≤ 1000 := by
      simp only [List.mem_cons, List.not_mem_nil, or_false] at hx
      rcases hx with rfl | rfl | rfl | rfl
      · exact ⟨_, rfl, by omega⟩
      · exact ⟨_, rfl, by omega⟩
      · exact ⟨_, rfl, by omega⟩
      · exact ⟨_, rfl, by omega⟩
    refine ⟨s, l, zz, rfl, g23.st, by omega, fun b1 H24 g24 hb1 _ => ?_⟩
    have g2124 := g2123.trans g24
    refine seq_join (fun σ H' => Ge s l H21 H' ∧ ∃ b2 : Str, b2.length ≤ 5000 ∧ σ = [some (.ref a), some (.ref s), some (.int n), some (.ref m0), some (.str rough), some (.str sg), v6, some (.int mn), some (.int fr), some (.int cut), some (.str full), some (.ref X), some (.int (0 + (i : Int))), some (.str b2), none, none]) (fun M hM => ?_) ?_
    · walk_at "wn"
      refine ⟨s, l, _, rfl, by decide, g24.st, fun c H25 g25 c0 c1 c2 => ?_⟩
      have g2125 := g2124.trans g25
      walk_at "wn"
      split
      · have b199 := cut_le b1 none (some 199)
        have b200 : (cutS b1 none (some 199)).length ≤ 199 := by
          by_cases hb : 199 ≤ b1.length
          · have := tl_cutTo (z := b1) (m := 199) hb
            rw [TL.len_tl]
            rw [show ((199 : Nat) : Int) = 199 from rfl] at this
            rw [this, List.length_take]
            omega
          · omega
        refine ⟨by rw [sizeLine_eq]; omega, s, l, _, rfl, g25.st, by omega, fun b2 H26 g26 hb2 _ => ?_⟩
        exact hM _ _ ⟨g2125.trans g26, b2, by omega, rfl⟩
      · exact hM _ _ ⟨g2125, b1, by omega, rfl⟩
    rintro _ H25 ⟨g2125, b2, hb2, rfl⟩
    have eX25 := g2125.k Xs eX
    walk_at "wn"
    refine ⟨tyl eX25, _, eX25, by rw [List.length_map, List.length_append, sizeLine_eq]; simp; omega, fun H26 p26 => hN _ _ ⟨(g21.trans g2125).put g16.st XH p26, ex ++ [b2], _, _, by rw [p26.at_, List.map_append, List.map_append, List.map_append, List.append_assoc]; rfl, by rw [List.length_append, hexl]; rfl, fun z hz => ?_, rfl⟩⟩
    rcases List.mem_append.mp hz with h | h
    · exact hex z h
    · rw [List.mem_singleton.mp h]
      exact hb2
  rintro _ H21 ⟨g21, ex, v12, v13, eX, hexl, hex, rfl⟩
  walk_at "wn"
  walk_at "sn"
  have ma21 : MvA H21 (.ref m0) m0 ns := ⟨rfl, g21.k ms ma16.at_, hle, ma16.p⟩
  have l24 := mul_len (x := "()") (n := 24)
  have l25 := mul_len (x := "()") (n := 25)
  have l100 := mul_len (x := "()") (n := 100)
  have l99 := mul_len (x := "()") (n := 99)
  rw [lpp] at l24 l25 l100 l99
  have lo2 : ("( " : Str).length = 2 := by decide +kernel
  have rml := rowsT_len m hle
  refine ⟨by rw [lpp]; decide, by decide, by decide, by rw [lpp]; decide, by decide, by decide, by rw [lpp]; decide, by decide, by decide, by rw [lpp]; decide, by decide, by decide, by rw [l99, lo2, sizeLine_eq]; decide, m0, ns, rfl, ma21, fun H22 s22 => ?_⟩
  refine ⟨szl (by decide), fun Y0 H23 n23 => ?_⟩
  have eX23 := n23.k (s22 _ _ eX)
  refine ⟨_, eX23, _, n23.at_, by rw [List.length_map, List.length_append, sizeLine_eq]; simp; omega, fun Y H24 n24 => ?_⟩
  have g2124 := (((Ge.refl g21.st).same s22).new n23).new n24
  have g24 := (g16.trans g21).trans g2124
  have Ys := ((((g16.trans g21).same s22).new n23).st.ne n24.fr).1
  obtain ⟨ts, hts, htl⟩ : ∃ ts : List Str, H24 Y = some (.lst (ts.map V.str)) ∧ ∀ z ∈ ts, z.length ≤ 100000 := by
    refine ⟨([z1, rough, z2, z3, z4] ++ ex) ++ [Txt.mul "()" 24, Txt.mul "()" 25, Txt.mul "()" 100, Txt.mul "()" 99 ++ "( ", "", "(", rowsT (cyc ns)], by rw [n24.at_]; simp, fun z hz => ?_⟩
    rcases List.mem_append.mp hz with hz | hz
    · rcases List.mem_append.mp hz with hz | hz
      · simp only [List.mem_cons, List.not_mem_nil, or_false] at hz
        rcases hz with rfl | rfl | rfl | rfl | rfl <;> omega
      · have := hex z hz
        omega
    · simp only [List.mem_cons, List.not_mem_nil, or_false] at hz
      rcases hz with rfl | rfl | rfl | rfl | rfl | rfl | rfl
      · rw [l24]; decide
      · rw [l25]; decide
      · rw [l100]; decide
      · rw [len_app, l99, lo2]; decide
      · decide +kernel
      · decide +kernel
      · omega
  have ma24 : MvA H24 (.ref m0) m0 ns := ⟨rfl, g2124.k ms ma21.at_, hle, ma21.p⟩
  walk_at "sn"
  refine fs_by (sq_l hts) (fun i σ H' => Ge s l H24 H' ∧ H' Y = some (.lst (ts.map V.str)) ∧ ∃ v14 : Option V, σ = [some (.ref a), some (.ref s), some (.int n), some (.ref m0), some (.str rough), some (.str sg), v6, some (.int mn), some (.int fr), some (.int cut), some (.str full), some (.ref Y), v12, v13, v14, none])
    ⟨Ge.refl g24.st, hts, _, rfl⟩ (fun i σ' H' f o ho => by rw [hts] at ho; cases ho; exact f.2.1) ?_ ?_
  · rintro i x _ H25 N hN hx ⟨g25, eY, v14, rfl⟩
    obtain ⟨z, rfl, hzl⟩ : ∃ z : Str, x = V.str z ∧ z.length ≤ 100000 := by
      rw [List.getElem?_map] at hx
      cases e : ts[i]? with
      | none => rw [e] at hx; cases hx
      | some z => rw [e] at hx; exact ⟨z, (Option.some.inj hx).symm, htl z (List.mem_of_getElem? e)⟩
    walk_at "wn"
    rw [a_seq]
    walk_at "wn"
    refine reads_ok hn hzl fun H26 s26 => ?_
    walk_at "wn"
    have g26 := g25.same s26
    refine ⟨s, l, _, rfl, g26.st, by decide, by decide, fun o0 H27 g27 o1 o2 => ?_⟩
    obtain ⟨o, rfl⟩ : ∃ o : Nat, o0 = o := ⟨o0.toNat, by omega⟩
    walk_at "wn"
    refine reads_ok (by omega) hzl fun H28 s28 => ?_
    walk_at "wn"
    refine reads_ok hn hzl fun H29 s29 => ?_
    walk_at "wn"
    have g29 := ((g26.trans g27).same s28).same s29
    exact hN _ _ ⟨g29, g29.k Ys hts, _, rfl⟩
  rintro _ H25 ⟨g25, eY, v14, rfl⟩
  have g2425 := g24.trans g25
  have ma25 : MvA H25 (.ref m0) m0 ns := ⟨rfl, g25.k ms ma24.at_, hle, ma24.p⟩
  have ss : s ∈ [s] := by simp
  have lz : ∀ {E : List Addr}, ∀ a : Addr, a ∈ ([] : List Addr) → a ∈ E := fun a z => by simp at z
  walk_at "wn"
  walk_at "sn"
  refine ⟨s, l, _, _, _, [s], rfl, g25.st, Lv.store g25.st, ss, by decide, by decide, by decide, by decide, fun wn H26 g26 hwn swn own => ?_⟩
  obtain ⟨wd, wk, hwd, hwk⟩ := hwn
  walk_at "sn"
  refine ⟨wn, rough, wd, wk, rfl, by omega, swn, hwd.sub lz, by omega, own, fun H27 s27 => ?_⟩
  walk_at "wn"
  have cf := cut_le full none (some (-1))
  refine ⟨by rw [sizeLine_eq]; omega, wn, _, wd, wk, rfl, by omega, swn, (hwd.same s27).sub lz, by omega, own, fun H28 s28 => ?_⟩
  have ma28 : MvA H28 (.ref m0) m0 ns := ⟨rfl, s28 _ _ (s27 _ _ (g26.k ms ma25.at_)), hle, ma25.p⟩
  walk_at "wn"
  refine prm_ok hn (by omega) hrough fun q H29 s29 hq mq => ?_
  walk_at "wn"
  exact ⟨.ref q, .ref m0, _, _, _, rfl, mq.dw, (ma28.same s29).dw, by omega, fun H30 s30 => k H30⟩
end

/-! ## Y12 -/
set_option maxHeartbeats 4000000 in
theorem hfacts {P : Program} {w : World} {K : PySem.W.Frag} {h : Heap} {mg : Str → Option Value} {f : Addr} (hfl : P.main.file = hfile) (htop : (P.main.scope.names.lookup ("super" : Str)).isSome = false) (X : K.In h) (G : h.Ns mainGlobals mg) (hf : mg ("law" : Str) = some (.ref f)) (ce : SaysE hfa hfn hfile hdi hks K) :
    ∃ fd : FuncData, (∀ (s : Shared) (v : Value), BindsTo s fd ⟨[v], []⟩ [("script", v)]) ∧ ∀ base : Heap, K.In base → base.Ns mainGlobals mg → FnOk P w K mg base CX0 12 f fd ["script"] (sp_law K) := by
  have c := ce.d
  have D_shown : Df K mg "shown" stshown := by
    obtain ⟨fd, F⟩ := c.def_ 0 (d := d_shown) rfl
    exact ⟨_, fd, F, He.glo_ok X G (c.fact 0 (f := .glo "shown") rfl)⟩
  have D_is_whole : Df K mg "is_whole" stis_whole := by
    obtain ⟨fd, F⟩ := c.def_ 1 (d := d_is_whole) rfl
    exact ⟨_, fd, F, He.glo_ok X G (c.fact 1 (f := .glo "is_whole") rfl)⟩
  have D_is_move : Df K mg "is_move" stis_move := by
    obtain ⟨fd, F⟩ := c.def_ 2 (d := d_is_move) rfl
    exact ⟨_, fd, F, He.glo_ok X G (c.fact 2 (f := .glo "is_move") rfl)⟩
  have D_check_number : Df K mg "check_number" stcheck_number := by
    obtain ⟨fd, F⟩ := c.def_ 3 (d := d_check_number) rfl
    exact ⟨_, fd, F, He.glo_ok X G (c.fact 3 (f := .glo "check_number") rfl)⟩
  have D_check_points : Df K mg "check_points" stcheck_points := by
    obtain ⟨fd, F⟩ := c.def_ 4 (d := d_check_points) rfl
    exact ⟨_, fd, F, He.glo_ok X G (c.fact 4 (f := .glo "check_points") rfl)⟩
  have D_check_move : Df K mg "check_move" stcheck_move := by
    obtain ⟨fd, F⟩ := c.def_ 5 (d := d_check_move) rfl
    exact ⟨_, fd, F, He.glo_ok X G (c.fact 5 (f := .glo "check_move") rfl)⟩
  have D_images_after : Df K mg "images_after" stimages_after := by
    obtain ⟨fd, F⟩ := c.def_ 6 (d := d_images_after) rfl
    exact ⟨_, fd, F, He.glo_ok X G (c.fact 6 (f := .glo "images_after") rfl)⟩
  have D_cycles : Df K mg "cycles" stcycles := by
    obtain ⟨fd, F⟩ := c.def_ 7 (d := d_cycles) rfl
    exact ⟨_, fd, F, He.glo_ok X G (c.fact 7 (f := .glo "cycles") rfl)⟩
  have D_numbers_below : Df K mg "numbers_below" stnumbers_below := by
    obtain ⟨fd, F⟩ := c.def_ 8 (d := d_numbers_below) rfl
    exact ⟨_, fd, F, He.glo_ok X G (c.fact 8 (f := .glo "numbers_below") rfl)⟩
  have D_format_move : Df K mg "format_move" stformat_move := by
    obtain ⟨fd, F⟩ := c.def_ 9 (d := d_format_move) rfl
    exact ⟨_, fd, F, He.glo_ok X G (c.fact 9 (f := .glo "format_move") rfl)⟩
  have D_read_groups : Df K mg "read_groups" stread_groups := by
    obtain ⟨fd, F⟩ := c.def_ 10 (d := d_read_groups) rfl
    exact ⟨_, fd, F, He.glo_ok X G (c.fact 10 (f := .glo "read_groups") rfl)⟩
  have D_read_move : Df K mg "read_move" stread_move := by
    obtain ⟨fd, F⟩ := c.def_ 11 (d := d_read_move) rfl
    exact ⟨_, fd, F, He.glo_ok X G (c.fact 11 (f := .glo "read_move") rfl)⟩
  have D_parse_move : DfK K mg "parse_move" stparse_move [("loose", .bl false)] := by
    obtain ⟨fd, F⟩ := c.def_ 12 (d := d_parse_move) rfl
    exact ⟨_, fd, F, He.glo_ok X G (c.fact 12 (f := .glo "parse_move") rfl)⟩
  have D_law_store : Df K mg "_law_store" st_law_store := by
    obtain ⟨fd, F⟩ := c.def_ 13 (d := d_law_store) rfl
    exact ⟨_, fd, F, He.glo_ok X G (c.fact 13 (f := .glo "_law_store") rfl)⟩
  have D_law_mixed : Df K mg "_law_mixed" st_law_mixed := by
    obtain ⟨fd, F⟩ := c.def_ 14 (d := d_law_mixed) rfl
    exact ⟨_, fd, F, He.glo_ok X G (c.fact 14 (f := .glo "_law_mixed") rfl)⟩
  have D_law_take : Df K mg "_law_take" st_law_take := by
    obtain ⟨fd, F⟩ := c.def_ 15 (d := d_law_take) rfl
    exact ⟨_, fd, F, He.glo_ok X G (c.fact 15 (f := .glo "_law_take") rfl)⟩
  have D_law_pick : Df K mg "_law_pick" st_law_pick := by
    obtain ⟨fd, F⟩ := c.def_ 16 (d := d_law_pick) rfl
    exact ⟨_, fd, F, He.glo_ok X G (c.fact 16 (f := .glo "_law_pick") rfl)⟩
  have D_law_place : Df K mg "_law_place" st_law_place := by
    obtain ⟨fd, F⟩ := c.def_ 17 (d := d_law_place) rfl
    exact ⟨_, fd, F, He.glo_ok X G (c.fact 17 (f := .glo "_law_place") rfl)⟩
  have D_law_drawn : Df K mg "_law_drawn" st_law_drawn := by
    obtain ⟨fd, F⟩ := c.def_ 18 (d := d_law_drawn) rfl
    exact ⟨_, fd, F, He.glo_ok X G (c.fact 18 (f := .glo "_law_drawn") rfl)⟩
  have D_law_sign : Df K mg "_law_sign" st_law_sign := by
    obtain ⟨fd, F⟩ := c.def_ 19 (d := d_law_sign) rfl
    exact ⟨_, fd, F, He.glo_ok X G (c.fact 19 (f := .glo "_law_sign") rfl)⟩
  have D_law_text : Df K mg "_law_text" st_law_text := by
    obtain ⟨fd, F⟩ := c.def_ 20 (d := d_law_text) rfl
    exact ⟨_, fd, F, He.glo_ok X G (c.fact 20 (f := .glo "_law_text") rfl)⟩
  have D_law_bad_number : Df K mg "_law_bad_number" st_law_bad_number := by
    obtain ⟨fd, F⟩ := c.def_ 21 (d := d_law_bad_number) rfl
    exact ⟨_, fd, F, He.glo_ok X G (c.fact 21 (f := .glo "_law_bad_number") rfl)⟩
  have D_law_is_whole : Df K mg "_law_is_whole" st_law_is_whole := by
    obtain ⟨fd, F⟩ := c.def_ 22 (d := d_law_is_whole) rfl
    exact ⟨_, fd, F, He.glo_ok X G (c.fact 22 (f := .glo "_law_is_whole") rfl)⟩
  have D_law_same : Df K mg "_law_same" st_law_same := by
    obtain ⟨fd, F⟩ := c.def_ 23 (d := d_law_same) rfl
    exact ⟨_, fd, F, He.glo_ok X G (c.fact 23 (f := .glo "_law_same") rfl)⟩
  have D_law_move : Df K mg "_law_move" st_law_move := by
    obtain ⟨fd, F⟩ := c.def_ 24 (d := d_law_move) rfl
    exact ⟨_, fd, F, He.glo_ok X G (c.fact 24 (f := .glo "_law_move") rfl)⟩
  have D_law_bent_text : Df K mg "_law_bent_text" st_law_bent_text := by
    obtain ⟨fd, F⟩ := c.def_ 25 (d := d_law_bent_text) rfl
    exact ⟨_, fd, F, He.glo_ok X G (c.fact 25 (f := .glo "_law_bent_text") rfl)⟩
  have D_law_digits : Df K mg "_law_digits" st_law_digits := by
    obtain ⟨fd, F⟩ := c.def_ 26 (d := d_law_digits) rfl
    exact ⟨_, fd, F, He.glo_ok X G (c.fact 26 (f := .glo "_law_digits") rfl)⟩
  have D_law_row_text : Df K mg "_law_row_text" st_law_row_text := by
    obtain ⟨fd, F⟩ := c.def_ 27 (d := d_law_row_text) rfl
    exact ⟨_, fd, F, He.glo_ok X G (c.fact 27 (f := .glo "_law_row_text") rfl)⟩
  have D_law_cycle_rows : Df K mg "_law_cycle_rows" st_law_cycle_rows := by
    obtain ⟨fd, F⟩ := c.def_ 28 (d := d_law_cycle_rows) rfl
    exact ⟨_, fd, F, He.glo_ok X G (c.fact 28 (f := .glo "_law_cycle_rows") rfl)⟩
  have D_law_move_text : Df K mg "_law_move_text" st_law_move_text := by
    obtain ⟨fd, F⟩ := c.def_ 29 (d := d_law_move_text) rfl
    exact ⟨_, fd, F, He.glo_ok X G (c.fact 29 (f := .glo "_law_move_text") rfl)⟩
  have D_law_loose_text : Df K mg "_law_loose_text" st_law_loose_text := by
    obtain ⟨fd, F⟩ := c.def_ 30 (d := d_law_loose_text) rfl
    exact ⟨_, fd, F, He.glo_ok X G (c.fact 30 (f := .glo "_law_loose_text") rfl)⟩
  have D_law_read_move : Df K mg "_law_read_move" st_law_read_move := by
    obtain ⟨fd, F⟩ := c.def_ 31 (d := d_law_read_move) rfl
    exact ⟨_, fd, F, He.glo_ok X G (c.fact 31 (f := .glo "_law_read_move") rfl)⟩
  have D_law_alone : Df K mg "_law_alone" st_law_alone := by
    obtain ⟨fd, F⟩ := c.def_ 32 (d := d_law_alone) rfl
    exact ⟨_, fd, F, He.glo_ok X G (c.fact 32 (f := .glo "_law_alone") rfl)⟩
  have D_law_refusal : Df K mg "_law_refusal" st_law_refusal := by
    obtain ⟨fd, F⟩ := c.def_ 33 (d := d_law_refusal) rfl
    exact ⟨_, fd, F, He.glo_ok X G (c.fact 33 (f := .glo "_law_refusal") rfl)⟩
  have D_law_reads : Df K mg "_law_reads" st_law_reads := by
    obtain ⟨fd, F⟩ := c.def_ 34 (d := d_law_reads) rfl
    exact ⟨_, fd, F, He.glo_ok X G (c.fact 34 (f := .glo "_law_reads") rfl)⟩
  have D_law_points_told : Df K mg "_law_points_told" st_law_points_told := by
    obtain ⟨fd, F⟩ := c.def_ 35 (d := d_law_points_told) rfl
    exact ⟨_, fd, F, He.glo_ok X G (c.fact 35 (f := .glo "_law_points_told") rfl)⟩
  have D_law_groups : Df K mg "_law_groups" st_law_groups := by
    obtain ⟨fd, F⟩ := c.def_ 36 (d := d_law_groups) rfl
    exact ⟨_, fd, F, He.glo_ok X G (c.fact 36 (f := .glo "_law_groups") rfl)⟩
  have D_law : Df K mg "law" stlaw := by
    obtain ⟨fd, F⟩ := c.def_ 37 (d := d_law) rfl
    exact ⟨_, fd, F, He.glo_ok X G (c.fact 37 (f := .glo "law") rfl)⟩
  have T : NoB mg := ⟨He.free_ok X G (c.fact 38 (f := .free "len") rfl), He.free_ok X G (c.fact 39 (f := .free "int") rfl), He.free_ok X G (c.fact 40 (f := .free "bool") rfl), He.free_ok X G (c.fact 41 (f := .free "str") rfl), He.free_ok X G (c.fact 42 (f := .free "range") rfl), He.free_ok X G (c.fact 43 (f := .free "isinstance") rfl), He.free_ok X G (c.fact 44 (f := .free "tuple") rfl), He.free_ok X G (c.fact 45 (f := .free "list") rfl), He.free_ok X G (c.fact 46 (f := .free "min") rfl), He.free_ok X G (c.fact 47 (f := .free "max") rfl), He.free_ok X G (c.fact 48 (f := .free "sorted") rfl), He.free_ok X G (c.fact 49 (f := .free "enumerate") rfl), He.free_ok X G (c.fact 50 (f := .free "sum") rfl), He.free_ok X G (c.fact 51 (f := .free "any") rfl), He.free_ok X G (c.fact 52 (f := .free "all") rfl), He.free_ok X G (c.fact 53 (f := .free "zip") rfl), He.free_ok X G (c.fact 54 (f := .free "reversed") rfl), He.free_ok X G (c.fact 55 (f := .free "super") rfl), He.free_ok X G (c.fact 56 (f := .free "set") rfl), He.free_ok X G (c.fact 57 (f := .free "dict") rfl), He.free_ok X G (c.fact 58 (f := .free "ValueError") rfl), He.free_ok X G (c.fact 59 (f := .free "abs") rfl)⟩
  obtain ⟨tk_MOST_POINTS, G_MOST_POINTS⟩ := He.int_ok X G (c.fact 60 (f := .int "MOST_POINTS" 12) rfl)
  have EH := ce.gH X G
  have EN_BadNumber : ErN K mg "BadNumber" := ce.erN X G T.no_ValueError (i := 0) (d := di_BadNumber) rfl (by decide)
  have exm_BadNumber := ce.exm (x := "BadNumber") (by decide)
  have EN_NotAMove : ErN K mg "NotAMove" := ce.erN X G T.no_ValueError (i := 1) (d := di_NotAMove) rfl (by decide)
  have exm_NotAMove := ce.exm (x := "NotAMove") (by decide)
  have EN_BadText : ErN K mg "BadText" := ce.erN X G T.no_ValueError (i := 2) (d := di_BadText) rfl (by decide)
  have exm_BadText := ce.exm (x := "BadText") (by decide)
  have ENF : ∀ f : Flt, f.cls ∈ errL → ErN K mg f.cls := fun f h => by cases f with | num => exact EN_BadNumber | mv => exact EN_NotAMove | many => exact absurd h (show ¬ ("TooMany" : Str) ∈ errL by decide +kernel) | pt => exact absurd h (show ¬ ("NotAPoint" : Str) ∈ errL by decide +kernel) | rep => exact absurd h (show ¬ ("RepeatedPoint" : Str) ∈ errL by decide +kernel) | sz => exact absurd h (show ¬ ("UnlikeSizes" : Str) ∈ errL by decide +kernel) | txt => exact EN_BadText
  have exmF : ∀ f : Flt, f.cls ∈ errL → PySem.W.exmOne K (.ref (He.ga K f.cls)) (.ref (He.ga K "HeldorderError")) = some true := fun f h => by cases f with | num => exact exm_BadNumber | mv => exact exm_NotAMove | many => exact absurd h (show ¬ ("TooMany" : Str) ∈ errL by decide +kernel) | pt => exact absurd h (show ¬ ("NotAPoint" : Str) ∈ errL by decide +kernel) | rep => exact absurd h (show ¬ ("RepeatedPoint" : Str) ∈ errL by decide +kernel) | sz => exact absurd h (show ¬ ("UnlikeSizes" : Str) ∈ errL by decide +kernel) | txt => exact exm_BadText
  obtain ⟨fd, F⟩ := c.def_ 37 (d := d_law) rfl
  have e := hf.symm.trans (He.glo_ok X G (c.fact 37 (f := .glo "law") rfl))
  cases e
  refine ⟨fd, fun s v => FunD.bindsA (ps := ["script"]) F (fun _ _ _ _ _ _ us hl => match us, hl with | [_], _ => rfl) s [v] rfl, fun base _ _ => ?_⟩
  have C_law_mixed : Cl P w K mg base 1 "_law_mixed" ["seed", "turn"] sp_mixed := ok_law_mixed D_law_mixed T  
  have C_law_take : Cl P w K mg base 2 "_law_take" ["store", "many"] sp_take := ok_law_take D_law_take T C_law_mixed 
  have C_law_pick : Cl P w K mg base 3 "_law_pick" ["store", "things"] sp_pick := ok_law_pick D_law_pick T C_law_take 
  have C_law_bad_number : Cl P w K mg base 4 "_law_bad_number" ["store", "low", "high", "nothing"] sp_badn := ok_law_bad_number D_law_bad_number T C_law_pick C_law_take 
  have C_law_pickS : Cl P w K mg base 3 "_law_pick" ["store", "things"] sp_pickS := ok_law_pickS D_law_pick T C_law_take 
  have C_law_place : Cl P w K mg base 3 "_law_place" ["store", "size"] sp_place := ok_law_place D_law_place T C_law_take 
  have C_law_sign : Cl P w K mg base 3 "_law_sign" ["store"] sp_sign := ok_law_sign D_law_sign T C_law_take 
  have C_law_bent_text : Cl P w K mg base 6 "_law_bent_text" ["store", "text"] sp_bent_text := ok_law_bent_text D_law_bent_text T C_law_pickS C_law_place C_law_sign C_law_take 
  have C_law_drawn : Cl P w K mg base 3 "_law_drawn" ["store", "things", "many"] sp_drawn := ok_law_drawn D_law_drawn T C_law_take 
  have C_law_groups : Cl P w K mg base 5 "_law_groups" ["store", "points"] sp_groups := ok_law_groups D_law_groups T C_law_drawn C_law_pick C_law_take 
  have C_law_cycle_rows : Cl P w K mg base 2 "_law_cycle_rows" ["move"] sp_cyr := ok_law_cycle_rows D_law_cycle_rows T  
  have C_law_row_text : Cl P w K mg base 1 "_law_row_text" ["row"] sp_rowtxt := ok_law_row_text D_law_row_text T  
  have C_law_loose_text : Cl P w K mg base 4 "_law_loose_text" ["store", "move"] sp_loose := ok_law_loose_text D_law_loose_text T C_law_cycle_rows C_law_drawn C_law_row_text C_law_take 
  have C_law_move : Cl P w K mg base 4 "_law_move" ["store", "points"] sp_move := ok_law_move D_law_move T C_law_drawn C_law_take 
  have C_law_move_text : Cl P w K mg base 3 "_law_move_text" ["move"] sp_movetxt := ok_law_move_text D_law_move_text T C_law_cycle_rows C_law_row_text 
  have C_law_aloneH : ClH P w K mg base 1 "_law_alone" ["error"] (sp_aloneH K mg) := ok_law_aloneH D_law_alone T  
  have C_law_is_wholeH : ClH P w K mg base 1 "_law_is_whole" ["value"] sp_iswH := ok_law_is_wholeH D_law_is_whole T  
  have C_law_sameH : ClH P w K mg base 2 "_law_same" ["actual", "due"] sp_sameH := ok_law_sameH D_law_same T C_law_is_wholeH 
  have Cshown : Cl P w K mg base 1 "shown" ["value"] sp_shown := okshown D_shown T  
  have Er_BadNumber : ErrC P w K mg base 2 "BadNumber" (He.ga K "BadNumber") (okP [0, 0, 0]) ["value", "low", "high"] := by
    obtain ⟨cc, cda, fi, S, B, i1, i2, x1, x2, x3, x4⟩ := ce.sup hfl htop T.no_super (i := 0) (d := di_BadNumber) (ps := ["self", "value", "low", "high"]) rfl (fun _ _ _ _ _ _ _ us hl => match us, hl with | [_, _, _, _], _ => rfl)
    exact ⟨ce.g X G _ (by decide), x1, ⟨_, fi, ["self", "value", "low", "high"], i1, i2, B, okini_BadNumber S (x4 _ (by decide)) (x4 _ (by decide)) (x4 _ (by decide)) Cshown⟩, x2, x3, x4, by decide, okP_mono _⟩
  have Er_BadText : ErrC P w K mg base 2 "BadText" (He.ga K "BadText") (okP [0]) ["line"] := by
    obtain ⟨cc, cda, fi, S, B, i1, i2, x1, x2, x3, x4⟩ := ce.sup hfl htop T.no_super (i := 2) (d := di_BadText) (ps := ["self", "line"]) rfl (fun _ _ _ _ _ _ _ us hl => match us, hl with | [_, _], _ => rfl)
    exact ⟨ce.g X G _ (by decide), x1, ⟨_, fi, ["self", "line"], i1, i2, B, okini_BadText S (x4 _ (by decide)) Cshown⟩, x2, x3, x4, by decide, okP_mono _⟩
  have C_law_refusalH : ClH P w K mg base 3 "_law_refusal" ["error", "due"] (sp_refG K) := ok_law_refusalH D_law_refusal T C_law_aloneH C_law_sameH ENF Er_BadNumber Er_BadText
  have Cis_whole : Cl P w K mg base 1 "is_whole" ["value"] sp_isw := okis_whole D_is_whole T  
  have Ccheck_number : ClX P w K mg base 4 "check_number" ["value", "low", "high"] (sp_number K) := okcheck_number D_check_number T Cis_whole Er_BadNumber
  have Ccheck_points : ClX P w K mg base 5 "check_points" ["points"] (sp_points K) := okcheck_points D_check_points T Ccheck_number G_MOST_POINTS
  have Cis_move : Cl P w K mg base 2 "is_move" ["value"] sp_is_move := okis_move D_is_move T Cis_whole G_MOST_POINTS
  have Er_NotAMove : ErrC P w K mg base 2 "NotAMove" (He.ga K "NotAMove") (okP [0]) ["index"] := by
    obtain ⟨cc, cda, fi, S, B, i1, i2, x1, x2, x3, x4⟩ := ce.sup hfl htop T.no_super (i := 1) (d := di_NotAMove) (ps := ["self", "index"]) rfl (fun _ _ _ _ _ _ _ us hl => match us, hl with | [_, _], _ => rfl)
    exact ⟨ce.g X G _ (by decide), x1, ⟨_, fi, ["self", "index"], i1, i2, B, okini_NotAMove S (x4 _ (by decide)) Cshown⟩, x2, x3, x4, by decide, okP_mono _⟩
  have Ccheck_move : ClX P w K mg base 4 "check_move" ["value", "index"] (sp_chk K) := okcheck_move D_check_move T Cis_move Er_NotAMove
  have Ccycles : ClX P w K mg base 5 "cycles" ["move"] (sp_cyc K) := okcycles D_cycles T Ccheck_move 
  have Cformat_move : ClX P w K mg base 6 "format_move" ["move"] (sp_fmt K) := okformat_move D_format_move T Ccycles 
  have Cimages_after : Cl P w K mg base 2 "images_after" ["points", "rows"] sp_imgs := okimages_after D_images_after T  
  have Cnumbers_below : Cl P w K mg base 1 "numbers_below" ["limit"] sp_nb := oknumbers_below D_numbers_below T  
  have Cread_groups : Cl P w K mg base 2 "read_groups" ["points", "text"] sp_rdg := okread_groups D_read_groups T Cnumbers_below 
  have Cread_move : ClX P w K mg base 7 "read_move" ["points", "text", "loose"] sp_rdm := okread_move D_read_move T Cformat_move Cimages_after Cread_groups 
  have CN_parse_move := okparse_move (P := P) (w := w) (base := base) D_parse_move T Ccheck_points Cread_move Er_BadText
  have C_law_points_told : Cl P w K mg base 9 "_law_points_told" ["points", "text"] sp_ptold := ok_law_points_told D_law_points_told T C_law_refusalH CN_parse_move EH exmF
  have C_law_digits : Cl P w K mg base 1 "_law_digits" ["word", "most"] sp_digits := ok_law_digits D_law_digits T  
  have C_law_read_move : Cl P w K mg base 2 "_law_read_move" ["points", "text"] sp_lrm := ok_law_read_move D_law_read_move T C_law_digits 
  have C_law_is_whole : Cl P w K mg base 1 "_law_is_whole" ["value"] sp_isw := ok_law_is_whole D_law_is_whole T  
  have C_law_same : Cl P w K mg base 2 "_law_same" ["actual", "due"] sp_same := ok_law_same D_law_same T C_law_is_whole 
  have C_law_reads : Cl P w K mg base 9 "_law_reads" ["points", "text", "free"] sp_reads := ok_law_reads D_law_reads T C_law_move_text C_law_read_move C_law_refusalH C_law_same CN_parse_move EH exmF
  have C_law_store : Cl P w K mg base 1 "_law_store" ["script"] (sp_store K) := ok_law_store D_law_store T  
  have C_law_text : Cl P w K mg base 4 "_law_text" ["store", "most"] sp_text := ok_law_text D_law_text T C_law_place C_law_sign 
  exact oklaw (P := P) (w := w) (base := base) F T C_law_bad_number C_law_bent_text C_law_groups C_law_loose_text C_law_move C_law_move_text C_law_pick C_law_pickS C_law_place C_law_points_told C_law_reads C_law_same C_law_sign C_law_store C_law_take C_law_text CN_parse_move 
end Ho
open PySem PySem.W PySem.Calls PyProof.Rows
set_option maxRecDepth 100000 in
set_option maxHeartbeats 0 in
theorem PySem.Challenge.cw_heldorder_k07_loose_reading_holds : PySem.Challenge.rw_heldorder_k07_loose_reading.Holds := by
  w_on; o_law
  refine HandSHeadRun.head_any (r := OpenLaw.row PySem.Challenge.rw_heldorder_k07_loose_reading) (q := view (OpenLaw.row PySem.Challenge.rw_heldorder_k07_loose_reading).prog [75]) (H := Ho.hhk) (ob := Ho.hob) (M := 30000) (loose := Ho.hloose) (d := HandSHeadRun.topDef (OpenLaw.row PySem.Challenge.rw_heldorder_k07_loose_reading).prog 75) (kwd := []) Ho.hob_eq
    (by kernel_rfl) (fun s => by kernel_rfl) Ho.hrun (by kernel_rfl) (by kernel_rfl) (by kernel_rfl) (by rfl) (by first | assumption | decide +kernel) (by decide +kernel) ⟨rfl, rfl, rfl, rfl, rfl, by decide +kernel⟩ ?hw ?hc
  case hw => w_witness2
  case hc =>
    refine L2.walk_ofE (l := PySem.Challenge.rw_heldorder_k07_loose_reading) (n := 63) (k := 12) (x := "script") (CX := L2.CX0) rfl (by decide) (by kernel_rfl) ⟨rfl, by decide, by decide⟩ ?F (fun _ _ _ _ z => z)
    intro w mg fa h Y G hmg0
    obtain ⟨K, KX, c⟩ := Y
    have hmg : mg ("law" : PySem.Str) = some (.ref fa) := by
      have e : (HandSHeadRun.topDef (OpenLaw.row PySem.Challenge.rw_heldorder_k07_loose_reading).prog 75).name = ("law" : PySem.Str) := by kernel_rfl
      rw [← e]
      exact hmg0
    obtain ⟨fd, hb, hF⟩ := Ho.hfacts (P := (PySem.Challenge.rw_heldorder_k07_loose_reading).prog) (w := w) rfl (by kernel_rfl) KX G hmg c
    exact ⟨K, fd, (Ho.sp_law K), KX, hb, fun H a ns hl _ hS => ⟨a, ns, rfl, hS, hl, fun _ => rfl⟩, hF⟩

