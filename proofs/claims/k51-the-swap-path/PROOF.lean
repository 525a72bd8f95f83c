import PyProof.Rows.All
import Wide.All
import OpenK.AllK
import Wide.FinOn
import KE.KStateDown
import Lean
import HandS.ForMost
import HandS.IsInst
import HandS.Style
import HandS.Wide
import HandS.TupMul
import HandS.Conv
import HandS.TupAny
import HandS.TupLe
import HandS.SortInts
import HandS.Codes
import HandS.StrMore
import HandS.FStr
import HandS.Walk
import HandS.More
import HandS.Defaults
import HandS.Head0
import HandS.Head1
import HandS.Head2
import HandS.HeadEnd
import HandS.HeadHook1
import HandS.HeadHook2
import PySem.Challenge.RW_heldorder_k51_the_swap_path_turns_two_ro
import KE.KExcSuper
import KE.KSuper
import HandS.ExcInit
import HandS.NestedK
import HandS.ExcField
import HandS.TryOnly
import HandS.ExcIs
import HandS.HotCalls
import HandS.ExcCtx
import HandS.RaiseFrom
import HandS.ExcInitHot
import KE.KExcIs
import HandS.ExcOwn
import KE.GoesEnum
import HandS.Iter
import PyProof.Rows.Chain
import HandS.List
import KE.DataAny
set_option Elab.async false
set_option linter.all false
set_option maxRecDepth 100000
set_option maxHeartbeats 4000000
namespace Ho
open PySem PySem.Spec PyProof.Rows L2
/-! ## HoA -/


/-- the items of a tracked list or tuple -/
def sq (H : Hp) (p : Addr) : Option (List V) := match H p with
  | some (.lst xs) => some xs
  | some (.tup xs) => some xs
  | _ => none
theorem sq_l {H : Hp} {p : Addr} {xs : List V} (h : H p = some (.lst xs)) : sq H p = some xs := by unfold sq; rw [h]
theorem sq_t {H : Hp} {p : Addr} {xs : List V} (h : H p = some (.tup xs)) : sq H p = some xs := by unfold sq; rw [h]
theorem sq_or {H : Hp} {p : Addr} {xs : List V} (h : sq H p = some xs) : H p = some (.lst xs) ∨ H p = some (.tup xs) := by
  unfold sq at h
  cases e : H p with
  | none => rw [e] at h; cases h
  | some o => rw [e] at h; cases o <;> first | (cases h; first | exact .inl rfl | exact .inr rfl) | cases h

def rIx1 : R2 := fun x y H Q => ∃ p i xs v, x = .ref p ∧ y = .int i ∧ sq H p = some xs ∧ atI xs i = some v ∧ Q v H
def rLen1 : List V → Hp → VK → Prop := fun vs H Q => ∃ p xs, vs = [.ref p] ∧ sq H p = some xs ∧ Q (.int xs.length) H
def tyN (H : Hp) (x : V) : Option String := match x with
  | .non => some "NoneType"
  | .bl _ => some "bool"
  | .int _ => some "int"
  | .str _ => some "str"
  | .ref p => match H p with
    | some (.lst _) => some "list"
    | some (.tup _) => some "tuple"
    | some (.dK _) => some "dict"
    | some (.dT _) => some "dict"
    | _ => none
  | _ => none
def rIsi1 : List V → Hp → VK → Prop := fun vs H Q => ∃ x T t b, vs = [x, .ty T] ∧ tyN H x = some t ∧ kitB t T = some b ∧ Q (.bl b) H
def rIsTF : R2 := fun x y H Q => ∃ b, y = .bl b ∧ Q (.bl (decide (x = .bl b))) H
section
variable {X : Cx}
theorem ix1 : IxR X rIx1 := by
  intro value slice pins s σ H x y v u Q I rx ry h hs
  obtain ⟨p, i, xs, z, rfl, rfl, hq, he, q⟩ := h
  rcases sq_or hq with hq | hq
  · exact ix_list value slice pins s σ H _ _ v u Q I rx ry ⟨p, xs, i, z, rfl, rfl, SqL.of hq, he, q⟩ hs
  · exact ix_tup value slice pins s σ H _ _ v u Q I rx ry ⟨p, xs, i, z, rfl, rfl, SqT.of hq, he, q⟩ hs
theorem len1 : CallR X (.builtin "len") rLen1 := by
  intro pins s σ H xs us Q I r h
  obtain ⟨p, ys, rfl, hq, q⟩ := h
  rcases sq_or hq with hq | hq
  · exact call_len pins s σ H _ us Q I r ⟨_, _, rfl, .inl ⟨_, SqL.of hq, rfl⟩, q⟩
  · exact call_len pins s σ H _ us Q I r ⟨_, _, rfl, .inr ⟨_, SqT.of hq, rfl⟩, q⟩
theorem tyN_ty {K : PySem.W.Frag} {H : Hp} {x : V} {t : String} (h : tyN H x = some t) : TyX K H x (.type t) := by
  cases x with
  | non => cases h; exact .base .non
  | bl b => cases h; exact .base (.bl b)
  | int i => cases h; exact .base (.int i)
  | str z => cases h; exact .base (.str z)
  | byt b => cases h
  | flt b => cases h
  | ty n => cases h
  | ref p =>
    unfold tyN at h
    simp only at h
    cases e : H p with
    | none => rw [e] at h; cases h
    | some o =>
      rw [e] at h
      cases o <;> first
        | (cases h; first | exact .base (.lst e) | exact .base (.tup e) | exact .base (.dK e) | exact .base (.dT e))
        | cases h
theorem isi1 : CallR X (.builtin "isinstance") rIsi1 := by
  intro pins s σ H xs us Q I r h
  obtain ⟨x, T, t, b, rfl, ht, hk, q⟩ := h
  exact call_isi pins s σ H _ us Q I r ⟨x, .ty T, .type t, .type T, b, rfl, .ty T, tyN_ty ht, kit_ty hk, q⟩
end

section
variable {X : Cx}
theorem is_plain_bl {x : V} {v : Value} {b : Bool} (r : RelV x v) : plainIs v (.bool b) = true ∧ (v == Value.bool b) = decide (x = .bl b) := by
  cases x with
  | bl a => cases (show v = Value.bool a from r); exact ⟨rfl, by cases a <;> cases b <;> rfl⟩
  | non => cases (show v = Value.none from r); exact ⟨rfl, by simp⟩
  | ref a => cases (show v = Value.ref a from r); exact ⟨rfl, by simp⟩
  | ty a => cases (show v = Value.type a from r); exact ⟨rfl, by simp⟩
  | int i => obtain ⟨t, rfl⟩ := r; exact ⟨rfl, by simp⟩
  | str i => obtain ⟨t, rfl⟩ := r; exact ⟨rfl, by simp⟩
  | byt i => obtain ⟨t, rfl⟩ := r; exact ⟨rfl, by simp⟩
  | flt i => obtain ⟨t, rfl⟩ := r; exact ⟨rfl, by simp⟩
theorem op_isTF : OpR X (compareOp .Is) rIsTF := by
  intro pins s σ H x y v u Q I rx ry h
  obtain ⟨b, rfl, q⟩ := h
  cases (show u = Value.bool b from ry)
  obtain ⟨h1, h2⟩ := is_plain_bl (b := b) rx
  exact wpAny_is_plain h1 (by rw [h2]; exact ⟨.bl _, H, I, rfl, q⟩)
def iSq (K : PySem.W.Frag) (tl : TE) : TI := fun σ H R => tl σ H fun x H1 => ∃ a xs, x = .ref a ∧ ((H1 a = some (.lst xs) ∧ R (Itl K a) H1) ∨ (H1 a = some (.tup xs) ∧ R (Itt K a) H1))
theorem pi_sq {tg l : Expr} {tl : TE} (hl : PE X l tl) : PI X tg l (iSq X.K tl) := by
  refine ⟨fun pins s σ H R I h => ?_⟩
  refine thn (hl.run pins s σ H _ I h) fun v s1 ⟨x, H1, I1, r1, q1⟩ => ?_
  obtain ⟨a, xs, rfl, ⟨hq, q⟩ | ⟨hq, q⟩⟩ := q1
  · cases r1
    obtain ⟨its, rv, p, hz⟩ := I1.list (SqL.of hq)
    refine wpAny_pyIter_list p.isList ?_
    refine ⟨s1.heap.objs.size, [s1.heap.objs.size], _, _, H1, rfl, I1.kept (t' := s1.toks) fun b o e => Heap.get?_push_of_some _ e, turn_list a _, ⟨_, Heap.get?_push_size _ rfl, rfl, rfl⟩, fun b hb => ?_, q⟩
    have e : b = s1.heap.objs.size := by simpa using hb
    subst e
    exact I1.fpOk (Nat.le_refl _) (I1.hok.fresh (Nat.le_refl _))
  · cases r1
    obtain ⟨its, rv, p, hz⟩ := I1.tuple (SqT.of hq)
    refine wpAny_pyIter_tuple (show s1.heap.IsTuple a its.toArray from p) ?_
    refine ⟨s1.heap.objs.size, [s1.heap.objs.size], _, _, H1, rfl, I1.kept (t' := s1.toks) fun b o e => Heap.get?_push_of_some _ e, turn_tuple a _, ⟨_, Heap.get?_push_size _ rfl, rfl, rfl⟩, fun b hb => ?_, q⟩
    have e : b = s1.heap.objs.size := by simpa using hb
    subst e
    exact I1.fpOk (Nat.le_refl _) (I1.hok.fresh (Nat.le_refl _))
end
/-! ### defs that let nothing out -/
def Cl (P : Program) (w : World) (K : PySem.W.Frag) (mg : Str → Option Value) (base : Heap) (k : Nat) (x : Str) (ps : List Str) (sp : Sp) : Prop :=
  ∃ f fd, mg x = some (.ref f) ∧ PySem.W.keepIn K (.ref f) = true ∧ (∀ (s : Shared) (us : List Value), us.length = ps.length → BindsTo s fd ⟨us, []⟩ (ps.zip us)) ∧ FnOk P w K mg base CX0 k f fd ps sp
abbrev FnP (K : PySem.W.Frag) (x : Str) (st : Stmt) (f : Addr) (fd : FuncData) : Prop := FunD K x x (defArgs st) (defBody st) (defScope st) [] [] f fd
def Df (K : PySem.W.Frag) (mg : Str → Option Value) (x : Str) (st : Stmt) : Prop := ∃ f fd, FnP K x st f fd ∧ mg x = some (.ref f)
section
variable {P : Program} {w : World} {K : PySem.W.Frag} {mg : Str → Option Value} {base : Heap}
theorem Cl.mono {j k : Nat} {x : Str} {ps : List Str} {sp : Sp} (C : Cl P w K mg base j x ps sp) (h : j ≤ k) : Cl P w K mg base k x ps sp := by
  obtain ⟨f, fd, a, b, c, d⟩ := C
  exact ⟨f, fd, a, b, c, d.mono h⟩
theorem cl_of {x : Str} {st : Stmt} {N ps : List Str} {k : Nat} {sp : Sp} (D : Df K mg x st) (S : FnScope N ps (defScope st))
    (hb : ∀ (kV doc pm : Value) (an : Option Addr) (cdv ct : Value) (us : List Value), us.length = ps.length → bindArgs (PySem.W.fnOf x x (defArgs st) (defBody st) (defScope st) .none kV doc pm an cdv ct) ⟨us, []⟩ = pure (ps.zip us))
    (len : ∀ vs H Q E, sp vs H Q E → vs.length = ps.length)
    (hbody : ∀ (f : Addr) (cdv : Value) (A : Around) (outer : List Env) (s : Shared) (H : Hp) (vs : List V) (Q : VK) (E : XK), Room k (A.deeper (envOfC x (defScope st) s.heap.objs.size f cdv)) → sp vs H Q E →
      ∃ t, PSs (cxOf CX0 P w K mg base N x (defScope st) f cdv A outer s H E).nox (defBody st) t ∧ t { nx := fun _ H' => Q .non H', rt := Q } (start N vs) H) : Cl P w K mg base (k + 1) x ps sp := by
  obtain ⟨f, fd, F, g⟩ := D
  refine ⟨f, fd, g, F.kp, F.bindsA hb, F.ok S len fun cdv A outer s H vs Q E hr hsp => ?_⟩
  obtain ⟨t, h, q⟩ := hbody f cdv A outer s H vs Q E hr hsp
  exact ⟨t, h.nox, q⟩
end
theorem fn_ofF {P : Program} {w : World} {K : PySem.W.Frag} {mg : Str → Option Value} {base : Heap} {x : Str} {st : Stmt} {N ps : List Str} {k : Nat} {sp : Sp} {f : Addr} {fd : FuncData} (F : FnP K x st f fd) (S : FnScope N ps (defScope st))
    (len : ∀ vs H Q E, sp vs H Q E → vs.length = ps.length)
    (hbody : ∀ (f : Addr) (cdv : Value) (A : Around) (outer : List Env) (s : Shared) (H : Hp) (vs : List V) (Q : VK) (E : XK), Room k (A.deeper (envOfC x (defScope st) s.heap.objs.size f cdv)) → sp vs H Q E →
      ∃ t, PSs (cxOf CX0 P w K mg base N x (defScope st) f cdv A outer s H E).nox (defBody st) t ∧ t { nx := fun _ H' => Q .non H', rt := Q } (start N vs) H) : FnOk P w K mg base CX0 (k + 1) f fd ps sp := by
  refine F.ok S len fun cdv A outer s H vs Q E hr hsp => ?_
  obtain ⟨t, h, q⟩ := hbody f cdv A outer s H vs Q E hr hsp
  exact ⟨t, h.nox, q⟩
section
variable {X : Cx}
theorem pe_cl {j k : Nat} {x : Str} {ps : List Str} {sp : Sp} {p pos : Pos} {e : Expr} {es : List Expr} {t : TA} (C : Cl X.prog X.w X.K X.mg X.base j x ps sp) (hr : Room k X.A) (hg : Gl X x) (ha : PA X (e :: es) t) (hjk : j ≤ k := by decide)
    (hdb : (x == ("__debug__" : Str)) = false := by decide) (he : starEach (e :: es) X.env = (false, eval e X.env) :: starEach es X.env := by rfl) (hpl : (backTo pos (starEach es X.env)).any (·.1) = false := by rfl) :
    PE X (.Call (.Name x p) (e :: es) [] pos) (tCall sp [] E0 t) := by
  obtain ⟨f, fd, a, b, c, d⟩ := C
  exact pe_call d (hr.mono hjk) hg a b (fun s us _ hl => by rw [List.append_nil] at hl ⊢; exact c s us hl) .nil pass0 ha hdb he hpl
end
/-! ### heaps that have grown, heaps that have changed -/
structure New (H : Hp) (p : Addr) (o : HO) (H' : Hp) : Prop where
  fr : H p = none
  at_ : H' p = some o
  old : ∀ b, b ≠ p → H' b = H b
structure Put (H : Hp) (p : Addr) (o : HO) (H' : Hp) : Prop where
  at_ : H' p = some o
  old : ∀ b, b ≠ p → H' b = H b
theorem New.eq {H H' : Hp} {p : Addr} {o : HO} (n : New H p o H') : H' = upd H p o := by
  funext b
  by_cases e : b = p
  · rw [e, n.at_, upd_same]
  · rw [n.old b e, upd_ne e]
theorem Put.eq {H H' : Hp} {p : Addr} {o : HO} (n : Put H p o H') : H' = upd H p o := by
  funext b
  by_cases e : b = p
  · rw [e, n.at_, upd_same]
  · rw [n.old b e, upd_ne e]
theorem New.mk' {H : Hp} {p : Addr} {o : HO} (h : H p = none) : New H p o (upd H p o) := ⟨h, upd_same, fun _ e => upd_ne e⟩
theorem Put.mk' {H : Hp} {p : Addr} {o : HO} : Put H p o (upd H p o) := ⟨upd_same, fun _ e => upd_ne e⟩
theorem New.ne {H H' : Hp} {p b : Addr} {o u : HO} (n : New H p o H') (h : H b = some u) : b ≠ p := ne_of_none h n.fr
theorem New.k {H H' : Hp} {p b : Addr} {o u : HO} (n : New H p o H') (h : H b = some u) : H' b = some u := (n.old b (n.ne h)).trans h
theorem New.same {H H' : Hp} {p : Addr} {o : HO} (n : New H p o H') : Same H H' := fun _ _ h => n.k h
theorem Put.k {H H' : Hp} {p b : Addr} {o u : HO} (n : Put H p o H') (ne : b ≠ p) (h : H b = some u) : H' b = some u := (n.old b ne).trans h
def Nw (H : Hp) (o : HO) (Q : Addr → Hp → Prop) : Prop := ∀ p H', New H p o H' → Q p H'
def Wr (H : Hp) (p : Addr) (o : HO) (Q : Hp → Prop) : Prop := ∀ H', Put H p o H' → Q H'
theorem nw_eq {H : Hp} {o : HO} {Q : VK} : (∀ p, H p = none → Q (.ref p) (upd H p o)) = Nw H o fun p H' => Q (.ref p) H' := by
  apply propext; constructor
  · intro h p H' n; rw [n.eq]; exact h p n.fr
  · intro h p hp; exact h p _ (New.mk' hp)
theorem wr_eq {H : Hp} {p : Addr} {o : HO} {Q : Hp → Prop} : Q (upd H p o) = Wr H p o Q := by
  apply propext; constructor
  · intro h H' n; rw [n.eq]; exact h
  · intro h; exact h _ Put.mk'
/-- what stood is as it was, but what stands at s -/
def Kp (s : Addr) (H H' : Hp) : Prop := ∀ b o, b ≠ s → H b = some o → H' b = some o
theorem Kp.refl {s : Addr} {H : Hp} : Kp s H H := fun _ _ _ h => h
theorem Kp.trans {s : Addr} {H H1 H2 : Hp} (a : Kp s H H1) (b : Kp s H1 H2) : Kp s H H2 := fun c o ne h => b c o ne (a c o ne h)
theorem Kp.same {s : Addr} {H H1 : Hp} (a : Same H H1) : Kp s H H1 := fun c o _ h => a c o h
theorem Kp.put {s : Addr} {H H1 : Hp} {o : HO} (a : Put H s o H1) : Kp s H H1 := fun c u ne h => a.k ne h
theorem Kp.k {s b : Addr} {H H' : Hp} {o : HO} (a : Kp s H H') (ne : b ≠ s) (h : H b = some o) : H' b = some o := a b o ne h
theorem Kp.fresh {s b : Addr} {H H' : Hp} (a : Kp s H H') (ne : b ≠ s) (h : H' b = none) : H b = none := by
  cases e : H b with
  | none => rfl
  | some o => rw [a b o ne e] at h; cases h
/-! ### rules of my own, and what the library's say -/
section
variable {X : Cx}
theorem CallR_imp {f : Value} {r r' : List V → Hp → VK → Prop} (h : CallR X f r) (i : ∀ xs H Q, r' xs H Q → r xs H Q) : CallR X f r' := fun pins s σ H xs us Q I rv q => h pins s σ H xs us Q I rv (i _ _ _ q)
theorem OpR_imp {f : Value → Value → Sem Value} {r r' : R2} (h : OpR X f r) (i : ∀ x y H Q, r' x y H Q → r x y H Q) : OpR X f r' := fun pins s σ H x y v u Q I rx ry q => h pins s σ H x y v u Q I rx ry (i _ _ _ _ q)
theorem MtR_imp {id : String} {r r' : V → List V → Hp → VK → Prop} (h : MtR X id r) (i : ∀ x xs H Q, r' x xs H Q → r x xs H Q) : MtR X id r' := fun pins s σ H x xs v us Q I rx rv q => h pins s σ H x xs v us Q I rx rv (i _ _ _ _ q)
def qInt : List V → Hp → VK → Prop := fun xs H Q => match xs with
  | [.int i] => Q (.int i) H
  | [.bl b] => Q (.int (if b then 1 else 0)) H
  | _ => False
theorem int1 : CallR X (.type "int") qInt := CallR_imp call_int1 fun xs H Q h => by
  unfold qInt at h
  split at h
  · exact .inl ⟨_, rfl, h⟩
  · exact .inr ⟨_, rfl, h⟩
  · exact h.elim
/-- list(x), x a list or a tuple -/
def qLst : List V → Hp → VK → Prop := fun xs H Q => match xs with
  | [.ref p] => ∃ ys, sq H p = some ys ∧ Nw H (.lst ys) fun l H' => Q (.ref l) H'
  | _ => False
theorem lst1 : CallR X (.type "list") qLst := CallR_imp call_list_of fun xs H Q h => by
  unfold qLst at h
  split at h
  · obtain ⟨ys, hs, q⟩ := h
    refine ⟨_, ys, rfl, ?_, ?_⟩
    · rcases sq_or hs with h | h
      · exact .inl (SqL.of h)
      · exact .inr (SqT.of h)
    · rw [nw_eq]; exact q
  · exact h.elim
/-- tuple(x), x a list -/
def qTup : List V → Hp → VK → Prop := fun xs H Q => match xs with
  | [.ref p] => ∃ ys, H p = some (.lst ys) ∧ Nw H (.tup ys) fun l H' => Q (.ref l) H'
  | _ => False
theorem tup1 : CallR X (.type "tuple") qTup := CallR_imp call_tuple_of fun xs H Q h => by
  unfold qTup at h
  split at h
  · obtain ⟨ys, hs, q⟩ := h
    refine ⟨_, ys, rfl, .inl ⟨SqL.of hs, ?_⟩⟩
    rw [nw_eq]; exact q
  · exact h.elim
end
section
variable {H : Hp} {Q : VK} {K : PySem.W.Frag}
theorem b_int {i : Int} : qInt [.int i] H Q = Q (.int i) H := rfl
theorem b_intb {b : Bool} : qInt [.bl b] H Q = Q (.int (if b then 1 else 0)) H := rfl
theorem b_list {p : Addr} : qLst [.ref p] H Q = ∃ ys, sq H p = some ys ∧ Nw H (.lst ys) fun l H' => Q (.ref l) H' := rfl
theorem b_tuple {p : Addr} : qTup [.ref p] H Q = ∃ ys, H p = some (.lst ys) ∧ Nw H (.tup ys) fun l H' => Q (.ref l) H' := rfl
theorem b_ix {p : Addr} {i : Int} : rIx1 (.ref p) (.int i) H Q = ∃ xs, sq H p = some xs ∧ ∃ v, atI xs i = some v ∧ Q v H := by
  unfold rIx1; apply propext; constructor
  · rintro ⟨_, _, xs, v, h1, h2, h⟩; cases h1; cases h2; exact ⟨xs, h.1, v, h.2⟩
  · rintro ⟨xs, h0, v, h⟩; exact ⟨_, _, xs, v, rfl, rfl, h0, h⟩
theorem b_len {p : Addr} : rLen1 [.ref p] H Q = ∃ xs, sq H p = some xs ∧ Q (.int xs.length) H := by
  unfold rLen1; apply propext; constructor
  · rintro ⟨_, xs, h1, h⟩; cases h1; exact ⟨xs, h⟩
  · rintro ⟨xs, h⟩; exact ⟨_, xs, rfl, h⟩
theorem b_setL {p : Addr} {k : Int} {v : V} {Q : Hp → Prop} : rSetL (.ref p) (.int k) v H Q = ∃ xs, H p = some (.lst xs) ∧ ∃ j, ixN xs.length k = some j ∧ Wr H p (.lst (xs.set j v)) Q := by
  unfold rSetL; apply propext; constructor
  · rintro ⟨_, xs, _, j, h1, h2, h3, h4, h⟩; cases h1; cases h2; rw [wr_eq (Q := Q)] at h; exact ⟨xs, h3, j, h4, h⟩
  · rintro ⟨xs, h3, j, h4, h⟩; rw [← wr_eq (Q := Q)] at h; exact ⟨_, xs, _, j, rfl, rfl, h3, h4, h⟩
theorem b_app {p : Addr} {y : V} : rAppend (.ref p) [y] H Q = ∃ xs, H p = some (.lst xs) ∧ xs.length < sizeLine ∧ Wr H p (.lst (xs ++ [y])) fun H' => Q .non H' := by
  unfold rAppend; apply propext; constructor
  · rintro ⟨_, xs, _, h1, h2, h3, h4, h⟩; cases h1; cases h2; rw [wr_eq (Q := fun H' => Q .non H')] at h; exact ⟨xs, h3, h4, h⟩
  · rintro ⟨xs, h3, h4, h⟩; rw [← wr_eq (Q := fun H' => Q .non H')] at h; exact ⟨_, xs, _, rfl, rfl, h3, h4, h⟩
theorem b_pop {p : Addr} : rPop (.ref p) [] H Q = ∃ xs, H p = some (.lst xs) ∧ ∃ y, xs[xs.length - 1]? = some y ∧ Wr H p (.lst xs.dropLast) fun H' => Q y H' := by
  unfold rPop; apply propext; constructor
  · rintro ⟨_, xs, y, h1, h2, h3, h4, h⟩; cases h1; rw [wr_eq (Q := fun H' => Q y H')] at h; exact ⟨xs, h3, y, h4, h⟩
  · rintro ⟨xs, h3, y, h4, h⟩; rw [← wr_eq (Q := fun H' => Q y H')] at h; exact ⟨_, xs, y, rfl, rfl, h3, h4, h⟩
theorem b_popAt {p : Addr} {i : Int} : rPopAt (.ref p) [.int i] H Q = ∃ xs, H p = some (.lst xs) ∧ ∃ k y, -(2 ^ 63) ≤ i ∧ i < 2 ^ 63 ∧ seqIndex? i xs.length = some k ∧ xs[k]? = some y ∧ Wr H p (.lst (xs.eraseIdx k)) fun H' => Q y H' := by
  unfold rPopAt; apply propext; constructor
  · rintro ⟨_, xs, _, k, y, h1, h2, h3, a, b, c, d, h⟩; cases h1; cases h2; rw [wr_eq (Q := fun H' => Q y H')] at h; exact ⟨xs, h3, k, y, a, b, c, d, h⟩
  · rintro ⟨xs, h3, k, y, a, b, c, d, h⟩; rw [← wr_eq (Q := fun H' => Q y H')] at h; exact ⟨_, xs, _, k, y, rfl, rfl, h3, a, b, c, d, h⟩
theorem b_sl {p : Addr} {lo hi : Option Int} : rSlL K (.ref p) lo hi H Q = ∃ xs, SqL K H p xs ∧ Nw H (.lst (cutV xs lo hi)) fun q H' => Q (.ref q) H' := by
  unfold rSlL; apply propext; constructor
  · rintro ⟨_, xs, h1, h2, h⟩; cases h1; rw [nw_eq] at h; exact ⟨xs, h2, h⟩
  · rintro ⟨xs, h2, h⟩; rw [← nw_eq] at h; exact ⟨_, xs, rfl, h2, h⟩
theorem b_rep {p : Addr} {k : Int} : rRep (.ref p) (.int k) H Q = ∃ xs, H p = some (.lst xs) ∧ -(2 ^ 63) ≤ k ∧ k < 2 ^ 63 ∧ xs.length * k.toNat ≤ sizeLine ∧ Nw H (.lst (List.replicate k.toNat xs).flatten) fun q H' => Q (.ref q) H' := by
  unfold rRep; apply propext; constructor
  · rintro ⟨_, _, xs, h1, h2, h3, a, b, c, h⟩; cases h1; cases h2; rw [nw_eq] at h; exact ⟨xs, h3, a, b, c, h⟩
  · rintro ⟨xs, h3, a, b, c, h⟩; rw [← nw_eq] at h; exact ⟨_, _, xs, rfl, rfl, h3, a, b, c, h⟩
theorem b_cat {p q : Addr} : rCat (.ref p) (.ref q) H Q = ∃ xs, H p = some (.lst xs) ∧ ∃ zs, H q = some (.lst zs) ∧ xs.length + zs.length ≤ sizeLine ∧ Nw H (.lst (xs ++ zs)) fun q H' => Q (.ref q) H' := by
  unfold rCat; apply propext; constructor
  · rintro ⟨_, _, xs, zs, h1, h2, h3, h4, a, h⟩; cases h1; cases h2; rw [nw_eq] at h; exact ⟨xs, h3, zs, h4, a, h⟩
  · rintro ⟨xs, h3, zs, h4, a, h⟩; rw [← nw_eq] at h; exact ⟨_, _, xs, zs, rfl, rfl, h3, h4, a, h⟩
theorem b_lstRg {σ : L2.St} {te : L2.St → Hp → (Int → Int → Hp → Prop) → Prop} : tLstRg te σ H Q = te σ H fun a b H1 => RgOk a b ∧ Nw H1 (.lst (rgV a b)) fun q H' => Q (.ref q) H' := by
  unfold tLstRg; simp only [nw_eq]
theorem b_tupRg {σ : L2.St} {te : L2.St → Hp → (Int → Int → Hp → Prop) → Prop} : tTupRg te σ H Q = te σ H fun a b H1 => RgOk a b ∧ Nw H1 (.tup (rgV a b)) fun q H' => Q (.ref q) H' := by
  unfold tTupRg; simp only [nw_eq]
theorem b_rg1 {σ : L2.St} {ta : TE} {Q : Int → Int → Hp → Prop} : tRg1 ta σ H Q = ta σ H fun x H1 => ∃ n, x = .int n ∧ Q 0 n H1 := rfl
theorem b_rg2 {σ : L2.St} {ta tb : TE} {Q : Int → Int → Hp → Prop} : tRg2 ta tb σ H Q = ta σ H fun x H1 => tb σ H1 fun y H2 => ∃ i j, x = .int i ∧ y = .int j ∧ Q i j H2 := rfl
theorem tyl {p : Addr} {xs : List V} (h : H p = some (.lst xs)) : tyV K "list" (.ref p) H := .inl ⟨rfl, _, SqL.of h⟩
end
structure NoB (mg : Str → Option Value) : Prop where
  no_len : mg "len" = none
  no_int : mg "int" = none
  no_bool : mg "bool" = none
  no_str : mg "str" = none
  no_range : mg "range" = none
  no_isinstance : mg "isinstance" = none
  no_tuple : mg "tuple" = none
  no_list : mg "list" = none
  no_min : mg "min" = none
  no_max : mg "max" = none
  no_sorted : mg "sorted" = none
  no_enumerate : mg "enumerate" = none
  no_sum : mg "sum" = none
  no_any : mg "any" = none
  no_all : mg "all" = none
  no_zip : mg "zip" = none
  no_reversed : mg "reversed" = none
  no_super : mg "super" = none
  no_set : mg "set" = none
  no_dict : mg "dict" = none
  no_ValueError : mg "ValueError" = none
  no_abs : mg "abs" = none
/-! ### what readings say, applied -/
section
variable {σ : L2.St} {H : Hp} {Q : VK} {D : Ends} {K : PySem.W.Frag}
theorem a_var {i : Nat} : tVar i σ H Q = ∃ v, σ[i]? = some (some v) ∧ Q v H := rfl
theorem a_c {v : V} : tC v σ H Q = Q v H := rfl
theorem a_op {r : R2} {a b : TE} : tOp r a b σ H Q = a σ H fun x H1 => b σ H1 fun y H2 => r x y H2 Q := rfl
theorem a_un {r : V → Hp → VK → Prop} {a : TE} : tUn r a σ H Q = a σ H fun x H1 => r x H1 Q := rfl
theorem a_test {a : TE} {Q : Bool → Hp → Prop} : tTest a σ H Q = a σ H fun x H1 => ∃ k, x = .bl k ∧ Q k H1 := rfl
theorem a_b {a : TE} {Q : Bool → Hp → Prop} : tB a σ H Q = a σ H fun x H1 => ∃ k, x = .bl k ∧ Q k H1 := rfl
theorem a_and {t u : TT} {Q : Bool → Hp → Prop} : tAnd t u σ H Q = t σ H fun c H1 => if c = true then u σ H1 Q else Q false H1 := rfl
theorem a_or {t u : TT} {Q : Bool → Hp → Prop} : tOr t u σ H Q = t σ H fun c H1 => if c = true then Q true H1 else u σ H1 Q := rfl
theorem a_not {t : TT} {Q : Bool → Hp → Prop} : tNot t σ H Q = t σ H fun c H1 => Q (!c) H1 := rfl
theorem a_andV {a b : TE} : tAndV a b σ H Q = a σ H fun x H1 => ∃ c, x = .bl c ∧ if c = true then b σ H1 Q else Q (.bl false) H1 := rfl
theorem a_orV {a b : TE} : tOrV a b σ H Q = a σ H fun x H1 => ∃ c, x = .bl c ∧ if c = true then Q (.bl true) H1 else b σ H1 Q := rfl
theorem a_notV {a : TE} : tNotV a σ H Q = a σ H fun x H1 => ∃ c, x = .bl c ∧ Q (.bl (!c)) H1 := rfl
theorem a_if {t : TT} {a b : TE} : tIf t a b σ H Q = t σ H fun c H1 => if c = true then a σ H1 Q else b σ H1 Q := rfl
theorem a_next : tNext D σ H = D.nx σ H := rfl
theorem a_seq {t u : TS} : tSeq t u D σ H = t { D with nx := u D } σ H := rfl
theorem a_break : tBreak D σ H = D.bk σ H := rfl
theorem a_cont : tCont D σ H = D.ct σ H := rfl
theorem a_drop {a : TE} : tDrop a D σ H = a σ H fun _ H1 => D.nx σ H1 := rfl
theorem a_ret {a : TE} : tRet a D σ H = a σ H D.rt := rfl
theorem a_retN : tRetN D σ H = D.rt .non H := rfl
theorem a_ifS {c : TT} {t u : TS} : tIfS c t u D σ H = c σ H fun b H1 => if b = true then t D σ H1 else u D σ H1 := rfl
theorem a_asg {a : TE} {g : TG} : tAsg a g D σ H = a σ H fun x H1 => g x σ H1 D.nx := rfl
theorem a_name {i : Nat} {v : V} {Q : L2.St → Hp → Prop} : gName i v σ H Q = Q (σ.set i (some v)) H := rfl
theorem a_sub {o i : TE} {t : TSet} {v : V} {Q : L2.St → Hp → Prop} : gSub o i t v σ H Q = o σ H fun o H1 => i σ H1 fun i H2 => t o i v H2 fun H3 => Q σ H3 := rfl
theorem a_nil {Q : List V → Hp → Prop} : tNil σ H Q = Q [] H := rfl
theorem a_cons {a : TE} {r : TA} {Q : List V → Hp → Prop} : tCons a r σ H Q = a σ H fun x H1 => r σ H1 fun xs H2 => Q (x :: xs) H2 := rfl
theorem a_tup {t : TA} : tTup t σ H Q = t σ H fun xs H1 => xs.length ≤ sizeLine ∧ Nw H1 (.tup xs) fun p H' => Q (.ref p) H' := by unfold tTup; simp only [nw_eq]
theorem a_lst {t : TA} : tLst t σ H Q = t σ H fun xs H1 => xs.length ≤ sizeLine ∧ Nw H1 (.lst xs) fun p H' => Q (.ref p) H' := by unfold tLst; simp only [nw_eq]
theorem a_call {sp : Sp} {E : XK} {t : TA} : tCall sp [] E t σ H Q = t σ H fun vs H1 => sp vs H1 Q E := by
  unfold tCall; simp only [List.append_nil]
theorem a_cb {r : List V → Hp → VK → Prop} {t : TA} : tCB r t σ H Q = t σ H fun vs H1 => r vs H1 Q := rfl
theorem a_bm0 {T : String} {r : V → List V → Hp → VK → Prop} {to : TE} : tBM0 K T r to σ H Q = to σ H fun x H1 => tyV K T x H1 ∧ r x [] H1 Q := rfl
theorem a_bm {T : String} {r : V → List V → Hp → VK → Prop} {to : TE} {t : TA} : tBM K T r to t σ H Q = to σ H fun x H1 => tyV K T x H1 ∧ t σ H1 fun xs H2 => r x xs H2 Q := rfl
theorem a_sl {r : V → Option Int → Option Int → Hp → VK → Prop} {te : TE} {tl th : TO} : tSl r te tl th σ H Q = te σ H fun x H1 => tl σ H1 fun l H2 => th σ H2 fun u H3 => r x l u H3 Q := rfl
theorem a_nopart {Q : Option Int → Hp → Prop} : tNoPart σ H Q = Q none H := rfl
theorem a_part {t : TE} {Q : Option Int → Hp → Prop} : tPart t σ H Q = t σ H fun x H1 => ∃ i, x = .int i ∧ Q (some i) H1 := rfl
theorem a_aug {i : Nat} {te : TE} {ti : TIp} : tAug i te ti D σ H = ∃ x, σ[i]? = some (some x) ∧ te σ H fun y H1 => ti x y H1 fun z H2 => D.nx (σ.set i (some z)) H2 := rfl
theorem b_rI {C : Int → Int → Prop} {g : Int → Int → V} {x y : Int} : rI C g (.int x) (.int y) H Q = (C x y ∧ Q (g x y) H) := by
  unfold rI; apply propext; constructor
  · rintro ⟨i, j, h1, h2, h⟩; cases h1; cases h2; exact h
  · intro h; exact ⟨x, y, rfl, rfl, h⟩
theorem b_rI0 {g : Int → Int → V} {x y : Int} : rI0 g (.int x) (.int y) H Q = Q (g x y) H := by
  unfold rI0; apply propext; constructor
  · rintro ⟨i, j, h1, h2, h⟩; cases h1; cases h2; exact h
  · intro h; exact ⟨x, y, rfl, rfl, h⟩
theorem b_rU {g : Int → V} {x : Int} : rU g (.int x) H Q = Q (g x) H := by
  unfold rU; apply propext; constructor
  · rintro ⟨i, h1, h⟩; cases h1; exact h
  · intro h; exact ⟨x, rfl, h⟩
theorem b_eq {x y : V} : rEq x y H Q = (scal x y = true ∧ Q (.bl (decide (x = y))) H) := rfl
theorem b_ne {x y : V} : rNe x y H Q = (scal x y = true ∧ Q (.bl (!decide (x = y))) H) := rfl
theorem b_isTF {x : V} {b : Bool} : rIsTF x (.bl b) H Q = Q (.bl (decide (x = .bl b))) H := by
  unfold rIsTF; apply propext; constructor
  · rintro ⟨i, h1, h⟩; cases h1; exact h
  · intro h; exact ⟨b, rfl, h⟩
end
theorem seq_join {t u : TS} {D : Ends} {σ : L2.St} {H : Hp} (M : L2.St → Hp → Prop) (h2 : ∀ N : L2.St → Hp → Prop, (∀ σ H, M σ H → N σ H) → t { D with nx := N } σ H) (h1 : ∀ σ H, M σ H → u D σ H) : tSeq t u D σ H := h2 (u D) h1
theorem ixN_7 : ixN 7 1 = some 1 ∧ ixN 7 2 = some 2 ∧ ixN 7 3 = some 3 ∧ ixN 7 4 = some 4 ∧ ixN 7 5 = some 5 ∧ ixN 7 6 = some 6 := by decide
theorem atI_of {α : Type} {xs : List α} {i : Int} {v : α} (h0 : 0 ≤ i) (h : xs[i.toNat]? = some v) : atI xs i = some v := by
  have hl := (List.getElem?_eq_some_iff.mp h).1
  unfold atI ixN
  rw [if_pos h0, if_pos (by omega)]
  exact h
theorem atI_0 {α : Type} {a : α} {r : List α} : atI (a :: r) 0 = some a := atI_of (by decide) rfl
theorem atI_1 {α : Type} {a b : α} {r : List α} : atI (a :: b :: r) 1 = some b := atI_of (by decide) rfl
theorem atI_2 {α : Type} {a b c : α} {r : List α} : atI (a :: b :: c :: r) 2 = some c := atI_of (by decide) rfl
theorem atI_3 {α : Type} {a b c d : α} {r : List α} : atI (a :: b :: c :: d :: r) 3 = some d := atI_of (by decide) rfl
theorem atI_4 {α : Type} {a b c d e : α} {r : List α} : atI (a :: b :: c :: d :: e :: r) 4 = some e := atI_of (by decide) rfl
theorem atI_5 {α : Type} {a b c d e f : α} {r : List α} : atI (a :: b :: c :: d :: e :: f :: r) 5 = some f := atI_of (by decide) rfl
theorem atI_6 {α : Type} {a b c d e f g : α} {r : List α} : atI (a :: b :: c :: d :: e :: f :: g :: r) 6 = some g := atI_of (by decide) rfl
theorem ixN_of {n : Nat} {i : Int} (h0 : 0 ≤ i) (h : i < n) : ixN n i = some i.toNat := by
  unfold ixN
  rw [if_pos h0, if_pos h]
theorem fm_bound {x m : Int} (h : 0 < m) : 0 ≤ x.fmod m ∧ x.fmod m < m := ⟨Int.fmod_nonneg_of_pos x h, Int.fmod_lt_of_pos x h⟩
theorem cm_lit {i j : Int} (h : -(2 ^ 64) < j ∧ j < 2 ^ 64) : CMul i j := .inr h
theorem cm_fm {x y m : Int} (h : 0 < m) (h2 : m < 2 ^ 64) : CMul (x.fmod m) y := .inl (by have := fm_bound (x := x) h; omega)
theorem scal_ii {i j : Int} : scal (.int i) (.int j) = true := rfl
theorem scal_bb {i j : Bool} : scal (.bl i) (.bl j) = true := rfl
theorem scal_ss {i j : Str} : scal (.str i) (.str j) = true := rfl
theorem scal_is {i : Int} {j : Str} : scal (.int i) (.str j) = true := rfl
theorem scal_si {i : Int} {j : Str} : scal (.str j) (.int i) = true := rfl
/-! ### loops -/
section
variable {σ : L2.St} {H : Hp} {Q : VK} {D : Ends} {K : PySem.W.Frag} {g : TG} {tb : TS} {tt : TT} {te : TE} {vs : List Nat} {ta : TA} {tl : TE}
def FRg (lo : Int) (n : Nat) (g : TG) (tb : TS) (D : Ends) (σ : L2.St) (H : Hp) : Prop := ∃ W : Nat → Nat → L2.St → Hp → Prop, (∃ m, W 0 m σ H) ∧ ∀ i m σ H, W i m σ H →
      ((Itr lo n).stop i H ∧ D.nx σ H) ∨ ((Itr lo n).go i H ∧ ∃ N : L2.St → Hp → Prop, (∀ σ' H', N σ' H' → ∃ m', m' < m ∧ W (i + 1) m' σ' H') ∧ ∀ x H', (Itr lo n).yld i H x H' → g x σ H' fun σ2 H2 => tb { D with nx := N, ct := N, bk := D.nx } σ2 H2)
theorem a_forR : tFor (iRng1 ta) g tb D σ H = ta σ H fun vs H1 => ∃ j : Int, vs = [.int j] ∧ -(2 ^ 62) ≤ j ∧ j < 2 ^ 62 ∧ FRg 0 j.toNat g tb D σ H1 := rfl
theorem a_forR2 : tFor (iRng2 ta) g tb D σ H = ta σ H fun vs H1 => ∃ i j : Int, vs = [.int i, .int j] ∧ (-(2 ^ 62) ≤ i ∧ i < 2 ^ 62 ∧ -(2 ^ 62) ≤ j ∧ j < 2 ^ 62) ∧ FRg i (j - i).toNat g tb D σ H1 := rfl
theorem fr_by {lo : Int} {n : Nat} (Pv : Nat → L2.St → Hp → Prop) (h0 : Pv 0 σ H)
    (hs : ∀ i σ H (N : L2.St → Hp → Prop), (∀ σ' H', Pv (i + 1) σ' H' → N σ' H') → i < n → Pv i σ H → g (.int (lo + i)) σ H fun σ2 H2 => tb { D with nx := N, ct := N, bk := D.nx } σ2 H2) (hd : ∀ σ H, Pv n σ H → D.nx σ H) : FRg lo n g tb D σ H := for_range Pv h0 (fun i σ H => hs i σ H _ fun _ _ z => z) hd
def FSq (K : PySem.W.Frag) (a : Addr) (g : TG) (tb : TS) (D : Ends) (σ : L2.St) (H : Hp) : Prop := ∃ xs, (H a = some (.lst xs) ∧ tFor (fun _ H R => R (Itl K a) H) g tb D σ H) ∨ (H a = some (.tup xs) ∧ tFor (fun _ H R => R (Itt K a) H) g tb D σ H)
def FSqV (K : PySem.W.Frag) (x : V) (g : TG) (tb : TS) (D : Ends) (σ : L2.St) (H : Hp) : Prop := ∃ a xs, x = .ref a ∧ ((H a = some (.lst xs) ∧ tFor (fun _ H R => R (Itl K a) H) g tb D σ H) ∨ (H a = some (.tup xs) ∧ tFor (fun _ H R => R (Itt K a) H) g tb D σ H))
theorem a_forS : tFor (iSq K tl) g tb D σ H = tl σ H fun x H1 => FSqV K x g tb D σ H1 := rfl
theorem b_fsq {a : Addr} : FSqV K (.ref a) g tb D σ H = FSq K a g tb D σ H := by
  unfold FSqV FSq; apply propext; constructor
  · rintro ⟨b, xs, e, h⟩; cases e; exact ⟨xs, h⟩
  · rintro ⟨xs, h⟩; exact ⟨a, xs, rfl, h⟩
theorem fs_by {a : Addr} {xs : List V} (hq : sq H a = some xs) (Pv : Nat → L2.St → Hp → Prop) (h0 : Pv 0 σ H) (hl : ∀ i σ' H', Pv i σ' H' → ∀ o, H a = some o → H' a = some o)
    (hs : ∀ i x σ H (N : L2.St → Hp → Prop), (∀ σ' H', Pv (i + 1) σ' H' → N σ' H') → xs[i]? = some x → Pv i σ H → g x σ H fun σ2 H2 => tb { D with nx := N, ct := N, bk := D.nx } σ2 H2) (hd : ∀ σ H, Pv xs.length σ H → D.nx σ H) : FSq K a g tb D σ H := by
  rcases sq_or hq with h | h
  · exact ⟨xs, .inl ⟨h, for_list Pv h0 (fun i σ' H' _ p => SqL.of (hl i σ' H' p _ h)) (fun i x σ H => hs i x σ H _ fun _ _ z => z) hd⟩⟩
  · exact ⟨xs, .inr ⟨h, for_tup Pv h0 (fun i σ' H' _ p => SqT.of (hl i σ' H' p _ h)) (fun i x σ H => hs i x σ H _ fun _ _ z => z) hd⟩⟩
/-! ### comprehensions -/
def CRg (lo : Int) (n : Nat) (g : TG) (tt : TT) (te : TE) (vs : List Nat) (σ : L2.St) (H : Hp) (Q : VK) : Prop := tLc (fun _ H R => R (Itr lo n) H) g tt te vs σ H Q
theorem a_lcR : tLc (iRng1 ta) g tt te vs σ H Q = ta σ H fun ws H1 => ∃ j : Int, ws = [.int j] ∧ -(2 ^ 62) ≤ j ∧ j < 2 ^ 62 ∧ CRg 0 j.toNat g tt te vs σ H1 Q := rfl
theorem a_lcR2 : tLc (iRng2 ta) g tt te vs σ H Q = ta σ H fun ws H1 => ∃ i j : Int, ws = [.int i, .int j] ∧ (-(2 ^ 62) ≤ i ∧ i < 2 ^ 62 ∧ -(2 ^ 62) ≤ j ∧ j < 2 ^ 62) ∧ CRg i (j - i).toNat g tt te vs σ H1 Q := rfl
/-- the end of a comprehension's turn -/
def CSt (C : Addr) (N : Hp → Prop) (y : V) (H : Hp) : Prop := ∃ acc, H C = some (.lst acc) ∧ acc.length < sizeLine ∧ N (upd H C (.lst (acc ++ [y])))
theorem cst {C : Addr} {N : Hp → Prop} {y : V} {H : Hp} {acc : List V} (h : H C = some (.lst acc)) (hl : acc.length < sizeLine) (hn : ∀ H5, Put H C (.lst (acc ++ [y])) H5 → N H5) : CSt C N y H := ⟨acc, h, hl, hn _ Put.mk'⟩
theorem cr_by {lo : Int} {n : Nat} (Pv : Addr → Nat → List V → Hp → Prop) (h0 : ∀ C H0, New H C (.lst []) H0 → Pv C 0 [] H0)
    (hs : ∀ C i acc H1 N, H C = none → i < n → H1 C = some (.lst acc) → Pv C i acc H1 → (∀ acc' H5, H5 C = some (.lst acc') → Pv C (i + 1) acc' H5 → N H5) → g (.int (lo + i)) (wipe σ vs) H1 fun σ2 H2 => wipe σ2 vs = wipe σ vs ∧ tt σ2 H2 fun b H3 =>
      if b = true then te σ2 H3 fun y H4 => CSt C N y H4 else N H3)
    (hd : ∀ C acc H1, H C = none → H1 C = some (.lst acc) → Pv C n acc H1 → Q (.ref C) H1) : CRg lo n g tt te vs σ H Q := by
  intro C hC
  refine lc_range (fun i H1 => ∃ acc, H1 C = some (.lst acc) ∧ Pv C i acc H1) ⟨[], upd_same, h0 C _ (New.mk' hC)⟩ (fun i H1 hi ⟨acc, ha, p⟩ => ?_) (fun H1 ⟨acc, ha, p⟩ => hd C acc H1 hC ha p)
  exact hs C i acc H1 _ hC hi ha p fun acc' H5 h5 p5 => ⟨acc', h5, p5⟩
def CSq (K : PySem.W.Frag) (a : Addr) (g : TG) (tt : TT) (te : TE) (vs : List Nat) (σ : L2.St) (H : Hp) (Q : VK) : Prop := ∃ xs, (H a = some (.lst xs) ∧ tLc (fun _ H R => R (Itl K a) H) g tt te vs σ H Q) ∨ (H a = some (.tup xs) ∧ tLc (fun _ H R => R (Itt K a) H) g tt te vs σ H Q)
def CSqV (K : PySem.W.Frag) (x : V) (g : TG) (tt : TT) (te : TE) (vs : List Nat) (σ : L2.St) (H : Hp) (Q : VK) : Prop := ∃ a xs, x = .ref a ∧ ((H a = some (.lst xs) ∧ tLc (fun _ H R => R (Itl K a) H) g tt te vs σ H Q) ∨ (H a = some (.tup xs) ∧ tLc (fun _ H R => R (Itt K a) H) g tt te vs σ H Q))
theorem a_lcS : tLc (iSq K tl) g tt te vs σ H Q = tl σ H fun x H1 => CSqV K x g tt te vs σ H1 Q := rfl
theorem b_csq {a : Addr} : CSqV K (.ref a) g tt te vs σ H Q = CSq K a g tt te vs σ H Q := by
  unfold CSqV CSq; apply propext; constructor
  · rintro ⟨b, xs, e, h⟩; cases e; exact ⟨xs, h⟩
  · rintro ⟨xs, h⟩; exact ⟨a, xs, rfl, h⟩
theorem cs_by {a : Addr} {xs : List V} (hq : sq H a = some xs) (Pv : Addr → Nat → List V → Hp → Prop) (h0 : ∀ C H0, New H C (.lst []) H0 → Pv C 0 [] H0) (hl : ∀ C i acc H', H C = none → Pv C i acc H' → ∀ o, H a = some o → H' a = some o)
    (hs : ∀ C i x acc H1 N, H C = none → xs[i]? = some x → H1 C = some (.lst acc) → Pv C i acc H1 → (∀ acc' H5, H5 C = some (.lst acc') → Pv C (i + 1) acc' H5 → N H5) → g x (wipe σ vs) H1 fun σ2 H2 => wipe σ2 vs = wipe σ vs ∧ tt σ2 H2 fun b H3 =>
      if b = true then te σ2 H3 fun y H4 => CSt C N y H4 else N H3)
    (hd : ∀ C acc H1, H C = none → H1 C = some (.lst acc) → Pv C xs.length acc H1 → Q (.ref C) H1) : CSq K a g tt te vs σ H Q := by
  rcases sq_or hq with h | h
  · refine ⟨xs, .inl ⟨h, fun C hC => ?_⟩⟩
    refine lc_list (fun i H1 => ∃ acc, H1 C = some (.lst acc) ∧ Pv C i acc H1) ⟨[], upd_same, h0 C _ (New.mk' hC)⟩ (fun i H1 _ ⟨acc, ha, p⟩ => SqL.of (hl C i acc H1 hC p _ h)) (fun i x H1 hi ⟨acc, ha, p⟩ => ?_) (fun H1 ⟨acc, ha, p⟩ => hd C acc H1 hC ha p)
    exact hs C i x acc H1 _ hC hi ha p fun acc' H5 h5 p5 => ⟨acc', h5, p5⟩
  · refine ⟨xs, .inr ⟨h, fun C hC => ?_⟩⟩
    refine lc_tup (fun i H1 => ∃ acc, H1 C = some (.lst acc) ∧ Pv C i acc H1) ⟨[], upd_same, h0 C _ (New.mk' hC)⟩ (fun i H1 _ ⟨acc, ha, p⟩ => SqT.of (hl C i acc H1 hC p _ h)) (fun i x H1 hi ⟨acc, ha, p⟩ => ?_) (fun H1 ⟨acc, ha, p⟩ => hd C acc H1 hC ha p)
    exact hs C i x acc H1 _ hC hi ha p fun acc' H5 h5 p5 => ⟨acc', h5, p5⟩
/-! ### while -/
def WSt (N : L2.St → Hp → Prop) (tb : TS) (D : Ends) (σ : L2.St) (b : Bool) (H : Hp) : Prop := if b = true then tb { D with nx := N, ct := N, bk := D.nx } σ H else D.nx σ H
theorem wh_by {c : TT} (Pv : Nat → L2.St → Hp → Prop) (m : Nat) (h0 : Pv m σ H) (hs : ∀ m σ H (N : L2.St → Hp → Prop) (R : Bool → Hp → Prop), (∀ m' σ' H', m' < m → Pv m' σ' H' → N σ' H') → (∀ b H1, WSt N tb D σ b H1 → R b H1) → Pv m σ H → c σ H R) : tWhile c tb D σ H := by
  refine ⟨Pv, ⟨m, h0⟩, fun m σ H p => ?_⟩
  refine hs m σ H (fun σ' H' => ∃ m', m' < m ∧ Pv m' σ' H') _ (fun m' σ' H' h p => ⟨m', h, p⟩) (fun b H1 h => ?_) p
  unfold WSt at h
  cases b with
  | true => exact ⟨_, fun _ _ z => z, h⟩
  | false => exact h
theorem wst {N : L2.St → Hp → Prop} {b : Bool} (ht : b = true → tb { D with nx := N, ct := N, bk := D.nx } σ H) (hf : b = false → D.nx σ H) : WSt N tb D σ b H := by
  cases b with
  | true => exact ht rfl
  | false => exact hf rfl
end
theorem wipe_nil {σ : L2.St} : wipe σ [] = σ := rfl
theorem wipe_cons {σ : L2.St} {v : Nat} {vs : List Nat} : wipe σ (v :: vs) = (wipe σ vs).set v none := rfl
theorem a_yes {σ : L2.St} {H : Hp} {Q : Bool → Hp → Prop} : tYes σ H Q = Q true H := rfl
/-! ### data -/
inductive Lf : V → PyData → Nat → Prop
  | non : Lf .non .none 1
  | bl (b : Bool) : Lf (.bl b) (.bool b) 1
  | int (i : Int) : Lf (.int i) (.int i) 1
  | str (x : Str) : Lf (.str x) (.str x) (x.length + 1)
theorem Lf.pos {v : V} {d : PyData} {n : Nat} (h : Lf v d n) : 0 < n := by cases h <;> omega
mutual
inductive Dw (E : List Addr) (H : Hp) : V → PyData → Nat → Prop
  | lf {v : V} {d : PyData} {n : Nat} : Lf v d n → Dw E H v d n
  | lst {a : Addr} {xs : List V} {ds : List PyData} {n : Nat} : a ∉ E → H a = some (.lst xs) → DwAll E H xs ds n → Dw E H (.ref a) (.list ds) (n + 1)
  | tup {a : Addr} {xs : List V} {ds : List PyData} {n : Nat} : a ∉ E → H a = some (.tup xs) → DwAll E H xs ds n → Dw E H (.ref a) (.tuple ds) (n + 1)
inductive DwAll (E : List Addr) (H : Hp) : List V → List PyData → Nat → Prop
  | nil : DwAll E H [] [] 0
  | cons {v : V} {vs : List V} {d : PyData} {ds : List PyData} {n m : Nat} : Dw E H v d n → DwAll E H vs ds m → DwAll E H (v :: vs) (d :: ds) (n + m)
end
mutual
theorem Dw.kp {E : List Addr} {H H' : Hp} (k : ∀ a o, a ∉ E → H a = some o → H' a = some o) : ∀ {v : V} {d : PyData} {n : Nat}, Dw E H v d n → Dw E H' v d n
  | _, _, _, .lf l => .lf l
  | _, _, _, .lst ne h a => .lst ne (k _ _ ne h) (DwAll.kp k a)
  | _, _, _, .tup ne h a => .tup ne (k _ _ ne h) (DwAll.kp k a)
theorem DwAll.kp {E : List Addr} {H H' : Hp} (k : ∀ a o, a ∉ E → H a = some o → H' a = some o) : ∀ {v : List V} {d : List PyData} {n : Nat}, DwAll E H v d n → DwAll E H' v d n
  | _, _, _, .nil => .nil
  | _, _, _, .cons a b => .cons (Dw.kp k a) (DwAll.kp k b)
end
theorem Dw.pos {E : List Addr} {H : Hp} {v : V} {d : PyData} {n : Nat} (h : Dw E H v d n) : 0 < n := by
  cases h with
  | lf l => exact l.pos
  | lst => omega
  | tup => omega
theorem DwAll.len {E : List Addr} {H : Hp} : ∀ {v : List V} {d : List PyData} {n : Nat}, DwAll E H v d n → v.length = d.length ∧ v.length ≤ n
  | _, _, _, .nil => ⟨rfl, Nat.le_refl _⟩
  | _, _, _, .cons a b => by
    have h1 := DwAll.len b
    have h2 := a.pos
    simp only [List.length_cons]
    omega
theorem DwAll.app {E : List Addr} {H : Hp} : ∀ {v : List V} {d : List PyData} {n : Nat} {v' : List V} {d' : List PyData} {n' : Nat}, DwAll E H v d n → DwAll E H v' d' n' → DwAll E H (v ++ v') (d ++ d') (n + n')
  | _, _, _, _, _, n', .nil, b => by rw [Nat.zero_add]; exact b
  | _, _, _, _, _, _, .cons (n := n) (m := m) a r, b => by rw [Nat.add_assoc]; exact .cons a (DwAll.app r b)
theorem DwAll.one {E : List Addr} {H : Hp} {v : V} {d : PyData} {n : Nat} (h : Dw E H v d n) : DwAll E H [v] [d] n := .cons h .nil
theorem DwAll.get {E : List Addr} {H : Hp} : ∀ {v : List V} {d : List PyData} {n i : Nat} {x : V}, DwAll E H v d n → v[i]? = some x → ∃ e m, d[i]? = some e ∧ Dw E H x e m ∧ m ≤ n
  | _, _, _, _, _, .nil, h => by simp at h
  | _, _, _, 0, x, .cons (n := n) (m := m) a r, h => by
    simp at h; subst h
    exact ⟨_, _, rfl, a, by omega⟩
  | _, _, _, i + 1, x, .cons (n := n) (m := m) a r, h => by
    obtain ⟨e, k, h1, h2, h3⟩ := DwAll.get (i := i) (x := x) r (by simpa using h)
    exact ⟨e, k, by simpa using h1, h2, by omega⟩
theorem DwAll.mem {E : List Addr} {H : Hp} {v : List V} {d : List PyData} {n : Nat} {x : V} (h : DwAll E H v d n) (hx : x ∈ v) : ∃ e m, e ∈ d ∧ Dw E H x e m ∧ m ≤ n := by
  obtain ⟨i, hi⟩ := List.getElem?_of_mem hx
  obtain ⟨e, m, h1, h2, h3⟩ := h.get hi
  exact ⟨e, m, List.mem_of_getElem? h1, h2, h3⟩
/-- any list of data -/
theorem DwAll.of {E : List Addr} {H : Hp} {b : Nat} : ∀ {v : List V}, (∀ x ∈ v, ∃ d n, Dw E H x d n ∧ n ≤ b) → ∃ ds n, DwAll E H v ds n ∧ n ≤ b * v.length
  | [], _ => ⟨[], 0, .nil, by simp⟩
  | x :: r, h => by
    obtain ⟨d, n, h1, h2⟩ := h x List.mem_cons_self
    obtain ⟨ds, m, h3, h4⟩ := DwAll.of (v := r) fun y hy => h y (List.mem_cons_of_mem _ hy)
    refine ⟨d :: ds, n + m, .cons h1 h3, ?_⟩
    rw [List.length_cons, Nat.mul_add]
    omega
theorem DwAll.ints {E : List Addr} {H : Hp} : ∀ ns : List Int, DwAll E H (ns.map V.int) (ns.map PyData.int) ns.length
  | [] => .nil
  | n :: r => by
    have := DwAll.cons (E := E) (H := H) (Dw.lf (.int n)) (DwAll.ints r)
    rw [List.length_cons, Nat.add_comm]
    exact this
/-- the law's store at s, its list of cells at l -/
def Sto (s l : Addr) (H : Hp) : Prop := ∃ (ns : List Int) (i1 i2 i3 i4 i5 i6 : Int), H s = some (.lst [.ref l, .int i1, .int i2, .int i3, .int i4, .int i5, .int i6]) ∧ H l = some (.lst (ns.map V.int)) ∧ l ≠ s ∧ 0 ≤ i1
theorem Sto.put {s l : Addr} {H H' : Hp} {ns : List Int} {i1 i2 i3 i4 i5 i6 : Int} (hl : H l = some (.lst (ns.map V.int))) (ne : l ≠ s) (n : Put H s (.lst [.ref l, .int i1, .int i2, .int i3, .int i4, .int i5, .int i6]) H') (h1 : 0 ≤ i1) : Sto s l H' :=
  ⟨ns, i1, i2, i3, i4, i5, i6, n.at_, n.k ne hl, ne, h1⟩
theorem Sto.ne {s l p : Addr} {H : Hp} (h : Sto s l H) (hp : H p = none) : p ≠ s ∧ p ≠ l := by
  obtain ⟨ns, i1, i2, i3, i4, i5, i6, hs, hl, ne, h1⟩ := h
  exact ⟨(ne_of_none hs hp).symm, (ne_of_none hl hp).symm⟩
theorem Sto.keep {s l : Addr} {H H' : Hp} (h : Sto s l H) (a : ∀ o, H s = some o → H' s = some o) (b : ∀ o, H l = some o → H' l = some o) : Sto s l H' := by
  obtain ⟨ns, i1, i2, i3, i4, i5, i6, hs, hl, ne, h1⟩ := h
  exact ⟨ns, i1, i2, i3, i4, i5, i6, a _ hs, b _ hl, ne, h1⟩
theorem Sto.same {s l : Addr} {H H' : Hp} (h : Sto s l H) (a : Same H H') : Sto s l H' := h.keep (fun _ => a _ _) fun _ => a _ _
structure Ge (s l : Addr) (H H' : Hp) : Prop where
  kp : Kp s H H'
  st : Sto s l H'
section
variable {s l p : Addr} {H H1 H2 : Hp} {o : HO}
theorem Ge.refl (h : Sto s l H) : Ge s l H H := ⟨Kp.refl, h⟩
theorem Ge.trans (a : Ge s l H H1) (b : Ge s l H1 H2) : Ge s l H H2 := ⟨a.kp.trans b.kp, b.st⟩
theorem Ge.same (a : Ge s l H H1) (b : Same H1 H2) : Ge s l H H2 := ⟨a.kp.trans (Kp.same b), a.st.same b⟩
theorem Ge.new (a : Ge s l H H1) (n : New H1 p o H2) : Ge s l H H2 := a.same n.same
theorem Ge.fr (a : Ge s l H H1) (h : H1 p = none) : H p = none := a.kp.fresh (a.st.ne h).1 h
/-- a store to an object that is new since H -/
theorem Ge.put (a : Ge s l H H1) (h0 : Sto s l H) (hp : H p = none) (n : Put H1 p o H2) : Ge s l H H2 := by
  have e := h0.ne hp
  exact ⟨fun b u hb hu => n.k (ne_of_none hu hp) (a.kp b u hb hu), a.st.keep (fun _ h => n.k e.1.symm h) fun _ h => n.k e.2.symm h⟩
theorem Ge.at (a : Ge s l H1 H2) (h0 : Sto s l H) (hp : H p = none) (h : H1 p = some o) : H2 p = some o := a.kp.k (h0.ne hp).1 h
theorem Ge.k (a : Ge s l H1 H2) (ne : p ≠ s) (h : H1 p = some o) : H2 p = some o := a.kp.k ne h
end
theorem Kp.sq {s p : Addr} {H H' : Hp} {xs : List V} (a : Kp s H H') (ne : p ≠ s) (h : sq H p = some xs) : sq H' p = some xs := by
  rcases sq_or h with h | h
  · exact sq_l (a.k ne h)
  · exact sq_t (a.k ne h)
theorem cxK {CX : CXT} {P : Program} {w : World} {K : PySem.W.Frag} {mg : Str → Option Value} {base : Heap} {N : List Str} {q : Str} {sc : Scope} {f : Addr} {cd : Value} {A : Around} {outer : List Env} {s : Shared} {H : Hp} {E : XK} : (cxOf CX P w K mg base N q sc f cd A outer s H E).K = K := rfl
theorem Sto.ne' {s l p : Addr} {H : Hp} {o : HO} (h : Sto s l H) (hp : H p = some o) (hb : ∀ m i1 i2 i3 i4 i5 i6, o ≠ .lst [.ref m, .int i1, .int i2, .int i3, .int i4, .int i5, .int i6]) : p ≠ s := by
  obtain ⟨ns, i1, i2, i3, i4, i5, i6, hs, hl, ne, h1⟩ := h
  rintro rfl
  rw [hp] at hs
  exact hb _ _ _ _ _ _ _ (Option.some.inj hs)
section
variable {σ : L2.St} {H : Hp} {Q : VK}
theorem a_m1 {r : V → List V → Hp → VK → Prop} {a b : TE} : tM1 r a b σ H Q = a σ H fun x H1 => (∃ z, x = .str z) ∧ b σ H1 fun y H2 => r x [y] H2 Q := rfl
theorem b_ixS {z : Str} {i : Int} : rIxS (.str z) (.int i) H Q = (z.length ≤ sizeLine ∧ ∃ c, atI z.cps.toList i = some c ∧ Q (.str ⟨#[c]⟩) H) := by
  unfold rIxS; apply propext; constructor
  · rintro ⟨_, _, c, h1, h2, h3, h4, h⟩; cases h1; cases h2; exact ⟨h3, c, h4, h⟩
  · rintro ⟨h3, c, h4, h⟩; exact ⟨_, _, c, rfl, rfl, h3, h4, h⟩
theorem b_slS {z : Str} {lo hi : Option Int} : rSlS (.str z) lo hi H Q = (z.length ≤ sizeLine ∧ Q (.str (cutS z lo hi)) H) := by
  unfold rSlS; apply propext; constructor
  · rintro ⟨_, h1, h3, h⟩; cases h1; exact ⟨h3, h⟩
  · rintro ⟨h3, h⟩; exact ⟨_, rfl, h3, h⟩
end
theorem len_app (a b : Str) : (a ++ b).length = a.length + b.length := by
  show (Array.size (a.cps ++ b.cps)) = _
  rw [Array.size_append]
  rfl
theorem tl_app (a b : Str) : (a ++ b).cps.toList = a.cps.toList ++ b.cps.toList := by
  show (a.cps ++ b.cps).toList = _
  rw [Array.toList_append]
theorem len_tl (a : Str) : a.cps.toList.length = a.length := by simp [Str.length]
/-- signs from the space to the tilde and line feeds -/
def Vis (z : Str) : Prop := ∀ c ∈ z.cps.toList, c = 10 ∨ (32 ≤ c ∧ c < 127)
theorem Vis.app {a b : Str} (h : Vis a) (h' : Vis b) : Vis (a ++ b) := by
  intro c hc
  rw [tl_app] at hc
  rcases List.mem_append.mp hc with z | z
  · exact h c z
  · exact h' c z
theorem Vis.cut {a : Str} (h : Vis a) (lo hi : Option Int) : Vis (cutS a lo hi) := by
  intro c hc
  unfold cutS at hc
  exact h c (List.mem_of_mem_drop (List.mem_of_mem_take (by simpa using hc)))
theorem joinL_nil : ∀ ps : List (List Nat), TL.joinL [] ps = ps.flatten
  | [] => rfl
  | [p] => by simp [TL.joinL]
  | p :: q :: r => by
    have e := joinL_nil (q :: r)
    show p ++ ([] ++ TL.joinL [] (q :: r)) = _
    rw [e] <;> simp
theorem join_tl (ys : List Str) : (Txt.join ("" : Str) ys).cps.toList = (ys.map fun z => z.cps.toList).flatten := by
  have e := TL.tl_join ("" : Str) ys
  rw [← TL.join_eq] at e
  have e0 : TL.tl ("" : Str) = [] := by decide +kernel
  rw [e0, joinL_nil] at e
  exact e
mutual
theorem Dw.sub {E E' : List Addr} {H : Hp} (k : ∀ a, a ∈ E' → a ∈ E) : ∀ {v : V} {d : PyData} {n : Nat}, Dw E H v d n → Dw E' H v d n
  | _, _, _, .lf l => .lf l
  | _, _, _, .lst ne h a => .lst (fun z => ne (k _ z)) h (DwAll.sub k a)
  | _, _, _, .tup ne h a => .tup (fun z => ne (k _ z)) h (DwAll.sub k a)
theorem DwAll.sub {E E' : List Addr} {H : Hp} (k : ∀ a, a ∈ E' → a ∈ E) : ∀ {v : List V} {d : List PyData} {n : Nat}, DwAll E H v d n → DwAll E' H v d n
  | _, _, _, .nil => .nil
  | _, _, _, .cons a b => .cons (Dw.sub k a) (DwAll.sub k b)
end
/-- these addresses are taken -/
def Lv (E : List Addr) (H : Hp) : Prop := ∀ a ∈ E, H a ≠ none
section
variable {s l p : Addr} {E : List Addr} {H H1 H2 : Hp} {o : HO} {v : V} {d : PyData} {n : Nat}
theorem Lv.out (h : Lv E H) (hp : H p = none) : p ∉ E := fun z => h p z hp
theorem Lv.cons (h : Lv E H) (hp : H p = some o) : Lv (p :: E) H := fun a ha => by
  rcases List.mem_cons.mp ha with z | z
  · rw [z, hp]; exact fun q => by cases q
  · exact h a z
theorem Lv.ge (h : Lv E H) (g : Ge s l H H1) : Lv E H1 := fun a ha => by
  by_cases e : a = s
  · obtain ⟨ns, i1, i2, i3, i4, i5, i6, hs, _⟩ := g.st
    rw [e, hs]; exact fun q => by cases q
  · have := h a ha
    cases q : H a with
    | none => exact absurd q this
    | some o => rw [g.k e q]; exact fun z => by cases z
theorem Lv.same (h : Lv E H) (g : Same H H1) : Lv E H1 := fun a ha => by
  have := h a ha
  cases q : H a with
  | none => exact absurd q this
  | some o => rw [g _ _ q]; exact fun z => by cases z
theorem Dw.ge (h : Dw E H v d n) (g : Ge s l H H1) (hs : s ∈ E) : Dw E H1 v d n := h.kp fun a o ha e => g.k (fun z => ha (z ▸ hs)) e
theorem Dw.same (h : Dw E H v d n) (g : Same H H1) : Dw E H1 v d n := h.kp fun a o _ e => g a o e
theorem Dw.new (h : Dw E H v d n) (g : New H p o H1) : Dw E H1 v d n := h.same g.same
theorem Dw.put (h : Dw E H v d n) (g : Put H p o H1) (hp : p ∈ E) : Dw E H1 v d n := h.kp fun a o ha e => g.k (fun z => ha (z ▸ hp)) e
theorem DwAll.ge {vs : List V} {ds : List PyData} (h : DwAll E H vs ds n) (g : Ge s l H H1) (hs : s ∈ E) : DwAll E H1 vs ds n := h.kp fun a o ha e => g.k (fun z => ha (z ▸ hs)) e
theorem DwAll.same {vs : List V} {ds : List PyData} (h : DwAll E H vs ds n) (g : Same H H1) : DwAll E H1 vs ds n := h.kp fun a o _ e => g a o e
theorem DwAll.put {vs : List V} {ds : List PyData} (h : DwAll E H vs ds n) (g : Put H p o H1) (hp : p ∈ E) : DwAll E H1 vs ds n := h.kp fun a o ha e => g.k (fun z => ha (z ▸ hp)) e
end
/-- data of at most so much weight -/
def Db (E : List Addr) (H : Hp) (b : Nat) (v : V) : Prop := ∃ d n, Dw E H v d n ∧ n ≤ b
section
variable {s l p : Addr} {E E' : List Addr} {H H1 H2 : Hp} {o : HO} {v : V} {b b' : Nat} {xs : List V}
theorem Db.le (h : Db E H b v) (hb : b ≤ b') : Db E H b' v := by
  obtain ⟨d, n, h, hn⟩ := h
  exact ⟨d, n, h, Nat.le_trans hn hb⟩
theorem Db.sub (h : Db E H b v) (k : ∀ a, a ∈ E' → a ∈ E) : Db E' H b v := by
  obtain ⟨d, n, h, hn⟩ := h
  exact ⟨d, n, h.sub k, hn⟩
theorem Db.ge (h : Db E H b v) (g : Ge s l H H1) (hs : s ∈ E) : Db E H1 b v := by
  obtain ⟨d, n, h, hn⟩ := h
  exact ⟨d, n, h.ge g hs, hn⟩
theorem Db.same (h : Db E H b v) (g : Same H H1) : Db E H1 b v := by
  obtain ⟨d, n, h, hn⟩ := h
  exact ⟨d, n, h.same g, hn⟩
theorem Db.put (h : Db E H b v) (g : Put H p o H1) (hp : p ∈ E) : Db E H1 b v := by
  obtain ⟨d, n, h, hn⟩ := h
  exact ⟨d, n, h.put g hp, hn⟩
theorem Db.seq (h : ∀ x ∈ xs, Db E H b x) (hp : p ∉ E) (hq : H p = some (.tup xs) ∨ H p = some (.lst xs)) : Db E H (b * xs.length + 1) (.ref p) := by
  obtain ⟨ds, n, h1, h2⟩ := DwAll.of h
  rcases hq with q | q
  · exact ⟨_, _, .tup hp q h1, by omega⟩
  · exact ⟨_, _, .lst hp q h1, by omega⟩
end
theorem all_app {p : V → Prop} {xs : List V} {y : V} (h : ∀ x ∈ xs, p x) (hy : p y) : ∀ x ∈ xs ++ [y], p x := fun x hx => by
  rcases List.mem_append.mp hx with q | q
  · exact h x q
  · rw [List.mem_singleton.mp q]; exact hy
mutual
theorem Dw.fresh {E : List Addr} {C : Addr} {H : Hp} (k : H C = none) : ∀ {v : V} {d : PyData} {n : Nat}, Dw E H v d n → Dw (C :: E) H v d n
  | _, _, _, .lf l => .lf l
  | _, _, _, .lst ne h a => .lst (fun z => by
      rcases List.mem_cons.mp z with q | q
      · rw [q, k] at h; cases h
      · exact ne q) h (DwAll.fresh k a)
  | _, _, _, .tup ne h a => .tup (fun z => by
      rcases List.mem_cons.mp z with q | q
      · rw [q, k] at h; cases h
      · exact ne q) h (DwAll.fresh k a)
theorem DwAll.fresh {E : List Addr} {C : Addr} {H : Hp} (k : H C = none) : ∀ {v : List V} {d : List PyData} {n : Nat}, DwAll E H v d n → DwAll (C :: E) H v d n
  | _, _, _, .nil => .nil
  | _, _, _, .cons a b => .cons (Dw.fresh k a) (DwAll.fresh k b)
end
theorem kb_all : kitB "NoneType" "int" = some false ∧ kitB "bool" "int" = some true ∧ kitB "int" "int" = some true ∧ kitB "str" "int" = some false ∧ kitB "list" "int" = some false ∧ kitB "tuple" "int" = some false ∧ kitB "dict" "int" = some false ∧ kitB "NoneType" "bool" = some false ∧ kitB "bool" "bool" = some true ∧ kitB "int" "bool" = some false ∧ kitB "str" "bool" = some false ∧ kitB "list" "bool" = some false ∧ kitB "tuple" "bool" = some false ∧ kitB "dict" "bool" = some false ∧ kitB "NoneType" "str" = some false ∧ kitB "bool" "str" = some false ∧ kitB "int" "str" = some false ∧ kitB "str" "str" = some true ∧ kitB "list" "str" = some false ∧ kitB "tuple" "str" = some false ∧ kitB "dict" "str" = some false ∧ kitB "NoneType" "list" = some false ∧ kitB "bool" "list" = some false ∧ kitB "int" "list" = some false ∧ kitB "str" "list" = some false ∧ kitB "list" "list" = some true ∧ kitB "tuple" "list" = some false ∧ kitB "dict" "list" = some false ∧ kitB "NoneType" "tuple" = some false ∧ kitB "bool" "tuple" = some false ∧ kitB "int" "tuple" = some false ∧ kitB "str" "tuple" = some false ∧ kitB "list" "tuple" = some false ∧ kitB "tuple" "tuple" = some true ∧ kitB "dict" "tuple" = some false := by decide +kernel
theorem b_isi {x : V} {T : String} {H : Hp} {Q : VK} : rIsi1 [x, .ty T] H Q = ∃ t, tyN H x = some t ∧ ∃ b, kitB t T = some b ∧ Q (.bl b) H := by
  unfold rIsi1; apply propext; constructor
  · rintro ⟨_, _, t, b, h1, h2, h3, h⟩; cases h1; exact ⟨t, h2, b, h3, h⟩
  · rintro ⟨t, h2, b, h3, h⟩; exact ⟨_, _, t, b, rfl, h2, h3, h⟩
theorem ty_non {H : Hp} : tyN H .non = some "NoneType" := rfl
theorem ty_bl {H : Hp} {b : Bool} : tyN H (.bl b) = some "bool" := rfl
theorem ty_int {H : Hp} {b : Int} : tyN H (.int b) = some "int" := rfl
theorem ty_str {H : Hp} {b : Str} : tyN H (.str b) = some "str" := rfl
theorem ty_l {H : Hp} {p : Addr} {xs : List V} (h : H p = some (.lst xs)) : tyN H (.ref p) = some "list" := by unfold tyN; simp only [h]
theorem ty_t {H : Hp} {p : Addr} {xs : List V} (h : H p = some (.tup xs)) : tyN H (.ref p) = some "tuple" := by unfold tyN; simp only [h]
theorem cl_false {P : Program} {w : World} {K : PySem.W.Frag} {mg : Str → Option Value} {base : Heap} {x : Str} {st : Stmt} {ps : List Str} (D : Df K mg x st)
    (hb : ∀ (kV doc pm : Value) (an : Option Addr) (cdv ct : Value) (us : List Value), us.length = ps.length → bindArgs (PySem.W.fnOf x x (defArgs st) (defBody st) (defScope st) .none kV doc pm an cdv ct) ⟨us, []⟩ = pure (ps.zip us)) (k : Nat) {sp : Sp} (hf : ∀ vs H Q E, ¬ sp vs H Q E) : Cl P w K mg base k x ps sp := by
  obtain ⟨f, fd, F, g⟩ := D
  exact ⟨f, fd, g, F.kp, F.bindsA hb, fun vs H Q E h => (hf _ _ _ _ h).elim, fun A outer s H args us vs Q E _ _ _ _ h => (hf _ _ _ _ h).elim⟩
def isWh : V → Bool
  | .int _ => true
  | _ => false
theorem wh_i {i : Int} : isWh (.int i) = true := rfl
theorem wh_s {i : Str} : isWh (.str i) = false := rfl
theorem wh_b {i : Bool} : isWh (.bl i) = false := rfl
theorem wh_r {i : Addr} : isWh (.ref i) = false := rfl
theorem wh_n : isWh .non = false := rfl
theorem same_sq {p : Addr} {H H' : Hp} {xs : List V} (a : Same H H') (h : sq H p = some xs) : sq H' p = some xs := by
  rcases sq_or h with h | h
  · exact sq_l (a _ _ h)
  · exact sq_t (a _ _ h)
theorem Put.same {H H1 H2 : Hp} {p : Addr} {o : HO} (n : Put H1 p o H2) (a : Same H H1) (hp : H p = none) : Same H H2 := fun b u e => n.k (ne_of_none e hp) (a _ _ e)
def qIns : V → List V → Hp → VK → Prop := fun x vs H Q => match x, vs with
  | .ref l, [.int i, y] => ∃ xs, H l = some (.lst xs) ∧ xs.length < sizeLine ∧ 0 ≤ i ∧ i < 2 ^ 63 ∧ Wr H l (.lst (xs.take i.toNat ++ [y] ++ xs.drop i.toNat)) fun H' => Q .non H'
  | _, _ => False
theorem ins1 {X : Cx} : MtR X "list.insert" qIns := MtR_imp mt_insert fun x vs H Q h => by
  unfold qIns at h
  split at h
  · obtain ⟨xs, h1, h2, h3, h4, q⟩ := h
    refine ⟨_, xs, _, _, rfl, rfl, h1, h2, h3, h4, ?_⟩
    rw [wr_eq (Q := fun H' => Q .non H')]
    exact q
  · exact h.elim
section
variable {σ : L2.St} {H : Hp} {Q : VK} {K : PySem.W.Frag}
theorem b_ins {l : Addr} {i : Int} {y : V} : qIns (.ref l) [.int i, y] H Q = ∃ xs, H l = some (.lst xs) ∧ xs.length < sizeLine ∧ 0 ≤ i ∧ i < 2 ^ 63 ∧ Wr H l (.lst (xs.take i.toNat ++ [y] ++ xs.drop i.toNat)) fun H' => Q .non H' := rfl
theorem a_revL {te : TE} : tRevL K te σ H Q = te σ H fun x H1 => ∃ a xs, x = .ref a ∧ SqL K H1 a xs ∧ Nw H1 (.lst xs.reverse) fun q H' => Q (.ref q) H' := by
  unfold tRevL; simp only [nw_eq]
theorem idx_ints {p : Addr} {ns : List Int} {c : Int} (h : H p = some (.lst (ns.map V.int))) (hc : c ∈ ns) (hq : ∀ j : Nat, j < ns.length → ns[j]? = some c → Q (.int j) H) : rIndex K (.ref p) [.int c] H Q := by
  have hl := List.idxOf_lt_length_of_mem hc
  have hg : ns[ns.idxOf c]? = some c := by
    rw [List.getElem?_eq_getElem hl, List.getElem_idxOf hl]
  refine ⟨p, ns.map V.int, .int c, ns.idxOf c, .int c, rfl, rfl, SqL.of h, rfl, ?_, by rw [List.getElem?_map, hg]; rfl, ?_, fun m z hm hz => ?_, hq _ hl hg⟩
  · rw [List.all_map]; exact List.all_eq_true.mpr fun _ _ => rfl
  · simp [eqV]
  · rw [List.getElem?_map] at hz
    have hml : m < ns.length := by omega
    rw [List.getElem?_eq_getElem hml] at hz
    cases hz
    have : ns[m] ≠ c := fun e => by
      have := List.not_of_lt_findIdx (p := (· == c)) (xs := ns) (i := m) (by simpa [List.idxOf] using hm)
      simp [e] at this
    simp [eqV, this]
theorem cut_le (z : Str) (lo hi : Option Int) : (cutS z lo hi).length ≤ z.length := cutS_length z lo hi
end
theorem str_len10 {a : Int} {k : Nat} (hk : 0 < k) (h : a.natAbs < 10 ^ k) : (Str.ofString (toString a)).length ≤ k + 1 := by
  rw [PySem.ofString_length]; exact int_text_length_le10 hk h
def qIsT : List V → Hp → VK → Prop := fun vs H Q => match vs with
  | [x, .ref tp] => ∃ a b, H tp = some (.tup [.ty a, .ty b]) ∧ ∃ t, tyN H x = some t ∧ ∃ r1, kitB t a = some r1 ∧ ∃ r2, kitB t b = some r2 ∧ Q (.bl (r1 || r2)) H
  | _ => False
theorem isiT1 {X : Cx} : CallR X (.builtin "isinstance") qIsT := by
  intro pins s σ H xs us Q I r h
  unfold qIsT at h
  split at h
  · obtain ⟨a, b, hT, t, ht, r1, h1, r2, h2, q⟩ := h
    refine call_isiT pins s σ H _ us Q I r ⟨_, _, [.ty a, .ty b], .type t, [.type a, .type b], r1 || r2, rfl, hT, .cons (.ty a) (.cons (.ty b) .nil), tyN_ty ht, ?_, q⟩
    refine kitAny_cons (kit_ty h1) (fun e => ?_) (fun e => by rw [e]; rfl)
    refine kitAny_cons (kit_ty h2) (fun e' => by rw [e, e']; exact kitAny_nil) (fun e' => by rw [e, e']; rfl)
  · exact h.elim
theorem b_isT {x : V} {tp : Addr} {H : Hp} {Q : VK} : qIsT [x, .ref tp] H Q = ∃ a b, H tp = some (.tup [.ty a, .ty b]) ∧ ∃ t, tyN H x = some t ∧ ∃ r1, kitB t a = some r1 ∧ ∃ r2, kitB t b = some r2 ∧ Q (.bl (r1 || r2)) H := rfl
section
open PySem AutoSeq1 PyProof.Rows
variable {prog : Program} {w : World} {A : Around} {E : Value → Shared → Prop} {s : Shared}
theorem collect_seq2 {Q : List Value → Shared → Prop} (it : Addr) {T : String} {o : Obj} {items : Array Value} {n : Nat} (hT : T = "list" ∨ T = "tuple")
    (ho : s.heap.get? it = some o) (hc : o.cls = .type T) (hd : o.data = .seq items n)
    (hQ : ∀ h', (∀ b o', s.heap.get? b = some o' → h'.get? b = some o') → s.heap.objs.size < h'.objs.size → Q items.toList { s with heap := h' }) (hsz : items.size ≤ sizeLine := by size_fits) :
    wpAny (model prog w) A (collect (.ref it)) Q E s := by
  unfold collect
  refine wpAny_bind (wpAny_runValue (codeAny_builtin F.entry_proto_collect ?_))
  rw [Around.under_plainId F.plain_proto_collect _]
  show wpAny _ A.in1 (newList [] >>= fun l => again (.builtin "list.__iadd__" ⟨[l, .ref it], []⟩)) _ _ s
  refine wpAny_bind (wpAny_newObj_type ?_)
  refine wpAny_pure ⟨plainId_quiet F.plain_list_iadd _, codeAny_builtin F.entry_list_iadd ?_⟩
  rw [Around.under_plainId F.plain_list_iadd _]
  show wpAny _ A.in1 (Builtin.List.listExtendWith (.ref s.heap.objs.size) (.ref it) (.ref s.heap.objs.size)) _ _ _
  have hS : (s.heap.push { cls := .type "list", data := .seq ([] : List Value).toArray }).get? s.heap.objs.size = some { cls := .type "list", data := .seq #[] 0 } := Heap.get?_push_size _ rfl
  have hS₂ := Heap.get?_update_self (Obj.mapSeq (· ++ items)) hS rfl
  have fin' : wpAny (model prog w) A (match Value.ref s.heap.objs.size with
      | Value.ref a => do
        match (← load a).data with
          | Data.seq xs _ => pure xs.toList
          | _ => unsupported "internal:collect"
      | _ => unsupported "internal:collect") Q E { s with heap := (s.heap.push { cls := .type "list", data := .seq ([] : List Value).toArray }).update s.heap.objs.size (Obj.mapSeq (· ++ items)) } := by
    show wpAny _ A (load s.heap.objs.size >>= _) _ _ _
    refine wpAny_bind (wpAny_load hS₂ ?_)
    refine wpAny_pure ?_
    have e : ((#[] : Array Value) ++ items).toList = items.toList := by simp
    show Q ((#[] : Array Value) ++ items).toList _
    rw [e]
    refine hQ _ (fun b o' hb => ?_) (by rw [Heap.size_update, size_push']; exact Nat.lt_succ_self _)
    exact (Heap.get?_update_other _ _ (Nat.ne_of_gt (Heap.lt_size hb))).trans (Heap.get?_push_of_some _ hb)
  refine wpAny_mono (wpAny_extend_seq (hsz := hsz) (A := A) (R := fun r s' => r = .ok (.ret (.ref s.heap.objs.size)) ∧ s' = { s with heap := (s.heap.push { cls := .type "list", data := .seq ([] : List Value).toArray }).update s.heap.objs.size (Obj.mapSeq (· ++ items)) })
    (s := { s with heap := s.heap.push { cls := .type "list", data := .seq ([] : List Value).toArray } }) _ it _ 0 hT hS (Heap.get?_push_of_some _ ho) hc hd ⟨rfl, rfl⟩) (fun fin s' h => ?_) (fun e s' h => ?_)
  · cases fin with
    | done f =>
      obtain ⟨e, rfl⟩ := h
      cases e
      exact fin'
    | again c' => exact ⟨h.1, codeAny_mono h.2 fun r s'' hr => by obtain ⟨rfl, rfl⟩ := hr; exact fin'⟩
  · exact absurd h.1 (by simp)

end
open PySem PySem.Spec PyProof.Rows L2
section
variable {prog : Program} {w : World} {A : Around} {E : Value → Shared → Prop} {s : Shared}
/-- sorted of a list or a tuple of ints -/
theorem sorted_seq {a : Addr} {T : String} {o : Obj} {vs : List Value} {ns : List Int} {n : Nat} {Q : Value → Shared → Prop} (hT : T = "list" ∨ T = "tuple") (ho : s.heap.get? a = some o) (hc : o.cls = .type T) (hd : o.data = .seq vs.toArray n)
    (hI : IntsAre vs ns) (h64 : vs.length < 64)
    (h : ∀ (h' : Heap) (p : Addr) (out : Array Value) (ns' : List Int) (e : Nat), (∀ b u, s.heap.get? b = some u → h'.get? b = some u) → s.heap.objs.size ≤ p → h'.get? p = some (seqObj "list" out e) → IntsAre out.toList ns' → ns'.Perm ns → ns'.Pairwise (· ≤ ·) → Q (.ref p) { s with heap := h' }) :
    wpAny (model prog w) A (call (.builtin "sorted") [.ref a]) Q E s := by
  refine Calls.call_function_entry kind_sorted plain_sorted entry_sorted (args_sorted1 _) ?_
  unfold Builtin.«sorted»
  refine wpAny_bind (m := checkCount "sorted" 1 1 _) (wpAny_pure ?_)
  refine wpAny_bind (collect_seq2 a hT ho hc hd (fun h1 k1 big0 => ?_) (by rw [sizeLine_eq]; simp only [List.size_toArray]; omega))
  refine wpAny_bind (wpAny_newList ?_)
  have hoL : (h1.push (seqObj "list" vs.toArray 0)).get? h1.objs.size = some (seqObj "list" vs.toArray 0) := Heap.get?_push_size _ rfl
  have big : s.heap.objs.size ≤ h1.objs.size := Nat.le_of_lt big0
  refine wpAny_bind (wpAny_holding (wpAny_call_entry slot_list_sort ⟨_, hoL, rfl⟩ entry_list_sort (list_sort_tree hoL hI h64 fun out ns' a1 a2 a3 => ⟨_, rfl, ?_⟩) (args_list_sort _)))
  obtain ⟨e, he⟩ := sortedHeap_at (out := out) hoL
  refine wpAny_pure ⟨_, rfl, h _ _ out ns' e (fun b u hb => ?_) big he a1 a2 a3⟩
  have hlt := Heap.lt_size (k1 _ _ hb)
  rw [sortedHeap_old (Nat.ne_of_lt hlt) (by rw [size_push']; exact Nat.lt_succ_of_lt hlt)]
  exact Heap.get?_push_of_some _ (k1 _ _ hb)
end
def qSorted : List V → Hp → VK → Prop := fun vs H Q => ∃ (a : Addr) (ns : List Int), vs = [.ref a] ∧ sq H a = some (ns.map V.int) ∧ ns.length < 64 ∧ ∀ (ns' : List Int) (p : Addr) (H' : Hp), ns'.Perm ns → ns'.Pairwise (· ≤ ·) → New H p (.lst (ns'.map V.int)) H' → Q (.ref p) H'
theorem sorted1 {X : Cx} : CallR X (.builtin "sorted") qSorted := by
  intro pins s σ H vs us Q I r h
  obtain ⟨a, ns, rfl, hs, h64, q⟩ := h
  rw [Vals.ref1 r]
  have fin : ∀ (its : List Value), Vals (ns.map V.int) its → ∀ (T : String) (o : Obj) (n : Nat), (T = "list" ∨ T = "tuple") → s.heap.get? a = some o → o.cls = .type T → o.data = .seq its.toArray n → wpAny (model X.prog X.w) X.A (call (.builtin "sorted") [.ref a]) (EP X pins σ Q) X.xe s := by
    intro its rv T o n hT ho hc hd
    have hi := rv.ints
    refine sorted_seq hT ho hc hd hi (by rw [hi.length]; exact h64) fun h' p out ns' e kp hp he h1 h2 h3 => ?_
    have hlen : (ns'.map V.int).length ≤ sizeLine := by rw [List.length_map, h2.length_eq]; exact small64 h64
    exact ⟨.ref p, upd H p (.lst (ns'.map V.int)), I.laid (t' := s.toks) kp hp ⟨hlen, out.toList, e, vals_of_ints h1, he⟩, rfl, q ns' p _ h2 h3 (New.mk' (I.hok.fresh hp))⟩
  rcases sq_or hs with hq | hq
  · obtain ⟨its, rv, pl, _⟩ := I.list (SqL.of hq)
    obtain ⟨o, ho, hc, n, hd⟩ := pl.isList
    exact fin its rv _ o n (.inl rfl) ho hc hd
  · obtain ⟨its, rv, pl, _⟩ := I.tuple (SqT.of hq)
    obtain ⟨o, ho, hc, n, hd⟩ := pl
    exact fin its rv _ o n (.inr rfl) ho hc hd
theorem b_sorted {p : Addr} {H : Hp} {Q : VK} : qSorted [.ref p] H Q = ∃ ns : List Int, sq H p = some (ns.map V.int) ∧ ns.length < 64 ∧ ∀ (ns' : List Int) (p : Addr) (H' : Hp), ns'.Perm ns → ns'.Pairwise (· ≤ ·) → New H p (.lst (ns'.map V.int)) H' → Q (.ref p) H' := by
  unfold qSorted; apply propext; constructor
  · rintro ⟨_, ns, h1, h⟩; cases h1; exact ⟨ns, h⟩
  · rintro ⟨ns, h⟩; exact ⟨_, ns, rfl, h⟩
/-! ### tuple * int -/
theorem tuple_mul_self (l : Addr) (items : Array Value) (n : Nat) (dd : Option Addr) (sl : Array (Option Value)) (x : Int) (u : Tok) (c0 : (decide (x < -(2 ^ 63)) || decide (x ≥ 2 ^ 63)) = false) (c1 : (items.isEmpty || x == 1) = true) :
    Meets (Builtin.«tuple.__mul__» ⟨[.ref l, .int x u], []⟩) (fun _ R s => s.heap.get? l = some { cls := .type "tuple", dict := dd, data := .seq items n, slots := sl } ∧ R (.ok (.ret (Value.ref l))) s) :=
  .of_wp fun prog w A R s h => by
    obtain ⟨hp, g, d, tk, os⟩ := s
    obtain ⟨hl, h⟩ := h
    have f1 := AutoSeq1.idx_int
    have hex : Shared.TypeIs ⟨hp, g, d, tk, os⟩ (.ref l) "tuple" := ⟨_, hl, rfl⟩
    wp_walk using AutoSeq1.wpAny_loadPart' hl, wpAny_typeOf hex
    refine wpAny_ite_false (decide_eq_false (by rw [c0]; exact Bool.false_ne_true)) ?_
    wp_walk using AutoSeq1.wpAny_loadPart' hl, wpAny_typeOf hex
    exact ⟨_, rfl, h⟩
def qRepT : R2 := fun x y H Q => match x, y with
  | .ref l, .int k => ∃ xs, H l = some (.tup xs) ∧ 1 ≤ k ∧ (xs.length : Int) * k ≤ 4000000 ∧ k ≤ 4000000 ∧ (k = 1 ∨ xs = [] → Q (.ref l) H) ∧ (∀ p H', New H p (.tup (List.replicate k.toNat xs).flatten) H' → Q (.ref p) H')
  | _, _ => False
section
variable {X : Cx}
theorem op_repT1 : OpR X (binaryOp .Mult) qRepT := by
  intro pins s σ H x y v u Q I rx ry h
  unfold qRepT at h
  split at h
  · rename_i l k
    obtain ⟨xs, hT, h1, h2, hk, qs, q⟩ := h
    cases rx
    obtain ⟨t, rfl⟩ := ry
    obtain ⟨its, r, ⟨⟨cls, dd, data, sl⟩, ho, hc, n, hd⟩, hs⟩ := I.tuple (SqT.of hT)
    simp only at hc hd
    subst hc hd
    have hle : its.length = xs.length := r.length.symm
    have hsz0 : its.toArray.size = xs.length := by rw [List.size_toArray, hle]
    have c0 : (decide (k < -(2 ^ 63)) || decide (k ≥ 2 ^ 63)) = false := by
      rw [decide_eq_false (by omega), decide_eq_false (by omega)] <;> rfl
    by_cases hz : k = 1 ∨ xs = []
    · have c1 : (its.toArray.isEmpty || k == 1) = true := by
        rcases hz with e | e
        · rw [e]; simp
        · subst e
          have : its = [] := List.eq_nil_of_length_eq_zero hle
          rw [this]; rfl
      refine wpAny_binaryOp_repeat_ref (T := "tuple") (U := "int") (by decide) ⟨_, ho, rfl⟩ (fun s' => typeIs_int s' k t) noFill_tuple_mul F.fills_int_mul F.slot_int_rmul repeat_tuple F.slot_int_index.lookup
        (call_meets F.slot_int_rmul (typeIs_int s k t) F.entry_int_rmul (F.args_int_rmul_2 _ _) (int_rmul_tuple k t l its.toArray n dd sl)
          ⟨ho, rfl, ⟨_, ho, rfl⟩, call_meets F.slot_tuple_mul ⟨_, ho, rfl⟩ F.entry_tuple_mul (F.args_tuple_mul_2 _ _) (tuple_mul_self l its.toArray n dd sl k t c0 c1) ⟨ho, ?_⟩⟩)
      exact ⟨.ref l, H, I, rfl, qs hz⟩
    · have hk2 : 2 ≤ k := by
        rcases Int.lt_or_le k 2 with z | z
        · exact absurd (.inl (by omega)) hz
        · exact z
      have hne : xs ≠ [] := fun e => hz (.inr e)
      have hi : its.toArray.isEmpty = false := by
        cases its with
        | nil => exact absurd (List.eq_nil_of_length_eq_zero hle.symm) hne
        | cons a b => rfl
      have e2 : ((its.toArray.size : Nat) : Int) * k ≤ 4000000 := by rw [hsz0]; exact h2
      have flen : (List.replicate k.toNat its).flatten.length ≤ sizeLine := by
        rw [PyProof.Rows.lm_len_rep_flat, hle, sizeLine_eq]
        have : ((k.toNat * xs.length : Nat) : Int) ≤ 4000000 := by
          rw [Int.natCast_mul, Int.mul_comm, show ((k.toNat : Nat) : Int) = k by omega]; exact h2
        omega
      have c1 : (its.toArray.isEmpty || k == 1) = false := by
        rw [hi, Bool.false_or]
        exact beq_eq_false_iff_ne.mpr (by omega)
      have c2 : (decide (k ≤ 0) || its.toArray.isEmpty) = false := by
        rw [hi, Bool.or_false]
        exact decide_eq_false (by omega)
      have c4 : Builtin.Tuple.tupleTooMany (((its.toArray.size : Nat) : Int) * k) = false := by
        unfold Builtin.Tuple.tupleTooMany
        rw [sizeLine_eq]
        exact decide_eq_false (by omega)
      refine wpAny_binaryOp_repeat_ref (T := "tuple") (U := "int") (by decide) ⟨_, ho, rfl⟩ (fun s' => typeIs_int s' k t) noFill_tuple_mul F.fills_int_mul F.slot_int_rmul repeat_tuple F.slot_int_index.lookup
        (call_meets F.slot_int_rmul (typeIs_int s k t) F.entry_int_rmul (F.args_int_rmul_2 _ _) (int_rmul_tuple k t l its.toArray n dd sl)
          ⟨ho, rfl, ⟨_, ho, rfl⟩, call_meets F.slot_tuple_mul ⟨_, ho, rfl⟩ F.entry_tuple_mul (F.args_tuple_mul_2 _ _) (tuple_mulW l its.toArray n dd sl k t c0 c1 c2 (by omega) c4 (by rw [size_rep, List.size_toArray]; exact flen)) ⟨ho, ?_⟩⟩)
      rw [size_rep]
      refine ⟨.ref s.heap.objs.size, upd H s.heap.objs.size (.tup (List.replicate k.toNat xs).flatten), I.laid (t' := s.toks) (o := .tup (List.replicate k.toNat xs).flatten) (fun b ob q => Heap.get?_push_of_some _ q) (Nat.le_refl _) ?_, rfl, q _ _ (New.mk' (I.hok.fresh (Nat.le_refl _)))⟩
      refine ⟨?_, _, r.rep k.toNat, IsTup.new _ _⟩
      rw [(r.rep k.toNat).length]
      exact flen
  · exact h.elim
end
theorem b_repT {l : Addr} {k : Int} {H : Hp} {Q : VK} : qRepT (.ref l) (.int k) H Q = ∃ xs, H l = some (.tup xs) ∧ 1 ≤ k ∧ (xs.length : Int) * k ≤ 4000000 ∧ k ≤ 4000000 ∧ (k = 1 ∨ xs = [] → Q (.ref l) H) ∧ (∀ p H', New H p (.tup (List.replicate k.toNat xs).flatten) H' → Q (.ref p) H') := rfl

/-! ## HoM -/
/-- 0, 1, .. n - 1 -/
def rng (n : Nat) : List Int := (List.range n).map fun (i : Nat) => (i : Int)
theorem rng_len (n : Nat) : (rng n).length = n := by simp [rng]
theorem mem_rng {n : Nat} {x : Int} : x ∈ rng n ↔ 0 ≤ x ∧ x < n := by
  unfold rng
  rw [List.mem_map]
  constructor
  · rintro ⟨i, h, rfl⟩; have := List.mem_range.mp h; omega
  · intro h; exact ⟨x.toNat, List.mem_range.mpr (by omega), by omega⟩
theorem rng_nodup (n : Nat) : (rng n).Nodup := by
  unfold rng
  exact List.Pairwise.map _ (fun (a b : Nat) (h : a ≠ b) (e : (a : Int) = b) => h (by omega)) List.nodup_range
theorem rgV_rng {j : Int} (h : 0 ≤ j) : rgV 0 j = (rng j.toNat).map V.int := by
  unfold rgV rng
  rw [List.map_map]
  have : (j - 0).toNat = j.toNat := by omega
  rw [this]
  refine List.map_congr_left fun i _ => ?_
  simp
theorem rng_get {n i : Nat} (h : i < n) : (rng n)[i]? = some (i : Int) := by simp [rng, h]
def unV : V → Int
  | .int i => i
  | _ => 0
theorem perm_ints {xs : List V} {L : List Int} (h : xs.Perm (L.map V.int)) : ∃ L' : List Int, xs = L'.map V.int ∧ L'.Perm L := by
  refine ⟨xs.map unV, ?_, ?_⟩
  · rw [List.map_map]
    have : xs.map (V.int ∘ unV) = xs.map id := List.map_congr_left fun x hx => by
      have := h.mem_iff.mp hx
      obtain ⟨i, _, rfl⟩ := List.mem_map.mp this
      rfl
    rw [this, List.map_id]
  · have := h.map unV
    rw [List.map_map] at this
    have e : L.map (unV ∘ V.int) = L := by
      have : L.map (unV ∘ V.int) = L.map id := List.map_congr_left fun x _ => rfl
      rw [this, List.map_id]
    rwa [e] at this
theorem append_ints {xs ys : List V} {L : List Int} (h : xs ++ ys = L.map V.int) : ∃ a b, xs = a.map V.int ∧ ys = b.map V.int ∧ L = a ++ b := by
  obtain ⟨a, b, rfl, rfl, rfl⟩ := List.map_eq_append_iff.mp h.symm
  exact ⟨a, b, rfl, rfl, rfl⟩
/-- a ring of points, each carried to the next -/
theorem ring_perm {n : Nat} {r rest ns : List Int} (hp : (r ++ rest).Perm (rng n)) (hl : ns.length = n)
    (h1 : ∀ k, k < r.length → ∃ x y, r[k]? = some x ∧ r[(k + 1) % r.length]? = some y ∧ ns[x.toNat]? = some y) (h2 : ∀ p, p < n → (p : Int) ∉ r → ns[p]? = some (p : Int)) : ns.Perm (rng n) := by
  let f : Int → Int := fun x => (ns[x.toNat]?).getD 0
  have e : ns = (rng n).map f := by
    apply List.ext_getElem?
    intro i
    by_cases hi : i < n
    · rw [List.getElem?_map, rng_get hi]
      show _ = some ((ns[((i : Nat) : Int).toNat]?).getD 0)
      rw [Int.toNat_natCast, List.getElem?_eq_getElem (by omega)]
      rfl
    · rw [List.getElem?_eq_none (by omega), List.getElem?_eq_none (by simp [rng_len]; omega)]
  have nd : (r ++ rest).Nodup := (hp.nodup_iff).mpr (rng_nodup n)
  have er : rest.map f = rest := by
    have : rest.map f = rest.map id := List.map_congr_left fun x hx => by
      have hm := mem_rng.mp (hp.mem_iff.mp (List.mem_append_right r hx))
      have hr : x ∉ r := fun z => (List.nodup_append.mp nd).2.2 _ z _ hx rfl
      have := h2 x.toNat (by omega) (by rw [show ((x.toNat : Nat) : Int) = x by omega]; exact hr)
      show (ns[x.toNat]?).getD 0 = x
      rw [this]
      show ((x.toNat : Nat) : Int) = x
      omega
    rw [this, List.map_id]
  have err : (r.map f).Perm r := by
    cases r with
    | nil => exact .refl _
    | cons a t =>
      have : (a :: t).map f = t ++ [a] := by
        apply List.ext_getElem?
        intro k
        by_cases hk : k < t.length + 1
        · obtain ⟨x, y, e1, e2, e3⟩ := h1 k hk
          rw [List.getElem?_map, e1]
          show some ((ns[x.toNat]?).getD 0) = _
          rw [e3]
          show some y = _
          rw [← e2]
          by_cases hk2 : k < t.length
          · rw [List.getElem?_append_left hk2, List.length_cons, Nat.mod_eq_of_lt (by omega)]
            simp
          · have : k = t.length := by omega
            subst this
            rw [List.length_cons, Nat.mod_self]
            simp
        · rw [List.getElem?_eq_none (by simp; omega), List.getElem?_eq_none (by simp; omega)]
      rw [this]
      exact List.perm_append_singleton a t
  rw [e]
  refine (hp.symm.map f).trans ?_
  rw [List.map_append, er]
  exact (err.append_right rest).trans hp
theorem rev_perm {n : Nat} : ((rng n).map fun k => (n : Int) - 1 - k).Perm (rng n) := by
  have : ((rng n).map fun k => (n : Int) - 1 - k) = (rng n).reverse := by
    apply List.ext_getElem?
    intro i
    by_cases hi : i < n
    · rw [List.getElem?_map, rng_get hi, List.getElem?_reverse (by rw [rng_len]; exact hi), rng_len, rng_get (by omega)]
      simp only [Option.map_some]
      congr 1
      omega
    · rw [List.getElem?_eq_none (by simp [rng_len]; omega), List.getElem?_eq_none (by simp [rng_len]; omega)]
  rw [this]
  exact List.reverse_perm _
theorem rot_perm {n s : Nat} (hs : s ≤ n) : ((rng n).map fun k => (k + (s : Int)).fmod n).Perm (rng n) := by
  have : ((rng n).map fun k => (k + (s : Int)).fmod n) = (rng n).drop s ++ (rng n).take s := by
    apply List.ext_getElem?
    intro i
    by_cases hi : i < n
    · rw [List.getElem?_map, rng_get hi]
      simp only [Option.map_some]
      have ef : (((i : Nat) : Int) + s).fmod n = (((i + s) % n : Nat) : Int) := by
        rw [Int.fmod_eq_emod_of_nonneg _ (by omega)]
        push_cast
        rfl
      rw [ef]
      by_cases hk : i + s < n
      · rw [List.getElem?_append_left (by rw [List.length_drop, rng_len]; omega), List.getElem?_drop, rng_get (by omega), Nat.mod_eq_of_lt hk]
        congr 1
        omega
      · rw [List.getElem?_append_right (by rw [List.length_drop, rng_len]; omega), List.length_drop, rng_len, List.getElem?_take]
        rw [if_pos (by omega), rng_get (by omega)]
        congr 1
        have : (i + s) % n = i + s - n := by rw [Nat.mod_eq_sub_mod (by omega), Nat.mod_eq_of_lt (by omega)]
        omega
    · rw [List.getElem?_eq_none (by simp [rng_len]; omega), List.getElem?_eq_none (by simp [rng_len]; omega)]
  rw [this]
  exact List.perm_append_comm.trans (by rw [List.take_append_drop])
theorem sub_perm {α : Type} [DecidableEq α] : ∀ {R xs : List α}, R.Nodup → (∀ a ∈ R, a ∈ xs) → xs.length ≤ R.length → xs.Perm R
  | [], xs, _, _, hl => by
    have : xs = [] := List.eq_nil_of_length_eq_zero (by simpa using hl)
    rw [this]
  | a :: R, xs, nd, h, hl => by
    have ha := h a List.mem_cons_self
    have e := List.perm_cons_erase ha
    have nd' := List.nodup_cons.mp nd
    refine e.trans (.cons a (sub_perm nd'.2 (fun b hb => ?_) ?_))
    · have : b ≠ a := fun z => nd'.1 (z ▸ hb)
      exact (List.mem_erase_of_ne this).mpr (h b (List.mem_cons_of_mem _ hb))
    · have := e.length_eq
      simp only [List.length_cons] at this hl
      omega
theorem eqvAll_ints : ∀ a b : List Int, PyData.eqvAll (a.map .int) (b.map .int) = decide (a = b)
  | [], [] => rfl
  | [], _ :: _ => by simp [PyData.eqvAll]
  | _ :: _, [] => by simp [PyData.eqvAll]
  | x :: a, y :: b => by
    simp only [List.map_cons, PyData.eqvAll, PyData.eqv, eqvAll_ints a b]
    by_cases h : x = y <;> simp [h]
theorem eqv_ints (a b : List Int) : PyData.eqv (.list (a.map .int)) (.list (b.map .int)) = decide (a = b) := by
  simp only [PyData.eqv, eqvAll_ints]
theorem eqv_intsT (a b : List Int) : PyData.eqv (.tuple (a.map .int)) (.tuple (b.map .int)) = decide (a = b) := by
  simp only [PyData.eqv, eqvAll_ints]
theorem lay_ints : ∀ a : List Int, PyData.canLayAll0 (a.map .int) = true
  | [] => rfl
  | x :: a => by simp only [List.map_cons, PyData.canLayAll0, PyData.canLay0, lay_ints a, Bool.and_self]
theorem depth_ints : ∀ a : List Int, PyData.depthAll (a.map .int) ≤ 1
  | [] => by simp [PyData.depthAll]
  | x :: a => by
    have := depth_ints a
    simp only [List.map_cons, PyData.depthAll, PyData.depth]
    omega
theorem shaped_ints (a : List Int) : SeqAt.shaped (.list (a.map .int)) = true := by
  have := depth_ints a
  unfold SeqAt.shaped
  rw [Bool.and_eq_true, decide_eq_true_eq]
  refine ⟨lay_ints a, ?_⟩
  simp only [PyData.depth]
  omega
theorem shaped_intsT (a : List Int) : SeqAt.shaped (.tuple (a.map .int)) = true := by
  have := depth_ints a
  unfold SeqAt.shaped
  rw [Bool.and_eq_true, decide_eq_true_eq]
  refine ⟨lay_ints a, ?_⟩
  simp only [PyData.depth]
  omega
theorem dpAll_ints {K : PySem.W.Frag} {H : Hp} : ∀ a : List Int, DpAll K H (a.map V.int) (a.map .int)
  | [] => .nil
  | x :: a => .cons (.int x) (dpAll_ints a)
theorem perm_sorted_eq : ∀ {a b : List Int}, a.Perm b → a.Pairwise (· ≤ ·) → b.Pairwise (· ≤ ·) → a = b := by
  intro a b h ha hb
  exact h.eq_of_pairwise (fun x y _ _ h1 h2 => Int.le_antisymm h1 h2) ha hb
theorem rng_sorted (n : Nat) : (rng n).Pairwise (· ≤ ·) := by
  unfold rng
  rw [List.pairwise_map]
  exact List.pairwise_lt_range.imp fun h => by omega
theorem dw_ints {E : List Addr} {H : Hp} : ∀ {ns : List Int} {ds : List PyData} {n : Nat}, DwAll E H (ns.map V.int) ds n → ds = ns.map .int
  | [], _, _, .nil => rfl
  | x :: ns, _, _, .cons a b => by
    cases a with
    | lf l => cases l; rw [dw_ints (ns := ns) b]; rfl
theorem dw_ints' {E : List Addr} {H : Hp} : ∀ {ns : List Int} {xs : List V} {n : Nat}, DwAll E H xs (ns.map .int) n → xs = ns.map V.int
  | [], _, _, .nil => rfl
  | x :: ns, _, _, .cons a b => by
    cases a with
    | lf l => cases l; rw [dw_ints' (ns := ns) b]; rfl
/-- is such data a move -/
def IsMoveP (d : PyData) : Prop := ∃ ns : List Int, d = .tuple (ns.map .int) ∧ ns.length ≤ 12 ∧ ns.Perm (rng ns.length)
open Classical in
noncomputable def isMoveD (d : PyData) : Bool := decide (IsMoveP d)
theorem isMove_t {d : PyData} (h : IsMoveP d) : isMoveD d = true := by unfold isMoveD; exact @decide_eq_true _ (Classical.propDecidable _) h
theorem isMove_f {d : PyData} (h : ¬ IsMoveP d) : isMoveD d = false := by unfold isMoveD; exact @decide_eq_false _ (Classical.propDecidable _) h

/-! ## HoE -/
section
variable {M : Model} {prog : Program} {w : World} {A : Around} {E : Value → Shared → Prop} {h : Heap} {g : Array GenState} {d : Drawn} {t : Nat} {os : OsState}
/-- a bound ValueError.__init__ called -/
theorem call_mw {nm q : Str} {C N : Addr} {bs bm : List Value} {hdct : Bool} {sn : List Str} {sub : List Value} {ab : Bool} {col : Option Bool} {dd : Option Addr} {k0 k1 k2 k3 k5 : Option Value} {u e t0 : Addr} {rest : List Value} {Q : Value → Shared → Prop}
    (hC : h.get? C = some (excClassObj nm q C N bs bm hdct sn sub ab col dd k0 k1 k2 k3 k5 "ValueError.__new__")) (he : h.get? e = some (PySem.HandSPX.excO C t0)) (hu : h.get? u = some (PySem.W.kxs_mw "ValueError.__init__" e)) (hz : rest.length ≤ sizeLine)
    (hq : ∀ h' t1, (∀ b o, b ≠ e → h.get? b = some o → h'.get? b = some o) → h'.get? e = some (PySem.HandSPX.excO C t1) → Q .none ⟨h', g, d, t, os⟩) :
    wpAny (model prog w) A (call (.ref u) rest) Q E ⟨h, g, d, t, os⟩ := by
  refine wpAny_call (codeAny_of_tree ?_)
  show wpAny _ A.in1 (callAny (.ref u) ⟨rest, []⟩) _ _ _
  simp only [callAny]
  refine wpAny_bind (wpAny_load hu ?_)
  simp only [show (Value.type "method-wrapper" == Value.type "method" || Value.type "method-wrapper" == Value.type "builtin_function_or_method" || Value.type "method-wrapper" == Value.type "method-wrapper") = true by decide, if_true]
  refine PySem.W.KFB.if_so (by decide) ?_
  refine wpAny_bind (PySem.W.check_bound_init F.excBase_ValueError.toExcCallFacts hC he rfl ?_)
  refine wpAny_bind (wpAny_pure (wpAny_pure ?_))
  refine ⟨plainId_quiet F.excBase_ValueError.init.plain _, codeAny_builtin F.excBase_ValueError.initEntry ?_⟩
  exact PySem.W.exc_init_tree (cls := .ref C) (t0 := t0) (dv := none) (c2 := .none) (c3 := .none) (b4 := .bool false) he hz fun h' k e' _ => hq h' _ k e'
end

section
open NdefX
/-- what the written part says of an __init__ with super() in it -/
structure SupTxt (P : Program) (K : PySem.W.Frag) (mg : Str → Option Value) (C f c cda : Addr) (name qual : Str) (params : Arguments) (body : List Stmt) (scope : Scope) (fd : FuncData) : Prop where
  lk : ∃ (oc : Value) (od : Option Addr) (dV kV doc pm ct : Value) (an : Option Addr) (osl : Array (Option Value)), fd = PySem.W.ksFn name qual params body scope dV kV doc pm an (.ref cda) ct c ∧ K.lookup f = some ⟨oc, od, .func fd, osl⟩
  hcd : PySem.W.codeIn K (.ref cda) qual = true
  hco : ∃ (ccl : Value) (cdd : Option Addr) (vs : Array Value) (ccs : Array (Option Value)) (file : Str) (tf : Tok), K.lookup cda = some ⟨ccl, cdd, .fields vs, ccs⟩ ∧ vs[2]? = some (.str file tf) ∧ ((P.main.file : Str) == file) = true
  hcell : ∃ (cl : Value) (cld : Option Addr) (csl : Array (Option Value)), K.lookup c = some ⟨cl, cld, .cell (some (.ref C)), csl⟩
  hsu : mg "super" = none
  htop : (P.main.scope.names.lookup ("super" : Str)).isSome = false
  T : OexC K C
  hm : PySem.W.ks_superIn K C C "__init__" = some (some (.builtin "ValueError.__init__"))
  hB : PySem.W.subIn K (.ref C) (.type "ValueError") = some true
  hop : PySem.W.nsIn K cStatics "thirdparty.any" = some none
  hself : PySem.W.mroIn K C (.ref C) = some true

def sNF (name qual : Str) (params : Arguments) (body : List Stmt) (scope : Scope) (c cda : Addr) : NF := ⟨name, qual, params, body, scope, [("__class__", c)], cda⟩

theorem in_base {K : PySem.W.Frag} {mg : Str → Option Value} {base : Heap} {P : Program} {w : World} {A : Around} {outer : List Env} {s : Shared} {H : Hp} (e0 : Env0 P w K mg base A outer s H) {a : Addr} {o : Obj} (e : K.lookup a = some o) : s.heap.get? a = some o ∧ H a = none :=
  e0.bs a o (e0.mod.kin _ _ e)

theorem fn_super {CX : CXT} {P : Program} {w : World} {K : PySem.W.Frag} {mg : Str → Option Value} {base : Heap} {k : Nat} {C f c cda : Addr} {name qual : Str} {params : Arguments} {body rest : List Stmt} {scope : Scope} {fd : FuncData} {N ps : List Str} {sp : Sp} {ar : Arg} {e : Expr} {p0 p1 p2 p3 p4 : Pos}
    (D : SupTxt P K mg C f c cda name qual params body scope fd) (S : NScope N ps ["__class__"] scope) (hp : (params.posonlyargs ++ params.args).head? = some ar) (har : ∃ pr, ps = ar.arg :: pr) (hnd : ps.Nodup)
    (hbo : body = .Expr (.Call (.Attribute (.Call (.Name "super" p0) [] [] p1) "__init__" p2) [e] [] p3) p4 :: rest) (hks : scope.names.lookup ("super" : Str) = some .globalImplicit)
    (hev : ∀ env : Env, eval (.Call (.Attribute (.Call (.Name "super" p0) [] [] p1) "__init__" p2) [e] [] p3) env = (do
      let ov ← attributeBase (.Call (.Name "super" p0) [] [] p1) "__init__" env (eval (.Call (.Name "super" p0) [] [] p1) env)
      standAt p2.atName
      let (f, first) ← holding [ov] (getMethod ov "__init__" (pure false))
      callWith p3 f first (backTo p3 (starEach [e] env)) [])) (hse : ∀ env : Env, starEach [e] env = (false, eval e env) :: starEach [] env) (hsw : ∀ env : Env, swapsWith (.Call (.Attribute (.Call (.Name "super" p0) [] [] p1) "__init__" p2) [e] [] p3) none p4.line env = pure false)
    (len : ∀ vs H Q E, sp vs H Q E → vs.length = ps.length)
    (hbody : ∀ (A : Around) (outer : List Env) (s : Shared) (H : Hp) (vs : List V) (ws : List (Option V)) (Q : VK) (E : XK), Room k (A.deeper (envF (sNF name qual params body scope c cda) f s.heap.objs.size)) → ws.length = 1 → sp vs H Q E →
      ∃ (x : Addr) (us : List V) (ta : TA) (t : TS), vs = .ref x :: us ∧ H x = some (exo x C none) ∧ PA (ncx CX P w K mg base N (sNF name qual params body scope c cda) f A outer s H E) [e] ta ∧ PSs (ncx CX P w K mg base N (sNF name qual params body scope c cda) f A outer s H E) rest t ∧
        ta (startF N vs ws) H fun vs1 H1 => vs1.length ≤ 1000 ∧ H1 x = some (exo x C none) ∧ t { nx := fun _ H' => Q .non H', rt := Q } (startF N vs ws) H1) :
    FnOk P w K mg base CX (k + 1) f fd ps sp := by
  refine ⟨len, fun A outer s H args us vs Q E hr e0 hb r hsp => ?_⟩
  have hl := len _ _ _ _ hsp
  obtain ⟨oc, od, dV, kV, doc, pm, ct, an, osl, rfl, lk⟩ := D.lk
  obtain ⟨ccl, cdd, fvs, ccs, file, tf, hcode, hvs, hfile⟩ := D.hco
  obtain ⟨cl, cld, csl, hcell⟩ := D.hcell
  have KX : K.In s.heap := e0.mod.kin.keeps fun b o e => (e0.bs b o e).1
  have lim : s.heap.NoLimit := e0.mod.nolimit.keeps fun b o e => (e0.bs b o e).1
  have Cc : CellsAt [("__class__", c)] ["__class__"] [none] s.heap H := by
    have hlook : ∀ (y : Str) (b : Addr), List.lookup y [(("__class__" : Str), c)] = some b → y = "__class__" ∧ b = c := fun y b z => by
      by_cases hy : y = "__class__"
      · subst hy
        simp [List.lookup] at z
        exact ⟨rfl, z.symm⟩
      · have hy' : (y == ("__class__" : Str)) = false := by simpa using hy
        simp [List.lookup, hy'] at z
    refine ⟨rfl, fun y b z => ?_, fun y z b h1 h2 => ?_, fun i y hi => ?_⟩
    · obtain ⟨rfl, rfl⟩ := hlook y b z
      exact ⟨(in_base e0 hcell).2, _, _, (in_base e0 hcell).1, rfl⟩
    · exact (hlook _ _ h1).1.trans (hlook _ _ h2).1.symm
    · cases i with
      | succ i => simp at hi
      | zero =>
        simp at hi
        subst hi
        exact ⟨c, by simp [List.lookup], fun v z => by simp at z⟩
  refine PySem.ks_codeAny_call_defAt (body := body) (binds := ps.zip us) hr.depth (KX _ _ lk) rfl lim (PySem.W.codeRec_of KX D.hcd) rfl hb S.nocell (fun y hy => S.par y.1 (List.of_mem_zip hy).1) (fun h₁ hns kp => ?_) S.co S.gen S.kind
  obtain ⟨x, us', te, ts, ev, ex, he, ht, hq⟩ := hbody A outer s H vs [none] Q E (hr.deeper _) rfl hsp
  have I : Inv (ncx CX P w K mg base N (sNF name qual params body scope c cda) f A outer s H E) [] (startF N vs [none]) H { s with heap := h₁, toks := s.toks + (ps.zip us).length } := inv_startN (F := sNF name qual params body scope c cda) S hr.hd e0 hl r Cc hns kp
  subst ev
  subst hbo
  obtain ⟨pr, hps⟩ := har
  subst hps
  cases r with
  | @cons _ u0 _ ur ra rw' =>
  obtain rfl : u0 = Value.ref x := ra
  obtain ⟨nm, q, N', bs, bm, sn, sub, ab, col, dd, k0, k1, k2, k3, k5, hC, hbm⟩ := D.T.cls
  have hcl : PySem.W.clsIn K C = some { name := nm, bases := bs, mro := .ref C :: bm, ns := N', qualname := q, hasDict := true, slotNames := sn, subclasses := sub, abstract := ab, collection := col, hasDel := false } := by unfold PySem.W.clsIn; rw [hC] <;> rfl
  obtain ⟨t1, ho⟩ := exo_at I.hok ex
  have K1 : K.In h₁ := KX.keeps kp
  have hself : (((ar.arg :: pr).zip (Value.ref x :: ur)).reverse.lookup ar.arg) = some (.ref x) := zip_look (i := 0) hnd rfl rfl
  have hCo := K1 _ _ hC
  have II : PySem.W.InstAt h₁ x { cls := .ref C, dict := none, data := .fields #[.ref t1, .none, .none, .none, .bool false, .none] } C none := ⟨ho, rfl, rfl, True.intro⟩
  show _root_.PySem.wpAt _ _ _ (execs (_ :: rest) (PySem.W.envX qual scope s.heap.objs.size f (.ref cda) [("__class__", c)])) _ _ _
  refine PySem.ks_wpAt_execs_cons (PySem.ks_wpAt_Expr_any (PySem.ks_wpAt_MethodCall (pl := pure false) ?_ (hev _)) I.quiet ?_)
  · refine PySem.ks_wpAt_super_base (env := PySem.W.envX qual scope s.heap.objs.size f (.ref cda) [("__class__", c)]) hks (S.frk _ (by simp)) (by decide) rfl (K1 _ _ lk) rfl hp rfl (K1 _ _ hcode) rfl hvs hfile D.htop ?_
    obtain ⟨mb, m1, m2⟩ := e0.mod.blt
    refine PySem.W.ks_loadName_global S.kind hks (Calls.loadGlobal_builtin (mg := mg) (mb := mb) (v := .type "super") ?_ D.hsu ?_ ((m2 "super" (by decide)).trans rfl) ⟨rfl, ?_⟩)
    · exact I.ok.glob ▸ I.mod.glob.keeps I.bk
    · exact I.ok.blt ▸ m1.keeps I.bk
    refine wpAny_loadName_free S.kind (S.frk _ (by simp)) rfl ⟨_, K1 _ _ hcell, rfl⟩ ?_
    refine wpAny_loadName_local S.kind (S.par _ (by simp)) hns hself ?_
    refine PySem.ks_wpAny_isType_cls hCo rfl ⟨rfl, ?_⟩
    refine PySem.ks_wpAny_call_super hCo rfl ho rfl (fun _ z => by cases z) (PySem.W.looks_mroIn K1 D.hself) (fun h2 e2 k2 => ?_)
    have K2 : K.In h2 := K1.keeps k2
    have I2 := I.kept (t' := s.toks + (((ar.arg :: pr).zip (Value.ref x :: ur))).length) k2
    have hne : x ≠ C := fun z => by
      have q1 := (in_base e0 hC).2
      rw [← z, ex] at q1
      cases q1
    have II2 : PySem.W.InstAt h2 x { cls := .ref C, dict := none, data := .fields #[.ref t1, .none, .none, .none, .bool false, .none] } C none := ⟨k2 _ _ ho, rfl, rfl, True.intro⟩
    have hm' : PySem.W.alongIn K "__init__" (((Value.ref C :: bm).dropWhile (· != .ref C)).drop 1) = some (some (.builtin "ValueError.__init__")) := by
      have q := D.hm
      unfold PySem.W.ks_superIn at q
      rw [hcl] at q
      exact q
    refine PySem.W.kxs_getMethod PySem.W.kxs_ValueError e2 (PySem.W.looks_opaque K2 D.hop) (l₀ := .ref C :: bm) ((PySem.W.looks_clsIn K2 hcl).andThen .now) rfl K2 hm' (II2.type.andThen (PySem.W.looks_subIn K2 D.hB)) hne (by decide) ?_
    have I3 := I2.kept (h' := h2.push (PySem.W.kxs_mw "ValueError.__init__" x)) (t' := s.toks + (((ar.arg :: pr).zip (Value.ref x :: ur))).length + 1) (fun b u q => Heap.get?_push_of_some _ q)
    have hu3 : (h2.push (PySem.W.kxs_mw "ValueError.__init__" x)).get? h2.objs.size = some (PySem.W.kxs_mw "ValueError.__init__" x) := Heap.get?_push_at rfl rfl
    have I4 := I3.pins_of (pins' := [(h2.objs.size, PySem.W.kxs_mw "ValueError.__init__" x)]) (fun p hp => by
      obtain rfl := List.mem_singleton.mp hp
      exact ⟨hu3, I2.hok.fresh (Nat.le_refl _), Nat.ne_of_gt I2.lt, I2.nofs (Nat.le_refl _), fun v z => by cases z⟩)
    show wpAny _ _ (callWith p3 (.ref h2.objs.size) [] (backTo p3 (starEach [e] _)) []) _ _ _
    rw [hse]
    refine PySem.W.kxs_callWith (i := "ValueError.__init__") (x := x) rfl (Calls.evalArgs_plain ?_)
    have hrun := he.run p3 _ _ _ H _ I4 hq
    rw [hse] at hrun
    refine wpAny_mono hrun (fun us1 s1 hh => ?_) fun _ _ z => z
    obtain ⟨vs1, H1, J1, r1, hv1, ex1, q1⟩ := hh
    obtain ⟨hp1, g1, d1, tk1, os1⟩ := s1
    have hC1 := J1.kIn _ _ hC
    obtain ⟨t2, ho1⟩ := exo_at J1.hok ex1
    have hu1 := (J1.pin (h2.objs.size, PySem.W.kxs_mw "ValueError.__init__" x) (by simp)).1
    refine ⟨hu1, ?_⟩
    have hlen : us1.length ≤ sizeLine := by
      have e1 := Paired.length r1
      rw [← e1, sizeLine_eq]
      omega
    refine call_mw hC1 ho1 hu1 hlen (fun h4 t4 k4 hx4 => ?_)
    have J4 := J1.write (t' := tk1) (x := x) (e := x) (o := exo x C none) (by rw [ex1]; exact True.intro) (.inl rfl) k4 ⟨_, hx4⟩ (exo_ok hx4)
    have eu : upd H1 x (exo x C none) = H1 := by
      funext b
      by_cases hb : b = x
      · rw [hb, upd_same, ex1]
      · rw [upd_ne hb]
    rw [eu] at J4
    have J5 := J4.pins_of (pins' := []) (fun p hp => by cases hp)
    refine PySem.wpAt_of_wpAny ?_
    refine wpAny_mono (ht.run [] _ _ H1 _ J5 q1) (fun fl s' hs => ?_) fun _ _ z => z
    cases fl with
    | ret u =>
      obtain ⟨v, σ', H', J, rv, q⟩ := hs
      exact ⟨v, H', J.os, J.bare, J.base, J.hok, rv, q⟩
    | next =>
      obtain ⟨σ', H', J, q⟩ := hs
      exact ⟨.non, H', J.os, J.bare, J.base, J.hok, rfl, q⟩
    | brk =>
      obtain ⟨_, _, _, q⟩ := hs
      exact False.elim q
    | cont =>
      obtain ⟨_, _, _, q⟩ := hs
      exact False.elim q
  · exact hsw _
end

/-! ## HoX -/
section
open HotX
variable {prog : Program} {w : World} {A : Around} {E : Value → Shared → Prop} {s : Shared}
/-- the end of a list's walk, an exception being handled -/
theorem list_end_hot {it l x1 : Addr} {i : Nat} {items : Array Value} {Q : Option Value → Shared → Prop} (hot : HotAt A x1 s.heap) (hit : s.heap.IsListIter it l i) (hl : s.heap.IsList l items) (hx : items[i]? = none) (hne : x1 ≠ it)
    (hQ : ∀ h', (∀ b o, b ≠ it → s.heap.get? b = some o → h'.get? b = some o) → Q none { s with heap := h' }) : wpAny (model prog w) A (pyNext (.ref it)) Q E s := by
  obtain ⟨o, ho, hc, hd⟩ := id hit
  obtain ⟨ol, hol, _, nl, hdl⟩ := hl
  obtain ⟨hh, o1, vs1, h1, d1, c1⟩ := hot
  unfold pyNext
  refine wpAny_bind (wpAny_attempt (wpAny_callSpecial?_slot (name := Str.ofString "__next__") hit.typeIs slot_listiter_next (wpAny_call_entry slot_listiter_next hit.typeIs entry_listiter_next ?_ (args_listiter_next _))))
  show wpAny _ _ (field (.ref it) 0 >>= _) _ _ s
  refine wpAny_bind (wpAny_field ho hd (x := .ref l) rfl ?_)
  show wpAny _ _ (if (Value.ref l == Value.none) = true then _ else _) _ _ s
  rw [if_neg (show ¬ ((Value.ref l == Value.none) = true) from Bool.false_ne_true)]
  show wpAny _ _ (field (.ref it) 1 >>= _) _ _ s
  refine wpAny_bind (wpAny_field ho hd (x := .int i 0) rfl ?_)
  show wpAny _ _ (seqItems? (.ref l) >>= _) _ _ s
  refine wpAny_bind (wpAny_seqItems hol hdl ?_)
  simp only [Int.toNat_natCast, hx]
  refine wpAny_bind (wpAny_rule (wpAny_bind (wpAny_setField ho hd (by simp) ?_)))
  show wpAny _ _ (newExc (.type "StopIteration") [] >>= _) _ _ _
  refine wpAny_bind ?_
  simp only [newExc, newTuple]
  refine wpAny_bind (wpAny_newObj_type ?_ (by size_fits))
  refine wpAny_bind (m := firstArgMember _ _) (wpAny_of_eq (a := Value.none) (by first | rfl | (simp only [firstArgMember]; rfl)) ?_)
  refine wpAny_newObj_type ?_ (by size_fits)
  have h1' : (s.heap.update it (Obj.mapFields (·.setIfInBounds 0 .none))).get? x1 = some o1 := (Heap.get?_update_other _ _ (Ne.symm hne)).trans h1
  refine raiseNew_hot ⟨hh, o1, vs1, Heap.get?_push_of_some _ (Heap.get?_push_of_some _ h1'), d1, c1⟩ (Nat.ne_of_lt (Heap.lt_size (Heap.get?_push_of_some _ h1'))) (Heap.get?_push_size _ rfl) rfl (by first | (simp; done) | (simp; omega) | (simp only [Array.size_append]; simp; omega)) ?_
  refine wpAny_bind (wpAny_isInstance (T := "StopIteration") (b := true) ⟨_, Heap.get?_update_self _ (Heap.get?_push_size _ rfl) rfl, rfl⟩ isSubtype_stop ?_)
  refine wpAny_pure (hQ _ fun b o hb e => ?_)
  have e' : (s.heap.update it (Obj.mapFields (·.setIfInBounds 0 .none))).get? b = some o := (Heap.get?_update_other _ _ (Ne.symm hb)).trans e
  rw [Heap.get?_update_other _ _ (Nat.ne_of_gt (Heap.lt_size (Heap.get?_push_of_some _ e')))]
  exact Heap.get?_push_of_some _ (Heap.get?_push_of_some _ e')
end
section
open HotX L2H
theorem turn_listH {P : Program} {w : World} {K : PySem.W.Frag} {tg : Expr} (a it : Addr) : TurnH P w K tg (Itl K a) [it] it (fun i h => h.IsListIter it a i) where
  mem := List.mem_singleton.mpr rfl
  obj := fun i h st b hb => by
    obtain rfl := List.mem_singleton.mp hb
    obtain ⟨o, e, _, d⟩ := st
    exact ⟨o, e, fun v z => by rw [d] at z; cases z⟩
  keep := fun i h h' st k => st.at fun o e => k it (List.mem_singleton.mpr rfl) o e
  item := fun X hP hw hK hc i pins s σ H E I hf st hg => by
    subst hP hw hK
    obtain ⟨xs, x, hq, hx⟩ := hg
    obtain ⟨its, rv, p, hz⟩ := I.list hq
    obtain ⟨u, hu, ru⟩ := rv.get hx
    have F := hf it (List.mem_singleton.mpr rfl)
    refine wpAny_pyNext_list_item st p.isList (x := u) (by simpa using hu) fun h' st' sb => ?_
    have I1 : Inv X pins σ H { s with heap := h' } := I.turned (t' := s.toks) (fun b o hb e => (sb.2 b hb).trans e) F.1 F.2.1 F.2.2.2.1 F.2.2.2.2.1 F.2.2.2.2.2
    obtain ⟨o, e, c, d⟩ := id st'
    exact ⟨u, rfl, go_of (s := { s with heap := h' }) e c d (by decide) ⟨x, H, I1, ru, ⟨rfl, fun ys hy => (I.list_inj hy hq) ▸ hx⟩, st', fun b hb => (hf b hb).1⟩⟩
  done := fun X hP hw hK hc i pins s σ H E I hf st hg => by
    subst hP hw hK
    obtain ⟨xs, hq, hx⟩ := hg
    obtain ⟨its, rv, p, hz⟩ := I.list hq
    have F := hf it (List.mem_singleton.mpr rfl)
    have hl := rv.length
    obtain ⟨q, ⟨hh, v1, e1, c1⟩, hq1⟩ := hc
    have P1 := (I.pin q (List.mem_append_left _ hq1)).1
    exact list_end_hot ⟨hh, q.2, v1, P1, e1, c1⟩ st p.isList (by simp; omega) (F.2.2.2.2.2 q (List.mem_append_left _ hq1)) fun h' eb => ⟨rfl, I.turned (t' := s.toks) eb F.1 F.2.1 F.2.2.2.1 F.2.2.2.2.1 F.2.2.2.2.2⟩
  self := fun _ _ _ _ _ st h => wpAny_pyIter_listiter st h
end
section
open HotX L2H
variable {X : Cx}
theorem pi_listH {tg l : Expr} {tl : TE} (hl : PE X l tl) : PIH X tg l (iList X.K tl) := by
  refine ⟨fun pins s σ H R I h => thn (hl.run pins s σ H _ I h) fun v s1 ⟨x, H1, I1, r1, a, e, ⟨xs, hq⟩, q⟩ => ?_⟩
  subst e
  cases r1
  obtain ⟨its, rv, p, hz⟩ := I1.list hq
  refine wpAny_pyIter_list p.isList ⟨s1.heap.objs.size, [s1.heap.objs.size], _, _, H1, rfl, I1.kept (t' := s1.toks) fun b o e => Heap.get?_push_of_some _ e, turn_listH a _, ⟨_, Heap.get?_push_size _ rfl, rfl, rfl⟩, fun b hb => ?_, q⟩
  obtain rfl := List.mem_singleton.mp hb
  exact I1.fpOk (Nat.le_refl _) (I1.hok.fresh (Nat.le_refl _))
/-- the block of a comprehension, the pins of what is handled kept -/
abbrev Cx.blkH (X : Cx) (s : Shared) (H : Hp) (scope : Scope) (cl : List (Str × Addr)) (C : Addr) (fp : List Addr) (p : Addr × Obj) : Cx := (X.blk s H scope (compEnvC scope cl C X.env) fp).tr [p] (fun _ _ => False)
/-- [e for y in l if c], l a list; acc i: what is kept behind i turns -/
def tLcH (K : PySem.W.Frag) (tl : TE) (g : TG) (tt : TT) (te : TE) (vs : List Nat) : TE := fun σ H Q => tl σ H fun x H1 => ∃ (a : Addr) (xs : List V), x = .ref a ∧ SqL K H1 a xs ∧ ∀ D, H1 D = none → ∃ acc : Nat → List V, acc 0 = [] ∧
  (∀ i y, xs[i]? = some y → (acc i).length < sizeLine ∧ g y (wipe σ vs) (upd H1 D (.lst (acc i))) fun σ2 H2 => wipe σ2 vs = wipe σ vs ∧ tt σ2 H2 fun b H3 => if b = true then te σ2 H3 fun z H4 => H4 = upd H1 D (.lst (acc i)) ∧ acc (i + 1) = acc i ++ [z] else H3 = upd H1 D (.lst (acc i)) ∧ acc (i + 1) = acc i) ∧
  Q (.ref D) (upd H1 D (.lst (acc xs.length)))
theorem pe_lcH {elt tg l : Expr} {ifs : List Expr} {scope : Scope} {own : List (Str × Nat)} {pos : Pos} {tl : TE} {g : TG} {tt : TT} {te : TE} (hc : HotC X) (hN : X.N.Nodup) (hl : PE X l tl) (ok : BlkOk X.N X.env.scope scope own)
    (hg : ∀ s H C cl fp p, PG (Cx.blkH X s H scope cl C fp p) tg g) (ht : ∀ s H C cl fp p, PTs (Cx.blkH X s H scope cl C fp p) ifs tt) (he : ∀ s H C cl fp p, PE (Cx.blkH X s H scope cl C fp p) elt te)
    (hs : ∀ x, foldedSetIterable l X.env x = pure x := by intro _; rfl) : PE X (.ListComp elt [⟨tg, l, ifs, 0⟩] scope pos) (tLcH X.K tl g tt te (own.map (·.2))) := by
  refine ⟨fun pins s σ H Q I h => ?_⟩
  obtain ⟨p, hot, hpn⟩ := hc
  rw [eval_ListComp]
  have clo := closure_ok (env := X.env) (scope := scope) (fun y hy e => (ok.free y hy e).elim (fun k => I.ok.has _ (.inl k)) fun k => I.ok.has _ (.inr k))
  refine wpAny_comprehension_free (use := none) rfl hs clo ok.kind (fun y hy e => (ok.uniq y hy).trans (congrArg some e)) (thn (hl.run pins s σ H _ I h) fun v s1 ⟨x, H1, I1, r1, a, xs, ex, hq, q⟩ => ?_)
  subst ex
  cases r1
  obtain ⟨its, rv, pl, hz⟩ := I1.list hq
  refine wpAny_pyIter_list pl.isList ?_
  generalize hit : s1.heap.objs.size = it
  generalize hs2 : ({ s1 with heap := s1.heap.push { cls := .type "list_iterator", data := .fields #[.ref a, .int (0 : Nat) 0] } } : Shared) = s2
  have k2 : ∀ b o, s1.heap.get? b = some o → s2.heap.get? b = some o := fun b o e => by subst hs2; exact Heap.get?_push_of_some _ e
  have st2 : s2.heap.IsListIter it a 0 := by subst hs2 hit; exact ⟨_, Heap.get?_push_size _ rfl, rfl, rfl⟩
  have I2 : Inv X pins σ H1 s2 := by subst hs2; exact I1.kept (t' := s1.toks) fun b o e => Heap.get?_push_of_some _ e
  have fit : FpOk X pins H1 it := by subst hit; exact I1.fpOk (Nat.le_refl _) (I1.hok.fresh (Nat.le_refl _))
  refine wpAny_newObj_type (newEnv_comp ?_) (by show 0 ≤ sizeLine; decide)
  generalize hD : s2.heap.objs.size = D
  have hDn : H1 D = none := I2.hok.fresh (Nat.le_of_eq hD)
  have itD : it < D := by
    obtain ⟨o, e, _⟩ := st2
    rw [← hD]
    exact Heap.lt_size e
  obtain ⟨acc, a0, step, fin⟩ := q D hDn
  generalize hs3 : ({ s2 with heap := s2.heap.push { cls := .type "list", data := .seq ([] : List Value).toArray } } : Shared) = s3
  have k3 : ∀ b o, s2.heap.get? b = some o → s3.heap.get? b = some o := fun b o e => by subst hs3; exact Heap.get?_push_of_some _ e
  have I3 : Inv X pins σ (upd H1 D (.lst (acc 0))) s3 := by
    rw [a0]
    subst hs3 hD
    exact I2.laid (t' := s2.toks) (fun b o e => Heap.get?_push_of_some _ e) (Nat.le_refl _) ⟨Nat.zero_le _, [], 0, .nil, Heap.get?_push_size _ rfl⟩
  have n3 : ∀ acc : List V, (upd H1 D (.lst acc)) it = none := fun acc => by rw [upd_ne (Nat.ne_of_lt itD)]; exact fit.1
  have fit3 : FpOk X pins (upd H1 D (.lst (acc 0))) it := ⟨n3 _, fit.2⟩
  have it3 : it < s3.heap.objs.size := by
    obtain ⟨o, e, _⟩ := st2
    exact Heap.lt_size (k3 _ _ e)
  have qs : ∀ acc : List V, SqL X.K (upd H1 D (.lst acc)) a xs := fun acc => Same.seq (fun b o e => by rw [upd_ne (ne_of_none e hDn)]; exact e) hq
  have I4 := block_start I3 ok hN (fp := [it]) (fun b hb => by obtain rfl := List.mem_singleton.mp hb; exact ⟨fit3, it3⟩)
  have P3 := I3.pin p (List.mem_append_left _ hpn)
  have mo : ∀ {o : Obj}, s3.heap.get? p.1 = some o → (pushCells (s3.heap.push { cls := .type "dict", data := .dict #[] }) scope.names).get? p.1 = some o := fun e => pushCells_keeps _ _ _ _ (Heap.get?_push_of_some _ e)
  have I5 := (I4.pins_of (pins' := [p]) (fun b hb => by
    obtain rfl := List.mem_singleton.mp hb
    exact ⟨mo P3.1, P3.2.1, Nat.ne_of_lt (Heap.lt_size P3.1), fun hm => (List.mem_cons.mp (I3.stkSub _ hm)).elim P3.2.2.1 P3.2.2.2.1, P3.2.2.2.2⟩)).toTry (fun _ _ => False)
  have pg := hg s3 (upd H1 D (.lst (acc 0))) s3.heap.objs.size (cellsFrom (s3.heap.objs.size + 1) scope.names (cloFrom X.env.cells scope.names [])) [it] p
  have pt := ht s3 (upd H1 D (.lst (acc 0))) s3.heap.objs.size (cellsFrom (s3.heap.objs.size + 1) scope.names (cloFrom X.env.cells scope.names [])) [it] p
  have pe := he s3 (upd H1 D (.lst (acc 0))) s3.heap.objs.size (cellsFrom (s3.heap.objs.size + 1) scope.names (cloFrom X.env.cells scope.names [])) [it] p
  have I5' : Inv (Cx.blkH X s3 (upd H1 D (.lst (acc 0))) scope (cellsFrom (s3.heap.objs.size + 1) scope.names (cloFrom X.env.cells scope.names [])) s3.heap.objs.size [it] p) [] (wipe σ (own.map (·.2))) (upd H1 D (.lst (acc 0))) { s3 with heap := pushCells (s3.heap.push { cls := .type "dict", data := .dict #[] }) scope.names } := I5
  generalize hB : Cx.blkH X s3 (upd H1 D (.lst (acc 0))) scope (cellsFrom (s3.heap.objs.size + 1) scope.names (cloFrom X.env.cells scope.names [])) s3.heap.objs.size [it] p = B at pg pt pe I5'
  have hotB : HotC B := by subst hB; exact ⟨p, hot, List.mem_singleton.mpr rfl⟩
  have stB : ∀ {σ' : L2.St} {H' : Hp} {s' : Shared}, Inv B [] σ' H' s' → H' it = none → ∀ b ∈ [it], FpOk B [] H' b := fun {σ' H' s'} J hn b hb => by
    obtain rfl := List.mem_singleton.mp hb
    subst hB
    exact ⟨hn, (J.ok.exf b hb).1, J.ok.exfs b hb, .inl hb, (J.ok.exf b hb).2, fun r hr => by
      obtain rfl := List.mem_singleton.mp (by simpa using hr)
      exact fit3.2.2.2.2.2 r (List.mem_append_left _ hpn)⟩
  have st4 : (pushCells (s3.heap.push { cls := .type "dict", data := .dict #[] }) scope.names).IsListIter it a 0 := st2.at fun o e => pushCells_keeps _ _ _ _ (Heap.get?_push_of_some _ (k3 _ _ e))
  have T := turn_listH (P := X.prog) (w := X.w) (K := X.K) (tg := tg) a it
  have hpr : B.prog = X.prog := by subst hB; rfl
  have hw : B.w = X.w := by subst hB; rfl
  have hK : B.K = X.K := by subst hB; rfl
  have hA : B.A = X.A := by subst hB; rfl
  have hxe : B.xe = fun _ _ => False := by subst hB; rfl
  have hE : B.env = compEnvC scope (cellsFrom (s3.heap.objs.size + 1) scope.names (cloFrom X.env.cells scope.names [])) s3.heap.objs.size X.env := by subst hB; rfl
  have loop : codeAny (model X.prog X.w) X.A (.compLoop (.ListComp elt [⟨tg, l, ifs, 0⟩] scope pos) 0 (.ref it) (.ref D) (compEnvC scope (cellsFrom (s3.heap.objs.size + 1) scope.names (cloFrom X.env.cells scope.names [])) s3.heap.objs.size X.env)) (compPost (model X.prog X.w) X.A X.xe none (EP X pins σ Q) (.ref D) s3.heap.objs.size) { s3 with heap := pushCells (s3.heap.push { cls := .type "dict", data := .dict #[] }) scope.names } := by
    refine compLoop_any (fun n s' => ∃ i, i + n = xs.length ∧ Inv B [] (wipe σ (own.map (·.2))) (upd H1 D (.lst (acc i))) s' ∧ s'.heap.IsListIter it a i) ?_ xs.length ⟨0, by omega, I5', st4⟩
    rintro n s5 ⟨i, hi, J, st5⟩
    cases hx : xs[i]? with
    | none =>
      have td := T.done B hpr hw hK hotB i [] s5 _ _ (fun _ _ => False) J (stB J (n3 _)) st5 ⟨xs, hK ▸ qs _, List.getElem?_eq_none_iff.mp hx⟩
      rw [hA] at td
      refine thnF td fun r s6 ⟨hr, J6⟩ => ?_
      subst hr
      obtain rfl : i = xs.length := by have := List.getElem?_eq_none_iff.mp hx; omega
      subst hB
      have I7 : Inv X pins σ (upd H1 D (.lst (acc xs.length))) s6 := I3.call' (ch := [it]) J6.os J6.base J6.hok J6.bare fun b hb => by
        obtain rfl := List.mem_singleton.mp hb
        exact ⟨fit3.2.2.2.1, fit3.2.1, fit3.2.2.2.2.1, fit3.2.2.2.2.2⟩
      obtain ⟨m, hn, _⟩ := J6.loc
      have hC : (upd H1 D (.lst (acc xs.length))) s3.heap.objs.size = none := J6.free
      obtain ⟨f0, f1, f2, f3, f4, f5⟩ := I3.fpOk (Nat.le_refl _) hC
      exact ⟨m, hn, fun h'' sb => ⟨.ref D, _, I7.turned (t' := s6.toks) (fun b o hb e => (sb.2 b hb).trans e) f0 f1 f3 f4 f5, rfl, fin⟩⟩
    | some y =>
      have ti := T.item B hpr hw hK hotB i [] s5 _ _ (fun _ _ => False) J (stB J (n3 _)) st5 ⟨xs, y, hK ▸ qs _, hx⟩
      rw [hA] at ti
      refine thnF ti fun r s6 ⟨u, hr, h6⟩ => ?_
      subst hr
      refine thnF h6 fun _ s7 ⟨x, H7, J7, r7, ⟨e7, y7⟩, st7, n7⟩ => ?_
      subst e7
      obtain rfl : x = y := by
        have q1 := y7 xs (hK ▸ qs _)
        rw [hx] at q1
        exact (Option.some.inj q1).symm
      have J7' := J7.pinned (stB J7 (n3 _)) (T.obj _ _ st7)
      have back : ∀ {σ' : L2.St} {s' : Shared}, wipe σ' (own.map (·.2)) = wipe σ (own.map (·.2)) → Inv B ([] ++ pinsAt [it] s7.heap) σ' (upd H1 D (.lst (acc (i + 1)))) s' → ∃ m, m < n ∧ ∃ i, i + m = xs.length ∧ Inv B [] (wipe σ (own.map (·.2))) (upd H1 D (.lst (acc i))) s' ∧ s'.heap.IsListIter it a i := fun {σ' s'} hw' J' => by
        have hlt := (List.getElem?_eq_some_iff.mp hx).1
        refine ⟨n - 1, by omega, i + 1, by omega, ?_, T.keep _ _ _ st7 fun b hb o e => (J'.pin (b, o) (List.mem_append_right _ (List.mem_append_right _ (mem_pinsAt hb e)))).1⟩
        rw [← hw']
        exact (J'.unpinned (pins := [])).weak (wipe_length _ _) fun j v e => (wipe_some e).1
      obtain ⟨hz1, st1⟩ := step i x hx
      have rg := pg.run _ s7 _ _ x u _ J7' r7 st1
      rw [hpr, hw, hA, hxe, hE] at rg
      refine thnF rg fun _ s8 ⟨σ8, H8, J8, hw8, q8⟩ => ?_
      have rt := pt.run _ s8 σ8 H8 _ J8 q8
      rw [hpr, hw, hA, hxe, hE] at rt
      refine thnF rt fun b s9 ⟨H9, J9, q9⟩ => ?_
      cases b with
      | false =>
        obtain ⟨e9, ea⟩ := q9
        subst e9
        rw [← ea] at J9
        exact back hw8 J9
      | true =>
        have re := pe.run _ s9 σ8 H9 _ J9 q9
        rw [hpr, hw, hA, hxe, hE] at re
        refine thnF re fun z s10 ⟨yv, H10, J10, r10, e10, ea⟩ => ?_
        subst e10
        have ap := app_ok (X := B) (E := fun _ _ => False) J10 (D := D) (xs := acc i) upd_same hz1 r10 (Q := fun _ s' => ∃ m, m < n ∧ ∃ i, i + m = xs.length ∧ Inv B [] (wipe σ (own.map (·.2))) (upd H1 D (.lst (acc i))) s' ∧ s'.heap.IsListIter it a i) fun s11 J11 => back hw8 (by rw [ea]; rw [upd_upd] at J11; exact J11)
        rw [hpr, hw, hA] at ap
        exact thnF ap fun _ _ z => z
  exact codeAny_compStart_list loop (T.self X.A 0 _ _ _ st4 loop)
end

/-! ## HoY -/
section
open HotX L2H
/-- what a def promises where p is handled -/
abbrev HSp := Addr → Value → Option Addr → Sp
def ClH (P : Program) (w : World) (K : PySem.W.Frag) (mg : Str → Option Value) (base : Heap) (k : Nat) (x : Str) (ps : List Str) (sp : HSp) : Prop :=
  ∃ f fd, mg x = some (.ref f) ∧ PySem.W.keepIn K (.ref f) = true ∧ (∀ (s : Shared) (us : List Value), us.length = ps.length → BindsTo s fd ⟨us, []⟩ (ps.zip us)) ∧ (∀ a c d vs H Q E, sp a c d vs H Q E → vs.length = ps.length) ∧
    ∀ (A : Around) (outer : List Env) (s : Shared) (H : Hp) (us : List Value) (vs : List V) (Q : VK) (E : XK) (p : Addr × Obj) (cls : Value) (d : Option Addr), RoomH k A → Hot1 A p → PinOk outer H s p → Zc cls d p.2 → Env0 P w K mg base A outer s H → Vals vs us → sp p.1 cls d vs H Q E →
      codeAny (model P w) A (.call (.ref f) ⟨us, []⟩) (CR CX0 outer P w H s Q E) s
variable {P : Program} {w : World} {K : PySem.W.Frag} {mg : Str → Option Value} {base : Heap}
theorem ClH.mono {j k : Nat} {x : Str} {ps : List Str} {sp : HSp} (C : ClH P w K mg base j x ps sp) (h : j ≤ k) : ClH P w K mg base k x ps sp := by
  obtain ⟨f, fd, a, b, c, l, d⟩ := C
  exact ⟨f, fd, a, b, c, l, fun A outer s H us vs Q E p cls dd hr => d A outer s H us vs Q E p cls dd (hr.mono h)⟩
abbrev cxP (P : Program) (w : World) (K : PySem.W.Frag) (mg : Str → Option Value) (base : Heap) (N : List Str) (x : Str) (sc : Scope) (f : Addr) (cdv : Value) (A : Around) (outer : List Env) (s : Shared) (H : Hp) (E : XK) (p : Addr × Obj) : Cx := cxH CX0 P w K mg base N x sc f cdv A outer s H E p
theorem clH_of {x : Str} {st : Stmt} {N ps : List Str} {k : Nat} {sp : HSp} (D : Df K mg x st) (S : FnScope N ps (defScope st))
    (hb : ∀ (kV doc pm : Value) (an : Option Addr) (cdv ct : Value) (us : List Value), us.length = ps.length → bindArgs (PySem.W.fnOf x x (defArgs st) (defBody st) (defScope st) .none kV doc pm an cdv ct) ⟨us, []⟩ = pure (ps.zip us))
    (len : ∀ a c d vs H Q E, sp a c d vs H Q E → vs.length = ps.length)
    (hbody : ∀ (f : Addr) (cdv : Value) (A : Around) (outer : List Env) (s : Shared) (H : Hp) (vs : List V) (Q : VK) (E : XK) (p : Addr × Obj) (cls : Value) (d : Option Addr), Hot1 (A.deeper (envOfC x (defScope st) s.heap.objs.size f cdv)) p → Zc cls d p.2 → HotC (cxP P w K mg base N x (defScope st) f cdv A outer s H E p) → RoomH k (A.deeper (envOfC x (defScope st) s.heap.objs.size f cdv)) → sp p.1 cls d vs H Q E →
      ∃ t, PSs (cxP P w K mg base N x (defScope st) f cdv A outer s H E p).nox (defBody st) t ∧ t { nx := fun _ H' => Q .non H', rt := Q } (L2.start N vs) H) : ClH P w K mg base (k + 1) x ps sp := by
  obtain ⟨f, fd, F, g⟩ := D
  refine ⟨f, fd, g, F.kp, F.bindsA hb, len, fun A outer s H us vs Q E p cls dd hr hot hpin hz e0 r hsp => ?_⟩
  obtain ⟨oc, od, dV, kV, doc, pm, an, cdv, ct, osl, rfl, lk, hcd, _, _⟩ := F.ex
  have hl := len _ _ _ _ _ _ _ hsp
  have kp : ∀ b o, base.get? b = some o → s.heap.get? b = some o := fun b o e => (e0.bs b o e).1
  have hul : us.length = ps.length := by rw [← r.length]; exact hl
  refine codeAny_call_function hr.depth (kp _ _ (e0.mod.kin _ _ lk)) rfl S.co S.gen rfl (PySem.W.codeRec_of (e0.mod.kin.keeps kp) hcd) ?_
  refine F.bindsA hb s us hul _ _ _ _ (wpAny_newFunctionEnv_cells S.kind (fun ⟨n, v⟩ hy => (S.par n (List.of_mem_zip hy).1).imp id fun q => ⟨q, PySem.W.cellsFrom_some _ _ _ (.inl q)⟩) fun env he s1 x => ?_)
  subst he
  refine ⟨(e0.mod.nolimit.keeps kp).keeps x.toInCall.keep, codeAny_func ?_⟩
  obtain ⟨t, ht, hq⟩ := hbody f cdv A outer s H vs Q E p cls dd hot hz ⟨p, hot, List.mem_singleton.mpr rfl⟩ (hr.deeper _) hsp
  refine wpAny_mono (ht.nox.run [] s1 (L2.start N vs) H _ (inv_startH S hpin e0 hl r x) hq) (fun fl s' hs => ?_) fun e s' hs => hs
  rcases fl with _ | _ | _ | u
  · obtain ⟨σ', H', J, q⟩ := hs
    exact ⟨.non, H', J.os, J.bare, J.base, J.hok, rfl, q⟩
  · exact hs.elim fun _ z => z.elim fun _ z => False.elim z.2
  · exact hs.elim fun _ z => z.elim fun _ z => False.elim z.2
  · obtain ⟨v, σ', H', J, rv, q⟩ := hs
    exact ⟨v, H', J.os, J.bare, J.base, J.hok, rv, q⟩
/-- x(..) in a context that bears p, which is handled -/
theorem pe_clH {X : Cx} {j k : Nat} {x : Str} {ps : List Str} {sp : HSp} {p : Addr × Obj} {q pos : Pos} {e : Expr} {es : List Expr} {t : TA} (C : ClH X.prog X.w X.K X.mg X.base j x ps sp) (hot : Hot1 X.A p) (hp : p ∈ X.pn) {cls : Value} {dd : Option Addr} (hz : Zc cls dd p.2) (hr : RoomH k X.A) (hg : Gl X x) (ha : PA X (e :: es) t) (hjk : j ≤ k := by decide)
    (hdb : (x == ("__debug__" : Str)) = false := by decide) (he : starEach (e :: es) X.env = (false, eval e X.env) :: starEach es X.env := by rfl) (hpl : (backTo pos (starEach es X.env)).any (·.1) = false := by rfl) :
    PE X (.Call (.Name x q) (e :: es) [] pos) (fun σ H Q => t σ H fun vs H1 => sp p.1 cls dd vs H1 Q E0) := by
  obtain ⟨f, fd, a, b, c, l, d⟩ := C
  refine ⟨fun pins s σ H Q I h => wpAny_Call_Name_kw (ld_glob I hg a ?_ hdb)⟩
  refine PySem.W.callWith_K (h₀ := X.base) I.ok.mod.kin b (thn (ha.run pos pins s σ H _ I h) fun us s1 ⟨vs, H1, I1, r, q⟩ => ⟨I1.kIn, ?_⟩) he hpl
  have P1 := I1.pin p (List.mem_append_left _ hp)
  show wpAny _ _ (call (.ref f) us) _ _ _
  refine wpAny_call (codeAny_mono (d X.A X.stack s1 H1 us vs Q E0 p cls dd (hr.mono hjk) hot ⟨P1.1, P1.2.1, fun hm => (List.mem_cons.mp (I1.stkSub _ hm)).elim P1.2.2.1 P1.2.2.2.1, P1.2.2.2.2⟩ hz I1.env0 r q) fun rs s' hq => ?_)
  rcases rs with er | fl
  · exact False.elim hq
  · cases fl with
    | ret u => exact I1.after hq
    | next => exact False.elim hq
    | brk => exact False.elim hq
    | cont => exact False.elim hq
end
section
variable {X : Cx} {D : Addr} {d : Option Addr} {p : Addr × Obj}
/-- the dict of the handled exception, if it has one -/
def XdAt (d : Option Addr) (H : Hp) : Prop := match d with
  | none => True
  | some dd => ∃ fs, H dd = some (.xd fs)
theorem pin_inst {pins : List (Addr × Obj)} {σ : L2.St} {H : Hp} {s : Shared} (I : Inv X pins σ H s) (hp : p ∈ X.pn) (hz : Zc (.ref D) d p.2) (hf : ∃ vs, p.2.data = .fields vs) (hx : XdAt d H) : ∃ od, PySem.W.InstAt s.heap p.1 p.2 D od := by
  have P1 := (I.pin p (List.mem_append_left _ hp)).1
  obtain ⟨vs, hd⟩ := hf
  have nc : PySem.W.notCls p.2 = true := by unfold PySem.W.notCls; rw [hd] <;> rfl
  cases d with
  | none => exact ⟨none, P1, hz.1, nc, by rw [hz.2]; trivial⟩
  | some dd =>
    obtain ⟨fs, e⟩ := hx
    obtain ⟨mA, hns, hr⟩ := (I.hok dd _ e : ObjOk X.prog X.w H s.heap dd (.xd fs))
    obtain ⟨od, ho, hl⟩ := lookIn_ns hns
    exact ⟨some od, P1, hz.1, nc, by rw [hz.2]; exact ho⟩
/-- isinstance(e, c), e handled -/
def rIsP (K : PySem.W.Frag) (D a : Addr) (d : Option Addr) : List V → Hp → VK → Prop := fun xs H Q => ∃ (c : V) (cv : Value) (b : Bool), xs = [.ref a, c] ∧ (∀ u, RelV c u → u = cv) ∧ PySem.W.kitOne K (.ref D) cv = some b ∧ XdAt d H ∧ Q (.bl b) H
theorem call_isP (C : ExcC X.K D) (hp : p ∈ X.pn) (hz : Zc (.ref D) d p.2) (hf : ∃ vs, p.2.data = .fields vs) : CallR X (.builtin "isinstance") (rIsP X.K D p.1 d) := by
  intro pins s σ H xs us Q I r h
  obtain ⟨c, cv, b, rfl, hcv, e, hx, q⟩ := h
  obtain ⟨od, J⟩ := pin_inst I hp hz hf hx
  cases r with
  | cons rx rr =>
    cases rr with
    | cons rt rr =>
      cases rr
      cases rx
      obtain rfl := hcv _ rt
      obtain ⟨cd, hc, _⟩ := PySem.W.any_some C.hd
      exact PySem.W.kia_one (PySem.W.kitx_exc (by rw [hc]; rfl) C.hg C.hk C.hs C.ha C.hn C.ht C.hm) I.kIn J e (fun z => nomatch z) fun tk => ⟨.bl b, H, I.kept (t' := tk) fun _ _ z => z, rfl, q⟩
/-- e.n, e handled -/
def tXp (a : Addr) (d : Option Addr) (f : Str) (te : TE) : TE := fun σ H Q => te σ H fun x H1 => x = .ref a ∧ ∃ (dd : Addr) (fs : List (Str × V)) (v : V), d = some dd ∧ H1 dd = some (.xd fs) ∧ fs.lookup f = some v ∧ Q v H1
theorem pe_xP {e : Expr} {te : TE} {pos : Pos} {n : Str} (T : XfC X.K D) (hno : PySem.W.findIn X.K (.ref D) n = some none) (hp : p ∈ X.pn) (hz : Zc (.ref D) d p.2) (hf : ∃ vs, p.2.data = .fields vs) (he : PE X e te) (hb : attributeBase e n X.env (eval e X.env) = eval e X.env := by rfl) :
    PE X (.Attribute e n pos) (tXp p.1 d n te) := by
  refine ⟨fun pins s σ H Q I h => attr_of hb (thn (he.run pins s σ H _ I h) fun u s1 hh => ?_)⟩
  obtain ⟨x, H1, I1, rx, rfl, dd, fs, v, rfl, ea, l, q⟩ := hh
  obtain rfl : u = Value.ref p.1 := rx
  have P1 := (I1.pin p (List.mem_append_left _ hp)).1
  obtain ⟨vs, hd⟩ := hf
  obtain ⟨mA, hns, hr⟩ := (I1.hok dd _ ea : ObjOk X.prog X.w H1 s1.heap dd (.xd fs))
  obtain ⟨od, ho, hl⟩ := lookIn_ns hns
  obtain ⟨u, hu, ru⟩ := RelO.some_of (v := v) (o := mA n) (by rw [← l]; exact hr n)
  have J : PySem.W.InstAt s1.heap p.1 p.2 D (some od) := ⟨P1, hz.1, by unfold PySem.W.notCls; rw [hd] <;> rfl, by rw [hz.2]; exact ho⟩
  exact HandSPX.exc_get I1.kIn J T.ga T.gg T.exC (PySem.W.findObj_own T.hdC hno rfl (by rw [hl, hu])) (handed_of ru) ⟨v, H1, I1.tok _, ru, q⟩
end

/-! ## HoZ -/
/-- the exception at x, its dict at d with fs in it, new since H -/
structure InS (x C d : Addr) (H H' : Hp) (fs : List (Str × V)) : Prop where
  ax : H' x = some (exo x C (some d))
  ad : H' d = some (exd d fs)
  fr : H d = none
  ne : d ≠ x
  old : ∀ b, b ≠ x → b ≠ d → H' b = H b
theorem InS.first {x C d : Addr} {H : Hp} {f : Str} {y : V} (n : H d = none) (ne : d ≠ x) : InS x C d H (upd (upd H d (exd d [(f, y)])) x (exo x C (some d))) [(f, y)] :=
  ⟨upd_same, by rw [upd_ne ne]; exact upd_same, n, ne, fun b h1 h2 => by rw [upd_ne h1, upd_ne h2]⟩
theorem InS.more {x C d : Addr} {H H' : Hp} {fs : List (Str × V)} {f : Str} {y : V} (i : InS x C d H H' fs) : InS x C d H (upd H' d (exd d ((f, y) :: fs))) ((f, y) :: fs) :=
  ⟨by rw [upd_ne (Ne.symm i.ne)]; exact i.ax, upd_same, i.fr, i.ne, fun b h1 h2 => by rw [upd_ne h2]; exact i.old b h1 h2⟩
/-- an __init__ that stores its parameters -/
def sp_ini (C : Addr) (ok : List V → Hp → Prop) (fl : List Str) : Sp := fun vs H Q _ => ∃ (x : Addr) (us : List V), vs = .ref x :: us ∧ us.length = fl.length ∧ ok us H ∧ H x = some (exo x C none) ∧
  ∀ d H', InS x C d H H' ((fl.zip us).reverse) → Q .non H'
/-- an own error class at C with such an __init__ -/
structure ErrC (P : Program) (w : World) (K : PySem.W.Frag) (mg : Str → Option Value) (base : Heap) (k : Nat) (x : Str) (C : Addr) (ok : List V → Hp → Prop) (fl : List Str) : Prop where
  g : mg x = some (.ref C)
  T : OexC K C
  ini : ∃ (fI : Addr) (fd : FuncData) (ps : List Str), PySem.W.findIn K (.ref C) "__init__" = some (some (.ref fI)) ∧ PySem.W.typeIn K (.ref fI) = some (.type "function") ∧ Binds K fd ps [] ∧ FnOk P w K mg base CX0 k fI fd ps (sp_ini C ok fl)
  xf : XfC K C
  ec : ExcC K C
  no : ∀ f ∈ fl, PySem.W.findIn K (.ref C) f = some none
  sz : fl.length ≤ 900
  okm : ∀ us H H', Same H H' → ok us H → ok us H'
section
variable {X : Cx} {C : Addr} {ok : List V → Hp → Prop} {fl : List Str} {k : Nat} {x : Str}
def tErr (C : Addr) (ok : List V → Hp → Prop) (fl : List Str) (ta : TA) : L2.St → Hp → XK → Prop := fun σ H Q => ta σ H fun vs H1 => vs.length = fl.length ∧ ok vs H1 ∧ ∀ d H2, New H1 d (.xd ((fl.zip vs).reverse)) H2 → Q (.ref C) (some d) H2
theorem pmk_err {j : Nat} {e : Expr} {es : List Expr} {ta : TA} {p pos : Pos} (D : ErrC X.prog X.w X.K X.mg X.base j x C ok fl) (hr : Room k X.A) (hg : Gl X x) (ha : PA X (e :: es) ta) (hjk : j + 1 ≤ k := by decide)
    (hdb : (x == ("__debug__" : Str)) = false := by decide) (he : starEach (e :: es) X.env = (false, eval e X.env) :: starEach es X.env := by rfl) (hpl : (backTo pos (starEach es X.env)).any (·.1) = false := by rfl) :
    L2N.PMk X (.Call (.Name x p) (e :: es) [] pos) (tErr C ok fl ta) := by
  intro pins s σ H Q I h
  have T := D.T
  obtain ⟨fI, fd, ps, iC, tI, hb, F1⟩ := D.ini
  obtain ⟨nm, q, N, bs, bm, sn, sub, ab, col, dd, k0, k1, k2, k3, k5, hC, hbm⟩ := T.cls
  refine wpAny_Call_Name_kw (ld_glob I hg D.g ?_ hdb)
  refine PySem.W.callWith_K (h₀ := X.base) I.ok.mod.kin T.kC (thn (ha.run pos pins s σ H _ I h) fun us s1 ⟨vs, H1, I1, r1, hvl, hok, q1⟩ => ⟨I1.kIn, ?_⟩) he hpl
  show wpAny _ _ (call (.ref C) us) _ _ _
  obtain ⟨hp, g, dr, tk, os⟩ := s1
  generalize hx : hp.objs.size + 1 = a
  have hsz : hp.objs.size ≤ a := by omega
  have hn : H1 a = none := I1.hok.fresh hsz
  have kk : ∀ b o, hp.get? b = some o → ((hp.push (PySem.W.kdv_tup us)).push (PySem.HandSPX.excO C hp.objs.size)).get? b = some o := fun b o e => Heap.get?_push_of_some _ (Heap.get?_push_of_some _ e)
  have hget : ((hp.push (PySem.W.kdv_tup us)).push (PySem.HandSPX.excO C hp.objs.size)).get? a = some (PySem.HandSPX.excO C hp.objs.size) := by subst hx; heap_get
  have I2 : Inv X pins σ (upd H1 a (exo a C none)) ⟨(hp.push (PySem.W.kdv_tup us)).push (PySem.HandSPX.excO C hp.objs.size), g, dr, tk, os⟩ := I1.laid (t' := tk) kk hsz (exo_ok hget)
  have r2 : Vals (V.ref a :: vs) (Value.ref a :: us) := .cons rfl r1
  have hq : sp_ini C ok fl (V.ref a :: vs) (upd H1 a (exo a C none)) (fun v H2 => v = .non ∧ ∃ dx, InS a C dx (upd H1 a (exo a C none)) H2 ((fl.zip vs).reverse)) (fun _ _ _ => False) :=
    ⟨a, vs, rfl, hvl, D.okm _ _ _ (New.mk' (o := exo a C none) hn).same hok, upd_same, fun dx H' i => ⟨rfl, dx, i⟩⟩
  have hl : (Value.ref a :: us ++ []).length = ps.length := by
    have e := r2.length
    rw [F1.len _ _ _ _ hq] at e
    rw [List.append_nil]
    exact e.symm
  have hus : us.length ≤ sizeLine := by
    have := D.sz
    rw [← Paired.length r1, sizeLine_eq]
    omega
  have b2 := hb _ (Value.ref a :: us) I2.kIn hl
  rw [List.append_nil] at b2
  refine wpAny_call (PySem.HandSPX.call_own F.excBase_ValueError (fun Y => PySem.HandSPX.refsVE_contains Y bm hbm) (I1.kIn _ _ hC) (PySem.W.looks_findIn I1.kIn iC) (fun self => PySem.W.bind_fn I1.kIn self tI) hus ?_)
  rw [hx]
  refine codeAny_mono (F1.run _ X.stack _ _ ⟨Value.ref a :: us, []⟩ (Value.ref a :: us) _ _ (fun _ _ _ => False) ((hr.mono hjk).make C us []) (I2.env0.make C us []) b2 r2 hq) fun r s' hq' => ?_
  rcases r with er | fl'
  · exact False.elim hq'
  cases fl' with
  | ret u =>
    obtain ⟨v, H2, os2, bare2, un2, hok2, rv, ev, d, ins⟩ := hq'
    subst ev
    have hd1 : H1 d = none := by
      have := ins.fr
      rwa [upd_ne ins.ne] at this
    obtain ⟨h2, g2, d2, t2, os'⟩ := s'
    obtain ⟨t0, G, J, kG, ge, hoe, na⟩ := mk_end0 (d2 := d2) (t2 := t2) I1 hsz kk un2 hok2 os2 bare2 ins.ax ins.ad hd1
    refine ⟨rv, a, _, _, ⟨G, g2, d2, t2, os'⟩, _, .ref C, some d, rfl, J, kG, ge, hoe, ⟨rfl, rfl, fun vs hv => by cases hv; rfl⟩, rfl, rfl, na, rfl, bare2, raises_own T.exC T.tyC, q1 d _ ⟨hd1, upd_same, fun b hb => ?_⟩⟩
    rw [upd_ne hb]
    by_cases hba : b = a
    · rw [hba, del_same, hn]
    · rw [del_ne hba, ins.old b hba hb, upd_ne hba]
  | next => exact False.elim hq'
  | brk => exact False.elim hq'
  | cont => exact False.elim hq'
end
/-! ### defs that raise -/
def ClX (P : Program) (w : World) (K : PySem.W.Frag) (mg : Str → Option Value) (base : Heap) (k : Nat) (x : Str) (ps : List Str) (sp : Sp) : Prop :=
  ∃ f fd, mg x = some (.ref f) ∧ PySem.W.keepIn K (.ref f) = true ∧ Binds K fd ps [] ∧ FnOk P w K mg base (L2N.CX P w) k f fd ps sp ∧ ∃ oc od osl, K.lookup f = some ⟨oc, od, .func fd, osl⟩
section
variable {P : Program} {w : World} {K : PySem.W.Frag} {mg : Str → Option Value} {base : Heap}
theorem ClX.mono {j k : Nat} {x : Str} {ps : List Str} {sp : Sp} (C : ClX P w K mg base j x ps sp) (h : j ≤ k) : ClX P w K mg base k x ps sp := by
  obtain ⟨f, fd, a, b, c, d, e⟩ := C
  exact ⟨f, fd, a, b, c, d.mono h, e⟩
theorem clX_of {x : Str} {st : Stmt} {N ps : List Str} {k : Nat} {sp : Sp} (D : Df K mg x st) (S : FnScope N ps (defScope st))
    (hb : ∀ (kV doc pm : Value) (an : Option Addr) (cdv ct : Value) (us : List Value), us.length = ps.length → bindArgs (PySem.W.fnOf x x (defArgs st) (defBody st) (defScope st) .none kV doc pm an cdv ct) ⟨us, []⟩ = pure (ps.zip us))
    (len : ∀ vs H Q E, sp vs H Q E → vs.length = ps.length)
    (hbody : ∀ (f : Addr) (cdv : Value) (A : Around) (outer : List Env) (s : Shared) (H : Hp) (vs : List V) (Q : VK) (E : XK), Room k (A.deeper (envOfC x (defScope st) s.heap.objs.size f cdv)) → L2N.Takes (cxOf (L2N.CX P w) P w K mg base N x (defScope st) f cdv A outer s H E) (fun cls d _ H => E cls d H) → sp vs H Q E →
      ∃ t, PSs (cxOf (L2N.CX P w) P w K mg base N x (defScope st) f cdv A outer s H E) (defBody st) t ∧ t { nx := fun _ H' => Q .non H', rt := Q } (start N vs) H) : ClX P w K mg base (k + 1) x ps sp := by
  obtain ⟨f, fd, F, g⟩ := D
  refine ⟨f, fd, g, F.kp, fun s us _ hl => ?_, F.ok S len fun cdv A outer s H vs Q E hr hsp => hbody f cdv A outer s H vs Q E hr (L2N.takes_of rfl rfl rfl rfl) hsp, ?_⟩
  · rw [List.append_nil] at hl ⊢
    exact F.bindsA hb s us hl
  · obtain ⟨oc, od, dV, kV, doc, pm, an, cdv, ct, osl, e, lk, _⟩ := F.ex
    exact ⟨oc, od, osl, lk⟩
end
/-- the same def, called with keywords ks behind n values -/
def ClXK (P : Program) (w : World) (K : PySem.W.Frag) (mg : Str → Option Value) (base : Heap) (k : Nat) (x : Str) (ps : List Str) (n : Nat) (ks : List Str) (sp : Sp) : Prop :=
  ∃ f fd, mg x = some (.ref f) ∧ PySem.W.keepIn K (.ref f) = true ∧ KBn K fd ps n ks (fun us ws => us ++ ws) (fun us ws => us ++ ws) ∧ FnOk P w K mg base (L2N.CX P w) k f fd ps sp
theorem vals_app {vs : List V} {us : List Value} {zs : List V} {ws : List Value} (a : Vals vs us) (b : Vals zs ws) : Vals (vs ++ zs) (us ++ ws) := by
  induction a with
  | nil => exact b
  | cons h _ ih => exact .cons h ih
theorem clXK_of {P : Program} {w : World} {K : PySem.W.Frag} {mg : Str → Option Value} {base : Heap} {k : Nat} {x : Str} {st : Stmt} {ps : List Str} {sp : Sp} {n : Nat} {ks : List Str} (D : Df K mg x st) (C : ClX P w K mg base k x ps sp)
    (hb : ∀ (kV doc pm : Value) (an : Option Addr) (cdv ct : Value) (us ws : List Value), us.length = n → ws.length = ks.length → bindArgs (PySem.W.fnOf x x (defArgs st) (defBody st) (defScope st) .none kV doc pm an cdv ct) ⟨us, ks.zip ws⟩ = pure (ps.zip (us ++ ws))) : ClXK P w K mg base k x ps n ks sp := by
  obtain ⟨f, fd, F, g⟩ := D
  obtain ⟨f2, fd2, a, b, c, d, oc2, od2, osl2, lk2⟩ := C
  obtain ⟨oc, od, dV, kV, doc, pm, an, cdv, ct, osl, rfl, lk, hcd, hD, hK⟩ := F.ex
  rw [g] at a
  cases a
  rw [lk] at lk2
  cases lk2
  rcases hD with ⟨_, rfl⟩ | ⟨e, _⟩
  · exact ⟨f, _, g, b, ⟨fun s us ws _ l1 l2 => .of_eq (hb kV doc pm an cdv ct us ws l1 l2), fun a b => vals_app a b⟩, d⟩
  · exact absurd rfl e
section
variable {X : Cx}
theorem pe_clX {j k : Nat} {x : Str} {ps : List Str} {sp : Sp} {p pos : Pos} {e : Expr} {es : List Expr} {t : TA} {W : WX} (C : ClX X.prog X.w X.K X.mg X.base j x ps sp) (tk : L2N.Takes X W) (hr : Room k X.A) (hg : Gl X x) (ha : PA X (e :: es) t) (hjk : j ≤ k := by decide)
    (hdb : (x == ("__debug__" : Str)) = false := by decide) (he : starEach (e :: es) X.env = (false, eval e X.env) :: starEach es X.env := by rfl) (hpl : (backTo pos (starEach es X.env)).any (·.1) = false := by rfl) :
    PE X (.Call (.Name x p) (e :: es) [] pos) (tCallS sp (WE W) t) := by
  obtain ⟨f, fd, a, b, c, d, _⟩ := C
  exact pe_callS d (hr.mono hjk) hg a b c (fun σ => L2N.passAt tk σ) ha hdb he hpl
theorem a_err {C : Addr} {ok : List V → Hp → Prop} {fl : List Str} {ta : TA} {σ : L2.St} {H : Hp} {Q : XK} : tErr C ok fl ta σ H Q = ta σ H fun vs H1 => vs.length = fl.length ∧ ok vs H1 ∧ ∀ d H2, New H1 d (.xd ((fl.zip vs).reverse)) H2 → Q (.ref C) (some d) H2 := rfl
theorem a_callS {sp : Sp} {E : L2.St → XK} {t : TA} {σ : L2.St} {H : Hp} {Q : VK} : tCallS sp E t σ H Q = t σ H fun vs H1 => sp vs H1 Q (E σ) := rfl
theorem a_xp {a : Addr} {d : Option Addr} {f : Str} {te : TE} {σ : L2.St} {H : Hp} {Q : VK} : tXp a d f te σ H Q = te σ H fun x H1 => x = .ref a ∧ ∃ (dd : Addr) (fs : List (Str × V)) (v : V), d = some dd ∧ H1 dd = some (.xd fs) ∧ fs.lookup f = some v ∧ Q v H1 := rfl
theorem a_isP {K : PySem.W.Frag} {D a : Addr} {d : Option Addr} {xs : List V} {H : Hp} {Q : VK} : rIsP K D a d xs H Q = ∃ (c : V) (cv : Value) (b : Bool), xs = [.ref a, c] ∧ (∀ u, RelV c u → u = cv) ∧ PySem.W.kitOne K (.ref D) cv = some b ∧ XdAt d H ∧ Q (.bl b) H := rfl
theorem takesN0 : L2N.Takes X (fun _ _ _ _ => False) := fun _ _ ⟨_, _, _, _, _, _, _, _, _, _, _, _, _, _, _, _, z⟩ => z.elim
end
section
variable {X : Cx}
theorem pe_clXK {j k : Nat} {x : Str} {ps : List Str} {sp : Sp} {n : Nat} {ks : List Str} {p pos : Pos} {e : Expr} {es : List Expr} {kws : List Keyword} {t t2 : TA} (C : ClXK X.prog X.w X.K X.mg X.base j x ps n ks sp) (hr : Room k X.A) (hg : Gl X x) (ha : PA X (e :: es) t) (hkw : PK X kws t2) (hjk : j ≤ k := by decide)
    (hall : (backToKw pos (keywordEach kws X.env)).all (·.1.isSome) = true := by rfl) (hks : (backToKw pos (keywordEach kws X.env)).filterMap (·.1) = ks := by rfl)
    (hdb : (x == ("__debug__" : Str)) = false := by decide) (he : starEach (e :: es) X.env = (false, eval e X.env) :: starEach es X.env := by rfl)
    (hpl : ((backTo pos (starEach (e :: es) X.env)).any (·.1) || (backToKw pos (keywordEach kws X.env)).any (·.1.isNone)) = false := by rfl) :
    PE X (.Call (.Name x p) (e :: es) kws pos) (fun σ H Q => t σ H fun vs H1 => t2 σ H1 fun zs H2 => vs.length = n ∧ zs.length = ks.length ∧ sp (vs ++ zs) H2 Q (fun _ _ _ => False)) := by
  obtain ⟨f, fd, a, b, c, d⟩ := C
  exact pe_callN (d.mono hjk) hr hg a b c (fun pins σ H s e s' I c => L2N.passAt (W := fun _ _ _ _ => False) takesN0 σ pins H s e s' I c) ha hkw hall hks hdb he hpl
end

/-! ## HoN -/
set_option maxHeartbeats 4000000 in
theorem meets_enum1 {v : Value} {o : Obj} {H : Heap → Prop} (B : Begins v o H) :
    Meets (Builtin.«enumerate.__new__» ⟨[.type "enumerate", v], []⟩) (fun _ R s => H s.heap ∧
      R (.ok (.ret (.ref (s.heap.push o).objs.size))) { s with heap := (s.heap.push o).push { cls := .type "enumerate", data := .fields #[.none, .bool false, .ref s.heap.objs.size, rawInt 0, .none, .none] } }) :=
  .of_wp fun prog w A R s h => by
    obtain ⟨hp, g, d, tk, os⟩ := s
    obtain ⟨h1, h⟩ := h
    have hsub := sub_enumerate
    have st : ∀ {A' : Around} {E : Value → Shared → Prop} {Q : Value → Shared → Prop}, Q (.ref hp.objs.size) ⟨hp.push o, g, d, tk, os⟩ → wpAny (model prog w) A' (pyIter v) Q E ⟨hp, g, d, tk, os⟩ := fun q => B.iter prog w _ _ ⟨hp, g, d, tk, os⟩ _ h1 q
    wp_walk using st
    refine wpAny_stack_any fun stk => wpAny_pure ?_
    split
    · rename_i c _ _ _ _ _
      cases (c == Value.type "enumerate") <;> (wp_walk using st; exact ⟨_, rfl, h⟩)
    · wp_walk using st
      exact ⟨_, rfl, h⟩
section
variable {prog : Program} {w : World} {A : Around} {E : Value → Shared → Prop} {s : Shared}
theorem enum1_begins {v : Value} {o : Obj} {H : Heap → Prop} {Q : Value → Shared → Prop} (B : Begins v o H) (h1 : H s.heap)
    (h : ∀ h', IsEnum h' (s.heap.objs.size + 1) s.heap.objs.size 0 .none → h'.get? s.heap.objs.size = some o → (∀ b o, s.heap.get? b = some o → h'.get? b = some o) → Q (.ref (s.heap.objs.size + 1)) { s with heap := h' }) :
    wpAny (model prog w) A (call (.type "enumerate") [v]) Q E s := by
  refine callType_new F.called_enumerate (by decide) (F.typeCall_enumerate_1 _) (F.newCall_enumerate_1 _) (fun obj => F.args_object_init_2 obj _) F.entry_enumerate_new (meets_enum1 B) ⟨h1, ?_⟩
  have hz : (s.heap.push o).objs.size = s.heap.objs.size + 1 := Heap.size_push ..
  have he : IsEnum ((s.heap.push o).push { cls := .type "enumerate", data := .fields #[.none, .bool false, .ref s.heap.objs.size, rawInt 0, .none, .none] }) (s.heap.objs.size + 1) s.heap.objs.size 0 .none := hz ▸ Heap.get?_push_size _ rfl
  show _ ∧ _
  rw [hz]
  exact ⟨⟨_, he, rfl⟩, h _ he (Heap.get?_push_of_some _ (Heap.get?_push_size _ B.free)) fun b o x => Heap.get?_push_of_some _ (Heap.get?_push_of_some _ x)⟩
end
/-- the tuple at a, each item in a new pair -/
def IteT (K : PySem.W.Frag) (a : Addr) (xs : List V) : It :=
  ⟨fun i H => SqT K H a xs ∧ i < xs.length, fun i H v H' => ∃ T x, v = .ref T ∧ New H T (.tup [.int (i : Nat), x]) H' ∧ xs[i]? = some x, fun i H => SqT K H a xs ∧ i = xs.length⟩
theorem turn_enumT {P : Program} {w : World} {K : PySem.W.Frag} {elts : List Expr} {kk : Nat} {tpos : Pos} (a e it : Addr) (hae : a ≠ e) (hai : a ≠ it) (hei : e ≠ it) (xs : List V) :
    Turn P w K (.Tuple elts kk tpos) (IteT K a xs) [e, it] e (fun i h => (∃ old, IsEnum h e it ((i : Nat) : Int) old) ∧ h.IsTupleIter it a i) where
  mem := List.mem_cons_self
  obj := fun i h st b hb => by
    obtain ⟨⟨old, he⟩, o, ho, hc, hd⟩ := st
    rcases List.mem_cons.mp hb with rfl | hb
    · exact ⟨_, he, fun v q => nomatch q⟩
    · obtain rfl := List.mem_singleton.mp hb
      exact ⟨o, ho, fun v q => by rw [hd] at q; cases q⟩
  keep := fun i h h' st k => ⟨st.1.imp fun old he => k e List.mem_cons_self _ he, st.2.at fun o q => k it (by simp) o q⟩
  item := fun X hP hw hK hc i pins s σ H E I hf st hg => by
    subst hP hw hK
    obtain ⟨⟨old, he⟩, hit⟩ := st
    obtain ⟨hq, hlt⟩ := hg
    obtain ⟨its, rv, p, hz⟩ := I.tuple hq
    have hl := rv.length
    have D := Draws.tuple (prog := X.prog) (w := X.w) (A := X.A.in1) (I.ok.hd hc) it a hai its.toArray
    have ia : s.heap.IsTuple a its.toArray := p
    have hel : e < s.heap.objs.size := Heap.lt_size he
    have hil : it < s.heap.objs.size := by obtain ⟨_, q, _⟩ := hit; exact Heap.lt_size q
    refine wpAny_pyNext_enum_itemD D he ⟨hit, ia⟩ (by rw [List.size_toArray]; omega) hei (by simp [hei, Ne.symm hae]) fun u h' tk hu ho hst hT hsz hk => ?_
    refine ⟨_, rfl, wpAny_letOwnedTupleGo_enum (s := { s with heap := h', toks := tk + 1 }) ho fun h'' he' sb => ?_⟩
    have hx : ∃ x, xs[i]? = some x := ⟨xs[i], List.getElem?_eq_getElem hlt⟩
    obtain ⟨x, hx⟩ := hx
    obtain ⟨u', hu', ru⟩ := rv.get hx
    obtain rfl : u' = u := by
      have q : its[i]? = some u := by simpa using hu
      rw [hu'] at q
      exact Option.some.inj q
    have hT2 : h''.get? s.heap.objs.size = some { cls := .type "tuple", data := .seq #[.int i tk, u'] } := (sb.2 _ (Nat.ne_of_gt hel)).trans hT
    have new : ObjOk X.prog X.w (upd H s.heap.objs.size (.tup [.int (i : Nat), x])) h'' s.heap.objs.size (.tup [.int (i : Nat), x]) :=
      ⟨by show 2 ≤ sizeLine; decide, [.int i tk, u'], .cons ⟨_, rfl⟩ (.cons ru .nil), ⟨_, hT2, rfl, _, rfl⟩⟩
    have I1 : Inv X pins σ (upd H s.heap.objs.size (.tup [.int (i : Nat), x])) { s with heap := h'', toks := tk + 1 } :=
      I.turnedNew (ch := [e, it]) (fun b ob hb q => (sb.2 b (fun z => hb (by simp [z]))).trans (hk b ob (fun z => hb (by simp [z])) (fun z => hb (by simp [z])) q)) hf (Nat.le_refl _) new
    refine ⟨.ref s.heap.objs.size, _, I1, rfl, ⟨_, x, rfl, .mk' (I.hok.fresh (Nat.le_refl _)), hx⟩, ⟨⟨u', ?_⟩, hst.1.at fun o q => (sb.2 it (Ne.symm hei)).trans q⟩, fun b hb => ?_⟩
    · have e1 : ((i + 1 : Nat) : Int) = (i : Int) + 1 := by omega
      rw [e1]
      exact he'
    · have hb' : b < s.heap.objs.size := by
        rcases List.mem_cons.mp hb with rfl | hb
        · exact hel
        · obtain rfl := List.mem_singleton.mp hb
          exact hil
      rw [upd_ne (Nat.ne_of_lt hb')]
      exact (hf b hb).1
  done := fun X hP hw hK hc i pins s σ H E I hf st hg => by
    subst hP hw hK
    obtain ⟨⟨old, he⟩, hit⟩ := st
    obtain ⟨hq, hle⟩ := hg
    obtain ⟨its, rv, p, hz⟩ := I.tuple hq
    have hl := rv.length
    have D := Draws.tuple (prog := X.prog) (w := X.w) (A := X.A.in1) (I.ok.hd hc) it a hai its.toArray
    have F := hf it (by simp)
    have hn : i = its.toArray.size := by rw [List.size_toArray]; omega
    refine wpAny_pyNext_enum_endD D he (hn ▸ ⟨hit, p⟩) fun h' eb => ⟨rfl, I.turned (t' := s.toks) (fun b o hb q => eb b o hb q) F.1 F.2.1 F.2.2.2.1 F.2.2.2.2.1 F.2.2.2.2.2⟩
  self := fun A i s Q E st h => wpAny_pyIter_enum st.1.choose_spec h
def iEnumT (K : PySem.W.Frag) (ta : TA) : TI := fun σ H R => ta σ H fun vs H1 => ∃ a xs, vs = [.ref a] ∧ H1 a = some (.tup xs) ∧ R (IteT K a xs) H1
theorem pi_enumT {X : Cx} {e : Expr} {ta : TA} {p pos tpos : Pos} {elts : List Expr} {kk : Nat} (hg : Gl X "enumerate") (hm : X.mg "enumerate" = none) (ha : PA X [e] ta) (hs : starEach [e] X.env = [(false, eval e X.env)] := by rfl) :
    PI X (.Tuple elts kk tpos) (.Call (.Name "enumerate" p) [e] [] pos) (iEnumT X.K ta) := by
  refine ⟨fun pins s σ H R I h => Call_ (ld_blt I hg hm boot_enumerate (PyProof.Rows.callWith_type1 (thn (ha.run pos pins s σ H _ I h) fun us s1 ⟨vs, H1, I1, r1, a, xs, ex, hq, q⟩ => ?_) hs rfl))⟩
  subst ex
  cases r1 with
  | cons r rr =>
    cases rr
    cases r
    obtain ⟨its, rv, p', hz⟩ := I1.tuple (SqT.of hq)
    have ha : a < s1.heap.objs.size := by obtain ⟨o, e, _⟩ := (show s1.heap.IsTuple a its.toArray from p'); exact Heap.lt_size e
    refine enum1_begins (begins_tuple a its.toArray) p' fun h' he hit hk => wpAny_pyIter_enum he ?_
    have I2 : Inv X pins σ H1 { s1 with heap := h' } := I1.kept (t' := s1.toks) hk
    refine ⟨s1.heap.objs.size + 1, [s1.heap.objs.size + 1, s1.heap.objs.size], _, _, H1, rfl, I2, turn_enumT a (s1.heap.objs.size + 1) s1.heap.objs.size (Nat.ne_of_lt (Nat.lt_succ_of_lt ha)) (Nat.ne_of_lt ha) (Nat.succ_ne_self _) xs, ⟨⟨.none, he⟩, ⟨_, hit, rfl, rfl⟩⟩, fun b hb => ?_, q⟩
    have hle : s1.heap.objs.size ≤ b := by
      rcases List.mem_cons.mp hb with rfl | hb
      · omega
      · obtain rfl := List.mem_singleton.mp hb
        exact Nat.le_refl _
    exact I1.fpOk hle (I1.hok.fresh hle)
section
variable {K : PySem.W.Frag} {H : Hp} {Q : VK} {σ : L2.St} {D : Ends}
def CEn (K : PySem.W.Frag) (a : Addr) (xs : List V) (g : TG) (tt : TT) (te : TE) (vs : List Nat) (σ : L2.St) (H : Hp) (Q : VK) : Prop := tLc (fun _ H R => R (IteT K a xs) H) g tt te vs σ H Q
theorem a_lcE {ta : TA} {g : TG} {tt : TT} {te : TE} {vs : List Nat} : tLc (iEnumT K ta) g tt te vs σ H Q = ta σ H fun ws H1 => ∃ a xs, ws = [.ref a] ∧ H1 a = some (.tup xs) ∧ CEn K a xs g tt te vs σ H1 Q := rfl
def FEn (K : PySem.W.Frag) (a : Addr) (xs : List V) (g : TG) (tb : TS) (D : Ends) (σ : L2.St) (H : Hp) : Prop := tFor (fun _ H R => R (IteT K a xs) H) g tb D σ H
theorem a_forE {ta : TA} {g : TG} {tb : TS} : tFor (iEnumT K ta) g tb D σ H = ta σ H fun ws H1 => ∃ a xs, ws = [.ref a] ∧ H1 a = some (.tup xs) ∧ FEn K a xs g tb D σ H1 := rfl
abbrev g2 (K : PySem.W.Frag) (i1 i2 : Nat) : TG := gTup K 2 (gCons (gName i1) (gCons (gName i2) gNil))
theorem g2_at {i1 i2 : Nat} {T : Addr} {x y : V} {R : L2.St → Hp → Prop} (h : H T = some (.tup [x, y])) (r : R ((σ.set i1 (some x)).set i2 (some y)) H) : g2 K i1 i2 (.ref T) σ H R := ⟨T, [x, y], rfl, SqT.of h, rfl, x, [y], rfl, y, [], rfl, rfl, r⟩
theorem ce_by {a : Addr} {xs : List V} {i1 i2 : Nat} {tt : TT} {te : TE} {vs : List Nat} (Pv : Addr → Nat → List V → Hp → Prop) (h0 : ∀ C H0, New H C (.lst []) H0 → Pv C 0 [] H0) (hl : ∀ C i acc H', H C = none → Pv C i acc H' → H' a = some (.tup xs))
    (hs : ∀ C i x acc H1 N T H2, H C = none → xs[i]? = some x → H1 C = some (.lst acc) → Pv C i acc H1 → (∀ acc' H5, H5 C = some (.lst acc') → Pv C (i + 1) acc' H5 → N H5) → New H1 T (.tup [.int (i : Nat), x]) H2 →
      wipe (((wipe σ vs).set i1 (some (.int (i : Nat)))).set i2 (some x)) vs = wipe σ vs ∧ tt (((wipe σ vs).set i1 (some (.int (i : Nat)))).set i2 (some x)) H2 fun b H3 => if b = true then te (((wipe σ vs).set i1 (some (.int (i : Nat)))).set i2 (some x)) H3 fun y H4 => CSt C N y H4 else N H3)
    (hd : ∀ C acc H1, H C = none → H1 C = some (.lst acc) → Pv C xs.length acc H1 → Q (.ref C) H1) : CEn K a xs (g2 K i1 i2) tt te vs σ H Q := by
  intro C hC
  refine ⟨fun i m H1 => m + i = xs.length ∧ ∃ acc, H1 C = some (.lst acc) ∧ Pv C i acc H1, ⟨xs.length, by omega, [], upd_same, h0 C _ (New.mk' hC)⟩, fun i m H1 ⟨hm, acc, ha, p⟩ => ?_⟩
  by_cases hi : i = xs.length
  · subst hi
    exact .inl ⟨⟨SqT.of (hl C _ acc H1 hC p), rfl⟩, hd C acc H1 hC ha p⟩
  · refine .inr ⟨⟨SqT.of (hl C _ acc H1 hC p), by omega⟩, fun H5 => ∃ acc', H5 C = some (.lst acc') ∧ Pv C (i + 1) acc' H5, fun H5 ⟨acc', h5, p5⟩ => ⟨m - 1, by omega, by omega, acc', h5, p5⟩, fun v H2 ⟨T, x, ev, n2, hx⟩ => ?_⟩
    subst ev
    exact g2_at n2.at_ (hs C i x acc H1 _ T H2 hC hx ha p (fun acc' H5 h5 p5 => ⟨acc', h5, p5⟩) n2)
theorem fe_by {a : Addr} {xs : List V} {i1 i2 : Nat} {tb : TS} (Pv : Nat → L2.St → Hp → Prop) (h0 : Pv 0 σ H) (hl : ∀ i σ' H', Pv i σ' H' → H' a = some (.tup xs))
    (hs : ∀ i x σ H1 (N : L2.St → Hp → Prop) T H2, (∀ σ' H', Pv (i + 1) σ' H' → N σ' H') → xs[i]? = some x → Pv i σ H1 → New H1 T (.tup [.int (i : Nat), x]) H2 → tb { D with nx := N, ct := N, bk := D.nx } ((σ.set i1 (some (.int (i : Nat)))).set i2 (some x)) H2)
    (hd : ∀ σ H, Pv xs.length σ H → D.nx σ H) : FEn K a xs (g2 K i1 i2) tb D σ H := by
  refine ⟨fun i m σ1 H1 => m + i = xs.length ∧ Pv i σ1 H1, ⟨xs.length, by omega, h0⟩, fun i m σ1 H1 ⟨hm, p⟩ => ?_⟩
  by_cases hi : i = xs.length
  · subst hi
    exact .inl ⟨⟨SqT.of (hl _ _ _ p), rfl⟩, hd _ _ p⟩
  · refine .inr ⟨⟨SqT.of (hl _ _ _ p), by omega⟩, fun σ5 H5 => Pv (i + 1) σ5 H5, fun σ5 H5 p5 => ⟨m - 1, by omega, by omega, p5⟩, fun v H2 ⟨T, x, ev, n2, hx⟩ => ?_⟩
    subst ev
    exact g2_at n2.at_ (hs i x σ1 H1 _ T H2 (fun _ _ z => z) hx p n2)
end

/-! ## HoW -/
def errNames : List Str := ["BadNumber", "NotAPoint", "NotAMove", "TooMany", "UnlikeSizes", "RepeatedPoint", "BadText", "NotMade", "NotTight", "NotFull", "NotAFailing", "NotNeighbours", "NotShorter", "SameLength", "NoSuchLength", "NotAnOrder", "NotAChain", "NotABase", "NotInside", "OrderMatters", "FullLot", "NotAWord", "NotAColumn", "NotACount", "GameOver", "NotAllowed", "NothingToUndo", "NothingToRedo", "NothingKept", "BadEdit", "UnknownName", "NotAPaper"]
/-- the classes' names stand for them; the class D is none of the others -/
structure ErN (K : PySem.W.Frag) (mg : Str → Option Value) (D : Str) : Prop where
  g : ∀ x ∈ errNames, mg x = some (.ref (He.ga K x))
  gH : mg "HeldorderError" = some (.ref (He.ga K "HeldorderError"))
  gV : mg "ValueError" = none
  k : ∀ x ∈ errNames, PySem.W.kitOne K (.ref (He.ga K D)) (.ref (He.ga K x)) = some (decide (x = D))
  kH : PySem.W.kitOne K (.ref (He.ga K D)) (.ref (He.ga K "HeldorderError")) = some true
  kV : PySem.W.kitOne K (.ref (He.ga K D)) (.type "ValueError") = some true
  ec : ExcC K (He.ga K D)
/-- isinstance(e, x), e in slot i -/
def tIsV (i : Nat) (a : Addr) (d : Option Addr) (b : Bool) : TE := fun σ H Q => σ[i]? = some (some (.ref a)) ∧ XdAt d H ∧ Q (.bl b) H
section
variable {X : Cx} {D : Str} {d : Option Addr} {p : Addr × Obj} {i : Nat} {y x : Str} {py px pp pos : Pos}
theorem pe_isV {c : V} {cv : Value} {b : Bool} (N : ErN X.K X.mg D) (hp : p ∈ X.pn) (hz : Zc (.ref (He.ga X.K D)) d p.2) (hf : ∃ vs, p.2.data = .fields vs) (hm : X.mg "isinstance" = none) (hg : Gl X "isinstance") (hy : PE X (.Name y py) (tVar i)) (hx : PE X (.Name x px) (tC c))
    (hcv : ∀ u, RelV c u → u = cv) (hk : PySem.W.kitOne X.K (.ref (He.ga X.K D)) cv = some b) : PE X (.Call (.Name "isinstance" pp) [.Name y py, .Name x px] [] pos) (tIsV i p.1 d b) := by
  have P := pe_callB (x := "isinstance") (p := pp) (pos := pos) (call_isP N.ec hp hz hf) hg hm (by decide +kernel) (pa_cons hy (pa_cons hx pa_nil))
  refine ⟨fun pins s σ H Q I h => P.run pins s σ H Q I ?_⟩
  obtain ⟨h1, h2, h3⟩ := h
  exact ⟨_, h1, ⟨c, cv, b, rfl, hcv, hk, h2, h3⟩⟩
theorem pe_isE (N : ErN X.K X.mg D) (hp : p ∈ X.pn) (hz : Zc (.ref (He.ga X.K D)) d p.2) (hf : ∃ vs, p.2.data = .fields vs) (hm : X.mg "isinstance" = none) (hg : Gl X "isinstance") (hy : PE X (.Name y py) (tVar i)) (hgx : Gl X x) (hx : x ∈ errNames := by decide) (hd : (x == ("__debug__" : Str)) = false := by decide) :
    PE X (.Call (.Name "isinstance" pp) [.Name y py, .Name x px] [] pos) (tIsV i p.1 d (decide (x = D))) :=
  pe_isV (c := .ref (He.ga X.K x)) N hp hz hf hm hg hy (pe_glob hgx (N.g x hx) (show RelV (.ref (He.ga X.K x)) _ from rfl) hd) (fun _ r => r) (N.k x hx)
theorem pe_isH (N : ErN X.K X.mg D) (hp : p ∈ X.pn) (hz : Zc (.ref (He.ga X.K D)) d p.2) (hf : ∃ vs, p.2.data = .fields vs) (hm : X.mg "isinstance" = none) (hg : Gl X "isinstance") (hy : PE X (.Name y py) (tVar i)) (hgx : Gl X "HeldorderError") :
    PE X (.Call (.Name "isinstance" pp) [.Name y py, .Name "HeldorderError" px] [] pos) (tIsV i p.1 d true) :=
  pe_isV (c := .ref (He.ga X.K "HeldorderError")) N hp hz hf hm hg hy (pe_glob hgx N.gH (show RelV (.ref (He.ga X.K "HeldorderError")) _ from rfl)) (fun _ r => r) N.kH
theorem pe_isVE (N : ErN X.K X.mg D) (hp : p ∈ X.pn) (hz : Zc (.ref (He.ga X.K D)) d p.2) (hf : ∃ vs, p.2.data = .fields vs) (hm : X.mg "isinstance" = none) (hg : Gl X "isinstance") (hy : PE X (.Name y py) (tVar i)) (hgx : Gl X "ValueError") :
    PE X (.Call (.Name "isinstance" pp) [.Name y py, .Name "ValueError" px] [] pos) (tIsV i p.1 d true) :=
  pe_isV (c := .ty "ValueError") N hp hz hf hm hg hy (pe_bltn hgx N.gV (by decide +kernel) (show RelV (.ty "ValueError") _ from rfl)) (fun _ r => r) N.kV
end
theorem a_isV {i : Nat} {a : Addr} {d : Option Addr} {b : Bool} {σ : L2.St} {H : Hp} {Q : VK} : tIsV i a d b σ H Q = (σ[i]? = some (some (.ref a)) ∧ XdAt d H ∧ Q (.bl b) H) := rfl
theorem a_lcH {K : PySem.W.Frag} {tl : TE} {g : TG} {tt : TT} {te : TE} {vs : List Nat} {σ : L2.St} {H : Hp} {Q : VK} : tLcH K tl g tt te vs σ H Q = tl σ H fun x H1 => ∃ (a : Addr) (xs : List V), x = .ref a ∧ SqL K H1 a xs ∧ ∀ D, H1 D = none → ∃ acc : Nat → List V, acc 0 = [] ∧
  (∀ i y, xs[i]? = some y → (acc i).length < sizeLine ∧ g y (wipe σ vs) (upd H1 D (.lst (acc i))) fun σ2 H2 => wipe σ2 vs = wipe σ vs ∧ tt σ2 H2 fun b H3 => if b = true then te σ2 H3 fun z H4 => H4 = upd H1 D (.lst (acc i)) ∧ acc (i + 1) = acc i ++ [z] else H3 = upd H1 D (.lst (acc i)) ∧ acc (i + 1) = acc i) ∧
  Q (.ref D) (upd H1 D (.lst (acc xs.length))) := rfl

/-! ## HoH -/
def clsFn : Stmt → Nat → Stmt
  | .ClassDef (body := b) .., i => b.getD i (.Pass ⟨0, 0, 0, 0⟩)
  | s, _ => s
section
variable {K : PySem.W.Frag} {C : Addr}
theorem andB {a b : Bool} (h : (a && b) = true) : a = true ∧ b = true := Bool.and_eq_true_iff.mp h
def oexL (K : PySem.W.Frag) (C : Addr) : Bool := match K.lookup C with
  | some ⟨.type t, _, .cls cd, sl⟩ => (match cd.mro, sl.toList with
    | .ref C' :: bm, [_, _, _, _, some (.builtin n), _] => decide (t = "type") && (decide (C' = C) && (decide (n = "ValueError.__new__") && (!cd.hasDel && (cd.hasDict && PySem.HandSPX.refsVE bm))))
    | _, _ => false)
  | _ => false
theorem oexL_ok (q : oexL K C = true) : ∃ nm qn N bs bm sn sub ab col dd k0 k1 k2 k3 k5, K.lookup C = some (excClassObj nm qn C N bs bm true sn sub ab col dd k0 k1 k2 k3 k5 "ValueError.__new__") ∧ PySem.HandSPX.refsVE bm = true := by
  unfold oexL at q
  split at q
  · rename_i t dd cd sl ho
    split at q
    · rename_i C' bm k0 k1 k2 k3 n k5 hm hs
      obtain ⟨h0, q⟩ := andB q
      obtain ⟨h1, q⟩ := andB q
      obtain ⟨h2, q⟩ := andB q
      obtain ⟨hdel, q⟩ := andB q
      obtain ⟨hdi, ht⟩ := andB q
      obtain rfl := of_decide_eq_true h0
      obtain rfl := of_decide_eq_true h1
      obtain rfl := of_decide_eq_true h2
      rw [Bool.not_eq_true'] at hdel
      obtain ⟨nm, bs, mro, ns, qn, hd, sn, sub, ab, col, del⟩ := cd
      dsimp only at hm hdel hdi
      subst hm hdel hdi
      have hsl : sl = #[k0, k1, k2, k3, some (.builtin "ValueError.__new__"), k5] := by
        obtain ⟨l⟩ := sl
        simp only at hs
        rw [hs]
      subst hsl
      exact ⟨nm, qn, ns, bs, bm, sn, sub, ab, col, dd, k0, k1, k2, k3, k5, ho, ht⟩
    · cases q
  · cases q
def oexB (K : PySem.W.Frag) (C : Addr) : Bool := oexL K C && (He.eqO (PySem.W.findIn K (.ref C) "__setattr__") (some (some (.builtin "object.__setattr__"))) && (decide (PySem.W.subIn K (.ref C) (.type "BaseException") = some true) && (decide (PySem.W.typeIn K (.ref C) = some (.type "type")) && PySem.W.keepIn K (.ref C))))
theorem oexB_ok (q : oexB K C = true) : OexC K C := by
  obtain ⟨h0, q⟩ := andB q
  obtain ⟨h1, q⟩ := andB q
  obtain ⟨h2, q⟩ := andB q
  obtain ⟨h3, h4⟩ := andB q
  exact ⟨oexL_ok h0, He.eqO_ok h1, of_decide_eq_true h2, of_decide_eq_true h3, h4⟩
def excCB (K : PySem.W.Frag) (D : Addr) : Bool := He.eqO (PySem.W.findIn K (.ref D) "__getattribute__") (some (some (.builtin "BaseException.__getattribute__"))) && (He.eqO (PySem.W.findIn K (.ref D) "__getattr__") (some none) && (decide (PySem.W.subIn K (.ref D) (.type "BaseException") = some true) && (PySem.W.hasDictIn K D && (He.eqO (PySem.W.findIn K (.ref D) "__class__") (some (some (.builtin "object.__class__"))) &&
  (He.eqO (PySem.W.specialIn K (.builtin "object.__class__") "__get__") (some (some (.builtin "getset_descriptor.__get__"))) && (decide (PySem.W.takesIn K (.builtin "object.__class__") = some true) && decide (PySem.W.mroIn K D (.type "object") = some true)))))))
theorem excCB_ok (q : excCB K C = true) : ExcC K C := by
  obtain ⟨h0, q⟩ := andB q
  obtain ⟨h1, q⟩ := andB q
  obtain ⟨h2, q⟩ := andB q
  obtain ⟨h3, q⟩ := andB q
  obtain ⟨h4, q⟩ := andB q
  obtain ⟨h5, q⟩ := andB q
  obtain ⟨h6, h7⟩ := andB q
  exact ⟨He.eqO_ok h0, He.eqO_ok h1, of_decide_eq_true h2, h3, He.eqO_ok h4, He.eqO_ok h5, of_decide_eq_true h6, of_decide_eq_true h7⟩
end
/-- an own error class's __init__, as the text has it -/
structure IniD where
  cls : Str
  qual : Str
  params : Arguments
  body : List Stmt
  scope : Scope
  flds : List Str
abbrev IniW : Type := Option (Str × Str × Arguments × FuncBody × Scope × Addr × Addr)
def iniAd (K : PySem.W.Frag) (d : IniD) : Addr := He.ma K (He.ga K d.cls) "__init__"
def iniW (K : PySem.W.Frag) (d : IniD) : IniW := match K.lookup (iniAd K d) with
  | some ⟨_, _, .func fd, _⟩ => some (fd.name, fd.qualname, fd.params, fd.body, fd.scope, fd.globals, fd.builtins)
  | _ => none
def IniD.val (d : IniD) : IniW := some ("__init__", d.qual, d.params, .stmts d.body, d.scope, mainGlobals, builtinsNs)
def isNon : Value → Bool
  | .none => true
  | _ => false
def fileB (K : PySem.W.Frag) (file : Str) : Value → Bool
  | .ref c => (match K.lookup c with
    | some ⟨_, _, .fields vs, _⟩ => (match (vs[2]? : Option Value) with
      | some (Value.str f _) => decide (f = file)
      | _ => false)
    | _ => false)
  | _ => false
def closB (K : PySem.W.Frag) (C : Addr) : List (Str × Addr) → Bool
  | [(n, c)] => decide (n = "__class__") && (match K.lookup c with
    | some ⟨_, _, .cell (some (.ref D)), _⟩ => decide (D = C)
    | _ => false)
  | _ => false
def fnB (K : PySem.W.Frag) (file : Str) (d : IniD) : Bool := match K.lookup (iniAd K d) with
  | some ⟨_, _, .func fd, _⟩ => isNon fd.defaults && (PySem.W.codeIn K fd.code d.qual && (fileB K file fd.code && closB K (He.ga K d.cls) fd.closure))
  | _ => false
/-- all that is asked of a class that is made -/
def IniD.ok (K : PySem.W.Frag) (file : Str) (d : IniD) : Bool := fnB K file d && (oexB K (He.ga K d.cls) && (xfB K (He.ga K d.cls) && (excCB K (He.ga K d.cls) && (He.eqO (PySem.W.findIn K (.ref (He.ga K d.cls)) "__init__") (some (some (.ref (iniAd K d)))) && (decide (PySem.W.typeIn K (.ref (iniAd K d)) = some (.type "function")) &&
  (He.eqO (PySem.W.ks_superIn K (He.ga K d.cls) (He.ga K d.cls) "__init__") (some (some (.builtin "ValueError.__init__"))) && (decide (PySem.W.subIn K (.ref (He.ga K d.cls)) (.type "ValueError") = some true) && (decide (PySem.W.mroIn K (He.ga K d.cls) (.ref (He.ga K d.cls)) = some true) && d.flds.all fun f => He.eqO (PySem.W.findIn K (.ref (He.ga K d.cls)) f) (some none)))))))))
/-- the names -/
def namesB (K : PySem.W.Frag) : Bool := He.eqO (PySem.W.nsIn K cStatics "thirdparty.any") (some none) && (He.eqO (PySem.W.nsIn K mainGlobals "HeldorderError") (some (some (.ref (He.ga K "HeldorderError")))) && errNames.all fun x => He.eqO (PySem.W.nsIn K mainGlobals x) (some (some (.ref (He.ga K x)))))
/-- a class told from the others -/
def kitsB (K : PySem.W.Frag) (D : Str) : Bool := decide (PySem.W.kitOne K (.ref (He.ga K D)) (.ref (He.ga K "HeldorderError")) = some true) && (decide (PySem.W.kitOne K (.ref (He.ga K D)) (.type "ValueError") = some true) && (decide (PySem.W.exmOne K (.ref (He.ga K D)) (.ref (He.ga K "HeldorderError")) = some true) && errNames.all fun x => decide (PySem.W.kitOne K (.ref (He.ga K D)) (.ref (He.ga K x)) = some (decide (x = D)))))
/-! the Hook -/
abbrev AlE : Type := He.AlD × (Bool × List IniW)
def obsI (file : Str) (di : List IniD) (ks : List Str) (K : PySem.W.Frag) : Bool × List IniW := ((namesB K && ks.all fun x => kitsB K x) && di.all fun d => d.ok K file, di.map fun d => iniW K d)
def obsE (fa : List He.Fa) (fn : List He.DefD) (file : Str) (di : List IniD) (ks : List Str) (K : PySem.W.Frag) : AlE := (He.obsD fa fn K, obsI file di ks K)
def valE (fn : List He.DefD) (di : List IniD) : AlE := (He.valD fn, (true, di.map IniD.val))
def SaysE (fa : List He.Fa) (fn : List He.DefD) (file : Str) (di : List IniD) (ks : List Str) (K : PySem.W.Frag) : Prop := obsE fa fn file di ks K = valE fn di
/-- the addresses that are looked at: the names' objects, the functions' codes, the error classes with their namespaces and __init__ -/
def nsRef (g : Addr → Option Obj) (ns : Addr) (x : Str) : List Addr := match g ns with
  | some ⟨_, _, .dict es _, _⟩ => (match es.toList.find? (·.key.isStr x) with
    | some e => He.refV e.val
    | none => [])
  | _ => []
def fnRef (g : Addr → Option Obj) (a : Addr) : List Addr := match g a with
  | some ⟨_, _, .func fd, _⟩ => a :: (He.refV fd.code ++ fd.closure.map (·.2))
  | _ => [a]
def clsRef (g : Addr → Option Obj) (a : Addr) : List Addr := match g a with
  | some ⟨_, _, .cls cd, _⟩ => a :: cd.ns :: (nsRef g cd.ns "__init__").flatMap (fnRef g)
  | _ => [a]
def asE (g : Addr → Option Obj) (fn : List He.DefD) (ks : List Str) : List Addr := mainGlobals :: cStatics :: (fn.flatMap fun d => (nsRef g mainGlobals d.name).flatMap (fnRef g)) ++ ((("HeldorderError" : Str) :: ks).flatMap fun x => (nsRef g mainGlobals x).flatMap (clsRef g)) ++ errNames.flatMap (nsRef g mainGlobals)
def obsEG (fa : List He.Fa) (fn : List He.DefD) (file : Str) (di : List IniD) (ks : List Str) (g : Addr → Option Obj) : AlE := obsE fa fn file di ks (He.frG g (asE g fn ks))
def hookE (fa : List He.Fa) (fn : List He.DefD) (file : Str) (di : List IniD) (ks : List Str) : PySem.W.Hook where
  α := AlE
  obs := fun s => obsEG fa fn file di ks s.heap.get?
  val := fun _ => valE fn di
  says := fun _ h => ∃ K : PySem.W.Frag, K.In h ∧ SaysE fa fn file di ks K
  of := fun _ _ e => ⟨_, He.frG_in, e⟩
  keeps := fun _ _ _ ⟨K, hK, c⟩ k => ⟨K, PySem.W.Frag.In.keeps hK k, c⟩
theorem obsEG_eq {fa : List He.Fa} {fn : List He.DefD} {file : Str} {di : List IniD} {ks : List Str} {g : Addr → Option Obj} {s : Shared} (h : ∀ a, g a = s.heap.get? a) : obsEG fa fn file di ks g = (hookE fa fn file di ks).obs s := by
  have e : g = s.heap.get? := funext h
  rw [e] <;> rfl
section
variable {fa : List He.Fa} {fn : List He.DefD} {file : Str} {di : List IniD} {ks : List Str} {K : PySem.W.Frag} {h : Heap} {mg : Str → Option Value}
theorem SaysE.d (c : SaysE fa fn file di ks K) : He.SaysD fa fn K := congrArg (fun z : AlE => z.1) c
theorem SaysE.b (c : SaysE fa fn file di ks K) : (namesB K && ks.all fun x => kitsB K x) = true ∧ (di.all fun d => d.ok K file) = true := andB (show ((namesB K && ks.all fun x => kitsB K x) && di.all fun d => d.ok K file) = true from congrArg (fun z : AlE => z.2.1) c)
theorem SaysE.names (c : SaysE fa fn file di ks K) : namesB K = true := (andB c.b.1).1
theorem SaysE.kit (c : SaysE fa fn file di ks K) {x : Str} (hx : x ∈ ks) : kitsB K x = true := List.all_eq_true.mp (andB c.b.1).2 x hx
theorem SaysE.gH (c : SaysE fa fn file di ks K) (X : K.In h) (G : h.Ns mainGlobals mg) : mg "HeldorderError" = some (.ref (He.ga K "HeldorderError")) := PySem.W.mg_of X G (He.eqO_ok (andB (andB c.names).2).1)
theorem SaysE.g (c : SaysE fa fn file di ks K) (X : K.In h) (G : h.Ns mainGlobals mg) (x : Str) (hx : x ∈ errNames) : mg x = some (.ref (He.ga K x)) := PySem.W.mg_of X G (He.eqO_ok (List.all_eq_true.mp (andB (andB c.names).2).2 x hx))
theorem SaysE.exm (c : SaysE fa fn file di ks K) {x : Str} (hx : x ∈ ks) : PySem.W.exmOne K (.ref (He.ga K x)) (.ref (He.ga K "HeldorderError")) = some true := of_decide_eq_true (andB (andB (andB (c.kit hx)).2).2).1
theorem SaysE.ini (c : SaysE fa fn file di ks K) (i : Nat) {d : IniD} (hd : di[i]? = some d) : iniW K d = d.val ∧ d.ok K file = true := by
  have e : di.map (fun d => iniW K d) = di.map IniD.val := congrArg (fun z : AlE => z.2.2) c
  have e2 : (di.map fun d => iniW K d)[i]? = (di.map IniD.val)[i]? := by rw [e]
  rw [List.getElem?_map, List.getElem?_map, hd] at e2
  exact ⟨Option.some.inj e2, List.all_eq_true.mp c.b.2 d (List.mem_of_getElem? hd)⟩
theorem SaysE.erN (c : SaysE fa fn file di ks K) (X : K.In h) (G : h.Ns mainGlobals mg) (hV : mg "ValueError" = none) {i : Nat} {d : IniD} (hd : di[i]? = some d) (hx : d.cls ∈ ks) : ErN K mg d.cls := by
  have k := c.kit hx
  obtain ⟨k1, k⟩ := andB k
  obtain ⟨k2, k⟩ := andB k
  obtain ⟨k3, k4⟩ := andB k
  obtain ⟨_, o⟩ := c.ini i hd
  exact ⟨c.g X G, c.gH X G, hV, fun x hx => of_decide_eq_true (List.all_eq_true.mp k4 x hx), of_decide_eq_true k1, of_decide_eq_true k2, excCB_ok (andB (andB (andB (andB o).2).2).2).1⟩
/-- the class's __init__ stands as fn_super asks; it binds its parameters -/
theorem SaysE.sup {P : Program} (c : SaysE fa fn file di ks K) (hfile : P.main.file = file) (htop : (P.main.scope.names.lookup ("super" : Str)).isSome = false) (hsu : mg "super" = none) {i : Nat} {d : IniD} (hd : di[i]? = some d) {ps : List Str}
    (hb : ∀ (kV doc pm : Value) (an : Option Addr) (cdv ct : Value) (cc : Addr) (us : List Value), us.length = ps.length → bindArgs (PySem.W.ksFn "__init__" d.qual d.params d.body d.scope .none kV doc pm an cdv ct cc) ⟨us, []⟩ = pure (ps.zip us)) :
    ∃ cc cda fd, SupTxt P K mg (He.ga K d.cls) (iniAd K d) cc cda "__init__" d.qual d.params d.body d.scope fd ∧ Binds K fd ps [] ∧ PySem.W.findIn K (.ref (He.ga K d.cls)) "__init__" = some (some (.ref (iniAd K d))) ∧ PySem.W.typeIn K (.ref (iniAd K d)) = some (.type "function") ∧
      OexC K (He.ga K d.cls) ∧ XfC K (He.ga K d.cls) ∧ ExcC K (He.ga K d.cls) ∧ ∀ f ∈ d.flds, PySem.W.findIn K (.ref (He.ga K d.cls)) f = some none := by
  obtain ⟨e, o⟩ := c.ini i hd
  obtain ⟨b1, o⟩ := andB o
  obtain ⟨b2, o⟩ := andB o
  obtain ⟨b3, o⟩ := andB o
  obtain ⟨b4, o⟩ := andB o
  obtain ⟨b5, o⟩ := andB o
  obtain ⟨b6, o⟩ := andB o
  obtain ⟨b7, o⟩ := andB o
  obtain ⟨b8, o⟩ := andB o
  obtain ⟨b9, b10⟩ := andB o
  unfold fnB at b1
  unfold iniW at e
  cases q : K.lookup (iniAd K d) with
  | none =>
    rw [q] at b1
    cases b1
  | some ob =>
    obtain ⟨oc, od, dt, osl⟩ := ob
    rw [q] at b1 e
    cases dt with
    | func fd =>
      obtain ⟨n1, n2, n3, n4, n5, n6, n7, n8, n9, n10, n11, n12, n13, n14, n15⟩ := fd
      have e2 : (some (n1, n2, n3, n4, n5, n6, n15) : IniW) = some (("__init__" : Str), d.qual, d.params, FuncBody.stmts d.body, d.scope, mainGlobals, builtinsNs) := e
      simp only [Option.some.injEq, Prod.mk.injEq] at e2
      obtain ⟨h1, h2, h3, h4, h5, h6, h8⟩ := e2
      subst h1 h2 h3 h4 h5 h6 h8
      have b1' : (isNon n8 && (PySem.W.codeIn K n13 d.qual && (fileB K file n13 && closB K (He.ga K d.cls) n7))) = true := b1
      have c1 := (andB b1').1
      have c2 := (andB (andB b1').2).1
      have c3 := (andB (andB (andB b1').2).2).1
      have c4 := (andB (andB (andB b1').2).2).2
      clear b1' b1
      have e8 : n8 = .none := by
        cases n8 <;> first | rfl | cases c1
      subst e8
      have hcl : ∃ cc, n7 = [(("__class__" : Str), cc)] ∧ ∃ (cl : Value) (cld : Option Addr) (csl : Array (Option Value)), K.lookup cc = some ⟨cl, cld, .cell (some (.ref (He.ga K d.cls))), csl⟩ := by
        unfold closB at c4
        split at c4
        · rename_i n cc
          obtain ⟨a1, a2⟩ := andB c4
          obtain rfl := of_decide_eq_true a1
          split at a2
          · rename_i cl cld D csl lk
            obtain rfl := of_decide_eq_true a2
            exact ⟨cc, rfl, _, _, _, lk⟩
          · cases a2
        · cases c4
      obtain ⟨cc, rfl, hcell⟩ := hcl
      have hco : ∃ cda, n13 = .ref cda ∧ ∃ (ccl : Value) (cdd : Option Addr) (vs : Array Value) (ccs : Array (Option Value)) (file' : Str) (tf : Tok), K.lookup cda = some ⟨ccl, cdd, .fields vs, ccs⟩ ∧ vs[2]? = some (.str file' tf) ∧ ((P.main.file : Str) == file') = true := by
        unfold fileB at c3
        split at c3
        · rename_i cda
          split at c3
          · rename_i ccl cdd vs ccs lk
            split at c3
            · rename_i f tf hv
              have := of_decide_eq_true c3
              exact ⟨cda, rfl, _, _, _, _, f, tf, lk, hv, by rw [hfile, this]; exact beq_self_eq_true _⟩
            · cases c3
          · cases c3
        · cases c3
      obtain ⟨cda, rfl, hco⟩ := hco
      have hn := (andB c.names).1
      exact ⟨cc, cda, _, ⟨⟨oc, od, _, n9, n10, n11, n14, n12, osl, rfl, q⟩, c2, hco, hcell, hsu, htop, oexB_ok b2, He.eqO_ok b7, of_decide_eq_true b8, He.eqO_ok hn, of_decide_eq_true b9⟩, Binds.all fun us hl => hb _ _ _ _ _ _ _ us hl, He.eqO_ok b5, of_decide_eq_true b6, oexB_ok b2, xfB_ok b3, excCB_ok b4, fun f hf => He.eqO_ok (List.all_eq_true.mp b10 f hf)⟩
    | _ => cases b1
end

/-! ## T1 -/
def topS (i : Nat) : Stmt := PySem.Challenge.pw_heldorder_k51_the_swap_path_turns_two_ro.main.body.getD i (.Pass ⟨0, 0, 0, 0⟩)
local macro_rules | `(tactic| walk_at "wp") => `(tactic| (try simp only [a_var, a_c, a_op, a_un, a_test, a_b, a_and, a_or, a_not, a_andV, a_orV, a_notV, a_if, a_next, a_seq, a_break, a_cont, a_drop, a_ret, a_retN, a_ifS, a_asg, a_name, a_sub, a_nil, a_cons, a_tup, a_lst, a_call, a_cb, a_bm0, a_bm, a_sl, a_nopart, a_part, a_aug, b_rI, b_rI0, b_rU, b_eq, b_ne, b_isTF, b_int, b_intb, b_list, b_tuple, b_ix, b_len, b_setL, b_app, b_pop, b_popAt, b_sl, b_rep, b_cat, b_lstRg, b_tupRg, b_rg1, b_rg2, a_forR, a_forR2, a_forS, b_fsq, a_lcR, a_lcR2, a_lcS, b_csq, wipe_nil, wipe_cons, a_yes, wh_i, wh_s, wh_b, wh_r, wh_n, Bool.not_eq_true, eq_self, not_true_eq_false, not_false_eq_true, b_isi, kb_all, ty_non, ty_bl, ty_int, ty_str, a_m1, b_ixS, b_slS, List.cons.injEq, and_assoc, exists_and_left, cxK, List.getElem?_cons_zero, List.getElem?_cons_succ, List.set_cons_zero, List.set_cons_succ, Option.some.injEq, exists_eq_left', exists_eq_left, V.bl.injEq, V.int.injEq, V.ref.injEq, V.str.injEq, HO.lst.injEq, HO.tup.injEq, decide_eq_true_eq, true_and, and_true, L2.start, List.map_cons, List.map_nil, List.length_cons, List.length_nil, Nat.zero_add, Nat.reduceAdd, Nat.reduceSub, List.replicate_succ, List.replicate_zero, List.cons_append, List.nil_append, if_true, if_false, Bool.false_eq_true, Bool.not_true, Bool.not_false, decide_not, Bool.not_eq_true', decide_eq_false_iff_not, scal_ii, scal_bb, scal_ss, scal_is, scal_si, reduceCtorEq, Bool.true_eq_false, decide_false, decide_true, if_pos, ne_eq, Int.reduceNeg, atI_0, atI_1, atI_2, atI_3, atI_4, atI_5, atI_6, ixN_7, b_ins, a_revL, b_isT, V.ty.injEq, Bool.true_or, Bool.or_true, Bool.false_or, Bool.or_false, Bool.or_self, b_sorted, b_repT]))
local macro_rules | `(tactic| walk_at "wps") => `(tactic| (try simp only [a_var, a_c, a_op, a_un, a_test, a_b, a_and, a_or, a_not, a_andV, a_orV, a_notV, a_if, a_next, a_seq, a_break, a_cont, a_drop, a_ret, a_retN, a_ifS, a_asg, a_name, a_sub, a_nil, a_cons, a_tup, a_lst, a_call, a_cb, a_bm0, a_bm, a_sl, a_nopart, a_part, a_aug, b_rI, b_rI0, b_rU, b_eq, b_ne, b_isTF, b_int, b_intb, b_list, b_tuple, b_ix, b_len, b_setL, b_app, b_pop, b_popAt, b_sl, b_rep, b_cat, b_lstRg, b_tupRg, b_rg1, b_rg2, a_forR, a_forR2, a_forS, b_fsq, a_lcR, a_lcR2, a_lcS, b_csq, wipe_nil, wipe_cons, a_yes, wh_i, wh_s, wh_b, wh_r, wh_n, Bool.not_eq_true, eq_self, not_true_eq_false, not_false_eq_true, b_isi, kb_all, ty_non, ty_bl, ty_int, ty_str, a_m1, b_ixS, b_slS, List.cons.injEq, and_assoc, exists_and_left, cxK, List.getElem?_cons_zero, List.getElem?_cons_succ, List.set_cons_zero, List.set_cons_succ, Option.some.injEq, exists_eq_left', exists_eq_left, V.bl.injEq, V.int.injEq, V.ref.injEq, V.str.injEq, HO.lst.injEq, HO.tup.injEq, decide_eq_true_eq, true_and, and_true, L2.start, List.map_cons, List.map_nil, List.length_cons, List.length_nil, Nat.zero_add, Nat.reduceAdd, Nat.reduceSub, List.replicate_succ, List.replicate_zero, List.cons_append, List.nil_append, if_true, if_false, Bool.false_eq_true, Bool.not_true, Bool.not_false, decide_not, Bool.not_eq_true', decide_eq_false_iff_not, scal_ii, scal_bb, scal_ss, scal_is, scal_si, reduceCtorEq, Bool.true_eq_false, decide_false, decide_true, if_pos, ne_eq, Int.reduceNeg, atI_0, atI_1, atI_2, atI_3, atI_4, atI_5, atI_6, ixN_7, b_ins, a_revL, b_isT, V.ty.injEq, Bool.true_or, Bool.or_true, Bool.false_or, Bool.or_false, Bool.or_self, b_sorted, b_repT, *]))
local macro_rules | `(tactic| walk_at "wq") => `(tactic| (try simp only [a_var, a_c, a_op, a_un, a_test, a_b, a_and, a_or, a_not, a_andV, a_orV, a_notV, a_if, a_next, a_break, a_cont, a_drop, a_ret, a_retN, a_ifS, a_asg, a_name, a_sub, a_nil, a_cons, a_tup, a_lst, a_call, a_cb, a_bm0, a_bm, a_sl, a_nopart, a_part, a_aug, b_rI, b_rI0, b_rU, b_eq, b_ne, b_isTF, b_int, b_intb, b_list, b_tuple, b_ix, b_len, b_setL, b_app, b_pop, b_popAt, b_sl, b_rep, b_cat, b_lstRg, b_tupRg, b_rg1, b_rg2, a_forR, a_forR2, a_forS, b_fsq, a_lcR, a_lcR2, a_lcS, b_csq, wipe_nil, wipe_cons, a_yes, wh_i, wh_s, wh_b, wh_r, wh_n, Bool.not_eq_true, eq_self, not_true_eq_false, not_false_eq_true, b_isi, kb_all, ty_non, ty_bl, ty_int, ty_str, a_m1, b_ixS, b_slS, List.cons.injEq, and_assoc, exists_and_left, cxK, List.getElem?_cons_zero, List.getElem?_cons_succ, List.set_cons_zero, List.set_cons_succ, Option.some.injEq, exists_eq_left', exists_eq_left, V.bl.injEq, V.int.injEq, V.ref.injEq, V.str.injEq, HO.lst.injEq, HO.tup.injEq, decide_eq_true_eq, true_and, and_true, L2.start, List.map_cons, List.map_nil, List.length_cons, List.length_nil, Nat.zero_add, Nat.reduceAdd, Nat.reduceSub, List.replicate_succ, List.replicate_zero, List.cons_append, List.nil_append, if_true, if_false, Bool.false_eq_true, Bool.not_true, Bool.not_false, decide_not, Bool.not_eq_true', decide_eq_false_iff_not, scal_ii, scal_bb, scal_ss, scal_is, scal_si, reduceCtorEq, Bool.true_eq_false, decide_false, decide_true, if_pos, ne_eq, Int.reduceNeg, atI_0, atI_1, atI_2, atI_3, atI_4, atI_5, atI_6, ixN_7, b_ins, a_revL, b_isT, V.ty.injEq, Bool.true_or, Bool.or_true, Bool.false_or, Bool.or_false, Bool.or_self, b_sorted, b_repT, *]))
local macro_rules | `(tactic| walk_at "wn") => `(tactic| (try simp only [a_var, a_c, a_op, a_un, a_test, a_b, a_and, a_or, a_not, a_andV, a_orV, a_notV, a_if, a_next, a_break, a_cont, a_drop, a_ret, a_retN, a_ifS, a_asg, a_name, a_sub, a_nil, a_cons, a_tup, a_lst, a_call, a_cb, a_bm0, a_bm, a_sl, a_nopart, a_part, a_aug, b_rI, b_rI0, b_rU, b_eq, b_ne, b_isTF, b_int, b_intb, b_list, b_tuple, b_ix, b_len, b_setL, b_app, b_pop, b_popAt, b_sl, b_rep, b_cat, b_lstRg, b_tupRg, b_rg1, b_rg2, a_forR, a_forR2, a_forS, b_fsq, a_lcR, a_lcR2, a_lcS, b_csq, wipe_nil, wipe_cons, a_yes, wh_i, wh_s, wh_b, wh_r, wh_n, Bool.not_eq_true, eq_self, not_true_eq_false, not_false_eq_true, b_isi, kb_all, ty_non, ty_bl, ty_int, ty_str, a_m1, b_ixS, b_slS, List.cons.injEq, and_assoc, exists_and_left, cxK, List.getElem?_cons_zero, List.getElem?_cons_succ, List.set_cons_zero, List.set_cons_succ, Option.some.injEq, exists_eq_left', exists_eq_left, V.bl.injEq, V.int.injEq, V.ref.injEq, V.str.injEq, HO.lst.injEq, HO.tup.injEq, decide_eq_true_eq, true_and, and_true, L2.start, List.map_cons, List.map_nil, List.length_cons, List.length_nil, Nat.zero_add, Nat.reduceAdd, Nat.reduceSub, List.replicate_succ, List.replicate_zero, List.cons_append, List.nil_append, if_true, if_false, Bool.false_eq_true, Bool.not_true, Bool.not_false, decide_not, Bool.not_eq_true', decide_eq_false_iff_not, scal_ii, scal_bb, scal_ss, scal_is, scal_si, reduceCtorEq, Bool.true_eq_false, decide_false, decide_true, if_pos, ne_eq, Int.reduceNeg, atI_0, atI_1, atI_2, atI_3, atI_4, atI_5, atI_6, ixN_7, b_ins, a_revL, b_isT, V.ty.injEq, Bool.true_or, Bool.or_true, Bool.false_or, Bool.or_false, Bool.or_self, b_sorted, b_repT]))
local macro_rules | `(tactic| walk_at "sq") => `(tactic| ((try dsimp only); rw [a_seq]; walk_at "wq"))

section
variable {P : Program} {w : World} {K : PySem.W.Frag} {mg : Str → Option Value} {base : Heap}

def sp_mixed : Sp := fun vs H Q _ => ∃ a b : Int, vs = [.int a, .int b] ∧ ∀ r, Q (.int r) H
abbrev st_law_mixed : Stmt := topS 50
theorem sc_law_mixed : FnScope ["seed", "turn", "first", "second"] ["seed", "turn"] (defScope st_law_mixed) := ⟨rfl, rfl, rfl, by decide +kernel, rfl, by decide +kernel, by decide +kernel⟩
theorem ok_law_mixed (D : Df K mg "_law_mixed" st_law_mixed) (T : NoB mg)  : Cl P w K mg base 1 "_law_mixed" ["seed", "turn"] sp_mixed := by
  refine cl_of D sc_law_mixed (fun _ _ _ _ _ _ us hl => match us, hl with | [_, _], _ => rfl) (fun vs H Q E h => ?_) (fun f cdv A outer sh H vs Q E hr h => ?_)
  · obtain ⟨_, _, rfl, _⟩ := h; rfl
  obtain ⟨a, b, rfl, k⟩ := h
  refine ⟨_, (pss_cons (ps_set (i := 2) sc_law_mixed.nd rfl (Or.inl rfl) (pe_op op_modN (pe_callTy int1 (by rfl) T.no_int (by decide +kernel) (pa_cons (pe_op op_add (pe_op op_add (pe_op op_mul (pv 0) pe_int) (pe_op op_mul (pv 1) pe_int)) pe_int) pa_nil)) pe_int))
    (pss_cons (ps_set (i := 3) sc_law_mixed.nd rfl (Or.inl rfl) (pe_op op_modN (pe_callTy int1 (by rfl) T.no_int (by decide +kernel) (pa_cons (pe_op op_add (pe_op op_add (pe_op op_mul (pv 2) (pv 2)) (pe_op op_mul (pv 0) pe_int)) (pv 1)) pa_nil)) pe_int))
    (pss_one (ps_ret (pe_op op_modN (pe_callTy int1 (by rfl) T.no_int (by decide +kernel) (pa_cons (pe_op op_add (pe_op op_mul (pv 3) (pv 3)) (pv 2)) pa_nil)) pe_int))))), ?_⟩
  walk_at "wp"
  exact ⟨cm_lit (by decide), cm_lit (by decide), by decide, cm_fm (by decide) (by decide), cm_lit (by decide), by decide, cm_fm (by decide) (by decide), by decide, k _⟩

def sp_take : Sp := fun vs H Q _ => ∃ (s l : Addr) (n : Int), vs = [.ref s, .int n] ∧ n < 2 ^ 62 ∧ Sto s l H ∧ ∀ r H', Ge s l H H' → 0 ≤ r → (2 ≤ n → r < n) → (n < 2 → r = 0) → Q (.int r) H'

abbrev st_law_take : Stmt := topS 51
theorem sc_law_take : FnScope ["store", "many", "cell", "digit"] ["store", "many"] (defScope st_law_take) := ⟨rfl, rfl, rfl, by decide +kernel, rfl, by decide +kernel, by decide +kernel⟩
theorem ok_law_take (D : Df K mg "_law_take" st_law_take) (T : NoB mg) (C_law_mixed : Cl P w K mg base 1 "_law_mixed" ["seed", "turn"] sp_mixed) : Cl P w K mg base 2 "_law_take" ["store", "many"] sp_take := by
  refine cl_of D sc_law_take (fun _ _ _ _ _ _ us hl => match us, hl with | [_, _], _ => rfl) (fun vs H Q E h => ?_) (fun f cdv A outer sh H vs Q E hr h => ?_)
  · obtain ⟨_, _, _, rfl, _⟩ := h; rfl
  obtain ⟨a, l, n, rfl, hn, ⟨ns, i1, i2, i3, i4, i5, i6, hs, hl, ne, h1⟩, k⟩ := h
  refine ⟨_, (pss_cons (ps_if (pt_cmpR op_lt (pv 1) pe_int (nomark _)) (pss_one (ps_ret pe_int)) pss_nil)
    (pss_cons (ps_if (PW.pt (pw_and (pt_cmpR op_lt (pe_ix ix1 (pv 0) pe_int (fun _ _ => rfl)) pe_int (nomark _)) (pw_and (pt_cmpR op_eq (pe_ix ix1 (pv 0) pe_int (fun _ _ => rfl)) pe_int (nomark _)) (pw_and1 (pt_cmpR op_lt (pe_ix ix1 (pv 0) pe_int (fun _ _ => rfl)) (pe_callB len1 (by rfl) T.no_len (by decide +kernel) (pa_cons (pe_ix ix1 (pv 0) pe_int (fun _ _ => rfl)) pa_nil)) (nomark _)))))) (pss_cons (ps_set (i := 2) sc_law_take.nd rfl (Or.inl rfl) (pe_ix ix1 (pe_ix ix1 (pv 0) pe_int (fun _ _ => rfl)) (pe_ix ix1 (pv 0) pe_int (fun _ _ => rfl)) (fun _ _ => rfl)))
    (pss_cons (ps_asg (pe_op op_add (pe_ix ix1 (pv 0) pe_int (fun _ _ => rfl)) pe_int) (pg_sub (pv 0) pe_int set_list))
    (pss_cons (ps_asg (pe_op op_modN (pe_callTy int1 (by rfl) T.no_int (by decide +kernel) (pa_cons (pe_op op_add (pe_op op_add (pe_op op_mul (pe_ix ix1 (pv 0) pe_int (fun _ _ => rfl)) pe_int) (pe_op op_modN (pe_callTy int1 (by rfl) T.no_int (by decide +kernel) (pa_cons (pv 2) pa_nil)) pe_int)) pe_int) pa_nil)) pe_int) (pg_sub (pv 0) pe_int set_list))
    (pss_one (ps_if (pt_cmpR op_ge (pv 2) (pe_op op_pow pe_int pe_int) (nomark _)) (pss_one (ps_asg (pv 2) (pg_sub (pv 0) pe_int set_list))) (pss_cons (ps_asg pe_int (pg_sub (pv 0) pe_int set_list))
    (pss_one (ps_asg (pe_op op_modN (pe_callTy int1 (by rfl) T.no_int (by decide +kernel) (pa_cons (pv 2) pa_nil)) pe_int) (pg_sub (pv 0) pe_int set_list))))))))) pss_nil)
    (pss_cons (ps_if (pt_cmpR op_ge (pe_ix ix1 (pv 0) pe_int (fun _ _ => rfl)) pe_int (nomark _)) (pss_cons (ps_set (i := 3) sc_law_take.nd rfl (Or.inl rfl) (pe_op op_modN (pe_callTy int1 (by rfl) T.no_int (by decide +kernel) (pa_cons (pe_ix ix1 (pv 0) pe_int (fun _ _ => rfl)) pa_nil)) (pv 1)))
    (pss_cons (ps_asg (pe_op op_fdivW (pe_ix ix1 (pv 0) pe_int (fun _ _ => rfl)) (pv 1)) (pg_sub (pv 0) pe_int set_list))
    (pss_one (ps_ret (pv 3))))) pss_nil)
    (pss_cons (ps_asg (pe_op op_add (pe_ix ix1 (pv 0) pe_int (fun _ _ => rfl)) pe_int) (pg_sub (pv 0) pe_int set_list))
    (pss_cons (ps_if (pt_cmpR op_gt (pe_ix ix1 (pv 0) pe_int (fun _ _ => rfl)) pe_int (nomark _)) (pss_cons (ps_asg (pe_op op_sub (pe_ix ix1 (pv 0) pe_int (fun _ _ => rfl)) pe_int) (pg_sub (pv 0) pe_int set_list))
    (pss_one (ps_ret (pe_op op_modN (pe_callTy int1 (by rfl) T.no_int (by decide +kernel) (pa_cons (pe_cl C_law_mixed hr (by rfl) (pa_cons (pe_ix ix1 (pv 0) pe_int (fun _ _ => rfl)) (pa_cons (pe_ix ix1 (pv 0) pe_int (fun _ _ => rfl)) pa_nil))) pa_nil)) (pv 1))))) pss_nil)
    (pss_one (ps_ret (pe_op op_modN (pe_callTy int1 (by rfl) T.no_int (by decide +kernel) (pa_cons (pe_cl C_law_mixed hr (by rfl) (pa_cons (pe_ix ix1 (pv 0) pe_int (fun _ _ => rfl)) (pa_cons (pe_ix ix1 (pv 0) pe_int (fun _ _ => rfl)) pa_nil))) pa_nil)) (pv 1))))))))), ?_⟩
  have hq := sq_l hs
  have hql := sq_l hl
  rw [a_seq]
  walk_at "wq"
  split
  · exact k 0 H ⟨Kp.refl, _, _, _, _, _, _, _, hs, hl, ne, h1⟩ (Int.le_refl _) (by omega) (fun _ => rfl)
  refine seq_join (fun σ H' => ∃ (v : Option V) (i1 i2 i3 i4 i5 i6 : Int), σ = [some (.ref a), some (.int n), v, none] ∧ Kp a H H' ∧ H' l = some (.lst (ns.map V.int)) ∧ 0 ≤ i1 ∧ H' a = some (.lst [.ref l, .int i1, .int i2, .int i3, .int i4, .int i5, .int i6])) (fun N hN => ?_) ?_
  · have out : N [some (V.ref a), some (V.int n), none, none] H := hN _ _ ⟨none, _, _, _, _, _, _, rfl, Kp.refl, hl, h1, hs⟩
    walk_at "wps"
    split
    · split
      · split
        · rename_i g1 g2 g3
          have g4 : i1.toNat < ns.length := by rw [List.length_map] at g3; omega
          refine ⟨.int ns[i1.toNat], atI_of h1 (by simp [g4]), fun H3 n3 => ?_⟩
          have hs3 := n3.at_
          have hq3 := sq_l n3.at_
          have hl3 := n3.k ne hl
          clear out
          walk_at "wps"
          refine ⟨cm_lit (by decide), by decide, by decide, fun H4 n4 => ?_⟩
          have hs4 := n4.at_
          have hl4 := n4.k ne hl3
          walk_at "wps"
          refine ⟨⟨by decide, by decide, by decide⟩, ?_⟩
          split
          · refine fun H5 n5 => hN _ _ ⟨_, _, _, _, _, _, _, rfl, ((Kp.put n3).trans (Kp.put n4)).trans (Kp.put n5), n5.k ne hl4, by omega, n5.at_⟩
          · refine fun H5 n5 => ?_
            have hs5 := n5.at_
            have hl5 := n5.k ne hl4
            walk_at "wps"
            refine ⟨by decide, fun H6 n6 => ?_⟩
            exact hN _ _ ⟨_, _, _, _, _, _, _, rfl, (((Kp.put n3).trans (Kp.put n4)).trans (Kp.put n5)).trans (Kp.put n6), n6.k ne hl5, by omega, n6.at_⟩
        · trivial
      · trivial
    · trivial
  · clear hs hq hql hl h1 i1 i2 i3 i4 i5 i6
    rintro _ H1 ⟨v, i1, i2, i3, i4, i5, i6, rfl, kp, hl, h1, hs⟩
    have hq := sq_l hs
    rw [a_seq]
    walk_at "wq"
    have hn2 : 0 < n := by omega
    split
    · rw [a_seq]
      walk_at "wps"
      refine ⟨by omega, ⟨hn2, ?_⟩, fun H2 n2 => ?_⟩
      · exact Nat.lt_trans (PySem.Flt.log2_lt_of (n := n.natAbs) (k := 62) (by decide) (by omega)) (by decide)
      · exact k _ H2 ⟨kp.trans (Kp.put n2), Sto.put hl ne n2 h1⟩ (fm_bound hn2).1 (fun _ => (fm_bound hn2).2) (fun z => by omega)
    · rw [a_seq]
      walk_at "wq"
      intro H2 n2
      try dsimp only
      have hs2 := n2.at_
      have hq2 := sq_l n2.at_
      have hl2 := n2.k ne hl
      rw [a_seq]
      walk_at "wq"
      split
      · rw [a_seq]
        walk_at "wq"
        intro H3 n3
        try dsimp only
        have hs3 := n3.at_
        have hq3 := sq_l n3.at_
        have hl3 := n3.k ne hl2
        walk_at "wq"
        refine ⟨_, _, rfl, fun r => ?_⟩
        walk_at "wq"
        exact ⟨by omega, k _ _ ⟨(kp.trans (Kp.put n2)).trans (Kp.put n3), _, _, _, _, _, _, _, hs3, hl3, ne, h1⟩ (fm_bound hn2).1 (fun _ => (fm_bound hn2).2) (fun z => by omega)⟩
      · refine ⟨_, _, rfl, fun r => ?_⟩
        walk_at "wq"
        exact ⟨by omega, k _ _ ⟨kp.trans (Kp.put n2), _, _, _, _, _, _, _, hs2, hl2, ne, h1⟩ (fm_bound hn2).1 (fun _ => (fm_bound hn2).2) (fun z => by omega)⟩
end

/-! ## HR -/
/-! ### the head -/
def d_shown : He.DefD := ⟨("shown", none), "shown", "shown", defArgs (topS 2), defBody (topS 2), defScope (topS 2), [], []⟩
def d_is_whole : He.DefD := ⟨("is_whole", none), "is_whole", "is_whole", defArgs (topS 37), defBody (topS 37), defScope (topS 37), [], []⟩
def d_check_size : He.DefD := ⟨("check_size", none), "check_size", "check_size", defArgs (topS 38), defBody (topS 38), defScope (topS 38), [], []⟩
def d_check_number : He.DefD := ⟨("check_number", none), "check_number", "check_number", defArgs (topS 41), defBody (topS 41), defScope (topS 41), [], []⟩
def d_exchanged : He.DefD := ⟨("exchanged", none), "exchanged", "exchanged", defArgs (topS 42), defBody (topS 42), defScope (topS 42), [], []⟩
def d_path_indexes : He.DefD := ⟨("path_indexes", none), "path_indexes", "path_indexes", defArgs (topS 43), defBody (topS 43), defScope (topS 43), [], []⟩
def d_all_words : He.DefD := ⟨("all_words", none), "all_words", "all_words", defArgs (topS 44), defBody (topS 44), defScope (topS 44), [], []⟩
def d_swapped : He.DefD := ⟨("swapped", none), "swapped", "swapped", defArgs (topS 45), defBody (topS 45), defScope (topS 45), [], []⟩
def d_swap_path : He.DefD := ⟨("swap_path", none), "swap_path", "swap_path", defArgs (topS 46), defBody (topS 46), defScope (topS 46), [], []⟩
def d_path_words : He.DefD := ⟨("path_words", none), "path_words", "path_words", defArgs (topS 47), defBody (topS 47), defScope (topS 47), [], []⟩
def d_law_store : He.DefD := ⟨("_law_store", none), "_law_store", "_law_store", defArgs (topS 49), defBody (topS 49), defScope (topS 49), [], []⟩
def d_law_mixed : He.DefD := ⟨("_law_mixed", none), "_law_mixed", "_law_mixed", defArgs (topS 50), defBody (topS 50), defScope (topS 50), [], []⟩
def d_law_take : He.DefD := ⟨("_law_take", none), "_law_take", "_law_take", defArgs (topS 51), defBody (topS 51), defScope (topS 51), [], []⟩
def d_law_pick : He.DefD := ⟨("_law_pick", none), "_law_pick", "_law_pick", defArgs (topS 52), defBody (topS 52), defScope (topS 52), [], []⟩
def d_law_place : He.DefD := ⟨("_law_place", none), "_law_place", "_law_place", defArgs (topS 53), defBody (topS 53), defScope (topS 53), [], []⟩
def d_law_either : He.DefD := ⟨("_law_either", none), "_law_either", "_law_either", defArgs (topS 54), defBody (topS 54), defScope (topS 54), [], []⟩
def d_law_is_whole : He.DefD := ⟨("_law_is_whole", none), "_law_is_whole", "_law_is_whole", defArgs (topS 55), defBody (topS 55), defScope (topS 55), [], []⟩
def d_law_wrong_number : He.DefD := ⟨("_law_wrong_number", none), "_law_wrong_number", "_law_wrong_number", defArgs (topS 56), defBody (topS 56), defScope (topS 56), [], []⟩
def d_law_agree : He.DefD := ⟨("_law_agree", none), "_law_agree", "_law_agree", defArgs (topS 57), defBody (topS 57), defScope (topS 57), [], []⟩
def d_law_big : He.DefD := ⟨("_law_big", none), "_law_big", "_law_big", defArgs (topS 58), defBody (topS 58), defScope (topS 58), [], []⟩
def d_law_words : He.DefD := ⟨("_law_words", none), "_law_words", "_law_words", defArgs (topS 59), defBody (topS 59), defScope (topS 59), [], []⟩
def d_law_kinds : He.DefD := ⟨("_law_kinds", none), "_law_kinds", "_law_kinds", defArgs (topS 60), defBody (topS 60), defScope (topS 60), [], []⟩
def d_law_right_error : He.DefD := ⟨("_law_right_error", none), "_law_right_error", "_law_right_error", defArgs (topS 61), defBody (topS 61), defScope (topS 61), [], []⟩
def d_law_path : He.DefD := ⟨("_law_path", none), "_law_path", "_law_path", defArgs (topS 62), defBody (topS 62), defScope (topS 62), [], []⟩
def d_law_path_turns : He.DefD := ⟨("_law_path_turns", none), "_law_path_turns", "_law_path_turns", defArgs (topS 63), defBody (topS 63), defScope (topS 63), [], []⟩
def d_law_path_holds : He.DefD := ⟨("_law_path_holds", none), "_law_path_holds", "_law_path_holds", defArgs (topS 64), defBody (topS 64), defScope (topS 64), [], []⟩
def d_law_words_hold : He.DefD := ⟨("_law_words_hold", none), "_law_words_hold", "_law_words_hold", defArgs (topS 65), defBody (topS 65), defScope (topS 65), [], []⟩
def d_law_refuses : He.DefD := ⟨("_law_refuses", none), "_law_refuses", "_law_refuses", defArgs (topS 66), defBody (topS 66), defScope (topS 66), [], []⟩
def d_law : He.DefD := ⟨("law", none), "law", "law", defArgs (topS 67), defBody (topS 67), defScope (topS 67), [], []⟩
def di_BadNumber : IniD := ⟨"BadNumber", "BadNumber.__init__", defArgs (clsFn (topS 4) 0), defBody (clsFn (topS 4) 0), defScope (clsFn (topS 4) 0), ["value", "low", "high"]⟩
def di_TooMany : IniD := ⟨"TooMany", "TooMany.__init__", defArgs (clsFn (topS 7) 0), defBody (clsFn (topS 7) 0), defScope (clsFn (topS 7) 0), ["what", "limit"]⟩
def hfn : List He.DefD := [d_shown, d_is_whole, d_check_size, d_check_number, d_exchanged, d_path_indexes, d_all_words, d_swapped, d_swap_path, d_path_words, d_law_store, d_law_mixed, d_law_take, d_law_pick, d_law_place, d_law_either, d_law_is_whole, d_law_wrong_number, d_law_agree, d_law_big, d_law_words, d_law_kinds, d_law_right_error, d_law_path, d_law_path_turns, d_law_path_holds, d_law_words_hold, d_law_refuses, d_law]
def hdi : List IniD := [di_BadNumber, di_TooMany]
def hks : List Str := ["BadNumber", "TooMany"]
def hfa : List He.Fa := [.glo "shown", .glo "is_whole", .glo "check_size", .glo "check_number", .glo "exchanged", .glo "path_indexes", .glo "all_words", .glo "swapped", .glo "swap_path", .glo "path_words", .glo "_law_store", .glo "_law_mixed", .glo "_law_take", .glo "_law_pick", .glo "_law_place", .glo "_law_either", .glo "_law_is_whole", .glo "_law_wrong_number", .glo "_law_agree", .glo "_law_big", .glo "_law_words", .glo "_law_kinds", .glo "_law_right_error", .glo "_law_path", .glo "_law_path_turns", .glo "_law_path_holds", .glo "_law_words_hold", .glo "_law_refuses", .glo "law", .free "len", .free "int", .free "bool", .free "str", .free "range", .free "isinstance", .free "tuple", .free "list", .free "min", .free "max", .free "sorted", .free "enumerate", .free "sum", .free "any", .free "all", .free "zip", .free "reversed", .free "super", .free "set", .free "dict", .free "ValueError", .free "abs", .int "MOST_ROW" 24, .int "MOST_WORD_PART" 12]
abbrev hR : PySem.W.OpenRow := PySem.W.OpenLaw.row PySem.Challenge.rw_heldorder_k51_the_swap_path_turns_two_ro
abbrev hfile : Str := "/claim/cut.py"
abbrev hhk : PySem.W.Hook := hookE hfa hfn hfile hdi hks
def hob (s : PySem.W.SharedT) : AlE := obsEG hfa hfn hfile hdi hks (HandSHeadRun.getT s)
theorem hob_eq (s : PySem.W.SharedT) : hob s = hhk.obs s.abs := obsEG_eq (HandSHeadRun.getT_eq s)
def hloose : List Str := (["MOST_ROW", "shown", "HeldorderError", "BadNumber", "NotAPoint", "NotAMove", "TooMany", "UnlikeSizes", "RepeatedPoint", "BadText", "NotMade", "NotTight", "NotFull", "NotAFailing", "NotNeighbours", "NotShorter", "SameLength", "NoSuchLength", "NotAnOrder", "NotAChain", "NotABase", "NotInside", "OrderMatters", "FullLot", "NotAWord", "NotAColumn", "NotACount", "GameOver", "NotAllowed", "NothingToUndo"] : List Str) ++ (["NothingToRedo", "NothingKept", "BadEdit", "UnknownName", "NotAPaper", "is_whole", "check_size", "MOST_WORD_PART", "check_number", "exchanged", "path_indexes", "all_words", "swapped", "swap_path", "path_words", "_law_store", "_law_mixed", "_law_take", "_law_pick", "_law_place", "_law_either", "_law_is_whole", "_law_wrong_number", "_law_agree", "_law_big", "_law_words", "_law_kinds", "_law_right_error", "_law_path", "_law_path_turns"] : List Str) ++ (["_law_path_holds", "_law_words_hold", "_law_refuses"] : List Str)
open PySem.W PySem.Calls PyProof.Rows HandSHeadRun in
theorem hrunA (w : World) (os : OsState) : (endF (stepQ (denQ tabQ) hR.prog w) 30000 hR.prog w os).map (fun s => (looksF hR.prog (boot_heap w.params) s.abs, seenQ (PySem.W.view hR.prog [67]) hloose (importedModules hR.prog.main.body) (fun s => xlAt (PySem.W.view hR.prog [67]) [] s && recOk hR.toRowW.records s) s.abs)) = some (true, openGood (PySem.W.view hR.prog [67]) hloose) := by kernel_rfl
open PySem.W PySem.Calls PyProof.Rows HandSHeadRun in
theorem hrunB (w : World) (os : OsState) : (endF (stepQ (denQ tabQ) hR.prog w) 30000 hR.prog w os).map (fun s => (hob s).1) = some (hhk.val w).1 := by kernel_rfl
open PySem.W PySem.Calls PyProof.Rows HandSHeadRun in
theorem hrunC (w : World) (os : OsState) : (endF (stepQ (denQ tabQ) hR.prog w) 30000 hR.prog w os).map (fun s => (hob s).2.1) = some (hhk.val w).2.1 := by kernel_rfl
open PySem.W PySem.Calls PyProof.Rows HandSHeadRun in
theorem hrunD (w : World) (os : OsState) : (endF (stepQ (denQ tabQ) hR.prog w) 30000 hR.prog w os).map (fun s => (hob s).2.2) = some (hhk.val w).2.2 := by kernel_rfl
theorem opt4 {α β γ δ ε : Type} {x : Option α} {f : α → β} {g : α → γ × (δ × ε)} {a : β} {b : γ} {c : δ} {d : ε} (h1 : x.map f = some a) (h2 : x.map (fun s => (g s).1) = some b) (h3 : x.map (fun s => (g s).2.1) = some c) (h4 : x.map (fun s => (g s).2.2) = some d) : x.map (fun s => (f s, g s)) = some (a, (b, (c, d))) := by
  cases x with
  | none => cases h1
  | some s =>
    have e1 := Option.some.inj h1
    have e2 := Option.some.inj h2
    have e3 := Option.some.inj h3
    have e4 := Option.some.inj h4
    show some (f s, g s) = _
    subst e1 e2 e3 e4
    rfl
theorem opt3 {α β γ δ : Type} {x : Option α} {f : α → β} {g : α → γ} {h : α → δ} {a : β} {b : γ} {c : δ} (k : x.map (fun s => ((f s, g s), h s)) = some ((a, b), c)) : x.map (fun s => (f s, g s, h s)) = some (a, b, c) := by
  cases x with
  | none => cases k
  | some s =>
    have e := Option.some.inj k
    show some (f s, g s, h s) = _
    simp only [Prod.mk.injEq] at e
    obtain ⟨⟨rfl, rfl⟩, rfl⟩ := e
    rfl
theorem hrun (w : World) : HandSHeadRun.RunEq hR (PySem.W.view hR.prog [67]) hhk hob 30000 hloose w := fun os => opt3 (opt4 (g := hob) (hrunA w os) (hrunB w os) (hrunC w os) (hrunD w os))

/-! ## HoK -/
section
variable {X : Cx}
def tCh (r1 r2 : R2) (ta tb tc : TE) : TE := fun σ H Q => ta σ H fun x H1 => tb σ H1 fun y H2 => r1 x y H2 fun z H3 => ∃ k, z = .bl k ∧ if k = true then tc σ H3 fun u H4 => r2 y u H4 Q else Q (.bl false) H3
theorem pe_chain {a b c : Expr} {o1 o2 : CmpOp} {r1 r2 : R2} {ta tb tc : TE} {pos : Pos} (h1 : OpR X (compareOp o1) r1) (h2 : OpR X (compareOp o2) r2) (ha : PE X a ta) (hb : PE X b tb) (hc : PE X c tc)
    (hm : lastMarks [o1, o2] [b, c] = false := by with_unfolding_all rfl) : PE X (.Compare a [o1, o2] [b, c] pos) (tCh r1 r2 ta tb tc) := by
  refine ⟨fun pins s σ H Q I h => ?_⟩
  refine Compare_chain (thn (ha.run pins s σ H _ I h) fun v s1 ⟨x, H1, I1, rx, q1⟩ => ?_) hm
  refine chain_link (thn (hb.run pins s1 σ H1 _ I1 q1) fun u s2 ⟨y, H2, I2, ry, q2⟩ => thn (h1 pins s2 σ H2 x y v u _ I2 rx ry q2) fun z s3 ⟨zz, H3, I3, rz, k, e, q3⟩ => ?_)
  subst e
  cases rz
  refine wpAny_truthy_bool ?_
  cases k with
  | true =>
    rw [if_pos rfl] at q3 ⊢
    have e0 : evalEach [] X.env = [] := by first | rfl | simp [evalEach]
    rw [e0]
    exact chain_last (thn (hc.run pins s3 σ H3 _ I3 q3) fun t s4 ⟨tt, H4, I4, rt, q4⟩ => h2 pins s4 σ H4 y tt u t _ I4 ry rt q4)
  | false =>
    rw [if_neg Bool.false_ne_true] at q3 ⊢
    exact ⟨.bl false, H3, I3, rfl, q3⟩
theorem a_ch {r1 r2 : R2} {ta tb tc : TE} {σ : L2.St} {H : Hp} {Q : VK} : tCh r1 r2 ta tb tc σ H Q = ta σ H fun x H1 => tb σ H1 fun y H2 => r1 x y H2 fun z H3 => ∃ k, z = .bl k ∧ if k = true then tc σ H3 fun u H4 => r2 y u H4 Q else Q (.bl false) H3 := rfl
/-- str(x), x an int or a bool -/
def qStr : List V → Hp → VK → Prop := fun xs H Q => match xs with
  | [.int i] => i.natAbs.log2 < 1920 ∧ Q (.str (toString i)) H
  | [.bl b] => Q (.str (if b then "True" else "False")) H
  | _ => False
theorem str2 : CallR X (.type "str") qStr := by
  intro pins s σ H xs us Q I r h
  unfold qStr at h
  split at h
  · exact call_str_int pins s σ H _ us Q I r ⟨_, rfl, h.1, h.2⟩
  · cases r with
    | cons r1 r2 =>
      cases r2
      cases r1
      exact PySem.P.str_of_bool ⟨.str _, H, I.tok _, ⟨_, rfl⟩, h⟩
  · exact h.elim
theorem b_stri {i : Int} {H : Hp} {Q : VK} : qStr [.int i] H Q = (i.natAbs.log2 < 1920 ∧ Q (.str (toString i)) H) := rfl
theorem b_strb {b : Bool} {H : Hp} {Q : VK} : qStr [.bl b] H Q = Q (.str (if b then "True" else "False")) H := rfl
end
/-! f-strings -/
def Prt (t : TE) (σ : L2.St) (H : Hp) : Prop := ∀ Q : VK, (∀ y : Str, y.length ≤ 2100 → Q (.str y) H) → t σ H Q
theorem js_parts {σ : L2.St} {H : Hp} {Q : Str → Hp → Prop} (k : ∀ out, Q out H) : ∀ {ts : List TE} {acc : Str}, (∀ t ∈ ts, Prt t σ H) → acc.length + 2100 * ts.length ≤ 100000 → tJs ts acc σ H Q
  | [], _, _, _ => k _
  | t :: ts, acc, h, hl => h t List.mem_cons_self _ fun y hy => ⟨y, rfl, by rw [Str.length_append, sizeLine_eq]; rw [List.length_cons] at hl; omega, js_parts k (fun t ht => h t (List.mem_cons_of_mem _ ht)) (by rw [Str.length_append]; rw [List.length_cons] at hl; omega)⟩
theorem prt_lit {s : Str} {σ : L2.St} {H : Hp} (h : s.length ≤ 2100 := by decide) : Prt (tC (.str s)) σ H := fun Q k => k s h
theorem prt_var {i : Nat} {z : Str} {σ : L2.St} {H : Hp} (h : σ[i]? = some (some (.str z))) (hz : z.length ≤ 2000) : Prt (tFmt (tVar i)) σ H := fun Q k => ⟨_, h, .inl ⟨z, rfl, by rw [sizeLine_eq]; omega, k z (by omega)⟩⟩
theorem js_cons {t : TE} {ts : List TE} {σ : L2.St} {H : Hp} (h : Prt t σ H) (r : ∀ t ∈ ts, Prt t σ H) : ∀ u ∈ t :: ts, Prt u σ H := fun u hu => by
  rcases List.mem_cons.mp hu with e | h'
  · rw [e]; exact h
  · exact r u h'
theorem js_nil {σ : L2.St} {H : Hp} : ∀ u ∈ ([] : List TE), Prt u σ H := fun u hu => by cases hu
/-! enumerate over a list or a tuple -/
def iEnumS (K : PySem.W.Frag) (ta : TA) : TI := fun σ H R => ta σ H fun vs H1 => ∃ a xs, vs = [.ref a] ∧ ((H1 a = some (.lst xs) ∧ R (Ite K a) H1) ∨ (H1 a = some (.tup xs) ∧ R (IteT K a xs) H1))
theorem pi_enumS {X : Cx} {e : Expr} {ta : TA} {p pos tpos : Pos} {elts : List Expr} {kk : Nat} (hg : Gl X "enumerate") (hm : X.mg "enumerate" = none) (ha : PA X [e] ta) (hs : starEach [e] X.env = [(false, eval e X.env)] := by rfl) :
    PI X (.Tuple elts kk tpos) (.Call (.Name "enumerate" p) [e] [] pos) (iEnumS X.K ta) := by
  refine ⟨fun pins s σ H R I h => Call_ (ld_blt I hg hm boot_enumerate (PyProof.Rows.callWith_type1 (thn (ha.run pos pins s σ H _ I h) fun us s1 ⟨vs, H1, I1, r1, a, xs, ex, hor⟩ => ?_) hs rfl))⟩
  subst ex
  cases r1 with
  | cons r rr =>
    cases rr
    cases r
    rcases hor with ⟨hq, q⟩ | ⟨hq, q⟩
    · obtain ⟨its, rv, p', hz⟩ := I1.list (SqL.of hq)
      refine call_enumerate_list p'.isList fun h' he hit hsz hk => wpAny_pyIter_enum he ?_
      have I2 : Inv X pins σ H1 { s1 with heap := h' } := I1.kept (t' := s1.toks) hk
      refine ⟨s1.heap.objs.size + 1, [s1.heap.objs.size + 1, s1.heap.objs.size], _, _, H1, rfl, I2, turn_enum a (s1.heap.objs.size + 1) s1.heap.objs.size, ⟨⟨.none, he⟩, hit, Nat.succ_ne_self _⟩, fun b hb => ?_, q⟩
      have e' : b = s1.heap.objs.size + 1 ∨ b = s1.heap.objs.size := by simpa using hb
      have hle : s1.heap.objs.size ≤ b := by
        rcases e' with z | z
        · rw [z]; exact Nat.le_add_right _ _
        · rw [z]; exact Nat.le_refl _
      exact I1.fpOk hle (I1.hok.fresh hle)
    · obtain ⟨its, rv, p', hz⟩ := I1.tuple (SqT.of hq)
      have ha : a < s1.heap.objs.size := by obtain ⟨o, e, _⟩ := (show s1.heap.IsTuple a its.toArray from p'); exact Heap.lt_size e
      refine enum1_begins (begins_tuple a its.toArray) p' fun h' he hit hk => wpAny_pyIter_enum he ?_
      have I2 : Inv X pins σ H1 { s1 with heap := h' } := I1.kept (t' := s1.toks) hk
      refine ⟨s1.heap.objs.size + 1, [s1.heap.objs.size + 1, s1.heap.objs.size], _, _, H1, rfl, I2, turn_enumT a (s1.heap.objs.size + 1) s1.heap.objs.size (Nat.ne_of_lt (Nat.lt_succ_of_lt ha)) (Nat.ne_of_lt ha) (Nat.succ_ne_self _) xs, ⟨⟨.none, he⟩, ⟨_, hit, rfl, rfl⟩⟩, fun b hb => ?_, q⟩
      have hle : s1.heap.objs.size ≤ b := by
        rcases List.mem_cons.mp hb with rfl | hb
        · omega
        · obtain rfl := List.mem_singleton.mp hb
          exact Nat.le_refl _
      exact I1.fpOk hle (I1.hok.fresh hle)
section
variable {K : PySem.W.Frag} {H : Hp} {Q : VK} {σ : L2.St} {D : Ends}
def FEnS (K : PySem.W.Frag) (a : Addr) (g : TG) (tb : TS) (D : Ends) (σ : L2.St) (H : Hp) : Prop := ∃ xs, (H a = some (.lst xs) ∧ tFor (fun _ H R => R (Ite K a) H) g tb D σ H) ∨ (H a = some (.tup xs) ∧ tFor (fun _ H R => R (IteT K a xs) H) g tb D σ H)
def FEnSV (K : PySem.W.Frag) (vs : List V) (g : TG) (tb : TS) (D : Ends) (σ : L2.St) (H : Hp) : Prop := ∃ a, vs = [.ref a] ∧ FEnS K a g tb D σ H
theorem a_forES {ta : TA} {g : TG} {tb : TS} : tFor (iEnumS K ta) g tb D σ H = ta σ H fun ws H1 => ∃ a xs, ws = [.ref a] ∧ ((H1 a = some (.lst xs) ∧ tFor (fun _ H R => R (Ite K a) H) g tb D σ H1) ∨ (H1 a = some (.tup xs) ∧ tFor (fun _ H R => R (IteT K a xs) H) g tb D σ H1)) := rfl
theorem fes_by {a : Addr} {xs : List V} {i1 i2 : Nat} {tb : TS} (hq : sq H a = some xs) (Pv : Nat → L2.St → Hp → Prop) (h0 : Pv 0 σ H) (hl : ∀ i σ' H', Pv i σ' H' → ∀ o, H a = some o → H' a = some o)
    (hs : ∀ i x σ H1 (N : L2.St → Hp → Prop) T H2, (∀ σ' H', Pv (i + 1) σ' H' → N σ' H') → xs[i]? = some x → Pv i σ H1 → New H1 T (.tup [.int (i : Nat), x]) H2 → tb { D with nx := N, ct := N, bk := D.nx } ((σ.set i1 (some (.int (i : Nat)))).set i2 (some x)) H2)
    (hd : ∀ σ H, Pv xs.length σ H → D.nx σ H) : ∃ ys, (H a = some (.lst ys) ∧ tFor (fun _ H R => R (Ite K a) H) (g2 K i1 i2) tb D σ H) ∨ (H a = some (.tup ys) ∧ tFor (fun _ H R => R (IteT K a ys) H) (g2 K i1 i2) tb D σ H) := by
  rcases sq_or hq with h | h
  · refine ⟨xs, .inl ⟨h, fun i m σ1 H1 => m + i = xs.length ∧ Pv i σ1 H1, ⟨xs.length, by omega, h0⟩, fun i m σ1 H1 ⟨hm, p⟩ => ?_⟩⟩
    have hL := SqL.of (K := K) (hl _ _ _ p _ h)
    by_cases hi : i = xs.length
    · subst hi
      exact .inl ⟨⟨xs, hL, Nat.le_refl _⟩, hd _ _ p⟩
    · have hlt : i < xs.length := by omega
      refine .inr ⟨⟨xs, _, hL, List.getElem?_eq_getElem hlt⟩, fun σ5 H5 => Pv (i + 1) σ5 H5, fun σ5 H5 p5 => ⟨m - 1, by omega, by omega, p5⟩, fun v H2 ⟨T, x, ev, hT, eH, hx⟩ => ?_⟩
      subst ev eH
      exact g2_at upd_same (hs i x σ1 H1 _ T _ (fun _ _ z => z) (hx _ hL) p (.mk' hT))
  · exact ⟨xs, .inr ⟨h, fe_by Pv h0 (fun i σ' H' p => hl i σ' H' p _ h) hs hd⟩⟩
end

/-! ## T2 -/

theorem perm_erase {α : Type} : ∀ {xs : List α} {i : Nat} (h : i < xs.length), xs.Perm (xs[i] :: xs.eraseIdx i)
  | _ :: _, 0, _ => .refl _
  | a :: r, i + 1, h => by
    have e := perm_erase (xs := r) (i := i) (by simpa using h)
    exact (List.Perm.cons a e).trans (.swap ..)
section
variable {P : Program} {w : World} {K : PySem.W.Frag} {mg : Str → Option Value} {base : Heap}
/-! pick -/
def sp_pick : Sp := fun vs H Q _ => ∃ (s l p : Addr) (xs : List V), vs = [.ref s, .ref p] ∧ Sto s l H ∧ p ≠ s ∧ sq H p = some xs ∧ xs ≠ [] ∧ xs.length < 2 ^ 62 ∧ ∀ x H', Ge s l H H' → x ∈ xs → Q x H'
abbrev st_law_pick : Stmt := topS 52
theorem sc_law_pick : FnScope ["store", "things"] ["store", "things"] (defScope st_law_pick) := ⟨rfl, rfl, rfl, by decide +kernel, rfl, by decide +kernel, by decide +kernel⟩
theorem ok_law_pick (D : Df K mg "_law_pick" st_law_pick) (T : NoB mg) (C_law_take : Cl P w K mg base 2 "_law_take" ["store", "many"] sp_take) : Cl P w K mg base 3 "_law_pick" ["store", "things"] sp_pick := by
  refine cl_of D sc_law_pick (fun _ _ _ _ _ _ us hl => match us, hl with | [_, _], _ => rfl) (fun vs H Q E h => ?_) (fun f cdv A outer sh H vs Q E hr h => ?_)
  · obtain ⟨_, _, _, _, rfl, _⟩ := h; rfl
  obtain ⟨s, l, p, xs, rfl, st, ne, hq, hne, hl, k⟩ := h
  refine ⟨_, (pss_one (ps_ret (pe_ix ix1 (pv 1) (pe_cl C_law_take hr (by rfl) (pa_cons (pv 0) (pa_cons (pe_callB len1 (by rfl) T.no_len (by decide +kernel) (pa_cons (pv 1) pa_nil)) pa_nil))) (fun _ _ => rfl)))), ?_⟩
  walk_at "wps"
  refine ⟨s, l, _, rfl, by omega, st, fun r H1 g r0 r1 r2 => ?_⟩
  have hq1 := g.kp.sq ne hq
  walk_at "wps"
  have hp : 0 < xs.length := List.length_pos_iff.mpr hne
  have hr : r.toNat < xs.length := by
    by_cases z : xs.length < 2
    · rw [r2 (by omega)]; exact hp
    · have := r1 (by omega); omega
  exact ⟨xs[r.toNat], atI_of r0 (by simp [hr]), k _ _ g (List.getElem_mem hr)⟩
/-! place -/
def sp_place : Sp := fun vs H Q _ => ∃ (s l : Addr) (n : Int), vs = [.ref s, .int n] ∧ Sto s l H ∧ 1 ≤ n ∧ n < 2 ^ 62 ∧ ∀ r H', Ge s l H H' → 0 ≤ r → r < n → Q (.int r) H'
abbrev st_law_place : Stmt := topS 53
theorem sc_law_place : FnScope ["store", "size", "pick"] ["store", "size"] (defScope st_law_place) := ⟨rfl, rfl, rfl, by decide +kernel, rfl, by decide +kernel, by decide +kernel⟩
theorem ok_law_place (D : Df K mg "_law_place" st_law_place) (T : NoB mg) (C_law_take : Cl P w K mg base 2 "_law_take" ["store", "many"] sp_take) : Cl P w K mg base 3 "_law_place" ["store", "size"] sp_place := by
  refine cl_of D sc_law_place (fun _ _ _ _ _ _ us hl => match us, hl with | [_, _], _ => rfl) (fun vs H Q E h => ?_) (fun f cdv A outer sh H vs Q E hr h => ?_)
  · obtain ⟨_, _, _, rfl, _⟩ := h; rfl
  obtain ⟨s, l, n, rfl, st, hn1, hn2, k⟩ := h
  refine ⟨_, (pss_cons (ps_set (i := 2) sc_law_place.nd rfl (Or.inl rfl) (pe_cl C_law_take hr (by rfl) (pa_cons (pv 0) (pa_cons pe_int pa_nil))))
    (pss_cons (ps_if (pt_cmpR op_eq (pv 2) pe_int (nomark _)) (pss_one (ps_ret pe_int)) pss_nil)
    (pss_cons (ps_if (pt_cmpR op_eq (pv 2) pe_int (nomark _)) (pss_one (ps_ret (pe_op op_sub (pv 1) pe_int))) pss_nil)
    (pss_one (ps_ret (pe_cl C_law_take hr (by rfl) (pa_cons (pv 0) (pa_cons (pv 1) pa_nil)))))))), ?_⟩
  walk_at "wps"
  refine ⟨s, l, _, rfl, by decide, st, fun r H1 g r0 r1 r2 => ?_⟩
  walk_at "wps"
  split
  · exact k _ _ g (by omega) (by omega)
  · split
    · exact k _ _ g (by omega) (by omega)
    · refine ⟨s, l, _, rfl, hn2, g.st, fun r' H2 g2 q0 q1 q2 => k _ _ (g.trans g2) q0 ?_⟩
      by_cases z : n < 2
      · rw [q2 z]; omega
      · exact q1 (by omega)
/-! drawn -/
def sp_drawn : Sp := fun vs H Q _ => ∃ (s l p : Addr) (xs : List V) (n : Int), vs = [.ref s, .ref p, .int n] ∧ Sto s l H ∧ sq H p = some xs ∧ xs.length ≤ 1000 ∧ -(2 ^ 62) ≤ n ∧
  ∀ q H' ys rest, Ge s l H H' → H q = none → H' q = some (.lst ys) → (ys ++ rest).Perm xs → ys.length = (if (xs.length : Int) < n then (xs.length : Int) else n).toNat → Q (.ref q) H'
end

/-! ## T3 -/

theorem szl {n : Nat} (h : n ≤ 16777216) : n ≤ sizeLine := by rw [sizeLine_eq]; exact h
theorem szl' {n : Nat} (h : n < 16777216) : n < sizeLine := by rw [sizeLine_eq]; exact h
section
variable {P : Program} {w : World} {K : PySem.W.Frag} {mg : Str → Option Value} {base : Heap}
/-! either -/
def sp_either : Sp := fun vs H Q _ => ∃ (s l p : Addr) (xs : List V), vs = [.ref s, .ref p] ∧ Sto s l H ∧ p ≠ s ∧ H p = some (.lst xs) ∧ ∀ q H', Ge s l H H' → H q = none → (H' q = some (.tup xs) ∨ H' q = some (.lst xs)) → Q (.ref q) H'
abbrev st_law_either : Stmt := topS 54
theorem sc_law_either : FnScope ["store", "entries"] ["store", "entries"] (defScope st_law_either) := ⟨rfl, rfl, rfl, by decide +kernel, rfl, by decide +kernel, by decide +kernel⟩
theorem ok_law_either (D : Df K mg "_law_either" st_law_either) (T : NoB mg) (C_law_take : Cl P w K mg base 2 "_law_take" ["store", "many"] sp_take) : Cl P w K mg base 3 "_law_either" ["store", "entries"] sp_either := by
  refine cl_of D sc_law_either (fun _ _ _ _ _ _ us hl => match us, hl with | [_, _], _ => rfl) (fun vs H Q E h => ?_) (fun f cdv A outer sh H vs Q E hr h => ?_)
  · obtain ⟨_, _, _, _, rfl, _⟩ := h; rfl
  obtain ⟨s, l, p, xs, rfl, st, ne, hp, k⟩ := h
  refine ⟨_, (pss_cons (ps_if (pt_cmpR op_eq (pe_cl C_law_take hr (by rfl) (pa_cons (pv 0) (pa_cons pe_int pa_nil))) pe_int (nomark _)) (pss_one (ps_ret (pe_callTy tup1 (by rfl) T.no_tuple (by decide +kernel) (pa_cons (pv 1) pa_nil)))) pss_nil)
    (pss_one (ps_ret (pe_callTy lst1 (by rfl) T.no_list (by decide +kernel) (pa_cons (pv 1) pa_nil))))), ?_⟩
  walk_at "wps"
  refine ⟨s, l, _, rfl, by decide, st, fun r H1 g r0 r1 r2 => ?_⟩
  have hp1 := g.k ne hp
  have hq1 := sq_l hp1
  walk_at "wps"
  split
  · exact fun q H2 n2 => k q H2 (g.new n2) (g.fr n2.fr) (.inl n2.at_)
  · exact fun q H2 n2 => k q H2 (g.new n2) (g.fr n2.fr) (.inr n2.at_)
/-! whole -/
def sp_whole : Sp := fun vs H Q _ => ∃ (s l : Addr), vs = [.ref s] ∧ Sto s l H ∧ ∀ r H', Ge s l H H' → -(10 ^ 30) < r → r < 10 ^ 30 → Q (.int r) H'
/-! sign -/
def sp_sign : Sp := fun vs H Q _ => ∃ (s l : Addr), vs = [.ref s] ∧ Sto s l H ∧ ∀ z H', Ge s l H H' → z.length = 1 → Vis z → Q (.str z) H'
theorem signs_all : ((PySem.Str.ofString " !\"#$&'()*+,-./0123456789:;<=>?@ABCDEFGHIJKLMNOPQRSTUVWXYZ[\\]^_`" ++ PySem.Str.ofString "abcdefghijklmnopqrstuvwxyz{|}~\n" : Str).cps.toList.all fun c => decide (c = 10 ∨ (32 ≤ c ∧ c < 127))) = true := by decide +kernel
/-! text -/
def sp_text : Sp := fun vs H Q _ => ∃ (s l : Addr) (n : Int), vs = [.ref s, .int n] ∧ Sto s l H ∧ 0 ≤ n ∧ n ≤ 1000 ∧ ∀ z H', Ge s l H H' → (z.length : Int) ≤ n → Vis z → Q (.str z) H'
/-! leaf -/
def sp_leaf : Sp := fun vs H Q _ => ∃ (s l : Addr), vs = [.ref s] ∧ Sto s l H ∧ ∀ v d n H', Ge s l H H' → Lf v d n → n ≤ 7 → (∀ i, v = .int i → -(10 ^ 30) < i ∧ i < 10 ^ 30) → Q v H'
end

/-! ## T4 -/

theorem Lf.db {v : V} {d : PyData} {n b : Nat} {E : List Addr} {H : Hp} (h : Lf v d n) (hn : n ≤ b) : Db E H b v := ⟨d, n, .lf h, hn⟩
section
variable {P : Program} {w : World} {K : PySem.W.Frag} {mg : Str → Option Value} {base : Heap}
/-! value -/
def sp_value : Sp := fun vs H Q _ => ∃ (s l : Addr) (E : List Addr) (deep : Int), vs = [.ref s, .int deep] ∧ Sto s l H ∧ Lv E H ∧ s ∈ E ∧ -(2 ^ 60) < deep ∧ deep ≤ 50 ∧ ∀ v H', Ge s l H H' → Db E H' 150 v → Q v H'
end

/-! ## T5 -/

section
variable {P : Program} {w : World} {K : PySem.W.Frag} {mg : Str → Option Value} {base : Heap}
/-! is_whole -/
def sp_isw : Sp := fun vs H Q _ => ∃ (v : V) (d : PyData) (n : Nat) (E : List Addr), vs = [v] ∧ Dw E H v d n ∧ Q (.bl (isWh v)) H
abbrev st_law_is_whole : Stmt := topS 55
theorem sc_law_is_whole : FnScope ["value"] ["value"] (defScope st_law_is_whole) := ⟨rfl, rfl, rfl, by decide +kernel, rfl, by decide +kernel, by decide +kernel⟩
theorem ok_law_is_whole (D : Df K mg "_law_is_whole" st_law_is_whole) (T : NoB mg)  : Cl P w K mg base 1 "_law_is_whole" ["value"] sp_isw := by
  refine cl_of D sc_law_is_whole (fun _ _ _ _ _ _ us hl => match us, hl with | [_], _ => rfl) (fun vs H Q E h => ?_) (fun f cdv A outer sh H vs Q E hr h => ?_)
  · obtain ⟨_, _, _, _, rfl, _⟩ := h; rfl
  obtain ⟨v, d, n, E, rfl, hv, k⟩ := h
  refine ⟨_, (pss_one (ps_ret (pe_and (pe_callB isi1 (by rfl) T.no_isinstance (by decide +kernel) (pa_cons (pv 0) (pa_cons (pe_bltn (by rfl) T.no_int (by decide +kernel) (show RelV (.ty "int") _ from rfl)) pa_nil))) (pe_one (pe_not (pe_callB isi1 (by rfl) T.no_isinstance (by decide +kernel) (pa_cons (pv 0) (pa_cons (pe_bltn (by rfl) T.no_bool (by decide +kernel) (show RelV (.ty "bool") _ from rfl)) pa_nil)))))))), ?_⟩
  cases hv with
  | lf l => cases l <;> (walk_at "wps"; exact k)
  | lst ne h a =>
    have ht := ty_l h
    walk_at "wps"
    exact k
  | tup ne h a =>
    have ht := ty_t h
    walk_at "wps"
    exact k
/-! same -/
inductive Its (H H' : Hp) : List V → Nat → Prop
  | nil : Its H H' [] 0
  | snoc {xs : List V} {m n k : Nat} {t : Addr} {a b : V} {d : PyData} : Its H H' xs m → H' t = some (.tup [a, b]) → Dw [] H a d n → Dw [] H b d k → Its H H' (xs ++ [.ref t]) (m + n)
theorem Its.len {H H' : Hp} {xs : List V} {m : Nat} (h : Its H H' xs m) : xs.length ≤ m := by
  induction h with
  | nil => exact Nat.le_refl _
  | snoc h e a b ih => have := a.pos; rw [List.length_append, List.length_singleton]; omega
theorem Its.keep {H H1 H2 : Hp} {xs : List V} {m : Nat} (h : Its H H1 xs m) (k : ∀ t ys, H1 t = some (.tup ys) → H2 t = some (.tup ys)) : Its H H2 xs m := by
  induction h with
  | nil => exact .nil
  | snoc h e a b ih => exact .snoc ih (k _ _ e) a b
def sp_same : Sp := fun vs H Q _ => ∃ (x y : V) (d : PyData) (n m : Nat), vs = [x, y] ∧ Dw [] H x d n ∧ Dw [] H y d m ∧ n ≤ 4000000 ∧ ∀ H', Same H H' → Q (.bl true) H'
/-! frozen -/
def frz : Nat → PyData → PyData
  | n + 1, .list xs => .tuple [.str "list", .tuple (xs.map (frz n))]
  | n + 1, .tuple xs => .tuple [.str "tuple", .tuple (xs.map (frz n))]
  | _, d => d
def sp_frozen (N : Nat) : Sp := fun vs H Q _ => ∃ (v : V) (deep : Int) (E : List Addr) (d : PyData) (n : Nat), vs = [v, .int deep] ∧ 0 ≤ deep ∧ deep < N ∧ Lv E H ∧ Dw E H v d n ∧ n ≤ 1000000 ∧ ∀ u m H', Same H H' → Dw E H' u (frz deep.toNat d) m → m ≤ 8 * n → Q u H'
end

/-! ## T6 -/

section
variable {P : Program} {w : World} {K : PySem.W.Frag} {mg : Str → Option Value} {base : Heap}
/-! move -/
def sp_move : Sp := fun vs H Q _ => ∃ (s l : Addr) (n : Int), vs = [.ref s, .int n] ∧ Sto s l H ∧ 0 ≤ n ∧ n ≤ 40 ∧ ∀ (q : Addr) (ns : List Int) H', Ge s l H H' → H q = none → H' q = some (.tup (ns.map V.int)) → ns.Perm (rng n.toNat) → Q (.ref q) H'
end

/-! ## T7 -/

theorem Db.tup1 {E : List Addr} {H : Hp} {b : Nat} {v : V} {p : Addr} (h : Db E H b v) (hp : p ∉ E) (hq : H p = some (.tup [v])) : Db E H (b + 1) (.ref p) := by
  have := Db.seq (E := E) (H := H) (b := b) (xs := [v]) (p := p) (fun x hx => by rw [List.mem_singleton.mp hx]; exact h) hp (.inl hq)
  simpa using this
theorem Db.int {E : List Addr} {H : Hp} {b : Nat} (i : Int) (h : 1 ≤ b) : Db E H b (.int i) := ⟨_, 1, .lf (.int i), h⟩
theorem Db.bl {E : List Addr} {H : Hp} {b : Nat} (i : Bool) (h : 1 ≤ b) : Db E H b (.bl i) := ⟨_, 1, .lf (.bl i), h⟩
theorem Db.non {E : List Addr} {H : Hp} {b : Nat} (h : 1 ≤ b) : Db E H b .non := ⟨_, 1, .lf .non, h⟩
theorem Db.str {E : List Addr} {H : Hp} {b : Nat} {z : Str} (h : z.length + 1 ≤ b) : Db E H b (.str z) := ⟨_, _, .lf (.str z), h⟩
section
variable {P : Program} {w : World} {K : PySem.W.Frag} {mg : Str → Option Value} {base : Heap}
/-! pick of a text -/
def sp_pickS : Sp := fun vs H Q _ => ∃ (s l : Addr) (z : Str), vs = [.ref s, .str z] ∧ Sto s l H ∧ 0 < z.length ∧ z.length ≤ 1000 ∧ ∀ c H', Ge s l H H' → c ∈ z.cps.toList → Q (.str ⟨#[c]⟩) H'
theorem ok_law_pickS (D : Df K mg "_law_pick" st_law_pick) (T : NoB mg) (C_law_take : Cl P w K mg base 2 "_law_take" ["store", "many"] sp_take) : Cl P w K mg base 3 "_law_pick" ["store", "things"] sp_pickS := by
  refine cl_of D sc_law_pick (fun _ _ _ _ _ _ us hl => match us, hl with | [_, _], _ => rfl) (fun vs H Q E h => ?_) (fun f cdv A outer sh H vs Q E hr h => ?_)
  · obtain ⟨_, _, _, rfl, _⟩ := h; rfl
  obtain ⟨s, l, z, rfl, st, hz0, hz1, k⟩ := h
  refine ⟨_, (pss_one (ps_ret (pe_ix ix_str (pv 1) (pe_cl C_law_take hr (by rfl) (pa_cons (pv 0) (pa_cons (pe_callB call_len_str (by rfl) T.no_len (by decide +kernel) (pa_cons (pv 1) pa_nil)) pa_nil))) (fun _ _ => rfl)))), ?_⟩
  walk_at "wps"
  refine ⟨szl (by omega), s, l, _, rfl, by omega, st, fun r H1 g r0 r1 r2 => ?_⟩
  walk_at "wps"
  have hr : r.toNat < z.cps.toList.length := by
    rw [len_tl]
    by_cases q : z.length < 2
    · rw [r2 (by omega)]; exact hz0
    · have := r1 (by omega); omega
  exact ⟨szl (by omega), z.cps.toList[r.toNat], atI_of r0 (by simp [hr]), k _ _ g (List.getElem_mem hr)⟩
/-! bad_move -/
def sp_bad_move : Sp := fun vs H Q _ => ∃ (s l m : Addr) (E : List Addr) (n : Nat) (ns : List Int), vs = [.ref s, .ref m] ∧ Sto s l H ∧ Lv E H ∧ s ∈ E ∧ m ≠ s ∧ H m = some (.tup (ns.map V.int)) ∧ ns.Perm (rng n) ∧ n ≤ 40 ∧ ∀ v H', Ge s l H H' → Db E H' 60 v → Q v H'
end

/-! ## T8 -/

/-- a list of data of at most so much weight -/
def Dl (E : List Addr) (H : Hp) (b : Nat) (xs : List V) : Prop := ∃ ds n, DwAll E H xs ds n ∧ n ≤ b
section
variable {s l p : Addr} {E E' : List Addr} {H H1 : Hp} {o : HO} {b b' c : Nat} {xs ys : List V} {v : V}
theorem DwAll.sublist : ∀ {xs ys : List V} {ds : List PyData} {n : Nat}, ys.Sublist xs → DwAll E H xs ds n → Dl E H n ys
  | _, _, _, _, .slnil, h => by cases h; exact ⟨[], 0, .nil, by omega⟩
  | _, _, _, _, .cons x s, h => by
    cases h with
    | cons a r =>
      obtain ⟨ds, m, h1, h2⟩ := DwAll.sublist s r
      exact ⟨ds, m, h1, by omega⟩
  | _, _, _, _, .cons₂ x s, h => by
    cases h with
    | cons a r =>
      obtain ⟨ds, m, h1, h2⟩ := DwAll.sublist s r
      exact ⟨_, _, .cons a h1, by omega⟩
theorem Dl.sl (h : Dl E H b xs) (s : ys.Sublist xs) : Dl E H b ys := by
  obtain ⟨ds, n, h1, h2⟩ := h
  obtain ⟨es, m, h3, h4⟩ := h1.sublist s
  exact ⟨es, m, h3, by omega⟩
theorem Dl.le (h : Dl E H b xs) (hb : b ≤ b') : Dl E H b' xs := by
  obtain ⟨ds, n, h1, h2⟩ := h
  exact ⟨ds, n, h1, by omega⟩
theorem Dl.app (h : Dl E H b xs) (h' : Dl E H c ys) : Dl E H (b + c) (xs ++ ys) := by
  obtain ⟨ds, n, h1, h2⟩ := h
  obtain ⟨es, m, h3, h4⟩ := h'
  exact ⟨_, _, h1.app h3, by omega⟩
theorem Dl.one (h : Db E H b v) : Dl E H b [v] := by
  obtain ⟨d, n, h1, h2⟩ := h
  exact ⟨_, _, .one h1, by omega⟩
theorem Dl.nil : Dl E H b [] := ⟨[], 0, .nil, by omega⟩
theorem Dl.len (h : Dl E H b xs) : xs.length ≤ b := by
  obtain ⟨d, n, h1, h2⟩ := h
  exact Nat.le_trans h1.len.2 h2
theorem Dl.rev (h : Dl E H b xs) : Dl E H b xs.reverse := by
  obtain ⟨ds, n, h1, h2⟩ := h
  suffices ∀ {xs : List V} {ds : List PyData} {n : Nat}, DwAll E H xs ds n → Dl E H n xs.reverse from (this h1).le h2
  intro xs ds n h
  clear h1 h2
  induction xs generalizing ds n with
  | nil => exact .nil
  | cons x r ih =>
    cases h with
    | @cons _ _ d _ a b w q =>
      rw [List.reverse_cons]
      have := (ih q).app (Dl.one ⟨d, a, w, Nat.le_refl _⟩)
      exact this.le (by omega)
theorem Dl.ge (h : Dl E H b xs) (g : Ge s l H H1) (hs : s ∈ E) : Dl E H1 b xs := by
  obtain ⟨ds, n, h1, h2⟩ := h
  exact ⟨ds, n, h1.ge g hs, h2⟩
theorem Dl.same (h : Dl E H b xs) (g : Same H H1) : Dl E H1 b xs := by
  obtain ⟨ds, n, h1, h2⟩ := h
  exact ⟨ds, n, h1.same g, h2⟩
theorem Dl.put (h : Dl E H b xs) (g : Put H p o H1) (hp : p ∈ E) : Dl E H1 b xs := by
  obtain ⟨ds, n, h1, h2⟩ := h
  exact ⟨ds, n, h1.put g hp, h2⟩
theorem Dl.fresh (h : Dl E H b xs) (hp : H p = none) : Dl (p :: E) H b xs := by
  obtain ⟨ds, n, h1, h2⟩ := h
  exact ⟨ds, n, h1.fresh hp, h2⟩
theorem Dl.sub (h : Dl E H b xs) (k : ∀ a, a ∈ E' → a ∈ E) : Dl E' H b xs := by
  obtain ⟨ds, n, h1, h2⟩ := h
  exact ⟨ds, n, h1.sub k, h2⟩
theorem Db.fresh (h : Db E H b v) (hp : H p = none) : Db (p :: E) H b v := by
  obtain ⟨ds, n, h1, h2⟩ := h
  exact ⟨ds, n, h1.fresh hp, h2⟩
theorem Dl.db (h : Dl E H b xs) (hp : p ∉ E) (hq : H p = some (.tup xs) ∨ H p = some (.lst xs)) : Db E H (b + 1) (.ref p) := by
  obtain ⟨ds, n, h1, h2⟩ := h
  rcases hq with q | q
  · exact ⟨_, _, .tup hp q h1, by omega⟩
  · exact ⟨_, _, .lst hp q h1, by omega⟩
theorem Dl.mem (h : Dl E H b xs) (hv : v ∈ xs) : Db E H b v := by
  obtain ⟨ds, n, h1, h2⟩ := h
  obtain ⟨e, m, _, h3, h4⟩ := h1.mem hv
  exact ⟨e, m, h3, by omega⟩
theorem Dl.set (h : Dl E H b xs) (hv : Db E H c v) (i : Nat) : Dl E H (b + c) (xs.set i v) := by
  by_cases hi : i < xs.length
  · rw [List.set_eq_take_append_cons_drop, if_pos hi]
    obtain ⟨ds, n, h1, h2⟩ := h
    have e : xs = xs.take i ++ xs.drop i := (List.take_append_drop i xs).symm
    suffices ∀ {as bs : List V} {ds : List PyData} {n : Nat}, DwAll E H (as ++ bs) ds n → ∃ a b, Dl E H a as ∧ Dl E H b bs ∧ a + b ≤ n by
      rw [e] at h1
      obtain ⟨a, b', q1, q2, q3⟩ := this h1
      have z : (xs.drop (i + 1)).Sublist (xs.drop i) := by rw [← List.drop_drop]; exact List.drop_sublist _ _
      have := q1.app ((Dl.one hv).app (q2.sl z))
      exact this.le (by omega)
    intro as bs ds n h
    clear h1 h2 e
    induction as generalizing ds n with
    | nil => exact ⟨0, n, .nil, ⟨ds, n, h, Nat.le_refl _⟩, by omega⟩
    | cons x r ih =>
      cases h with
      | @cons _ _ d _ a b w q =>
        obtain ⟨a', b', q1, q2, q3⟩ := ih q
        exact ⟨a + a', b', (Dl.one ⟨d, a, w, Nat.le_refl _⟩).app q1, q2, by omega⟩
  · rw [List.set_eq_of_length_le (by omega)]
    exact h.le (by omega)
theorem cutV_sub (xs : List V) (lo hi : Option Int) : (cutV xs lo hi).Sublist xs := (List.take_sublist _ _).trans (List.drop_sublist _ _)
/-- what data is -/
theorem Db.cases (h : Db E H b v) : (∃ d n, Lf v d n ∧ n ≤ b) ∨ ∃ a xs, v = .ref a ∧ a ∉ E ∧ (H a = some (.tup xs) ∨ H a = some (.lst xs)) ∧ Dl E H (b - 1) xs ∧ 1 ≤ b := by
  obtain ⟨d, n, h, hn⟩ := h
  cases h with
  | lf l => exact .inl ⟨d, n, l, hn⟩
  | lst ne e a => exact .inr ⟨_, _, rfl, ne, .inr e, ⟨_, _, a, by omega⟩, by omega⟩
  | tup ne e a => exact .inr ⟨_, _, rfl, ne, .inl e, ⟨_, _, a, by omega⟩, by omega⟩
end
section
variable {P : Program} {w : World} {K : PySem.W.Frag} {mg : Str → Option Value} {base : Heap}
/-! bent_text -/
def sp_bent_text : Sp := fun vs H Q _ => ∃ (s l : Addr) (t : Str), vs = [.ref s, .str t] ∧ Sto s l H ∧ t.length ≤ 1000000 ∧ ∀ z H', Ge s l H H' → z.length ≤ 4 * t.length + 2 → (Vis t → Vis z) → Q (.str z) H'
theorem one_vis {c : Nat} {z : Str} (h : c ∈ z.cps.toList) (v : Vis z) : Vis ⟨#[c]⟩ := fun x hx => by
  have : x = c := by simpa using hx
  rw [this]; exact v c h
theorem picked_vis : ((PySem.Str.ofString "() 0123456789-+,\nae" : Str).cps.toList.all fun c => decide (c = 10 ∨ (32 ≤ c ∧ c < 127))) = true ∧ 0 < (PySem.Str.ofString "() 0123456789-+,\nae" : Str).length ∧ (PySem.Str.ofString "() 0123456789-+,\nae" : Str).length ≤ 1000 := by decide +kernel
/-! bent_leaf -/
def sp_bent_leaf : Sp := fun vs H Q _ => ∃ (s l : Addr) (E : List Addr) (v : V) (d : PyData) (n : Nat), vs = [.ref s, v] ∧ Sto s l H ∧ Lv E H ∧ s ∈ E ∧ Lf v d n ∧ n ≤ 1000000 ∧ ∀ u H', Ge s l H H' → Db E H' (4 * n + 40) u → Q u H'
end

/-! ## T9 -/

theorem seq_ty {s l a : Addr} {H : Hp} {xs : List V} (hs : a ≠ s) (h : H a = some (.tup xs) ∨ H a = some (.lst xs)) : ∃ t r, kitB t "tuple" = some r ∧ kitB t "list" = some (!r) ∧ ∀ H', Ge s l H H' → tyN H' (.ref a) = some t := by
  rcases h with h | h
  · exact ⟨"tuple", true, by decide +kernel, by decide +kernel, fun H' g => ty_t (g.k hs h)⟩
  · exact ⟨"list", false, by decide +kernel, by decide +kernel, fun H' g => ty_l (g.k hs h)⟩
theorem sq_of {a : Addr} {H : Hp} {xs : List V} (h : H a = some (.tup xs) ∨ H a = some (.lst xs)) : sq H a = some xs := by
  rcases h with h | h
  · exact sq_t h
  · exact sq_l h
theorem or_ge {s l a : Addr} {H H' : Hp} {xs : List V} (hs : a ≠ s) (g : Ge s l H H') (h : H a = some (.tup xs) ∨ H a = some (.lst xs)) : H' a = some (.tup xs) ∨ H' a = some (.lst xs) := by
  rcases h with h | h
  · exact .inl (g.k hs h)
  · exact .inr (g.k hs h)
section
variable {P : Program} {w : World} {K : PySem.W.Frag} {mg : Str → Option Value} {base : Heap}
/-! bent_part -/
def sp_bent_part : Sp := fun vs H Q _ => ∃ (s l a : Addr) (E : List Addr) (xs : List V) (n : Nat), vs = [.ref s, .ref a] ∧ Sto s l H ∧ Lv E H ∧ s ∈ E ∧ a ∉ E ∧ (H a = some (.tup xs) ∨ H a = some (.lst xs)) ∧ Dl E H n xs ∧ n ≤ 1000000 ∧ ∀ u H', Ge s l H H' → Db E H' (4 * n + 8) u → Q u H'
/-! bent -/
/-- the way down: at each step a seq and a place in it -/
def PathOk (E : List Addr) (H : Hp) (n : Nat) (x : V) : Prop := ∃ t h xs, ∃ i : Nat, x = .ref t ∧ H t = some (.tup [.ref h, .int i]) ∧ h ∉ E ∧ (H h = some (.tup xs) ∨ H h = some (.lst xs)) ∧ Dl E H n xs ∧ i < xs.length
theorem PathOk.keep {E : List Addr} {H H' : Hp} {n : Nat} {x : V} (p : PathOk E H n x) (k : ∀ a xs, H a = some (.tup xs) → H' a = some (.tup xs)) (k2 : ∀ a o, a ∉ E → H a = some o → H' a = some o) : PathOk E H' n x := by
  obtain ⟨t, h, xs, i, rfl, e, hE, q, d, hi⟩ := p
  obtain ⟨ds, m, h1, h2⟩ := d
  refine ⟨t, h, xs, i, rfl, k _ _ e, hE, ?_, ⟨ds, m, h1.kp k2, h2⟩, hi⟩
  rcases q with q | q
  · exact .inl (k2 _ _ hE q)
  · exact .inr (k2 _ _ hE q)
theorem PathOk.ge {E : List Addr} {H H' : Hp} {n : Nat} {x : V} {s l : Addr} (p : PathOk E H n x) (st : Sto s l H) (g : Ge s l H H') (hs : s ∈ E) : PathOk E H' n x := by
  obtain ⟨ns, i1, i2, i3, i4, i5, i6, h1, _⟩ := st
  exact p.keep (fun a xs e => g.k (ne_of e h1 (by intro z; cases z)) e) fun a o ha e => g.k (fun z => ha (z ▸ hs)) e
theorem PathOk.same {E : List Addr} {H H' : Hp} {n : Nat} {x : V} (p : PathOk E H n x) (g : Same H H') : PathOk E H' n x := p.keep (fun a xs e => g _ _ e) fun a o _ e => g _ _ e
theorem PathOk.put {E : List Addr} {H H' : Hp} {n : Nat} {x : V} {q : Addr} {ys : List V} {o : HO} (p : PathOk E H n x) (hq : H q = some (.lst ys)) (g : Put H q o H') (hs : q ∈ E) : PathOk E H' n x :=
  p.keep (fun a xs e => g.k (ne_of e hq (by intro z; cases z)) e) fun a o ha e => g.k (fun z => ha (z ▸ hs)) e
def sp_bent : Sp := fun vs H Q _ => ∃ (s l : Addr) (E : List Addr) (v : V) (n : Nat), vs = [.ref s, v] ∧ Sto s l H ∧ Lv E H ∧ s ∈ E ∧ Db E H n v ∧ n ≤ 100000 ∧ ∀ u H', Ge s l H H' → Db E H' (9 * n + 50) u → Q u H'
/-! judged -/
def sp_judged : Sp := fun vs H Q _ => ∃ (s l : Addr) (E : List Addr) (v : V) (n : Nat), vs = [.ref s, v] ∧ Sto s l H ∧ Lv E H ∧ s ∈ E ∧ Db E H n v ∧ n ≤ 1000 ∧ ∀ u H', Ge s l H H' → Db E H' (81 * n + 500) u → Q u H'
end

/-! ## T10 -/

section
variable {P : Program} {w : World} {K : PySem.W.Frag} {mg : Str → Option Value} {base : Heap}
/-! the program's is_whole -/
abbrev stis_whole : Stmt := topS 37
theorem scis_whole : FnScope ["value"] ["value"] (defScope stis_whole) := ⟨rfl, rfl, rfl, by decide +kernel, rfl, by decide +kernel, by decide +kernel⟩
theorem okis_whole (D : Df K mg "is_whole" stis_whole) (T : NoB mg)  : Cl P w K mg base 1 "is_whole" ["value"] sp_isw := by
  refine cl_of D scis_whole (fun _ _ _ _ _ _ us hl => match us, hl with | [_], _ => rfl) (fun vs H Q E h => ?_) (fun f cdv A outer sh H vs Q E hr h => ?_)
  · obtain ⟨_, _, _, _, rfl, _⟩ := h; rfl
  obtain ⟨v, d, n, E, rfl, hv, k⟩ := h
  refine ⟨_, (pss_one (ps_ret (pe_and (pe_callB isi1 (by rfl) T.no_isinstance (by decide +kernel) (pa_cons (pv 0) (pa_cons (pe_bltn (by rfl) T.no_int (by decide +kernel) (show RelV (.ty "int") _ from rfl)) pa_nil))) (pe_one (pe_not (pe_callB isi1 (by rfl) T.no_isinstance (by decide +kernel) (pa_cons (pv 0) (pa_cons (pe_bltn (by rfl) T.no_bool (by decide +kernel) (show RelV (.ty "bool") _ from rfl)) pa_nil)))))))), ?_⟩
  cases hv with
  | lf l => cases l <;> (walk_at "wps"; exact k)
  | lst ne h a =>
    have ht := ty_l h
    walk_at "wps"
    exact k
  | tup ne h a =>
    have ht := ty_t h
    walk_at "wps"
    exact k
/-! is_move -/
def sp_is_move : Sp := fun vs H Q _ => ∃ (v : V) (E : List Addr) (d : PyData) (n : Nat), vs = [v] ∧ Dw E H v d n ∧ ∀ H', Same H H' → Q (.bl (isMoveD d)) H'
theorem isWh_int {v : V} (h : isWh v = true) : ∃ i, v = .int i := by
  cases v <;> first | exact ⟨_, rfl⟩ | cases h
theorem ints_of : ∀ {xs : List V}, (∀ x ∈ xs, isWh x = true) → ∃ ns : List Int, xs = ns.map V.int
  | [], _ => ⟨[], rfl⟩
  | x :: r, h => by
    obtain ⟨i, rfl⟩ := isWh_int (h x List.mem_cons_self)
    obtain ⟨ns, rfl⟩ := ints_of fun y hy => h y (List.mem_cons_of_mem _ hy)
    exact ⟨i :: ns, rfl⟩
theorem not_move_leaf {v : V} {d : PyData} {n : Nat} (l : Lf v d n) : isMoveD d = false := isMove_f fun ⟨ns, e, _⟩ => by cases l <;> cases e
theorem not_move_list {ds : List PyData} : isMoveD (.list ds) = false := isMove_f fun ⟨ns, e, _⟩ => by cases e
/-! counted -/
theorem move_counts {E : List Addr} {H : Hp} {xs : List V} {ds : List PyData} {n : Nat} (da : DwAll E H xs ds n) (hl : xs.length ≤ 12) : IsMoveP (.tuple ds) ↔ ∀ k, k < xs.length → xs.count (V.int (k : Int)) = 1 := by
  constructor
  · rintro ⟨ns, e, h1, h2⟩ k hk
    have e' := PyData.tuple.inj e
    subst e'
    have := dw_ints' da
    subst this
    rw [List.length_map] at hk
    have hp : (ns.map V.int).Perm ((rng ns.length).map V.int) := h2.map _
    rw [hp.count_eq]
    have nd : ((rng ns.length).map V.int).Nodup := List.Pairwise.map _ (fun a b (h : a ≠ b) z => h (V.int.inj z)) (rng_nodup _)
    rw [List.Nodup.count nd, if_pos (List.mem_map.mpr ⟨_, mem_rng.mpr ⟨by omega, by omega⟩, rfl⟩)]
  · intro h
    have hp : xs.Perm ((rng xs.length).map V.int) := by
      refine sub_perm (List.Pairwise.map _ (fun a b (h : a ≠ b) z => h (V.int.inj z)) (rng_nodup _)) (fun a ha => ?_) (by rw [List.length_map, rng_len]; exact Nat.le_refl _)
      obtain ⟨i, hi, rfl⟩ := List.mem_map.mp ha
      have := mem_rng.mp hi
      have c := h i.toNat (by omega)
      rw [show ((i.toNat : Nat) : Int) = i by omega] at c
      exact List.count_pos_iff.mp (by omega)
    obtain ⟨ns, rfl, hp2⟩ := perm_ints hp
    refine ⟨ns, by rw [dw_ints da], by rw [List.length_map] at hl; exact hl, ?_⟩
    rw [List.length_map] at hp2
    exact hp2
end

/-! ## T11 -/

def AllI (xs : List V) : Prop := ∀ x ∈ xs, ∃ i, x = V.int i
theorem AllI.dl {E : List Addr} {H : Hp} : ∀ {xs : List V}, AllI xs → Dl E H xs.length xs
  | [], _ => .nil
  | x :: r, h => by
    obtain ⟨i, rfl⟩ := h x List.mem_cons_self
    have := (Dl.one (Db.int (E := E) (H := H) i (Nat.le_refl 1))).app (AllI.dl (xs := r) fun y hy => h y (List.mem_cons_of_mem _ hy))
    exact this.le (by simp only [List.length_cons]; omega)
theorem AllI.map (ns : List Int) : AllI (ns.map V.int) := fun x hx => by
  obtain ⟨i, _, rfl⟩ := List.mem_map.mp hx
  exact ⟨i, rfl⟩
theorem AllI.db {E : List Addr} {H : Hp} {xs : List V} {p : Addr} {b : Nat} (h : AllI xs) (hp : p ∉ E) (hq : H p = some (.tup xs) ∨ H p = some (.lst xs)) (hb : xs.length + 1 ≤ b) : Db E H b (.ref p) := (h.dl.db hp hq).le hb
theorem AllI.rep {xs : List V} {k : Nat} (h : AllI xs) : AllI (List.replicate k xs).flatten := fun x hx => by
  obtain ⟨l, hl, hx⟩ := List.mem_flatten.mp hx
  rw [(List.mem_replicate.mp hl).2] at hx
  exact h x hx
theorem rep_len (k : Nat) (xs : List V) : (List.replicate k xs).flatten.length = k * xs.length := by simp
section
variable {P : Program} {w : World} {K : PySem.W.Frag} {mg : Str → Option Value} {base : Heap}
/-! store -/
def sp_store (K : PySem.W.Frag) : Sp := fun vs H Q _ => ∃ (a : Addr) (ns : List Int), vs = [.ref a] ∧ SqL K H a (ns.map V.int) ∧ ns.length ≤ 1000 ∧ ∀ s l H', Same H H' → H s = none → Sto s l H' → Q (.ref s) H'
abbrev st_law_store : Stmt := topS 49
theorem sc_law_store : FnScope ["script", "cell"] ["script"] (defScope st_law_store) := ⟨rfl, rfl, rfl, by decide +kernel, rfl, by decide +kernel, by decide +kernel⟩
theorem ok_law_store (D : Df K mg "_law_store" st_law_store) (T : NoB mg)  : Cl P w K mg base 1 "_law_store" ["script"] (sp_store K) := by
  refine cl_of D sc_law_store (fun _ _ _ _ _ _ us hl => match us, hl with | [_], _ => rfl) (fun vs H Q E h => ?_) (fun f cdv A outer sh H vs Q E hr h => ?_)
  · obtain ⟨_, _, rfl, _⟩ := h; rfl
  obtain ⟨a, ns, rfl, hs, hn, k⟩ := h
  refine ⟨_, (pss_one (ps_ret (pe_lst (pa_cons (pe_lc (own := [("cell", 1)]) (g := gName 1) (tt := tYes) rfl sc_law_store.nd (pi_sq (pe_slice sl_list (pv 0) po_none (po_some pe_int))) (blkOk_by (own := [("cell", 1)]) (N := ["script", "cell"]) (sc := defScope st_law_store) (by decide +kernel)) (fun _ _ _ _ _ => (pg_name (i := 1) sc_law_store.nd rfl (Or.inl rfl))) (fun _ _ _ _ _ => pts_nil) (fun _ _ _ _ _ => (pe_callTy int1 (by rfl) T.no_int (by decide +kernel) (pa_cons (pv 1) pa_nil)))) (pa_cons pe_int (pa_cons pe_int (pa_cons pe_int (pa_cons pe_int (pa_cons pe_int (pa_cons pe_int pa_nil)))))))))), ?_⟩
  walk_at "wn"
  refine ⟨ns.map V.int, hs, fun p H1 n1 => ?_⟩
  have e1 := n1.at_
  have hc : ∃ ms : List Int, cutV (ns.map V.int) none (some 63) = ms.map V.int ∧ ms.length ≤ ns.length := by
    unfold cutV
    refine ⟨(ns.drop _).take _, by rw [← List.map_drop, ← List.map_take], ?_⟩
    rw [List.length_take, List.length_drop]
    omega
  obtain ⟨ms, em, hm⟩ := hc
  rw [em] at e1
  walk_at "wn"
  refine cs_by (sq_l e1) (fun C i acc H' => Same H1 H' ∧ acc = (ms.take i).map V.int) (fun C H0 n0 => ⟨n0.same, by simp⟩) (fun C i acc H' _ p o ho => p.1 _ _ ho) ?_ ?_
  · rintro C i x acc H2 N hC hi ha ⟨s2, rfl⟩ hN
    rw [List.getElem?_map] at hi
    cases e : ms[i]? with
    | none => rw [e] at hi; cases hi
    | some z =>
      rw [e] at hi
      cases hi
      walk_at "wn"
      refine cst ha (szl' (by rw [List.length_map, List.length_take]; omega)) fun H5 n5 => hN _ _ n5.at_ ⟨n5.same s2 hC, ?_⟩
      rw [List.take_succ, e]
      simp
  · rintro C acc H2 hC ha ⟨s2, rfl⟩
    rw [List.length_map, List.take_length] at ha
    walk_at "wn"
    refine ⟨szl (by decide), fun s H3 n3 => ?_⟩
    have sm := (n1.same.trans s2).trans n3.same
    exact k s C H3 sm ((n1.same.trans s2).free n3.fr) ⟨ms, 0, 0, 0, 0, 0, 0, n3.at_, n3.k ha, n3.ne ha, by decide⟩
/-! near -/
def sp_near : Sp := fun vs H Q _ => ∃ (s l : Addr) (E : List Addr), vs = [.ref s] ∧ Sto s l H ∧ Lv E H ∧ s ∈ E ∧ ∀ u H', Ge s l H H' → Db E H' 250000 u → Q u H'
end

/-! ## HoV -/
/-- an own error of the class at C, at a, its dict -/
def XoAt (a C : Addr) (d : Option Addr) (H : Hp) : Prop := H a = some (exo a C d) ∧ match d with
  | none => True
  | some dd => ∃ fs, H dd = some (exd dd fs)
theorem XoAt.same {a C : Addr} {d : Option Addr} {H H' : Hp} (h : XoAt a C d H) (s : Same H H') : XoAt a C d H' := ⟨s _ _ h.1, by
  have h2 := h.2
  cases d with
  | none => trivial
  | some dd => exact h2.imp fun fs e => s _ _ e⟩
/-- an __init__ without parameters -/
def sp_ini0 (C : Addr) : Sp := fun vs H Q _ => ∃ x : Addr, vs = [.ref x] ∧ H x = some (exo x C none) ∧ Q .non H
structure ErrC0 (P : Program) (w : World) (K : PySem.W.Frag) (mg : Str → Option Value) (base : Heap) (k : Nat) (x : Str) (C : Addr) : Prop where
  g : mg x = some (.ref C)
  T : OexC K C
  ini : ∃ (fI : Addr) (fd : FuncData) (ps : List Str), PySem.W.findIn K (.ref C) "__init__" = some (some (.ref fI)) ∧ PySem.W.typeIn K (.ref fI) = some (.type "function") ∧ Binds K fd ps [] ∧ FnOk P w K mg base CX0 k fI fd ps (sp_ini0 C)
  xf : XfC K C
  ec : ExcC K C
section
variable {X : Cx} {C : Addr} {ok : List V → Hp → Prop} {fl : List Str} {k : Nat} {x : Str}
theorem run_err {pins : List (Addr × Obj)} {σ : L2.St} {H1 : Hp} {s1 : Shared} {us : List Value} {vs : List V} {Q : VK} {sp : Sp} {j : Nat} {fI : Addr} {fd : FuncData} {ps : List Str} (T : OexC X.K C) (iC : PySem.W.findIn X.K (.ref C) "__init__" = some (some (.ref fI))) (tI : PySem.W.typeIn X.K (.ref fI) = some (.type "function"))
    (hb : Binds X.K fd ps []) (F1 : FnOk X.prog X.w X.K X.mg X.base CX0 j fI fd ps sp) (hr : Room (j + 1) X.A) (I1 : Inv X pins σ H1 s1) (r1 : Vals vs us) (hs : vs.length ≤ 1000) (h : ∀ a, H1 a = none → sp (.ref a :: vs) (upd H1 a (exo a C none)) (fun v H2 => v = .non ∧ Q (.ref a) H2) fun _ _ _ => False) :
    wpAny (model X.prog X.w) X.A (call (.ref C) us) (EP X pins σ Q) X.xe s1 := by
  obtain ⟨nm, q, N, bs, bm, sn, sub, ab, col, dd, k0, k1, k2, k3, k5, hC, hbm⟩ := T.cls
  obtain ⟨hp, g, dr, tk, os⟩ := s1
  generalize hx : hp.objs.size + 1 = a
  have hsz : hp.objs.size ≤ a := by omega
  have hn : H1 a = none := I1.hok.fresh hsz
  have kk : ∀ b o, hp.get? b = some o → ((hp.push (PySem.W.kdv_tup us)).push (PySem.HandSPX.excO C hp.objs.size)).get? b = some o := fun b o e => Heap.get?_push_of_some _ (Heap.get?_push_of_some _ e)
  have hget : ((hp.push (PySem.W.kdv_tup us)).push (PySem.HandSPX.excO C hp.objs.size)).get? a = some (PySem.HandSPX.excO C hp.objs.size) := by subst hx; heap_get
  have I2 : Inv X pins σ (upd H1 a (exo a C none)) ⟨(hp.push (PySem.W.kdv_tup us)).push (PySem.HandSPX.excO C hp.objs.size), g, dr, tk, os⟩ := I1.laid (t' := tk) kk hsz (exo_ok hget)
  have r2 : Vals (V.ref a :: vs) (Value.ref a :: us) := .cons rfl r1
  have hq := h a hn
  have hl : (Value.ref a :: us ++ []).length = ps.length := by
    have e := r2.length
    rw [F1.len _ _ _ _ hq] at e
    rw [List.append_nil]
    exact e.symm
  have hus : us.length ≤ sizeLine := by
    rw [← Paired.length r1, sizeLine_eq]
    omega
  have b2 := hb _ (Value.ref a :: us) I2.kIn hl
  rw [List.append_nil] at b2
  refine wpAny_call (PySem.HandSPX.call_own F.excBase_ValueError (fun Y => PySem.HandSPX.refsVE_contains Y bm hbm) (I1.kIn _ _ hC) (PySem.W.looks_findIn I1.kIn iC) (fun self => PySem.W.bind_fn I1.kIn self tI) hus ?_)
  rw [hx]
  refine codeAny_mono (F1.run _ X.stack _ _ ⟨Value.ref a :: us, []⟩ (Value.ref a :: us) _ _ (fun _ _ _ => False) (hr.make C us []) (I2.env0.make C us []) b2 r2 hq) fun r s' hq' => ?_
  rcases r with er | fl'
  · exact False.elim hq'
  cases fl' with
  | ret u =>
    obtain ⟨v, H', I3, rv, ev, q3⟩ := I2.after hq'
    subst ev
    exact ⟨rv, ⟨V.ref a, H', I3, rfl, q3⟩⟩
  | next => exact False.elim hq'
  | brk => exact False.elim hq'
  | cont => exact False.elim hq'
/-- C(e, ..) as a value -/
def tErrV (C : Addr) (ok : List V → Hp → Prop) (fl : List Str) (ta : TA) : TE := fun σ H Q => ta σ H fun vs H1 => vs.length = fl.length ∧ ok vs H1 ∧ ∀ a d Hm H2, New H1 a (exo a C (some d)) Hm → New Hm d (exd d ((fl.zip vs).reverse)) H2 → Q (.ref a) H2
theorem pe_errV {j : Nat} {e : Expr} {es : List Expr} {ta : TA} {p pos : Pos} (D : ErrC X.prog X.w X.K X.mg X.base j x C ok fl) (hr : Room k X.A) (hg : Gl X x) (ha : PA X (e :: es) ta) (hjk : j + 1 ≤ k := by decide)
    (hdb : (x == ("__debug__" : Str)) = false := by decide) (he : starEach (e :: es) X.env = (false, eval e X.env) :: starEach es X.env := by rfl) (hpl : (backTo pos (starEach es X.env)).any (·.1) = false := by rfl) :
    PE X (.Call (.Name x p) (e :: es) [] pos) (tErrV C ok fl ta) := by
  refine ⟨fun pins s σ H Q I h => ?_⟩
  obtain ⟨fI, fd, ps, iC, tI, hb, F1⟩ := D.ini
  refine wpAny_Call_Name_kw (ld_glob I hg D.g ?_ hdb)
  refine PySem.W.callWith_K (h₀ := X.base) I.ok.mod.kin D.T.kC (thn (ha.run pos pins s σ H _ I h) fun us s1 ⟨vs, H1, I1, r1, hvl, hok, q1⟩ => ⟨I1.kIn, ?_⟩) he hpl
  refine run_err D.T iC tI hb F1 (hr.mono hjk) I1 r1 (by rw [hvl]; have := D.sz; omega) fun a hn => ?_
  refine ⟨a, vs, rfl, hvl, D.okm _ _ _ (New.mk' (o := exo a C none) hn).same hok, upd_same, fun d H' i => ⟨rfl, q1 a d (upd H1 a (exo a C (some d))) H' (New.mk' hn) ⟨?_, i.ad, fun b hb => ?_⟩⟩⟩
  · rw [upd_ne i.ne]
    have := i.fr
    rwa [upd_ne i.ne] at this
  · by_cases hba : b = a
    · rw [hba, upd_same, i.ax]
    · rw [upd_ne hba, i.old b hba hb, upd_ne hba]
/-- C() as a value -/
def tErrV0 (C : Addr) : TE := fun _ H Q => ∀ a H', New H a (exo a C none) H' → Q (.ref a) H'
theorem pe_errV0 {j : Nat} {p pos : Pos} (D : ErrC0 X.prog X.w X.K X.mg X.base j x C) (hr : Room k X.A) (hg : Gl X x) (hjk : j + 1 ≤ k := by decide) (hdb : (x == ("__debug__" : Str)) = false := by decide) :
    PE X (.Call (.Name x p) [] [] pos) (tErrV0 C) := by
  refine ⟨fun pins s σ H Q I h => ?_⟩
  obtain ⟨fI, fd, ps, iC, tI, hb, F1⟩ := D.ini
  refine wpAny_Call_Name_kw (ld_glob I hg D.g ?_ hdb)
  refine PySem.W.callWith_K0 I.kIn D.T.kC ?_
  exact run_err (us := []) D.T iC tI hb F1 (hr.mono hjk) I .nil (by simp) fun a hn => ⟨a, rfl, upd_same, rfl, h a _ (New.mk' hn)⟩
/-- v.n, v an error held as a value -/
def tXo (K : PySem.W.Frag) (n : Str) (te : TE) : TE := fun σ H Q => te σ H fun x H1 => ∃ (a : Addr) (C d : Addr) (fs : List (Str × V)) (v : V), x = .ref a ∧ H1 a = some (exo a C (some d)) ∧ H1 d = some (exd d fs) ∧ fs.lookup n = some v ∧ XfC K C ∧ PySem.W.findIn K (.ref C) n = some none ∧ Q v H1
theorem xo_inst {pins : List (Addr × Obj)} {σ : L2.St} {H : Hp} {s : Shared} {a C : Addr} {d : Option Addr} (I : Inv X pins σ H s) (h : XoAt a C d H) : ∃ o od, PySem.W.InstAt s.heap a o C od := by
  obtain ⟨t1, ho⟩ := exo_at I.hok h.1
  have h2 := h.2
  cases d with
  | none => exact ⟨_, none, ho, rfl, rfl, trivial⟩
  | some dd =>
    obtain ⟨fs, e⟩ := h2
    obtain ⟨mA, hns, hr⟩ := exd_at I.hok e
    obtain ⟨oD, es, ep, hoD, _⟩ := hns
    exact ⟨_, some oD, ho, rfl, rfl, hoD⟩
theorem pe_xO {e : Expr} {te : TE} {pos : Pos} {n : Str} (he : PE X e te) (hb : attributeBase e n X.env (eval e X.env) = eval e X.env := by rfl) : PE X (.Attribute e n pos) (tXo X.K n te) := by
  refine ⟨fun pins s σ H Q I h => attr_of hb (thn (he.run pins s σ H _ I h) fun u s1 hh => ?_)⟩
  obtain ⟨x, H1, I1, rx, a, C, d, fs, v, rfl, ea, ed, l, T, hno, q⟩ := hh
  obtain rfl : u = Value.ref a := rx
  obtain ⟨t1, ho⟩ := exo_at I1.hok ea
  obtain ⟨mA, hns, hr⟩ := exd_at I1.hok ed
  obtain ⟨od, hod, hl⟩ := lookIn_ns hns
  obtain ⟨u, hu, ru⟩ := RelO.some_of (v := v) (o := mA n) (by rw [← l]; exact hr n)
  have J : PySem.W.InstAt s1.heap a _ C (some od) := ⟨ho, rfl, rfl, hod⟩
  exact HandSPX.exc_get I1.kIn J T.ga T.gg T.exC (PySem.W.findObj_own T.hdC hno rfl (by rw [hl, hu])) (handed_of ru) ⟨v, H1, I1.tok _, ru, q⟩
/-- isinstance(v, c), v an error held as a value -/
def rIsO (K : PySem.W.Frag) (a C : Addr) (d : Option Addr) : List V → Hp → VK → Prop := fun xs H Q => ∃ (c : V) (cv : Value) (b : Bool), xs = [.ref a, c] ∧ (∀ u, RelV c u → u = cv) ∧ PySem.W.kitOne K (.ref C) cv = some b ∧ XoAt a C d H ∧ Q (.bl b) H
theorem call_isO {a C : Addr} {d : Option Addr} (E : ExcC X.K C) : CallR X (.builtin "isinstance") (rIsO X.K a C d) := by
  intro pins s σ H xs us Q I r h
  obtain ⟨c, cv, b, rfl, hcv, e, hx, q⟩ := h
  obtain ⟨o, od, J⟩ := xo_inst I hx
  cases r with
  | cons rx rr =>
    cases rr with
    | cons rt rr =>
      cases rr
      cases rx
      obtain rfl := hcv _ rt
      obtain ⟨cd, hc, _⟩ := PySem.W.any_some E.hd
      exact PySem.W.kia_one (PySem.W.kitx_exc (by rw [hc]; rfl) E.hg E.hk E.hs E.ha E.hn E.ht E.hm) I.kIn J e (fun z => nomatch z) fun tk => ⟨.bl b, H, I.kept (t' := tk) fun _ _ z => z, rfl, q⟩
def tIsO (i : Nat) (a C : Addr) (d : Option Addr) (b : Bool) : TE := fun σ H Q => σ[i]? = some (some (.ref a)) ∧ XoAt a C d H ∧ Q (.bl b) H
variable {D : Str} {d : Option Addr} {a : Addr} {i : Nat} {y : Str} {py px pp pos : Pos}
theorem pe_isOV {c : V} {cv : Value} {b : Bool} (N : ErN X.K X.mg D) (hm : X.mg "isinstance" = none) (hg : Gl X "isinstance") (hy : PE X (.Name y py) (tVar i)) (hx : PE X (.Name x px) (tC c))
    (hcv : ∀ u, RelV c u → u = cv) (hk : PySem.W.kitOne X.K (.ref (He.ga X.K D)) cv = some b) : PE X (.Call (.Name "isinstance" pp) [.Name y py, .Name x px] [] pos) (tIsO i a (He.ga X.K D) d b) := by
  have P := pe_callB (x := "isinstance") (p := pp) (pos := pos) (call_isO (a := a) (d := d) N.ec) hg hm (by decide +kernel) (pa_cons hy (pa_cons hx pa_nil))
  refine ⟨fun pins s σ H Q I h => P.run pins s σ H Q I ?_⟩
  obtain ⟨h1, h2, h3⟩ := h
  exact ⟨_, h1, ⟨c, cv, b, rfl, hcv, hk, h2, h3⟩⟩
theorem pe_isOE (N : ErN X.K X.mg D) (a : Addr) (d : Option Addr) (hm : X.mg "isinstance" = none) (hg : Gl X "isinstance") (hy : PE X (.Name y py) (tVar i)) (hgx : Gl X x) (hx : x ∈ errNames := by decide) (hd : (x == ("__debug__" : Str)) = false := by decide) :
    PE X (.Call (.Name "isinstance" pp) [.Name y py, .Name x px] [] pos) (tIsO i a (He.ga X.K D) d (decide (x = D))) :=
  pe_isOV (c := .ref (He.ga X.K x)) N hm hg hy (pe_glob hgx (N.g x hx) (show RelV (.ref (He.ga X.K x)) _ from rfl) hd) (fun _ r => r) (N.k x hx)
theorem pe_isOH (N : ErN X.K X.mg D) (a : Addr) (d : Option Addr) (hm : X.mg "isinstance" = none) (hg : Gl X "isinstance") (hy : PE X (.Name y py) (tVar i)) (hgx : Gl X "HeldorderError") :
    PE X (.Call (.Name "isinstance" pp) [.Name y py, .Name "HeldorderError" px] [] pos) (tIsO i a (He.ga X.K D) d true) :=
  pe_isOV (c := .ref (He.ga X.K "HeldorderError")) N hm hg hy (pe_glob hgx N.gH (show RelV (.ref (He.ga X.K "HeldorderError")) _ from rfl)) (fun _ r => r) N.kH
theorem pe_isOVE (N : ErN X.K X.mg D) (a : Addr) (d : Option Addr) (hm : X.mg "isinstance" = none) (hg : Gl X "isinstance") (hy : PE X (.Name y py) (tVar i)) (hgx : Gl X "ValueError") :
    PE X (.Call (.Name "isinstance" pp) [.Name y py, .Name "ValueError" px] [] pos) (tIsO i a (He.ga X.K D) d true) :=
  pe_isOV (c := .ty "ValueError") N hm hg hy (pe_bltn hgx N.gV (by decide +kernel) (show RelV (.ty "ValueError") _ from rfl)) (fun _ r => r) N.kV
end
theorem a_isO {i : Nat} {a C : Addr} {d : Option Addr} {b : Bool} {σ : L2.St} {H : Hp} {Q : VK} : tIsO i a C d b σ H Q = (σ[i]? = some (some (.ref a)) ∧ XoAt a C d H ∧ Q (.bl b) H) := rfl
theorem a_errV {C : Addr} {ok : List V → Hp → Prop} {fl : List Str} {ta : TA} {σ : L2.St} {H : Hp} {Q : VK} : tErrV C ok fl ta σ H Q = ta σ H fun vs H1 => vs.length = fl.length ∧ ok vs H1 ∧ ∀ a d Hm H2, New H1 a (exo a C (some d)) Hm → New Hm d (exd d ((fl.zip vs).reverse)) H2 → Q (.ref a) H2 := rfl
theorem a_errV0 {C : Addr} {σ : L2.St} {H : Hp} {Q : VK} : tErrV0 C σ H Q = ∀ a H', New H a (exo a C none) H' → Q (.ref a) H' := rfl
theorem a_xo {K : PySem.W.Frag} {n : Str} {te : TE} {σ : L2.St} {H : Hp} {Q : VK} : tXo K n te σ H Q = te σ H fun x H1 => ∃ (a : Addr) (C d : Addr) (fs : List (Str × V)) (v : V), x = .ref a ∧ H1 a = some (exo a C (some d)) ∧ H1 d = some (exd d fs) ∧ fs.lookup n = some v ∧ XfC K C ∧ PySem.W.findIn K (.ref C) n = some none ∧ Q v H1 := rfl

/-! ## E1 -/

section
variable {P : Program} {w : World} {K : PySem.W.Frag} {mg : Str → Option Value} {base : Heap}
/-- what shown can show -/
def ShOk (v : V) (H : Hp) : Prop := (∃ i : Int, v = .int i ∧ i.natAbs.log2 < 1920) ∨ (∃ b, v = .bl b) ∨ ∃ t, tyN H v = some t ∧ kitB t "int" = some false
theorem tyN_same {H H' : Hp} {v : V} {t : String} (s : Same H H') (h : tyN H v = some t) : tyN H' v = some t := by
  cases v with
  | ref p =>
    unfold tyN at h ⊢
    simp only at h ⊢
    cases e : H p with
    | none => rw [e] at h; cases h
    | some o => rw [s _ _ e]; rw [e] at h; exact h
  | _ => exact h
theorem ShOk.same {v : V} {H H' : Hp} (s : Same H H') (h : ShOk v H) : ShOk v H' := by
  rcases h with h | h | ⟨t, h, k⟩
  · exact .inl h
  · exact .inr (.inl h)
  · exact .inr (.inr ⟨t, tyN_same s h, k⟩)
def sp_shown : Sp := fun vs H Q _ => ∃ v, vs = [v] ∧ ShOk v H ∧ ∀ y : Str, y.length ≤ 2000 → Q (.str y) H
theorem shown_len {i : Int} (h : i.natAbs.log2 < 1920) : (Str.ofString (toString i)).length ≤ 2000 := by
  have e := int_text_length_le (k := 1920) (by decide) h
  rw [PySem.ofString_length]
  omega
abbrev stshown : Stmt := topS 2
theorem scshown : FnScope ["value"] ["value"] (defScope stshown) := ⟨rfl, rfl, rfl, by decide +kernel, rfl, by decide +kernel, by decide +kernel⟩
theorem okshown (D : Df K mg "shown" stshown) (T : NoB mg)  : Cl P w K mg base 1 "shown" ["value"] sp_shown := by
  refine cl_of D scshown (fun _ _ _ _ _ _ us hl => match us, hl with | [_], _ => rfl) (fun vs H Q E h => ?_) (fun f cdv A outer sh H vs Q E hr h => ?_)
  · obtain ⟨_, rfl, _⟩ := h; rfl
  obtain ⟨v, rfl, hs, k⟩ := h
  refine ⟨_, (pss_one (ps_ret (pe_ifExp (pt_val (pe_callB isi1 (by rfl) T.no_isinstance (by decide +kernel) (pa_cons (pv 0) (pa_cons (pe_bltn (by rfl) T.no_int (by decide +kernel) (show RelV (.ty "int") _ from rfl)) pa_nil)))) (pe_callTy str2 (by rfl) T.no_str (by decide +kernel) (pa_cons (pv 0) pa_nil)) pe_str))), ?_⟩
  rcases hs with ⟨i, rfl, hi⟩ | ⟨b, rfl⟩ | ⟨t, ht, hk⟩
  · walk_at "wps"
    rw [b_stri]
    exact ⟨hi, k _ (shown_len hi)⟩
  · walk_at "wps"
    rw [b_strb]
    exact k _ (by cases b <;> decide)
  · walk_at "wn"
    refine ⟨t, ht, false, hk, ?_⟩
    rw [if_neg Bool.false_ne_true]
    exact k _ (by decide)
theorem prt_shn {i : Nat} {v : V} {σ : L2.St} {H : Hp} (h : σ[i]? = some (some v)) (o : ShOk v H) : Prt (tFmt (tCall sp_shown [] E0 (tCons (tVar i) tNil))) σ H :=
  fun Q k => ⟨v, h, v, rfl, o, fun y hy => .inl ⟨y, rfl, by rw [sizeLine_eq]; omega, k y (by omega)⟩⟩
/-- what an __init__ wants: 0: shown can show it; 1: a short text; 2: any -/
def okV : Nat → V → Hp → Prop
  | 0, v, H => ShOk v H
  | 1, v, _ => ∃ z : Str, v = .str z ∧ z.length ≤ 2000
  | _, _, _ => True
def okP : List Nat → List V → Hp → Prop
  | k :: ks, v :: vs, H => okV k v H ∧ okP ks vs H
  | _, _, _ => True
theorem okP_mono : ∀ (ks : List Nat) (us : List V) (H H' : Hp), Same H H' → okP ks us H → okP ks us H'
  | [], [], _, _, _, _ => trivial
  | [], _ :: _, _, _, _, _ => trivial
  | _ :: _, [], _, _, _, _ => trivial
  | k :: ks, v :: vs, H, H', s, h => ⟨by
      have h1 := h.1
      unfold okV at h1 ⊢
      split at h1
      · exact h1.same s
      · exact h1
      · trivial, okP_mono ks vs H H' s h.2⟩
abbrev stini_BadNumber : Stmt := clsFn (topS 4) 0
theorem scini_BadNumber : NdefX.NScope ["self", "value", "low", "high", "__class__"] ["self", "value", "low", "high"] ["__class__"] (defScope stini_BadNumber) := NdefX.nscope_by (by decide +kernel)
abbrev ErT_BadNumber (P : Program) (w : World) (K : PySem.W.Frag) (mg : Str → Option Value) (base : Heap) : Prop := ErrC P w K mg base 2 "BadNumber" (He.ga K "BadNumber") (okP [0, 0, 0]) ["value", "low", "high"]
theorem okini_BadNumber {f c cda C : Addr} {fd : FuncData} (D : SupTxt P K mg C f c cda "__init__" "BadNumber.__init__" (defArgs stini_BadNumber) (defBody stini_BadNumber) (defScope stini_BadNumber) fd) (hno1 : PySem.W.findIn K (.ref C) "value" = some none) (hno2 : PySem.W.findIn K (.ref C) "low" = some none) (hno3 : PySem.W.findIn K (.ref C) "high" = some none) (Cshown : Cl P w K mg base 1 "shown" ["value"] sp_shown) :
    FnOk P w K mg base CX0 2 f fd ["self", "value", "low", "high"] (sp_ini C (okP [0, 0, 0]) ["value", "low", "high"]) := by
  refine fn_super D scini_BadNumber (by rfl) ⟨_, rfl⟩ (by decide) rfl (by decide +kernel) (fun _ => rfl) (fun _ => rfl) (fun _ => rfl) (fun vs H Q E h => ?_) (fun A outer s H vs ws Q E hr hw h => ?_)
  · obtain ⟨x, us, rfl, hl, _⟩ := h
    simp [hl]
  obtain ⟨x, us, rfl, hl, hok, hx, k⟩ := h
  obtain ⟨v1, v2, v3, rfl⟩ : ∃ (v1 : V) (v2 : V) (v3 : V), us = [v1, v2, v3] := match us, hl with | [v1, v2, v3], _ => ⟨v1, v2, v3, rfl⟩
  obtain ⟨o1, o2, o3, _⟩ := hok
  obtain ⟨w0, rfl⟩ : ∃ w0, ws = [w0] := match ws, hw with | [a], _ => ⟨a, rfl⟩
  refine ⟨x, _, _, _, rfl, hx, pa_cons (pe_joined (.cons (pe_fmt (pe_cl Cshown hr (by rfl) (pa_cons (pv 1) pa_nil))) (.cons pe_str (.cons (pe_fmt (pe_cl Cshown hr (by rfl) (pa_cons (pv 2) pa_nil))) (.cons pe_str (.cons (pe_fmt (pe_cl Cshown hr (by rfl) (pa_cons (pv 3) pa_nil))) .nil)))))) pa_nil, (pss_cons (ps_ost (pv 0) (pv 1)) (pss_cons (ps_ost (pv 0) (pv 2)) (pss_one (ps_ost (pv 0) (pv 3))))), ?_⟩
  have hst : NdefX.startF ["self", "value", "low", "high", "__class__"] [V.ref x, v1, v2, v3] [w0] = [some (V.ref x), some v1, some v2, some v3, w0] := rfl
  rw [hst]
  refine js_parts (fun out => ?_) (js_cons (prt_shn rfl o1) (js_cons prt_lit (js_cons (prt_shn rfl o2) (js_cons prt_lit (js_cons (prt_shn rfl o3) js_nil))))) (by decide)
  refine ⟨by show 1 ≤ 1000; decide, hx, ?_⟩
  refine ⟨_, rfl, _, rfl, x, C, rfl, D.T, hno1, .inl ⟨hx, fun dx n ne => ?_⟩⟩
  have i1 := InS.first (C := C) (f := "value") (y := v1) n ne
  refine ⟨_, rfl, _, rfl, x, C, rfl, D.T, hno2, .inr ⟨dx, _, i1.ax, i1.ad, Nat.le_of_ble_eq_true rfl, ?_⟩⟩
  have i2 := i1.more (f := "low") (y := v2)
  refine ⟨_, rfl, _, rfl, x, C, rfl, D.T, hno3, .inr ⟨dx, _, i2.ax, i2.ad, Nat.le_of_ble_eq_true rfl, ?_⟩⟩
  have i3 := i2.more (f := "high") (y := v3)
  exact k dx _ i3
abbrev stini_TooMany : Stmt := clsFn (topS 7) 0
theorem scini_TooMany : NdefX.NScope ["self", "what", "limit", "__class__"] ["self", "what", "limit"] ["__class__"] (defScope stini_TooMany) := NdefX.nscope_by (by decide +kernel)
abbrev ErT_TooMany (P : Program) (w : World) (K : PySem.W.Frag) (mg : Str → Option Value) (base : Heap) : Prop := ErrC P w K mg base 2 "TooMany" (He.ga K "TooMany") (okP [1, 0]) ["what", "limit"]
theorem okini_TooMany {f c cda C : Addr} {fd : FuncData} (D : SupTxt P K mg C f c cda "__init__" "TooMany.__init__" (defArgs stini_TooMany) (defBody stini_TooMany) (defScope stini_TooMany) fd) (hno1 : PySem.W.findIn K (.ref C) "what" = some none) (hno2 : PySem.W.findIn K (.ref C) "limit" = some none) (Cshown : Cl P w K mg base 1 "shown" ["value"] sp_shown) :
    FnOk P w K mg base CX0 2 f fd ["self", "what", "limit"] (sp_ini C (okP [1, 0]) ["what", "limit"]) := by
  refine fn_super D scini_TooMany (by rfl) ⟨_, rfl⟩ (by decide) rfl (by decide +kernel) (fun _ => rfl) (fun _ => rfl) (fun _ => rfl) (fun vs H Q E h => ?_) (fun A outer s H vs ws Q E hr hw h => ?_)
  · obtain ⟨x, us, rfl, hl, _⟩ := h
    simp [hl]
  obtain ⟨x, us, rfl, hl, hok, hx, k⟩ := h
  obtain ⟨v1, v2, rfl⟩ : ∃ (v1 : V) (v2 : V), us = [v1, v2] := match us, hl with | [v1, v2], _ => ⟨v1, v2, rfl⟩
  obtain ⟨o1, o2, _⟩ := hok
  obtain ⟨t1, rfl, z1⟩ := o1
  obtain ⟨w0, rfl⟩ : ∃ w0, ws = [w0] := match ws, hw with | [a], _ => ⟨a, rfl⟩
  refine ⟨x, _, _, _, rfl, hx, pa_cons (pe_joined (.cons pe_str (.cons (pe_fmt (pv 1)) (.cons pe_str (.cons (pe_fmt (pe_cl Cshown hr (by rfl) (pa_cons (pv 2) pa_nil))) .nil))))) pa_nil, (pss_cons (ps_ost (pv 0) (pv 1)) (pss_one (ps_ost (pv 0) (pv 2)))), ?_⟩
  have hst : NdefX.startF ["self", "what", "limit", "__class__"] [V.ref x, (V.str t1), v2] [w0] = [some (V.ref x), some (V.str t1), some v2, w0] := rfl
  rw [hst]
  refine js_parts (fun out => ?_) (js_cons prt_lit (js_cons (prt_var rfl z1) (js_cons prt_lit (js_cons (prt_shn rfl o2) js_nil)))) (by decide)
  refine ⟨by show 1 ≤ 1000; decide, hx, ?_⟩
  refine ⟨_, rfl, _, rfl, x, C, rfl, D.T, hno1, .inl ⟨hx, fun dx n ne => ?_⟩⟩
  have i1 := InS.first (C := C) (f := "what") (y := (V.str t1)) n ne
  refine ⟨_, rfl, _, rfl, x, C, rfl, D.T, hno2, .inr ⟨dx, _, i1.ax, i1.ad, Nat.le_of_ble_eq_true rfl, ?_⟩⟩
  have i2 := i1.more (f := "limit") (y := v2)
  exact k dx _ i2
end

/-! ## E4 -/
local macro_rules | `(tactic| walk_at "wp") => `(tactic| (try simp only [a_var, a_c, a_op, a_un, a_test, a_b, a_and, a_or, a_not, a_andV, a_orV, a_notV, a_if, a_next, a_seq, a_break, a_cont, a_drop, a_ret, a_retN, a_ifS, a_asg, a_name, a_sub, a_nil, a_cons, a_tup, a_lst, a_call, a_cb, a_bm0, a_bm, a_sl, a_nopart, a_part, a_aug, b_rI, b_rI0, b_rU, b_eq, b_ne, b_isTF, b_int, b_intb, b_list, b_tuple, b_ix, b_len, b_setL, b_app, b_pop, b_popAt, b_sl, b_rep, b_cat, b_lstRg, b_tupRg, b_rg1, b_rg2, a_forR, a_forR2, a_forS, b_fsq, a_lcR, a_lcR2, a_lcS, b_csq, wipe_nil, wipe_cons, a_yes, wh_i, wh_s, wh_b, wh_r, wh_n, Bool.not_eq_true, eq_self, not_true_eq_false, not_false_eq_true, b_isi, kb_all, ty_non, ty_bl, ty_int, ty_str, a_m1, b_ixS, b_slS, List.cons.injEq, and_assoc, exists_and_left, cxK, List.getElem?_cons_zero, List.getElem?_cons_succ, List.set_cons_zero, List.set_cons_succ, Option.some.injEq, exists_eq_left', exists_eq_left, V.bl.injEq, V.int.injEq, V.ref.injEq, V.str.injEq, HO.lst.injEq, HO.tup.injEq, decide_eq_true_eq, true_and, and_true, L2.start, List.map_cons, List.map_nil, List.length_cons, List.length_nil, Nat.zero_add, Nat.reduceAdd, Nat.reduceSub, List.replicate_succ, List.replicate_zero, List.cons_append, List.nil_append, if_true, if_false, Bool.false_eq_true, Bool.not_true, Bool.not_false, decide_not, Bool.not_eq_true', decide_eq_false_iff_not, scal_ii, scal_bb, scal_ss, scal_is, scal_si, reduceCtorEq, Bool.true_eq_false, decide_false, decide_true, if_pos, ne_eq, Int.reduceNeg, atI_0, atI_1, atI_2, atI_3, atI_4, atI_5, atI_6, ixN_7, b_ins, a_revL, b_isT, V.ty.injEq, Bool.true_or, Bool.or_true, Bool.false_or, Bool.or_false, Bool.or_self, b_sorted, b_repT, a_err, a_callS, a_xp, a_isP, a_lcE, a_forE, a_isV, a_lcH, a_ch, a_forES]))
local macro_rules | `(tactic| walk_at "wps") => `(tactic| (try simp only [a_var, a_c, a_op, a_un, a_test, a_b, a_and, a_or, a_not, a_andV, a_orV, a_notV, a_if, a_next, a_seq, a_break, a_cont, a_drop, a_ret, a_retN, a_ifS, a_asg, a_name, a_sub, a_nil, a_cons, a_tup, a_lst, a_call, a_cb, a_bm0, a_bm, a_sl, a_nopart, a_part, a_aug, b_rI, b_rI0, b_rU, b_eq, b_ne, b_isTF, b_int, b_intb, b_list, b_tuple, b_ix, b_len, b_setL, b_app, b_pop, b_popAt, b_sl, b_rep, b_cat, b_lstRg, b_tupRg, b_rg1, b_rg2, a_forR, a_forR2, a_forS, b_fsq, a_lcR, a_lcR2, a_lcS, b_csq, wipe_nil, wipe_cons, a_yes, wh_i, wh_s, wh_b, wh_r, wh_n, Bool.not_eq_true, eq_self, not_true_eq_false, not_false_eq_true, b_isi, kb_all, ty_non, ty_bl, ty_int, ty_str, a_m1, b_ixS, b_slS, List.cons.injEq, and_assoc, exists_and_left, cxK, List.getElem?_cons_zero, List.getElem?_cons_succ, List.set_cons_zero, List.set_cons_succ, Option.some.injEq, exists_eq_left', exists_eq_left, V.bl.injEq, V.int.injEq, V.ref.injEq, V.str.injEq, HO.lst.injEq, HO.tup.injEq, decide_eq_true_eq, true_and, and_true, L2.start, List.map_cons, List.map_nil, List.length_cons, List.length_nil, Nat.zero_add, Nat.reduceAdd, Nat.reduceSub, List.replicate_succ, List.replicate_zero, List.cons_append, List.nil_append, if_true, if_false, Bool.false_eq_true, Bool.not_true, Bool.not_false, decide_not, Bool.not_eq_true', decide_eq_false_iff_not, scal_ii, scal_bb, scal_ss, scal_is, scal_si, reduceCtorEq, Bool.true_eq_false, decide_false, decide_true, if_pos, ne_eq, Int.reduceNeg, atI_0, atI_1, atI_2, atI_3, atI_4, atI_5, atI_6, ixN_7, b_ins, a_revL, b_isT, V.ty.injEq, Bool.true_or, Bool.or_true, Bool.false_or, Bool.or_false, Bool.or_self, b_sorted, b_repT, a_err, a_callS, a_xp, a_isP, a_lcE, a_forE, a_isV, a_lcH, a_ch, a_forES, *]))
local macro_rules | `(tactic| walk_at "wq") => `(tactic| (try simp only [a_var, a_c, a_op, a_un, a_test, a_b, a_and, a_or, a_not, a_andV, a_orV, a_notV, a_if, a_next, a_break, a_cont, a_drop, a_ret, a_retN, a_ifS, a_asg, a_name, a_sub, a_nil, a_cons, a_tup, a_lst, a_call, a_cb, a_bm0, a_bm, a_sl, a_nopart, a_part, a_aug, b_rI, b_rI0, b_rU, b_eq, b_ne, b_isTF, b_int, b_intb, b_list, b_tuple, b_ix, b_len, b_setL, b_app, b_pop, b_popAt, b_sl, b_rep, b_cat, b_lstRg, b_tupRg, b_rg1, b_rg2, a_forR, a_forR2, a_forS, b_fsq, a_lcR, a_lcR2, a_lcS, b_csq, wipe_nil, wipe_cons, a_yes, wh_i, wh_s, wh_b, wh_r, wh_n, Bool.not_eq_true, eq_self, not_true_eq_false, not_false_eq_true, b_isi, kb_all, ty_non, ty_bl, ty_int, ty_str, a_m1, b_ixS, b_slS, List.cons.injEq, and_assoc, exists_and_left, cxK, List.getElem?_cons_zero, List.getElem?_cons_succ, List.set_cons_zero, List.set_cons_succ, Option.some.injEq, exists_eq_left', exists_eq_left, V.bl.injEq, V.int.injEq, V.ref.injEq, V.str.injEq, HO.lst.injEq, HO.tup.injEq, decide_eq_true_eq, true_and, and_true, L2.start, List.map_cons, List.map_nil, List.length_cons, List.length_nil, Nat.zero_add, Nat.reduceAdd, Nat.reduceSub, List.replicate_succ, List.replicate_zero, List.cons_append, List.nil_append, if_true, if_false, Bool.false_eq_true, Bool.not_true, Bool.not_false, decide_not, Bool.not_eq_true', decide_eq_false_iff_not, scal_ii, scal_bb, scal_ss, scal_is, scal_si, reduceCtorEq, Bool.true_eq_false, decide_false, decide_true, if_pos, ne_eq, Int.reduceNeg, atI_0, atI_1, atI_2, atI_3, atI_4, atI_5, atI_6, ixN_7, b_ins, a_revL, b_isT, V.ty.injEq, Bool.true_or, Bool.or_true, Bool.false_or, Bool.or_false, Bool.or_self, b_sorted, b_repT, a_err, a_callS, a_xp, a_isP, a_lcE, a_forE, a_isV, a_lcH, a_ch, a_forES, *]))
local macro_rules | `(tactic| walk_at "wn") => `(tactic| (try simp only [a_var, a_c, a_op, a_un, a_test, a_b, a_and, a_or, a_not, a_andV, a_orV, a_notV, a_if, a_next, a_break, a_cont, a_drop, a_ret, a_retN, a_ifS, a_asg, a_name, a_sub, a_nil, a_cons, a_tup, a_lst, a_call, a_cb, a_bm0, a_bm, a_sl, a_nopart, a_part, a_aug, b_rI, b_rI0, b_rU, b_eq, b_ne, b_isTF, b_int, b_intb, b_list, b_tuple, b_ix, b_len, b_setL, b_app, b_pop, b_popAt, b_sl, b_rep, b_cat, b_lstRg, b_tupRg, b_rg1, b_rg2, a_forR, a_forR2, a_forS, b_fsq, a_lcR, a_lcR2, a_lcS, b_csq, wipe_nil, wipe_cons, a_yes, wh_i, wh_s, wh_b, wh_r, wh_n, Bool.not_eq_true, eq_self, not_true_eq_false, not_false_eq_true, b_isi, kb_all, ty_non, ty_bl, ty_int, ty_str, a_m1, b_ixS, b_slS, List.cons.injEq, and_assoc, exists_and_left, cxK, List.getElem?_cons_zero, List.getElem?_cons_succ, List.set_cons_zero, List.set_cons_succ, Option.some.injEq, exists_eq_left', exists_eq_left, V.bl.injEq, V.int.injEq, V.ref.injEq, V.str.injEq, HO.lst.injEq, HO.tup.injEq, decide_eq_true_eq, true_and, and_true, L2.start, List.map_cons, List.map_nil, List.length_cons, List.length_nil, Nat.zero_add, Nat.reduceAdd, Nat.reduceSub, List.replicate_succ, List.replicate_zero, List.cons_append, List.nil_append, if_true, if_false, Bool.false_eq_true, Bool.not_true, Bool.not_false, decide_not, Bool.not_eq_true', decide_eq_false_iff_not, scal_ii, scal_bb, scal_ss, scal_is, scal_si, reduceCtorEq, Bool.true_eq_false, decide_false, decide_true, if_pos, ne_eq, Int.reduceNeg, atI_0, atI_1, atI_2, atI_3, atI_4, atI_5, atI_6, ixN_7, b_ins, a_revL, b_isT, V.ty.injEq, Bool.true_or, Bool.or_true, Bool.false_or, Bool.or_false, Bool.or_self, b_sorted, b_repT, a_err, a_callS, a_xp, a_isP, a_lcE, a_forE, a_isV, a_lcH, a_ch, a_forES]))
local macro_rules | `(tactic| walk_at "sq") => `(tactic| ((try dsimp only); rw [a_seq]; walk_at "wq"))
local macro_rules | `(tactic| walk_at "sn") => `(tactic| ((try dsimp only); rw [a_seq]; walk_at "wn"))

section
variable {P : Program} {w : World} {K : PySem.W.Frag} {mg : Str → Option Value} {base : Heap} {C : Addr}
def sp_iswH : HSp := fun _ _ _ vs H Q _ => ∃ (v : V) (d : PyData) (n : Nat) (E : List Addr), vs = [v] ∧ Dw E H v d n ∧ Q (.bl (isWh v)) H
theorem ok_law_is_wholeH (D : Df K mg "_law_is_whole" st_law_is_whole) (T : NoB mg)  : ClH P w K mg base 1 "_law_is_whole" ["value"] sp_iswH := by
  refine clH_of D sc_law_is_whole (fun _ _ _ _ _ _ us hl => match us, hl with | [_], _ => rfl) (fun _ _ _ vs H Q E h => ?_) (fun f cdv A outer sh H vs Q E p cls dd hot hz hc hr h => ?_)
  · obtain ⟨_, _, _, _, rfl, _⟩ := h; rfl
  have hf : ∃ vs, p.2.data = .fields vs := hot.2.imp fun _ h => h.1
  obtain ⟨v, d, n, E, rfl, hv, k⟩ := h
  refine ⟨_, (pss_one (ps_ret (pe_and (pe_callB isi1 (by rfl) T.no_isinstance (by decide +kernel) (pa_cons (pv 0) (pa_cons (pe_bltn (by rfl) T.no_int (by decide +kernel) (show RelV (.ty "int") _ from rfl)) pa_nil))) (pe_one (pe_not (pe_callB isi1 (by rfl) T.no_isinstance (by decide +kernel) (pa_cons (pv 0) (pa_cons (pe_bltn (by rfl) T.no_bool (by decide +kernel) (show RelV (.ty "bool") _ from rfl)) pa_nil)))))))), ?_⟩
  cases hv with
  | lf l => cases l <;> (walk_at "wps"; exact k)
  | lst ne h a =>
    have ht := ty_l h
    walk_at "wps"
    exact k
  | tup ne h a =>
    have ht := ty_t h
    walk_at "wps"
    exact k
theorem _root_.Ho.XdAt.kp {d : Option Addr} {H H' : Hp} (h : XdAt d H) (s : Same H H') : XdAt d H' := by
  cases d with
  | none => trivial
  | some dd => exact h.imp fun fs e => s _ _ e
def sp_aloneH (K : PySem.W.Frag) (mg : Str → Option Value) : HSp := fun a c d vs H Q _ => ∃ En : Str, ErN K mg En ∧ (errNames.filter fun z => decide (z = En)).length = 1 ∧ vs = [.ref a] ∧ c = .ref (He.ga K En) ∧ XdAt d H ∧ ∀ H', Same H H' → Q (.bl true) H'
def sp_sameH : HSp := fun _ _ _ vs H Q _ => ∃ (x y : V) (d : PyData) (n m : Nat), vs = [x, y] ∧ Dw [] H x d n ∧ Dw [] H y d m ∧ n ≤ 4000000 ∧ ∀ H', Same H H' → Q (.bl true) H'
end

/-! ## HoI -/
def rotL (c : List Int) : List Int := c.tail ++ c.head?.toList
def rotR (c : List Int) : List Int := c.getLast?.toList ++ c.dropLast
theorem rotL_perm : ∀ c : List Int, (rotL c).Perm c
  | [] => .refl _
  | x :: r => by
    show (r ++ [x]).Perm (x :: r)
    exact List.perm_append_comm
theorem rotR_perm (c : List Int) : (rotR c).Perm c := by
  unfold rotR
  cases h : c.getLast? with
  | none =>
    have : c = [] := List.getLast?_eq_none_iff.mp h
    subst this
    exact .refl _
  | some x =>
    have e : c = c.dropLast ++ [x] := by
      obtain ⟨l, rfl⟩ := List.getLast?_eq_some_iff.mp h
      simp
    conv => rhs; rw [e]
    exact List.perm_append_comm
theorem rotL_len (c : List Int) : (rotL c).length = c.length := (rotL_perm c).length_eq
theorem rotR_len (c : List Int) : (rotR c).length = c.length := (rotR_perm c).length_eq
theorem rotL_at {c : List Int} {k : Nat} (h : k < c.length) : (rotL c)[k]? = c[(k + 1) % c.length]? := by
  cases c with
  | nil => simp at h
  | cons x r =>
    show (r ++ [x])[k]? = (x :: r)[(k + 1) % (r.length + 1)]?
    rw [List.length_cons] at h
    by_cases e : k = r.length
    · subst e
      rw [Nat.mod_self, List.getElem?_append_right (Nat.le_refl _), Nat.sub_self]
      rfl
    · rw [Nat.mod_eq_of_lt (by omega), List.getElem?_append_left (by omega)]
      rfl
theorem rotR_at0 {c : List Int} {z : Int} (h : c[c.length - 1]? = some z) : (rotR c)[0]? = some z := by
  unfold rotR
  rw [List.getLast?_eq_getElem?, h]
  rfl
theorem rotR_at1 {c : List Int} {k : Nat} (h : k + 1 < c.length) : (rotR c)[k + 1]? = c[k]? := by
  unfold rotR
  have hl : c.getLast?.toList.length = 1 := by
    rw [List.getLast?_eq_getElem?, List.getElem?_eq_getElem (show c.length - 1 < c.length by omega)]
    rfl
  rw [List.getElem?_append_right (by omega), hl, List.getElem?_dropLast]
  have : k + 1 - 1 = k := by omega
  rw [this, if_pos (by omega)]
theorem rotL_rotR {c : List Int} : rotL (rotR c) = c := by
  cases h : c.getLast? with
  | none =>
    have : c = [] := List.getLast?_eq_none_iff.mp h
    subst this
    rfl
  | some x =>
    obtain ⟨l, rfl⟩ := List.getLast?_eq_some_iff.mp h
    unfold rotR rotL
    simp
def asg (im : List Int) (ps : List (Int × Int)) : List Int := ps.foldl (fun im q => im.set q.1.toNat q.2) im
theorem asg_snoc {im : List Int} {ps : List (Int × Int)} {q : Int × Int} : asg im (ps ++ [q]) = (asg im ps).set q.1.toNat q.2 := by
  unfold asg
  rw [List.foldl_append]
  rfl
theorem asg_len : ∀ {ps : List (Int × Int)} {im : List Int}, (asg im ps).length = im.length
  | [], _ => rfl
  | q :: r, im => by
    have := asg_len (ps := r) (im := im.set q.1.toNat q.2)
    rw [List.length_set] at this
    exact this
theorem asg_ne : ∀ {ps : List (Int × Int)} {im : List Int} {p : Nat}, (∀ q ∈ ps, q.1.toNat ≠ p) → (asg im ps)[p]? = im[p]?
  | [], _, _, _ => rfl
  | q :: r, im, p, h => by
    have := asg_ne (ps := r) (im := im.set q.1.toNat q.2) (p := p) fun q' hq => h q' (List.mem_cons_of_mem _ hq)
    rw [List.getElem?_set_ne (h q List.mem_cons_self)] at this
    exact this
theorem asg_eq : ∀ {ps : List (Int × Int)} {im : List Int} {a b : Int}, (ps.map fun q => q.1.toNat).Nodup → (a, b) ∈ ps → a.toNat < im.length → (asg im ps)[a.toNat]? = some b
  | [], _, _, _, _, h, _ => by cases h
  | q :: r, im, a, b, nd, h, hl => by
    rw [List.map_cons, List.nodup_cons] at nd
    rcases List.mem_cons.mp h with e | h'
    · subst e
      have := asg_ne (ps := r) (im := im.set a.toNat b) (p := a.toNat) fun q' hq e => nd.1 (List.mem_map.mpr ⟨q', hq, e⟩)
      rw [List.getElem?_set_self hl] at this
      exact this
    · exact asg_eq (ps := r) (im := im.set q.1.toNat q.2) nd.2 h' (by rw [List.length_set]; exact hl)
def prA (c : List Int) : List (Int × Int) := c.zip (rotL c)
def prB (c : List Int) : List (Int × Int) := (rotR c).zip c
structure Img (n : Nat) (rs : List (List Int)) (im : List Int) : Prop where
  len : im.length = n
  on : ∀ c ∈ rs, ∀ (k : Nat) (z : Int), c[k]? = some z → im[z.toNat]? = (rotL c)[k]?
  off : ∀ p : Nat, p < n → (p : Int) ∉ rs.flatten → im[p]? = some (p : Int)
structure Rws (n : Nat) (rs : List (List Int)) : Prop where
  nd : rs.flatten.Nodup
  rg : ∀ z ∈ rs.flatten, 0 ≤ z ∧ z < n
theorem toNat_nd {l : List Int} (nd : l.Nodup) (h : ∀ z ∈ l, 0 ≤ z) : (l.map Int.toNat).Nodup := by
  rw [List.nodup_iff_pairwise_ne, List.pairwise_map]
  rw [List.nodup_iff_pairwise_ne] at nd
  refine nd.imp_of_mem fun {a b} ha hb hne e => hne ?_
  have := h a ha
  have := h b hb
  omega
theorem img_of {n : Nat} {rs : List (List Int)} {ps : List (Int × Int)} (r : Rws n rs) (hf : (ps.map Prod.fst).Perm rs.flatten) (hon : ∀ c ∈ rs, ∀ (k : Nat) (z y : Int), c[k]? = some z → (rotL c)[k]? = some y → (z, y) ∈ ps) : Img n rs (asg (rng n) ps) := by
  have nd : (ps.map fun q => q.1.toNat).Nodup := by
    have e : (ps.map fun q => q.1.toNat) = (ps.map Prod.fst).map Int.toNat := by rw [List.map_map]; rfl
    rw [e]
    exact toNat_nd (hf.nodup_iff.mpr r.nd) fun z hz => (r.rg z (hf.mem_iff.mp hz)).1
  refine ⟨by rw [asg_len, rng_len], fun c hc k z hz => ?_, fun p hp hn => ?_⟩
  · have hk := (List.getElem?_eq_some_iff.mp hz).1
    have hk2 : k < (rotL c).length := by rw [rotL_len]; exact hk
    have hy := List.getElem?_eq_getElem hk2
    have hg := r.rg z (List.mem_flatten.mpr ⟨c, hc, List.mem_of_getElem? hz⟩)
    rw [hy]
    exact asg_eq nd (hon c hc k z _ hz hy) (by rw [rng_len]; omega)
  · rw [asg_ne, rng_get hp]
    intro q hq e
    have hm := hf.mem_iff.mp (List.mem_map.mpr ⟨q, hq, rfl⟩)
    have := (r.rg _ hm).1
    exact hn (by have e2 : (p : Int) = q.1 := by omega
                 rw [e2]; exact hm)
theorem img_A {n : Nat} {rs : List (List Int)} (r : Rws n rs) : Img n rs (asg (rng n) (rs.flatMap prA)) := by
  refine img_of r ?_ fun c hc k z y hz hy => List.mem_flatMap.mpr ⟨c, hc, List.mem_of_getElem? (i := k) (by unfold prA; rw [List.getElem?_zip_eq_some]; exact ⟨hz, hy⟩)⟩
  have e : (rs.flatMap prA).map Prod.fst = rs.flatten := by
    rw [List.map_flatMap]
    have : (fun c => (prA c).map Prod.fst) = fun c : List Int => c := by
      funext c
      unfold prA
      rw [List.map_fst_zip]
      rw [rotL_len]
      exact Nat.le_refl _
    rw [this, List.flatMap_id']
  rw [e]
theorem flatMap_perm {f g : List Int → List Int} (h : ∀ c, (f c).Perm (g c)) : ∀ rs : List (List Int), (rs.flatMap f).Perm (rs.flatMap g)
  | [] => .refl _
  | c :: r => by
    rw [List.flatMap_cons, List.flatMap_cons]
    exact (h c).append (flatMap_perm h r)
theorem img_B {n : Nat} {rs : List (List Int)} (r : Rws n rs) : Img n rs (asg (rng n) (rs.flatMap prB)) := by
  refine img_of r ?_ fun c hc k z y hz hy => ?_
  · have e : (rs.flatMap prB).map Prod.fst = rs.flatMap rotR := by
      rw [List.map_flatMap]
      congr 1
      funext c
      unfold prB
      rw [List.map_fst_zip]
      rw [rotR_len]
      exact Nat.le_refl _
    rw [e]
    have := flatMap_perm rotR_perm rs
    rw [List.flatMap_id'] at this
    exact this
  · have hk := (List.getElem?_eq_some_iff.mp hz).1
    rw [rotL_at hk] at hy
    refine List.mem_flatMap.mpr ⟨c, hc, List.mem_of_getElem? (i := (k + 1) % c.length) ?_⟩
    unfold prB
    rw [List.getElem?_zip_eq_some]
    refine ⟨?_, hy⟩
    by_cases e : k + 1 = c.length
    · rw [e, Nat.mod_self]
      exact rotR_at0 (by rw [← e]; exact hz)
    · rw [Nat.mod_eq_of_lt (by omega), rotR_at1 (by omega)]
      exact hz
theorem Img.uniq {n : Nat} {rs : List (List Int)} {a b : List Int} (x : Img n rs a) (y : Img n rs b) : a = b := by
  refine List.ext_getElem? fun p => ?_
  by_cases hp : p < n
  · by_cases hm : (p : Int) ∈ rs.flatten
    · obtain ⟨c, hc, hpc⟩ := List.mem_flatten.mp hm
      obtain ⟨k, hk⟩ := List.mem_iff_getElem?.mp hpc
      have h1 := x.on c hc k _ hk
      have h2 := y.on c hc k _ hk
      rw [Int.toNat_natCast] at h1 h2
      rw [h1, h2]
    · rw [x.off p hp hm, y.off p hp hm]
  · rw [List.getElem?_eq_none (by rw [x.len]; omega), List.getElem?_eq_none (by rw [y.len]; omega)]
theorem Img.perm {n : Nat} {rs : List (List Int)} {a : List Int} (x : Img n rs a) (r : Rws n rs) : a.Perm (rng n) := by
  refine sub_perm (rng_nodup n) (fun q hq => ?_) (by rw [x.len, rng_len]; exact Nat.le_refl _)
  obtain ⟨q0, q1⟩ := mem_rng.mp hq
  by_cases hm : q ∈ rs.flatten
  · obtain ⟨c, hc, hqc⟩ := List.mem_flatten.mp hm
    obtain ⟨k, hk⟩ := List.mem_iff_getElem?.mp ((rotL_perm c).mem_iff.mpr hqc)
    have hkl : k < c.length := by
      have := (List.getElem?_eq_some_iff.mp hk).1
      rwa [rotL_len] at this
    have h1 := x.on c hc k _ (List.getElem?_eq_getElem hkl)
    rw [hk] at h1
    exact List.mem_of_getElem? h1
  · have := x.off q.toNat (by omega) (by rw [Int.toNat_of_nonneg q0]; exact hm)
    rw [Int.toNat_of_nonneg q0] at this
    exact List.mem_of_getElem? this

/-! ## HoJ -/
section
open HT
variable {prog : Program} {w : World} {A : Around} {E : Value → Shared → Prop} {s : Shared}
theorem tuple_cut_whole {t sl : Addr} {items : Array Value} {vl vu : Value} {lo hi : Option Int} {Q : Value → Shared → Prop} (ht : IsTup s.heap t items) (hs : s.heap.IsSliceOf sl vl vu .none) (pl : IsPart vl lo) (pu : IsPart vu hi)
    (hw : sIx items.size 0 lo = 0 ∧ sIx items.size items.size hi = items.size) (h : Q (.ref t) s) : wpAny (model prog w) A (getItem (.ref t) (.ref sl)) Q E s := by
  obtain ⟨os, hos, hcs, hds⟩ := id hs
  have hTs : s.TypeIs (.ref sl) "slice" := ⟨os, hos, hcs⟩
  unfold getItem
  try with_reducible refine wpAny_holding ?_
  first | refine wpAny_bind (wpAny_pure ?_) | skip
  refine wpAny_bind (wpAny_sequenceKey ht.typeIs (by decide) ?_)
  refine wpAny_bind (wpAny_callSpecial?_slot (name := Str.ofString "__getitem__") ht.typeIs PyProof.Rows.slot_tuple_getitem
    (wpAny_call_entry PyProof.Rows.slot_tuple_getitem ht.typeIs entry_tuple_getitem ?_ (args_tuple_getitem _ _)))
  show wpAny _ _ (Builtin.Tuple.tupleItemsOf (.ref t) >>= _) _ _ s
  refine wpAny_bind (tupleItemsOf_ ht ?_)
  refine wpAny_bind (wpAny_typeOf hTs ?_)
  rw [if_pos (by decide)]
  refine wpAny_bind (sliceApplied_gen hs pl pu ?_)
  have hyes : ((((sIx items.size 0 lo : Nat) : Int) == 0 && (1 : Int) == 1 && (sIx items.size items.size hi - sIx items.size 0 lo) == items.size) = true) := by
    rw [hw.1, hw.2]
    simp
  show wpAny _ _ (if (((sIx items.size 0 lo : Nat) : Int) == 0 && (1 : Int) == 1 && (sIx items.size items.size hi - sIx items.size 0 lo) == items.size) = true then _ else _) _ _ s
  rw [if_pos hyes]
  refine wpAny_bind (wpAny_bind (wpAny_typeOf ht.typeIs (wpAny_pure ?_)))
  rw [if_pos (by decide)]
  refine wpAny_bind (wpAny_rule ?_)
  exact wpAny_pure ⟨_, rfl, wpAny_pure h⟩
end
def rSlTA (K : PySem.W.Frag) : V → Option Int → Option Int → Hp → VK → Prop := fun x lo hi H Q => ∃ a xs, x = .ref a ∧ SqT K H a xs ∧
  ((HT.sIx xs.length 0 lo = 0 ∧ HT.sIx xs.length xs.length hi = xs.length) → Q (.ref a) H) ∧ (¬ (HT.sIx xs.length 0 lo = 0 ∧ HT.sIx xs.length xs.length hi = xs.length) → ∀ p, H p = none → Q (.ref p) (upd H p (.tup (cutV xs lo hi))))
theorem sl_tupA {X : Cx} : SlR X (rSlTA X.K) := by
  intro pins s σ H x v vl vu lo hi sl Q I rx hs pl pu h
  obtain ⟨a, xs, rfl, hx, q1, q2⟩ := h
  by_cases hw : HT.sIx xs.length 0 lo = 0 ∧ HT.sIx xs.length xs.length hi = xs.length
  · cases rx
    obtain ⟨its, r, ht, hz⟩ := I.tuple hx
    have hlen : its.toArray.size = xs.length := by rw [List.size_toArray]; exact r.length.symm
    refine ⟨"tuple", _, PyProof.Rows.slot_tuple_getitem.lookup, ht.typeIs, ?_⟩
    exact tuple_cut_whole ht hs pl pu (by rw [hlen]; exact hw) ⟨.ref a, H, I, rfl, q1 hw⟩
  · exact sl_tup pins s σ H _ v vl vu lo hi sl Q I rx hs pl pu ⟨a, xs, rfl, hx, hw, q2 hw⟩
/-- what a slice is: its items, at the same address or a new one -/
theorem b_slTA {K : PySem.W.Frag} {a : Addr} {lo hi : Option Int} {H : Hp} {Q : VK} : (∃ xs, SqT K H a xs ∧ ((HT.sIx xs.length 0 lo = 0 ∧ HT.sIx xs.length xs.length hi = xs.length) → Q (.ref a) H) ∧ Nw H (.tup (cutV xs lo hi)) fun p H' => Q (.ref p) H') → rSlTA K (.ref a) lo hi H Q := fun ⟨xs, h, q1, q2⟩ => by
  refine ⟨a, xs, rfl, h, q1, fun _ => ?_⟩
  rw [nw_eq]
  exact q2
theorem log_sm {n : Nat} (h : n < 2 ^ 1000) : n.log2 < 1920 := by
  by_cases e : n = 0
  · subst e; decide
  · have := (Nat.log2_lt e).mpr h
    omega
theorem cut_to {xs : List V} {m : Int} (h : 0 ≤ m) : cutV xs none (some m) = xs.take m.toNat := by
  have e1 : HT.sIx xs.length xs.length (some m) = min m.toNat xs.length := by
    have := HT.sIx_nat xs.length xs.length m.toNat
    rw [Int.toNat_of_nonneg h] at this
    exact this
  unfold cutV
  rw [e1, HT.sIx_none, Nat.sub_zero, List.drop_zero]
  by_cases c : m.toNat ≤ xs.length
  · rw [Nat.min_eq_left c]
  · rw [Nat.min_eq_right (by omega), List.take_length, List.take_of_length_le (by omega)]
theorem cut_from {xs : List V} {m : Int} (h : 0 ≤ m) : cutV xs (some m) none = xs.drop m.toNat := by
  have e1 : HT.sIx xs.length 0 (some m) = min m.toNat xs.length := by
    have := HT.sIx_nat xs.length 0 m.toNat
    rw [Int.toNat_of_nonneg h] at this
    exact this
  unfold cutV
  rw [e1, HT.sIx_none]
  by_cases c : m.toNat ≤ xs.length
  · rw [Nat.min_eq_left c, List.take_of_length_le (by rw [List.length_drop]; exact Nat.le_refl _)]
  · rw [Nat.min_eq_right (by omega), List.drop_length, List.drop_of_length_le (by omega)]
    simp
theorem repI (n : Nat) (z : Int) : (List.replicate n [V.int z]).flatten = List.map V.int (List.replicate n z) := by
  induction n with
  | zero => rfl
  | succ n ih => rw [List.replicate_succ, List.flatten_cons, ih, List.replicate_succ]; rfl
section
variable {K : PySem.W.Frag} {H : Hp} {Q : VK}
theorem cut_whole {xs : List V} {lo hi : Option Int} (h : HT.sIx xs.length 0 lo = 0 ∧ HT.sIx xs.length xs.length hi = xs.length) : cutV xs lo hi = xs := by
  unfold cutV
  rw [h.1, h.2, Nat.sub_zero, List.drop_zero, List.take_length]
theorem b_slU {a : Addr} {lo hi : Option Int} : (∃ xs, H a = some (.tup xs) ∧ ∀ u H', Same H H' → H' u = some (.tup (cutV xs lo hi)) → Q (.ref u) H') → rSlTA K (.ref a) lo hi H Q := fun ⟨xs, h, k⟩ =>
  b_slTA ⟨xs, SqT.of h, fun hw => k a H (Same.refl _) (by rw [cut_whole hw]; exact h), fun p H' n => k p H' n.same n.at_⟩
theorem b_catU {a b : Addr} : (∃ xs ys, H a = some (.tup xs) ∧ H b = some (.tup ys) ∧ xs.length + ys.length ≤ sizeLine ∧ ∀ u H', Same H H' → H' u = some (.tup (xs ++ ys)) → Q (.ref u) H') → rCatA K (.ref a) (.ref b) H Q := fun ⟨xs, ys, h1, h2, hz, k⟩ => by
  refine ⟨a, b, xs, ys, rfl, rfl, SqT.of h1, SqT.of h2, hz, fun e => ?_, fun _ e => ?_, fun _ _ p hp => ?_⟩
  · subst e; exact k b H (Same.refl _) h2
  · subst e; exact k a H (Same.refl _) (by rw [List.append_nil]; exact h1)
  · exact k p _ (New.mk' hp).same upd_same
end

/-! ## F1 -/

/-! what is due -/
inductive Flt where
  | num (v : V) (lo hi : Int) | mv (i : Int) | many (z : Str) (l : Int) | pt (v : V) | rep (v : V) | sz (x y : Int) | txt (i : Int)
def Flt.cls : Flt → Str
  | .num .. => "BadNumber"
  | .mv _ => "NotAMove"
  | .many .. => "TooMany"
  | .pt _ => "NotAPoint"
  | .rep _ => "RepeatedPoint"
  | .sz .. => "UnlikeSizes"
  | .txt _ => "BadText"
def Flt.fs : Flt → List (Str × V)
  | .num v lo hi => [("high", .int hi), ("low", .int lo), ("value", v)]
  | .mv i => [("index", .int i)]
  | .many z l => [("limit", .int l), ("what", .str z)]
  | .pt v => [("value", v)]
  | .rep v => [("value", v)]
  | .sz x y => [("second", .int y), ("first", .int x)]
  | .txt i => [("line", .int i)]
def Flt.due : Flt → List V
  | .num v lo hi => [.str "BadNumber", v, .int lo, .int hi]
  | .mv i => [.str "NotAMove", .int i]
  | .many z l => [.str "TooMany", .str z, .int l]
  | .pt v => [.str "NotAPoint", v]
  | .rep v => [.str "RepeatedPoint", v]
  | .sz x y => [.str "UnlikeSizes", .int x, .int y]
  | .txt i => [.str "BadText", .int i]
def Raises (K : PySem.W.Frag) (f : Flt) (H : Hp) (Er : XK) : Prop := ∀ dd H0 H1, Same H H0 → New H0 dd (.xd f.fs) H1 → Er (.ref (He.ga K f.cls)) (some dd) H1
theorem Raises.same {K : PySem.W.Frag} {f : Flt} {H H' : Hp} {Er : XK} (r : Raises K f H Er) (s : Same H H') : Raises K f H' Er := fun dd H0 H1 s0 n => r dd H0 H1 (s.trans s0) n
def numOk : V → Int → Int → Bool
  | .int i, lo, hi => decide (lo ≤ i) && decide (i ≤ hi)
  | _, _, _ => false
theorem numOk_wh {v : V} {lo hi : Int} (h : numOk v lo hi = true) : ∃ i, v = .int i ∧ lo ≤ i ∧ i ≤ hi := by
  cases v with
  | int i => exact ⟨i, rfl, by simpa [numOk] using h⟩
  | _ => cases h
/-- a value that shown can show -/
theorem dw_show {E : List Addr} {H : Hp} {v : V} {d : PyData} {n : Nat} (h : Dw E H v d n) (hi : ∀ i, v = .int i → i.natAbs.log2 < 1920) : ShOk v H := by
  cases h with
  | lf l =>
    cases l with
    | non => exact .inr (.inr ⟨_, rfl, by decide +kernel⟩)
    | bl b => exact .inr (.inl ⟨b, rfl⟩)
    | int i => exact .inl ⟨i, rfl, hi i rfl⟩
    | str z => exact .inr (.inr ⟨_, rfl, by decide +kernel⟩)
  | lst ne h a => exact .inr (.inr ⟨_, ty_l h, by decide +kernel⟩)
  | tup ne h a => exact .inr (.inr ⟨_, ty_t h, by decide +kernel⟩)
def Sm (v : V) : Prop := ∀ i, v = .int i → i.natAbs.log2 < 1920
theorem sm_int {i : Int} (h : i.natAbs.log2 < 1920) : Sm (.int i) := fun j e => by cases e; exact h
theorem sm_small {i : Int} (h : -(10 ^ 40) < i ∧ i < 10 ^ 40) : Sm (.int i) := sm_int (log_sm (by
  have : (i.natAbs : Int) < 10 ^ 40 := by omega
  have e : ((10 : Nat) ^ 40 : Nat) < 2 ^ 1000 := by decide +kernel
  have h2 : i.natAbs < 10 ^ 40 := by exact_mod_cast this
  exact Nat.lt_trans h2 e))
theorem sm_any {v : V} (h : ∀ i, v ≠ .int i) : Sm v := fun i e => absurd e (h i)
section
variable {P : Program} {w : World} {K : PySem.W.Frag} {mg : Str → Option Value} {base : Heap}
def sp_number (K : PySem.W.Frag) : Sp := fun vs H Q Er => ∃ (v : V) (lo hi : Int) (E : List Addr) (d : PyData) (n : Nat), vs = [v, .int lo, .int hi] ∧ Dw E H v d n ∧ Sm v ∧ lo.natAbs.log2 < 1920 ∧ hi.natAbs.log2 < 1920 ∧
  (numOk v lo hi = true → Q .non H) ∧ (numOk v lo hi = false → Raises K (.num v lo hi) H Er)
abbrev stcheck_number : Stmt := topS 41
theorem sccheck_number : FnScope ["value", "low", "high"] ["value", "low", "high"] (defScope stcheck_number) := ⟨rfl, rfl, rfl, by decide +kernel, rfl, by decide +kernel, by decide +kernel⟩
theorem okcheck_number (D : Df K mg "check_number" stcheck_number) (T : NoB mg) (Cis_whole : Cl P w K mg base 1 "is_whole" ["value"] sp_isw) (Er_BadNumber : ErT_BadNumber P w K mg base): ClX P w K mg base 4 "check_number" ["value", "low", "high"] (sp_number K) := by
  refine clX_of D sccheck_number (fun _ _ _ _ _ _ us hl => match us, hl with | [_, _, _], _ => rfl) (fun vs H Q E h => ?_) (fun f cdv A outer sh H vs Q E hr tk h => ?_)
  · obtain ⟨_, _, _, _, _, _, rfl, _⟩ := h; rfl
  obtain ⟨v, lo, hi, E', d, n, rfl, hv, hs, hlo, hhi, k1, k2⟩ := h
  refine ⟨_, (pss_one (ps_if (PW.pt (pw_or (pt_not (pt_val (pe_cl Cis_whole hr (by rfl) (pa_cons (pv 0) pa_nil)))) (pw_or (pt_cmpR op_lt (pv 0) (pv 1) (nomark _)) (pw_or1 (pt_cmpR op_gt (pv 0) (pv 2) (nomark _)))))) (pss_one (L2N.ps_raise rfl tk (pmk_err Er_BadNumber hr (by rfl) (pa_cons (pv 0) (pa_cons (pv 1) (pa_cons (pv 2) pa_nil)))))) pss_nil)), ?_⟩
  have bad : numOk v lo hi = false → ∀ d2 H2, New H d2 (.xd [("high", .int hi), ("low", .int lo), ("value", v)]) H2 → E (.ref (He.ga K "BadNumber")) (some d2) H2 := fun e d2 H2 n2 => k2 e d2 H H2 (Same.refl _) n2
  have ok : okP [0, 0, 0] [v, .int lo, .int hi] H := ⟨dw_show hv hs, .inl ⟨lo, rfl, hlo⟩, .inl ⟨hi, rfl, hhi⟩, trivial⟩
  walk_at "wn"
  refine ⟨v, d, n, E', rfl, hv, ?_⟩
  by_cases hw : isWh v = true
  · obtain ⟨i, rfl⟩ := isWh_int hw
    rw [hw]
    walk_at "wn"
    by_cases c1 : i < lo
    · walk_at "wps"
      exact fun d2 H2 n2 => bad (by simp [numOk]; omega) d2 H2 n2
    by_cases c2 : hi < i
    · walk_at "wps"
      exact fun d2 H2 n2 => bad (by simp [numOk]; omega) d2 H2 n2
    · walk_at "wps"
      exact k1 (by simp [numOk]; omega)
  · have hf : isWh v = false := by simpa using hw
    rw [hf]
    walk_at "wn"
    refine ⟨ok, fun d2 H2 n2 => bad (by cases v <;> first | rfl | exact absurd rfl hw) d2 H2 n2⟩
def sp_points (K : PySem.W.Frag) : Sp := fun vs H Q Er => ∃ (v : V) (E : List Addr) (d : PyData) (n : Nat), vs = [v] ∧ Dw E H v d n ∧ Sm v ∧
  (numOk v 0 12 = true → Q .non H) ∧ (numOk v 0 12 = false → Raises K (.num v 0 12) H Er)
def sp_ptof : Sp := fun vs H Q _ => ∃ (v : V) (n : Int) (E : List Addr) (d : PyData) (m : Nat), vs = [.int n, v] ∧ Dw E H v d m ∧ Q (.bl (numOk v 0 (n - 1))) H
/-- a row: its items' faults -/
def ptFlt (n : Int) : List V → Option Flt
  | [] => none
  | x :: r => if numOk x 0 (n - 1) = true then ptFlt n r else some (.pt x)
def crowFlt (n : Int) (xs : List V) : Option Flt := if 24 < xs.length then some (.many "row" 24) else ptFlt n xs
/-- what a def answers: good, or the fault that is due -/
def Ans (K : PySem.W.Frag) (o : Option Flt) (H : Hp) (Er : XK) (good : Prop) : Prop := match o with
  | none => good
  | some f => Raises K f H Er
def AllD (H : Hp) (xs : List V) : Prop := ∀ x ∈ xs, Sm x ∧ ∃ E d m, Dw E H x d m
theorem AllD.same {H H' : Hp} {xs : List V} (a : AllD H xs) (s : Same H H') : AllD H' xs := fun x hx => ⟨(a x hx).1, (a x hx).2.imp fun E h => h.imp fun d h => h.imp fun m h => h.same s⟩
def sp_crow (K : PySem.W.Frag) : Sp := fun vs H Q Er => ∃ (n : Int) (p : Addr) (xs : List V), vs = [.int n, .ref p] ∧ sq H p = some xs ∧ AllD H xs ∧ Ans K (crowFlt n xs) H Er (∀ H', Same H H' → Q .non H')
theorem move_at {E : List Addr} {H : Hp} {v : V} {d : PyData} {n : Nat} (hd : isMoveD d = true) (hv : Dw E H v d n) : ∃ (a : Addr) (ns : List Int), v = .ref a ∧ H a = some (.tup (ns.map V.int)) ∧ d = .tuple (ns.map .int) ∧ ns.length ≤ 12 ∧ ns.Perm (rng ns.length) ∧ a ∉ E := by
  have hm : IsMoveP d := Classical.byContradiction fun z => by rw [isMove_f z] at hd; cases hd
  obtain ⟨ns, rfl, hl, hp⟩ := hm
  cases hv with
  | lf l => cases l
  | tup ne h da => exact ⟨_, ns, rfl, by rw [dw_ints' da] at h; exact h, rfl, hl, hp, ne⟩
theorem dwT {H : Hp} {p : Addr} {ns : List Int} (h : H p = some (.tup (ns.map V.int))) : Dw [] H (.ref p) (.tuple (ns.map .int)) (ns.length + 1) := .tup (by simp) h (DwAll.ints ns)
def sp_chk (K : PySem.W.Frag) : Sp := fun vs H Q Er => ∃ (v : V) (i : Int) (E : List Addr) (d : PyData) (n : Nat), vs = [v, .int i] ∧ i.natAbs.log2 < 1920 ∧ Dw E H v d n ∧ (isMoveD d = true → ∀ H', Same H H' → Q .non H') ∧ (isMoveD d = false → Raises K (.mv i) H Er)
/-- carried: the row's points lie in the move, else what is due -/
def sp_carried (K : PySem.W.Frag) : Sp := fun vs H Q Er => ∃ (v : V) (p : Addr) (xs : List V) (E : List Addr) (d : PyData) (n : Nat), vs = [v, .ref p] ∧ Dw E H v d n ∧ sq H p = some xs ∧ AllD H xs ∧
  (isMoveD d = false → Raises K (.mv 0) H Er) ∧
  (∀ (a : Addr) (ns : List Int), v = .ref a → H a = some (.tup (ns.map V.int)) → d = .tuple (ns.map .int) → isMoveD d = true → Ans K (crowFlt ns.length xs) H Er (∀ (c is : List Int), xs = c.map V.int → is.length = c.length → (∀ (k : Nat) (z : Int), c[k]? = some z → ns[z.toNat]? = is[k]?) → ∀ q H1 H2, Same H H1 → New H1 q (.tup (is.map V.int)) H2 → Q (.ref q) H2))
theorem ptFlt_none : ∀ {n : Int} {xs : List V}, ptFlt n xs = none → ∃ c : List Int, xs = c.map V.int ∧ ∀ z ∈ c, 0 ≤ z ∧ z < n
  | _, [], _ => ⟨[], rfl, by simp⟩
  | n, x :: r, h => by
    rw [show ptFlt n (x :: r) = (if numOk x 0 (n - 1) = true then ptFlt n r else some (.pt x)) from rfl] at h
    by_cases c : numOk x 0 (n - 1) = true
    · rw [if_pos c] at h
      obtain ⟨cs, rfl, hc⟩ := ptFlt_none h
      obtain ⟨i, rfl, h0, h1⟩ := numOk_wh c
      refine ⟨i :: cs, rfl, fun z hz => ?_⟩
      rcases List.mem_cons.mp hz with e | hz
      · rw [e]; omega
      · exact hc z hz
    · rw [if_neg c] at h; cases h
theorem crowFlt_none {n : Int} {xs : List V} (h : crowFlt n xs = none) : xs.length ≤ 24 ∧ ∃ c : List Int, xs = c.map V.int ∧ ∀ z ∈ c, 0 ≤ z ∧ z < n := by
  unfold crowFlt at h
  by_cases c : 24 < xs.length
  · rw [if_pos c] at h; cases h
  · rw [if_neg c] at h
    exact ⟨by omega, ptFlt_none h⟩
end

/-! ## HoG -/
section
open HotX
variable {prog : Program} {w : World} {A : Around} {E : Value → Shared → Prop} {s : Shared}
theorem tuple_end_hot {it t x1 : Addr} {i : Nat} {items : Array Value} {Q : Option Value → Shared → Prop} (hot : HotAt A x1 s.heap) (hit : s.heap.IsTupleIter it t i) (ht : s.heap.IsTuple t items) (hx : items[i]? = none) (hne : x1 ≠ it)
    (hQ : ∀ h', (∀ b o, b ≠ it → s.heap.get? b = some o → h'.get? b = some o) → Q none { s with heap := h' }) : wpAny (model prog w) A (pyNext (.ref it)) Q E s := by
  obtain ⟨o, ho, hc, hd⟩ := id hit
  obtain ⟨ol, hol, _, nl, hdl⟩ := ht
  obtain ⟨hh, o1, vs1, h1, d1, c1⟩ := hot
  unfold pyNext
  refine wpAny_bind (wpAny_attempt (wpAny_callSpecial?_slot (name := Str.ofString "__next__") hit.typeIs F.slot_tuple_iterator_next
    (wpAny_call_entry F.slot_tuple_iterator_next hit.typeIs F.entry_tuple_iterator_next ?_ (F.args_tuple_iterator_next_1 _))))
  show wpAny _ _ (field (.ref it) 0 >>= _) _ _ s
  refine wpAny_bind (wpAny_field ho hd (x := .ref t) rfl ?_)
  show wpAny _ _ (if (Value.ref t == Value.none) = true then _ else _) _ _ s
  rw [if_neg (show ¬ ((Value.ref t == Value.none) = true) from Bool.false_ne_true)]
  show wpAny _ _ (field (.ref it) 1 >>= _) _ _ s
  refine wpAny_bind (wpAny_field ho hd (x := .int i 0) rfl ?_)
  show wpAny _ _ (seqItems? (.ref t) >>= _) _ _ s
  refine wpAny_bind (wpAny_seqItems hol hdl ?_)
  simp only [Int.toNat_natCast, hx]
  refine wpAny_bind (wpAny_rule (wpAny_bind (wpAny_setField ho hd (by simp) ?_)))
  show wpAny _ _ (newExc (.type "StopIteration") [] >>= _) _ _ _
  refine wpAny_bind ?_
  simp only [newExc, newTuple]
  refine wpAny_bind (wpAny_newObj_type ?_ (by size_fits))
  refine wpAny_bind (m := firstArgMember _ _) (wpAny_of_eq (a := Value.none) (by first | rfl | (simp only [firstArgMember]; rfl)) ?_)
  refine wpAny_newObj_type ?_ (by size_fits)
  have h1' : (s.heap.update it (Obj.mapFields (·.setIfInBounds 0 .none))).get? x1 = some o1 := (Heap.get?_update_other _ _ (Ne.symm hne)).trans h1
  refine raiseNew_hot ⟨hh, o1, vs1, Heap.get?_push_of_some _ (Heap.get?_push_of_some _ h1'), d1, c1⟩ (Nat.ne_of_lt (Heap.lt_size (Heap.get?_push_of_some _ h1'))) (Heap.get?_push_size _ rfl) rfl (by first | (simp; done) | (simp; omega) | (simp only [Array.size_append]; simp; omega)) ?_
  refine wpAny_bind (wpAny_isInstance (T := "StopIteration") (b := true) ⟨_, Heap.get?_update_self _ (Heap.get?_push_size _ rfl) rfl, rfl⟩ isSubtype_stop ?_)
  refine wpAny_pure (hQ _ fun b o hb e => ?_)
  have e' : (s.heap.update it (Obj.mapFields (·.setIfInBounds 0 .none))).get? b = some o := (Heap.get?_update_other _ _ (Ne.symm hb)).trans e
  rw [Heap.get?_update_other _ _ (Nat.ne_of_gt (Heap.lt_size (Heap.get?_push_of_some _ e')))]
  exact Heap.get?_push_of_some _ (Heap.get?_push_of_some _ e')
end
section
open HotX L2H
theorem turn_tupleH {P : Program} {w : World} {K : PySem.W.Frag} {tg : Expr} (a it : Addr) : TurnH P w K tg (Itt K a) [it] it (fun i h => h.IsTupleIter it a i) where
  mem := List.mem_singleton.mpr rfl
  obj := fun i h st b hb => by
    obtain rfl := List.mem_singleton.mp hb
    obtain ⟨o, e, _, d⟩ := st
    exact ⟨o, e, fun v z => by rw [d] at z; cases z⟩
  keep := fun i h h' st k => st.at fun o e => k it (List.mem_singleton.mpr rfl) o e
  item := fun X hP hw hK hc i pins s σ H E I hf st hg => by
    subst hP hw hK
    obtain ⟨xs, x, hq, hx⟩ := hg
    obtain ⟨its, rv, p, hz⟩ := I.tuple hq
    obtain ⟨u, hu, ru⟩ := rv.get hx
    have F := hf it (List.mem_singleton.mpr rfl)
    refine wpAny_pyNext_tuple_item st (show s.heap.IsTuple a its.toArray from p) (x := u) (by simpa using hu) fun h' st' sb => ?_
    have I1 : Inv X pins σ H { s with heap := h' } := I.turned (t' := s.toks) (fun b o hb e => (sb.2 b hb).trans e) F.1 F.2.1 F.2.2.2.1 F.2.2.2.2.1 F.2.2.2.2.2
    obtain ⟨o, e, c, d⟩ := id st'
    exact ⟨u, rfl, go_of (s := { s with heap := h' }) e c d (by decide) ⟨x, H, I1, ru, ⟨rfl, fun ys hy => (I.tuple_inj hy hq) ▸ hx⟩, st', fun b hb => (hf b hb).1⟩⟩
  done := fun X hP hw hK hc i pins s σ H E I hf st hg => by
    subst hP hw hK
    obtain ⟨xs, hq, hx⟩ := hg
    obtain ⟨its, rv, p, hz⟩ := I.tuple hq
    have F := hf it (List.mem_singleton.mpr rfl)
    have hl := rv.length
    obtain ⟨q, ⟨hh, v1, e1, c1⟩, hq1⟩ := hc
    have P1 := (I.pin q (List.mem_append_left _ hq1)).1
    exact tuple_end_hot ⟨hh, q.2, v1, P1, e1, c1⟩ st (show s.heap.IsTuple a its.toArray from p) (by simp; omega) (F.2.2.2.2.2 q (List.mem_append_left _ hq1)) fun h' eb => ⟨rfl, I.turned (t' := s.toks) eb F.1 F.2.1 F.2.2.2.1 F.2.2.2.2.1 F.2.2.2.2.2⟩
  self := fun _ _ _ _ _ st h => wpAny_pyIter_tupleiter st h
variable {X : Cx}
/-- [e for y in l if c], l a list or a tuple; Pv i: what holds behind i turns -/
def tLcG (tl : TE) (g : TG) (tt : TT) (te : TE) (vs : List Nat) : TE := fun σ H Q => tl σ H fun x H1 => ∃ (a : Addr) (xs : List V), x = .ref a ∧ sq H1 a = some xs ∧ ∀ D, H1 D = none → ∃ Pv : Nat → Hp → Prop, Pv 0 (upd H1 D (.lst [])) ∧ (∀ i H2, Pv i H2 → ∀ o, H1 a = some o → H2 a = some o) ∧
  (∀ i y H2, xs[i]? = some y → Pv i H2 → g y (wipe σ vs) H2 fun σ2 H3 => wipe σ2 vs = wipe σ vs ∧ tt σ2 H3 fun b H4 => if b = true then te σ2 H4 fun z H5 => CSt D (Pv (i + 1)) z H5 else Pv (i + 1) H4) ∧
  ∀ H2, Pv xs.length H2 → Q (.ref D) H2
theorem pe_lcG {elt tg l : Expr} {ifs : List Expr} {scope : Scope} {own : List (Str × Nat)} {pos : Pos} {tl : TE} {g : TG} {tt : TT} {te : TE} {p : Addr × Obj} (hot : Hot1 X.A p) (hpn : p ∈ X.pn) (hN : X.N.Nodup) (hl : PE X l tl) (ok : BlkOk X.N X.env.scope scope own)
    (hg : ∀ s H C cl fp, PG (Cx.blkH X s H scope cl C fp p) tg g) (ht : ∀ s H C cl fp, PTs (Cx.blkH X s H scope cl C fp p) ifs tt) (he : ∀ s H C cl fp, PE (Cx.blkH X s H scope cl C fp p) elt te)
    (hs : ∀ x, foldedSetIterable l X.env x = pure x := by intro _; rfl) : PE X (.ListComp elt [⟨tg, l, ifs, 0⟩] scope pos) (tLcG tl g tt te (own.map (·.2))) := by
  refine ⟨fun pins s σ H Q I h => ?_⟩
  rw [eval_ListComp]
  have clo := closure_ok (env := X.env) (scope := scope) (fun y hy e => (ok.free y hy e).elim (fun k => I.ok.has _ (.inl k)) fun k => I.ok.has _ (.inr k))
  refine wpAny_comprehension_free (use := none) rfl hs clo ok.kind (fun y hy e => (ok.uniq y hy).trans (congrArg some e)) (thn (hl.run pins s σ H _ I h) fun v s1 ⟨x, H1, I1, r1, a, xs, ex, hq, q⟩ => ?_)
  subst ex
  cases r1
  obtain ⟨W, S, it, s2, hiter, k2, st2, I2, fit, hlt2, T, hgo, hstop, hyld⟩ : ∃ (W : It) (S : Nat → Heap → Prop) (it : Addr) (s2 : Shared), (∀ (Q : Value → Shared → Prop), Q (.ref it) s2 → wpAny (model X.prog X.w) X.A (pyIter (.ref a)) Q X.xe s1) ∧ (∀ b o, s1.heap.get? b = some o → s2.heap.get? b = some o) ∧ S 0 s2.heap ∧ Inv X pins σ H1 s2 ∧ FpOk X pins H1 it ∧ (∃ o, s2.heap.get? it = some o) ∧
      TurnH X.prog X.w X.K tg W [it] it S ∧ (∀ i H2, (∀ o, H1 a = some o → H2 a = some o) → i < xs.length → W.go i H2) ∧ (∀ i H2, (∀ o, H1 a = some o → H2 a = some o) → xs.length ≤ i → W.stop i H2) ∧ (∀ i H2 x H7, (∀ o, H1 a = some o → H2 a = some o) → W.yld i H2 x H7 → H7 = H2 ∧ xs[i]? = some x) := by
    have fit : FpOk X pins H1 s1.heap.objs.size := I1.fpOk (Nat.le_refl _) (I1.hok.fresh (Nat.le_refl _))
    rcases sq_or hq with hq | hq
    · obtain ⟨its, rv, pl, hz⟩ := I1.list (SqL.of hq)
      have e : ∀ {H2 : Hp}, (∀ o, H1 a = some o → H2 a = some o) → SqL X.K H2 a xs := fun h => SqL.of (h _ hq)
      refine ⟨Itl X.K a, fun i h => h.IsListIter s1.heap.objs.size a i, s1.heap.objs.size, { s1 with heap := s1.heap.push { cls := .type "list_iterator", data := .fields #[.ref a, .int (0 : Nat) 0] } }, fun Q q => wpAny_pyIter_list pl.isList q, fun b o e => Heap.get?_push_of_some _ e, ⟨_, Heap.get?_push_size _ rfl, rfl, rfl⟩, I1.kept (t' := s1.toks) fun b o e => Heap.get?_push_of_some _ e, fit, ⟨_, Heap.get?_push_size _ rfl⟩, turn_listH a _,
        fun i H2 h hi => ⟨xs, _, e h, List.getElem?_eq_getElem hi⟩, fun i H2 h hi => ⟨xs, e h, hi⟩, fun i H2 x H7 h y => ⟨y.1, y.2 xs (e h)⟩⟩
    · obtain ⟨its, rv, pl, hz⟩ := I1.tuple (SqT.of hq)
      have e : ∀ {H2 : Hp}, (∀ o, H1 a = some o → H2 a = some o) → SqT X.K H2 a xs := fun h => SqT.of (h _ hq)
      refine ⟨Itt X.K a, fun i h => h.IsTupleIter s1.heap.objs.size a i, s1.heap.objs.size, { s1 with heap := s1.heap.push { cls := .type "tuple_iterator", data := .fields #[.ref a, .int (0 : Nat) 0] } }, fun Q q => wpAny_pyIter_tuple (show s1.heap.IsTuple a its.toArray from pl) q, fun b o e => Heap.get?_push_of_some _ e, ⟨_, Heap.get?_push_size _ rfl, rfl, rfl⟩, I1.kept (t' := s1.toks) fun b o e => Heap.get?_push_of_some _ e, fit, ⟨_, Heap.get?_push_size _ rfl⟩, turn_tupleH a _,
        fun i H2 h hi => ⟨xs, _, e h, List.getElem?_eq_getElem hi⟩, fun i H2 h hi => ⟨xs, e h, hi⟩, fun i H2 x H7 h y => ⟨y.1, y.2 xs (e h)⟩⟩
  refine hiter _ ?_
  refine wpAny_newObj_type (newEnv_comp ?_) (by show 0 ≤ sizeLine; decide)
  generalize hD : s2.heap.objs.size = D
  have hDn : H1 D = none := I2.hok.fresh (Nat.le_of_eq hD)
  have itD : it < D := by
    rw [← hD]
    obtain ⟨o, e⟩ := hlt2
    exact Heap.lt_size e
  obtain ⟨Pv, a0, hkp, step, fin⟩ := q D hDn
  generalize hs3 : ({ s2 with heap := s2.heap.push { cls := .type "list", data := .seq ([] : List Value).toArray } } : Shared) = s3
  have k3 : ∀ b o, s2.heap.get? b = some o → s3.heap.get? b = some o := fun b o e => by subst hs3; exact Heap.get?_push_of_some _ e
  have I3 : Inv X pins σ (upd H1 D (.lst [])) s3 := by
    subst hs3 hD
    exact I2.laid (t' := s2.toks) (fun b o e => Heap.get?_push_of_some _ e) (Nat.le_refl _) ⟨Nat.zero_le _, [], 0, .nil, Heap.get?_push_size _ rfl⟩
  have n3 : (upd H1 D (.lst [])) it = none := by rw [upd_ne (Nat.ne_of_lt itD)]; exact fit.1
  have fit3 : FpOk X pins (upd H1 D (.lst [])) it := ⟨n3, fit.2⟩
  have it3 : it < s3.heap.objs.size := by
    obtain ⟨o, e⟩ := hlt2
    exact Heap.lt_size (k3 _ _ e)
  have I4 := block_start I3 ok hN (fp := [it]) (fun b hb => by obtain rfl := List.mem_singleton.mp hb; exact ⟨fit3, it3⟩)
  have P3 := I3.pin p (List.mem_append_left _ hpn)
  have mo : ∀ {o : Obj}, s3.heap.get? p.1 = some o → (pushCells (s3.heap.push { cls := .type "dict", data := .dict #[] }) scope.names).get? p.1 = some o := fun e => pushCells_keeps _ _ _ _ (Heap.get?_push_of_some _ e)
  have I5 := (I4.pins_of (pins' := [p]) (fun b hb => by
    obtain rfl := List.mem_singleton.mp hb
    exact ⟨mo P3.1, P3.2.1, Nat.ne_of_lt (Heap.lt_size P3.1), fun hm => (List.mem_cons.mp (I3.stkSub _ hm)).elim P3.2.2.1 P3.2.2.2.1, P3.2.2.2.2⟩)).toTry (fun _ _ => False)
  have pg := hg s3 (upd H1 D (.lst [])) s3.heap.objs.size (cellsFrom (s3.heap.objs.size + 1) scope.names (cloFrom X.env.cells scope.names [])) [it]
  have pt := ht s3 (upd H1 D (.lst [])) s3.heap.objs.size (cellsFrom (s3.heap.objs.size + 1) scope.names (cloFrom X.env.cells scope.names [])) [it]
  have pe := he s3 (upd H1 D (.lst [])) s3.heap.objs.size (cellsFrom (s3.heap.objs.size + 1) scope.names (cloFrom X.env.cells scope.names [])) [it]
  have I5' : Inv (Cx.blkH X s3 (upd H1 D (.lst [])) scope (cellsFrom (s3.heap.objs.size + 1) scope.names (cloFrom X.env.cells scope.names [])) s3.heap.objs.size [it] p) [] (wipe σ (own.map (·.2))) (upd H1 D (.lst [])) { s3 with heap := pushCells (s3.heap.push { cls := .type "dict", data := .dict #[] }) scope.names } := I5
  generalize hB : Cx.blkH X s3 (upd H1 D (.lst [])) scope (cellsFrom (s3.heap.objs.size + 1) scope.names (cloFrom X.env.cells scope.names [])) s3.heap.objs.size [it] p = B at pg pt pe I5'
  have hotB : HotC B := by subst hB; exact ⟨p, hot, List.mem_singleton.mpr rfl⟩
  have stB : ∀ {σ' : L2.St} {H' : Hp} {s' : Shared}, Inv B [] σ' H' s' → H' it = none → ∀ b ∈ [it], FpOk B [] H' b := fun {σ' H' s'} J hn b hb => by
    obtain rfl := List.mem_singleton.mp hb
    subst hB
    exact ⟨hn, (J.ok.exf b hb).1, J.ok.exfs b hb, .inl hb, (J.ok.exf b hb).2, fun r hr => by
      obtain rfl := List.mem_singleton.mp (by simpa using hr)
      exact fit3.2.2.2.2.2 r (List.mem_append_left _ hpn)⟩
  have st4 : S 0 (pushCells (s3.heap.push { cls := .type "dict", data := .dict #[] }) scope.names) := T.keep 0 _ _ st2 fun b _ o e => pushCells_keeps _ _ _ _ (Heap.get?_push_of_some _ (k3 _ _ e))
  have hpr : B.prog = X.prog := by subst hB; rfl
  have hw : B.w = X.w := by subst hB; rfl
  have hK : B.K = X.K := by subst hB; rfl
  have hA : B.A = X.A := by subst hB; rfl
  have hxe : B.xe = fun _ _ => False := by subst hB; rfl
  have hE : B.env = compEnvC scope (cellsFrom (s3.heap.objs.size + 1) scope.names (cloFrom X.env.cells scope.names [])) s3.heap.objs.size X.env := by subst hB; rfl
  have loop : codeAny (model X.prog X.w) X.A (.compLoop (.ListComp elt [⟨tg, l, ifs, 0⟩] scope pos) 0 (.ref it) (.ref D) (compEnvC scope (cellsFrom (s3.heap.objs.size + 1) scope.names (cloFrom X.env.cells scope.names [])) s3.heap.objs.size X.env)) (compPost (model X.prog X.w) X.A X.xe none (EP X pins σ Q) (.ref D) s3.heap.objs.size) { s3 with heap := pushCells (s3.heap.push { cls := .type "dict", data := .dict #[] }) scope.names } := by
    refine compLoop_any (fun n s' => ∃ i H2, i + n = xs.length ∧ Pv i H2 ∧ H2 it = none ∧ Inv B [] (wipe σ (own.map (·.2))) H2 s' ∧ S i s'.heap) ?_ xs.length ⟨0, _, by omega, a0, n3, I5', st4⟩
    rintro n s5 ⟨i, H2, hi, pv, hn2, J, st5⟩
    cases hx : xs[i]? with
    | none =>
      have td := T.done B hpr hw hK hotB i [] s5 _ _ (fun _ _ => False) J (stB J hn2) st5 (hstop i H2 (hkp i H2 pv) (List.getElem?_eq_none_iff.mp hx))
      rw [hA] at td
      refine thnF td fun r s6 ⟨hr, J6⟩ => ?_
      subst hr
      obtain rfl : i = xs.length := by have := List.getElem?_eq_none_iff.mp hx; omega
      subst hB
      have I7 : Inv X pins σ H2 s6 := I3.call' (ch := [it]) J6.os J6.base J6.hok J6.bare fun b hb => by
        obtain rfl := List.mem_singleton.mp hb
        exact ⟨fit3.2.2.2.1, fit3.2.1, fit3.2.2.2.2.1, fit3.2.2.2.2.2⟩
      obtain ⟨m, hn, _⟩ := J6.loc
      have hC : H2 s3.heap.objs.size = none := J6.free
      obtain ⟨f0, f1, f2, f3, f4, f5⟩ := I3.fpOk (Nat.le_refl _) (show (upd H1 D (.lst [])) s3.heap.objs.size = none from I3.hok.fresh (Nat.le_refl _))
      exact ⟨m, hn, fun h'' sb => ⟨.ref D, _, I7.turned (t' := s6.toks) (fun b o hb e => (sb.2 b hb).trans e) hC f1 f3 f4 f5, rfl, fin H2 pv⟩⟩
    | some y =>
      have hlt := (List.getElem?_eq_some_iff.mp hx).1
      have ti := T.item B hpr hw hK hotB i [] s5 _ _ (fun _ _ => False) J (stB J hn2) st5 (hgo i H2 (hkp i H2 pv) hlt)
      rw [hA] at ti
      refine thnF ti fun r s6 ⟨u, hr, h6⟩ => ?_
      subst hr
      refine thnF h6 fun _ s7 ⟨x, H7, J7, r7, y7, st7, n7⟩ => ?_
      obtain ⟨e7, ex7⟩ := hyld i H2 x H7 (hkp i H2 pv) y7
      subst e7
      obtain rfl : x = y := by
        rw [hx] at ex7
        exact (Option.some.inj ex7).symm
      have J7' := J7.pinned (stB J7 hn2) (T.obj _ _ st7)
      have back : ∀ {σ' : L2.St} {s' : Shared} {H' : Hp}, wipe σ' (own.map (·.2)) = wipe σ (own.map (·.2)) → Pv (i + 1) H' → Inv B ([] ++ pinsAt [it] s7.heap) σ' H' s' → ∃ m, m < n ∧ ∃ i H2, i + m = xs.length ∧ Pv i H2 ∧ H2 it = none ∧ Inv B [] (wipe σ (own.map (·.2))) H2 s' ∧ S i s'.heap := fun {σ' s' H'} hw' pv' J' => by
        have pin : ∀ b ∈ [it], ∀ o, s7.heap.get? b = some o → s'.heap.get? b = some o ∧ H' b = none := fun b hb o e => by
          have q := J'.pin (b, o) (List.mem_append_right _ (List.mem_append_right _ (mem_pinsAt hb e)))
          exact ⟨q.1, q.2.1⟩
        obtain ⟨o7, e7, _⟩ := T.obj _ _ st7 it (List.mem_singleton.mpr rfl)
        refine ⟨n - 1, by omega, i + 1, H', by omega, pv', (pin it (List.mem_singleton.mpr rfl) o7 e7).2, ?_, T.keep _ _ _ st7 fun b hb o e => (pin b hb o e).1⟩
        rw [← hw']
        exact (J'.unpinned (pins := [])).weak (wipe_length _ _) fun j v e => (wipe_some e).1
      have st1 := step i x _ hx pv
      have rg := pg.run _ s7 _ _ x u _ J7' r7 st1
      rw [hpr, hw, hA, hxe, hE] at rg
      refine thnF rg fun _ s8 ⟨σ8, H8, J8, hw8, q8⟩ => ?_
      have rt := pt.run _ s8 σ8 H8 _ J8 q8
      rw [hpr, hw, hA, hxe, hE] at rt
      refine thnF rt fun b s9 ⟨H9, J9, q9⟩ => ?_
      cases b with
      | false => exact back hw8 q9 J9
      | true =>
        have re := pe.run _ s9 σ8 H9 _ J9 q9
        rw [hpr, hw, hA, hxe, hE] at re
        refine thnF re fun z s10 ⟨yv, H10, J10, r10, acc, hacc, hz1, q10⟩ => ?_
        have ap := app_ok (X := B) (E := fun _ _ => False) J10 (D := D) (xs := acc) hacc hz1 r10 (Q := fun _ s' => ∃ m, m < n ∧ ∃ i H2, i + m = xs.length ∧ Pv i H2 ∧ H2 it = none ∧ Inv B [] (wipe σ (own.map (·.2))) H2 s' ∧ S i s'.heap) fun s11 J11 => back hw8 q10 J11
        rw [hpr, hw, hA] at ap
        exact thnF ap fun _ _ z => z
  exact codeAny_compStart_list loop (T.self X.A 0 _ _ _ st4 loop)
end
section
variable {σ : L2.St} {H : Hp} {Q : VK} {g : TG} {tt : TT} {te : TE} {vs : List Nat} {tl : TE}
def CG (a : Addr) (g : TG) (tt : TT) (te : TE) (vs : List Nat) (σ : L2.St) (H1 : Hp) (Q : VK) : Prop := ∃ xs, sq H1 a = some xs ∧ ∀ D, H1 D = none → ∃ Pv : Nat → Hp → Prop, Pv 0 (upd H1 D (.lst [])) ∧ (∀ i H2, Pv i H2 → ∀ o, H1 a = some o → H2 a = some o) ∧
  (∀ i y H2, xs[i]? = some y → Pv i H2 → g y (wipe σ vs) H2 fun σ2 H3 => wipe σ2 vs = wipe σ vs ∧ tt σ2 H3 fun b H4 => if b = true then te σ2 H4 fun z H5 => CSt D (Pv (i + 1)) z H5 else Pv (i + 1) H4) ∧
  ∀ H2, Pv xs.length H2 → Q (.ref D) H2
theorem a_lcG : tLcG tl g tt te vs σ H Q = tl σ H fun x H1 => ∃ a, x = .ref a ∧ CG a g tt te vs σ H1 Q := by
  unfold tLcG CG
  congr 1
  funext x H1
  apply propext
  constructor
  · rintro ⟨a, xs, e, h⟩; exact ⟨a, e, xs, h⟩
  · rintro ⟨a, e, xs, h⟩; exact ⟨a, xs, e, h⟩
theorem cg_by {a : Addr} {xs : List V} (hq : sq H a = some xs) (Pv : Addr → Nat → List V → Hp → Prop) (h0 : ∀ C H0, New H C (.lst []) H0 → Pv C 0 [] H0) (hl : ∀ C i acc H', H C = none → Pv C i acc H' → ∀ o, H a = some o → H' a = some o)
    (hs : ∀ C i x acc H1 N, H C = none → xs[i]? = some x → H1 C = some (.lst acc) → Pv C i acc H1 → (∀ acc' H5, H5 C = some (.lst acc') → Pv C (i + 1) acc' H5 → N H5) → g x (wipe σ vs) H1 fun σ2 H2 => wipe σ2 vs = wipe σ vs ∧ tt σ2 H2 fun b H3 =>
      if b = true then te σ2 H3 fun y H4 => CSt C N y H4 else N H3)
    (hd : ∀ C acc H1, H C = none → H1 C = some (.lst acc) → Pv C xs.length acc H1 → Q (.ref C) H1) : CG a g tt te vs σ H Q := by
  refine ⟨xs, hq, fun C hC => ⟨fun i H1 => ∃ acc, H1 C = some (.lst acc) ∧ Pv C i acc H1, ⟨[], upd_same, h0 C _ (New.mk' hC)⟩, fun i H2 ⟨acc, ha, p⟩ => hl C i acc H2 hC p, fun i y H2 hi ⟨acc, ha, p⟩ => ?_, fun H2 ⟨acc, ha, p⟩ => hd C acc H2 hC ha p⟩⟩
  exact hs C i y acc H2 _ hC hi ha p fun acc' H5 h5 p5 => ⟨acc', h5, p5⟩
end

/-! ## HoU -/
section
open HotX L2H
theorem hu_ofH {k : Nat} {A : Around} (r : RoomH k A) : A.units + 1 < cLine := by have := r.un; omega
theorem pi_sqH {X : Cx} {tg l : Expr} {tl : TE} (hl : PE X l tl) : PIH X tg l (iSq X.K tl) := by
  refine ⟨fun pins s σ H R I h => ?_⟩
  refine thn (hl.run pins s σ H _ I h) fun v s1 ⟨x, H1, I1, r1, a, xs, ex, q⟩ => ?_
  subst ex
  cases r1
  have fit : FpOk X pins H1 s1.heap.objs.size := I1.fpOk (Nat.le_refl _) (I1.hok.fresh (Nat.le_refl _))
  have ft : ∀ b ∈ [s1.heap.objs.size], FpOk X pins H1 b := fun b hb => by
    rw [List.mem_singleton.mp hb]
    exact fit
  rcases q with ⟨hq, q⟩ | ⟨hq, q⟩
  · obtain ⟨its, rv, pl, hz⟩ := I1.list (SqL.of hq)
    exact wpAny_pyIter_list pl.isList ⟨s1.heap.objs.size, [s1.heap.objs.size], fun i h => h.IsListIter s1.heap.objs.size a i, Itl X.K a, H1, rfl, I1.kept (t' := s1.toks) fun b o e => Heap.get?_push_of_some _ e, turn_listH a _, ⟨_, Heap.get?_push_size _ rfl, rfl, rfl⟩, ft, q⟩
  · obtain ⟨its, rv, pl, hz⟩ := I1.tuple (SqT.of hq)
    exact wpAny_pyIter_tuple (show s1.heap.IsTuple a its.toArray from pl) ⟨s1.heap.objs.size, [s1.heap.objs.size], fun i h => h.IsTupleIter s1.heap.objs.size a i, Itt X.K a, H1, rfl, I1.kept (t' := s1.toks) fun b o e => Heap.get?_push_of_some _ e, turn_tupleH a _, ⟨_, Heap.get?_push_size _ rfl, rfl, rfl⟩, ft, q⟩
end
theorem hot_of {A : Around} {a : Addr} {oe : Obj} {cls : Value} {d : Option Addr} (hz : L2N.Zn cls d oe) (hf : ∃ vs, oe.data = .fields vs) : L2H.Hot1 (A.mark (some (.ref a))) (a, oe) := by
  obtain ⟨vs, e⟩ := hf
  exact ⟨rfl, vs, e, hz.2.2 vs e⟩
theorem roomH_mark' {k : Nat} {A : Around} (r : Room k A) {h : Option Value} : L2H.RoomH k (A.mark h) := ⟨r.dp, r.un⟩
/-- f(..) in an except suite, by f's promise for what is handled -/
theorem pe_clU {X : Cx} {j k : Nat} {x : Str} {ps : List Str} {sp : HSp} {a : Addr} {oe : Obj} {pn : List (Addr × Obj)} {cls : Value} {d : Option Addr} {q pos : Pos} {e : Expr} {es : List Expr} {t : TA} (C : ClH X.prog X.w X.K X.mg X.base j x ps sp) (hz : L2N.Zn cls d oe) (hf : ∃ vs, oe.data = .fields vs) (hr : Room k X.A) (hg : Gl X x) (ha : PA (X.suite a ((a, oe) :: pn)) (e :: es) t) (hjk : j ≤ k := by decide)
    (hdb : (x == ("__debug__" : Str)) = false := by decide) (he : starEach (e :: es) X.env = (false, eval e X.env) :: starEach es X.env := by rfl) (hpl : (backTo pos (starEach es X.env)).any (·.1) = false := by rfl) :
    PE (X.suite a ((a, oe) :: pn)) (.Call (.Name x q) (e :: es) [] pos) (fun σ H Q => t σ H fun vs H1 => sp a cls d vs H1 Q E0) :=
  pe_clH (X := X.suite a ((a, oe) :: pn)) C (hot_of hz hf) List.mem_cons_self hz.zc (roomH_mark' hr) hg ha hjk hdb he hpl
theorem clH_false {P : Program} {w : World} {K : PySem.W.Frag} {mg : Str → Option Value} {base : Heap} {x : Str} {st : Stmt} {ps : List Str} {k : Nat} {sp : HSp} (D : Df K mg x st)
    (hb : ∀ (kV doc pm : Value) (an : Option Addr) (cdv ct : Value) (us : List Value), us.length = ps.length → bindArgs (PySem.W.fnOf x x (defArgs st) (defBody st) (defScope st) .none kV doc pm an cdv ct) ⟨us, []⟩ = pure (ps.zip us))
    (no : ∀ a c d vs H Q E, ¬ sp a c d vs H Q E) : ClH P w K mg base k x ps sp := by
  obtain ⟨f, fd, F, g⟩ := D
  exact ⟨f, fd, g, F.kp, F.bindsA hb, fun a c d vs H Q E h => (no a c d vs H Q E h).elim, fun A outer s H us vs Q E p cls d _ _ _ _ _ _ h => (no _ _ _ _ _ _ _ h).elim⟩

/-! ## HoT -/
section
open HotX L2H
variable {X : Cx}
/-- [e for y in l if c], the iterator J; Pv i: what holds behind i of m turns -/
def tLcI (wi : TI) (g : TG) (tt : TT) (te : TE) (vs : List Nat) : TE := fun σ H Q => wi σ H fun J H1 => ∀ D, H1 D = none → ∃ (Pv : Nat → Hp → Prop) (m : Nat), Pv 0 (upd H1 D (.lst [])) ∧
  (∀ i H2, Pv i H2 → i < m → J.go i H2 ∧ ∀ x H3, J.yld i H2 x H3 → g x (wipe σ vs) H3 fun σ2 H4 => wipe σ2 vs = wipe σ vs ∧ tt σ2 H4 fun b H5 => if b = true then te σ2 H5 fun z H6 => CSt D (Pv (i + 1)) z H6 else Pv (i + 1) H5) ∧
  ∀ i H2, Pv i H2 → m ≤ i → J.stop i H2 ∧ Q (.ref D) H2
theorem pe_lcI {elt tg l : Expr} {ifs : List Expr} {scope : Scope} {own : List (Str × Nat)} {pos : Pos} {wi : TI} {g : TG} {tt : TT} {te : TE} {p : Addr × Obj} (hot : Hot1 X.A p) (hpn : p ∈ X.pn) (hN : X.N.Nodup) (hl : PIH X tg l wi) (ok : BlkOk X.N X.env.scope scope own)
    (hg : ∀ s H C cl fp, PG (Cx.blkH X s H scope cl C fp p) tg g) (ht : ∀ s H C cl fp, PTs (Cx.blkH X s H scope cl C fp p) ifs tt) (he : ∀ s H C cl fp, PE (Cx.blkH X s H scope cl C fp p) elt te)
    (hs : ∀ x, foldedSetIterable l X.env x = pure x := by intro _; rfl) : PE X (.ListComp elt [⟨tg, l, ifs, 0⟩] scope pos) (tLcI wi g tt te (own.map (·.2))) := by
  refine ⟨fun pins s σ H Q I h => ?_⟩
  rw [eval_ListComp]
  have clo := closure_ok (env := X.env) (scope := scope) (fun y hy e => (ok.free y hy e).elim (fun k => I.ok.has _ (.inl k)) fun k => I.ok.has _ (.inr k))
  refine wpAny_comprehension_free (use := none) rfl hs clo ok.kind (fun y hy e => (ok.uniq y hy).trans (congrArg some e)) (thn (hl.run pins s σ H _ I h) fun v s1 h1 => ?_)
  refine thn h1 fun itv s2 ⟨it, fp, S, J0, H1, ev, I2, T, st2, fit, q⟩ => ?_
  subst ev
  refine wpAny_newObj_type (newEnv_comp ?_) (by show 0 ≤ sizeLine; decide)
  generalize hD : s2.heap.objs.size = D
  have hDn : H1 D = none := I2.hok.fresh (Nat.le_of_eq hD)
  have fpD : ∀ b ∈ fp, b < D := fun b hb => by
    obtain ⟨o, e, _⟩ := T.obj 0 _ st2 b hb
    rw [← hD]
    exact Heap.lt_size e
  obtain ⟨Pv, m, a0, step, fin⟩ := q D hDn
  generalize hs3 : ({ s2 with heap := s2.heap.push { cls := .type "list", data := .seq ([] : List Value).toArray } } : Shared) = s3
  have k3 : ∀ b o, s2.heap.get? b = some o → s3.heap.get? b = some o := fun b o e => by subst hs3; exact Heap.get?_push_of_some _ e
  have I3 : Inv X pins σ (upd H1 D (.lst [])) s3 := by
    subst hs3 hD
    exact I2.laid (t' := s2.toks) (fun b o e => Heap.get?_push_of_some _ e) (Nat.le_refl _) ⟨Nat.zero_le _, [], 0, .nil, Heap.get?_push_size _ rfl⟩
  have n3 : ∀ b ∈ fp, (upd H1 D (.lst [])) b = none := fun b hb => by rw [upd_ne (Nat.ne_of_lt (fpD b hb))]; exact (fit b hb).1
  have fit3 : ∀ b ∈ fp, FpOk X pins (upd H1 D (.lst [])) b := fun b hb => ⟨n3 b hb, (fit b hb).2⟩
  have it3 : ∀ b ∈ fp, b < s3.heap.objs.size := fun b hb => by
    obtain ⟨o, e, _⟩ := T.obj 0 _ st2 b hb
    exact Heap.lt_size (k3 _ _ e)
  have I4 := block_start I3 ok hN (fp := fp) (fun b hb => ⟨fit3 b hb, it3 b hb⟩)
  have P3 := I3.pin p (List.mem_append_left _ hpn)
  have mo : ∀ {o : Obj}, s3.heap.get? p.1 = some o → (pushCells (s3.heap.push { cls := .type "dict", data := .dict #[] }) scope.names).get? p.1 = some o := fun e => pushCells_keeps _ _ _ _ (Heap.get?_push_of_some _ e)
  have I5 := (I4.pins_of (pins' := [p]) (fun b hb => by
    obtain rfl := List.mem_singleton.mp hb
    exact ⟨mo P3.1, P3.2.1, Nat.ne_of_lt (Heap.lt_size P3.1), fun hm => (List.mem_cons.mp (I3.stkSub _ hm)).elim P3.2.2.1 P3.2.2.2.1, P3.2.2.2.2⟩)).toTry (fun _ _ => False)
  have pg := hg s3 (upd H1 D (.lst [])) s3.heap.objs.size (cellsFrom (s3.heap.objs.size + 1) scope.names (cloFrom X.env.cells scope.names [])) fp
  have pt := ht s3 (upd H1 D (.lst [])) s3.heap.objs.size (cellsFrom (s3.heap.objs.size + 1) scope.names (cloFrom X.env.cells scope.names [])) fp
  have pe := he s3 (upd H1 D (.lst [])) s3.heap.objs.size (cellsFrom (s3.heap.objs.size + 1) scope.names (cloFrom X.env.cells scope.names [])) fp
  have I5' : Inv (Cx.blkH X s3 (upd H1 D (.lst [])) scope (cellsFrom (s3.heap.objs.size + 1) scope.names (cloFrom X.env.cells scope.names [])) s3.heap.objs.size fp p) [] (wipe σ (own.map (·.2))) (upd H1 D (.lst [])) { s3 with heap := pushCells (s3.heap.push { cls := .type "dict", data := .dict #[] }) scope.names } := I5
  generalize hB : Cx.blkH X s3 (upd H1 D (.lst [])) scope (cellsFrom (s3.heap.objs.size + 1) scope.names (cloFrom X.env.cells scope.names [])) s3.heap.objs.size fp p = B at pg pt pe I5'
  have hotB : HotC B := by subst hB; exact ⟨p, hot, List.mem_singleton.mpr rfl⟩
  have stB : ∀ {σ' : L2.St} {H' : Hp} {s' : Shared}, Inv B [] σ' H' s' → (∀ b ∈ fp, H' b = none) → ∀ b ∈ fp, FpOk B [] H' b := fun {σ' H' s'} J hn b hb => by
    subst hB
    exact ⟨hn b hb, (J.ok.exf b hb).1, J.ok.exfs b hb, .inl hb, (J.ok.exf b hb).2, fun r hr => by
      obtain rfl := List.mem_singleton.mp (by simpa using hr)
      exact (fit3 b hb).2.2.2.2.2 r (List.mem_append_left _ hpn)⟩
  have st4 : S 0 (pushCells (s3.heap.push { cls := .type "dict", data := .dict #[] }) scope.names) := T.keep 0 _ _ st2 fun b _ o e => pushCells_keeps _ _ _ _ (Heap.get?_push_of_some _ (k3 _ _ e))
  have hpr : B.prog = X.prog := by subst hB; rfl
  have hw : B.w = X.w := by subst hB; rfl
  have hK : B.K = X.K := by subst hB; rfl
  have hA : B.A = X.A := by subst hB; rfl
  have hxe : B.xe = fun _ _ => False := by subst hB; rfl
  have hE : B.env = compEnvC scope (cellsFrom (s3.heap.objs.size + 1) scope.names (cloFrom X.env.cells scope.names [])) s3.heap.objs.size X.env := by subst hB; rfl
  have loop : codeAny (model X.prog X.w) X.A (.compLoop (.ListComp elt [⟨tg, l, ifs, 0⟩] scope pos) 0 (.ref it) (.ref D) (compEnvC scope (cellsFrom (s3.heap.objs.size + 1) scope.names (cloFrom X.env.cells scope.names [])) s3.heap.objs.size X.env)) (compPost (model X.prog X.w) X.A X.xe none (EP X pins σ Q) (.ref D) s3.heap.objs.size) { s3 with heap := pushCells (s3.heap.push { cls := .type "dict", data := .dict #[] }) scope.names } := by
    refine compLoop_any (fun n s' => ∃ i H2, i + n = m ∧ Pv i H2 ∧ (∀ b ∈ fp, H2 b = none) ∧ Inv B [] (wipe σ (own.map (·.2))) H2 s' ∧ S i s'.heap) ?_ m ⟨0, _, by omega, a0, n3, I5', st4⟩
    rintro n s5 ⟨i, H2, hi, pv, hn2, J, st5⟩
    by_cases hlt : i < m
    rotate_left
    · obtain ⟨hstop, hfin⟩ := fin i H2 pv (Nat.le_of_not_lt hlt)
      have td := T.done B hpr hw hK hotB i [] s5 _ _ (fun _ _ => False) J (stB J hn2) st5 hstop
      rw [hA] at td
      refine thnF td fun r s6 ⟨hr, J6⟩ => ?_
      subst hr
      subst hB
      have I7 : Inv X pins σ H2 s6 := I3.call' (ch := fp) J6.os J6.base J6.hok J6.bare fun b hb => ⟨(fit3 b hb).2.2.2.1, (fit3 b hb).2.1, (fit3 b hb).2.2.2.2.1, (fit3 b hb).2.2.2.2.2⟩
      obtain ⟨mm, hn, _⟩ := J6.loc
      have hC : H2 s3.heap.objs.size = none := J6.free
      obtain ⟨f0, f1, f2, f3, f4, f5⟩ := I3.fpOk (Nat.le_refl _) (show (upd H1 D (.lst [])) s3.heap.objs.size = none from I3.hok.fresh (Nat.le_refl _))
      exact ⟨mm, hn, fun h'' sb => ⟨.ref D, _, I7.turned (t' := s6.toks) (fun b o hb e => (sb.2 b hb).trans e) hC f1 f3 f4 f5, rfl, hfin⟩⟩
    · obtain ⟨hgo, stp⟩ := step i H2 pv hlt
      have ti := T.item B hpr hw hK hotB i [] s5 _ _ (fun _ _ => False) J (stB J hn2) st5 hgo
      rw [hA] at ti
      refine thnF ti fun r s6 ⟨u, hr, h6⟩ => ?_
      subst hr
      refine thnF h6 fun _ s7 ⟨x, H7, J7, r7, y7, st7, n7⟩ => ?_
      have J7' := J7.pinned (stB J7 n7) (T.obj _ _ st7)
      have back : ∀ {σ' : L2.St} {s' : Shared} {H' : Hp}, wipe σ' (own.map (·.2)) = wipe σ (own.map (·.2)) → Pv (i + 1) H' → Inv B ([] ++ pinsAt fp s7.heap) σ' H' s' → ∃ n', n' < n ∧ ∃ i H2, i + n' = m ∧ Pv i H2 ∧ (∀ b ∈ fp, H2 b = none) ∧ Inv B [] (wipe σ (own.map (·.2))) H2 s' ∧ S i s'.heap := fun {σ' s' H'} hw' pv' J' => by
        have pin : ∀ b ∈ fp, ∀ o, s7.heap.get? b = some o → s'.heap.get? b = some o ∧ H' b = none := fun b hb o e => by
          have q := J'.pin (b, o) (List.mem_append_right _ (List.mem_append_right _ (mem_pinsAt hb e)))
          exact ⟨q.1, q.2.1⟩
        refine ⟨n - 1, by omega, i + 1, H', by omega, pv', fun b hb => ?_, ?_, T.keep _ _ _ st7 fun b hb o e => (pin b hb o e).1⟩
        · obtain ⟨o7, e7, _⟩ := T.obj _ _ st7 b hb
          exact (pin b hb o7 e7).2
        rw [← hw']
        exact (J'.unpinned (pins := [])).weak (wipe_length _ _) fun j v e => (wipe_some e).1
      have st1 := stp x H7 y7
      have rg := pg.run _ s7 _ _ x u _ J7' r7 st1
      rw [hpr, hw, hA, hxe, hE] at rg
      refine thnF rg fun _ s8 ⟨σ8, H8, J8, hw8, q8⟩ => ?_
      have rt := pt.run _ s8 σ8 H8 _ J8 q8
      rw [hpr, hw, hA, hxe, hE] at rt
      refine thnF rt fun b s9 ⟨H9, J9, q9⟩ => ?_
      cases b with
      | false => exact back hw8 q9 J9
      | true =>
        have re := pe.run _ s9 σ8 H9 _ J9 q9
        rw [hpr, hw, hA, hxe, hE] at re
        refine thnF re fun z s10 ⟨yv, H10, J10, r10, acc, hacc, hz1, q10⟩ => ?_
        have ap := app_ok (X := B) (E := fun _ _ => False) J10 (D := D) (xs := acc) hacc hz1 r10 (Q := fun _ s' => ∃ n', n' < n ∧ ∃ i H2, i + n' = m ∧ Pv i H2 ∧ (∀ b ∈ fp, H2 b = none) ∧ Inv B [] (wipe σ (own.map (·.2))) H2 s' ∧ S i s'.heap) fun s11 J11 => back hw8 q10 J11
        rw [hpr, hw, hA] at ap
        exact thnF ap fun _ _ z => z
  exact codeAny_compStart_list loop (T.self X.A 0 _ _ _ st4 loop)
end
section
variable {σ : L2.St} {H : Hp} {Q : VK} {g : TG} {tt : TT} {te : TE} {vs : List Nat} {ta : TA}
/-- over range(n) -/
def CI (n : Nat) (g : TG) (tt : TT) (te : TE) (vs : List Nat) (σ : L2.St) (H1 : Hp) (Q : VK) : Prop := ∀ D, H1 D = none → ∃ (Pv : Nat → Hp → Prop) (m : Nat), Pv 0 (upd H1 D (.lst [])) ∧
  (∀ i H2, Pv i H2 → i < m → (Itr 0 n).go i H2 ∧ ∀ x H3, (Itr 0 n).yld i H2 x H3 → g x (wipe σ vs) H3 fun σ2 H4 => wipe σ2 vs = wipe σ vs ∧ tt σ2 H4 fun b H5 => if b = true then te σ2 H5 fun z H6 => CSt D (Pv (i + 1)) z H6 else Pv (i + 1) H5) ∧
  ∀ i H2, Pv i H2 → m ≤ i → (Itr 0 n).stop i H2 ∧ Q (.ref D) H2
theorem a_lcI : tLcI (iRng1 ta) g tt te vs σ H Q = ta σ H fun ws H1 => ∃ j : Int, ws = [.int j] ∧ -(2 ^ 62) ≤ j ∧ j < 2 ^ 62 ∧ CI j.toNat g tt te vs σ H1 Q := rfl
theorem ci_by {n : Nat} (Pv : Addr → Nat → List V → Hp → Prop) (h0 : ∀ C H0, New H C (.lst []) H0 → Pv C 0 [] H0)
    (hs : ∀ C i acc H1 N, H C = none → i < n → H1 C = some (.lst acc) → Pv C i acc H1 → (∀ acc' H5, H5 C = some (.lst acc') → Pv C (i + 1) acc' H5 → N H5) → g (.int (0 + i)) (wipe σ vs) H1 fun σ2 H2 => wipe σ2 vs = wipe σ vs ∧ tt σ2 H2 fun b H3 =>
      if b = true then te σ2 H3 fun y H4 => CSt C N y H4 else N H3)
    (hd : ∀ C acc H1, H C = none → H1 C = some (.lst acc) → Pv C n acc H1 → Q (.ref C) H1) : CI n g tt te vs σ H Q := by
  intro C hC
  refine ⟨fun i H1 => i ≤ n ∧ ∃ acc, H1 C = some (.lst acc) ∧ Pv C i acc H1, n, ⟨Nat.zero_le _, [], upd_same, h0 C _ (New.mk' hC)⟩, fun i H2 ⟨_, acc, ha, p⟩ hi => ⟨hi, fun x H3 ⟨e1, e2⟩ => ?_⟩, fun i H2 ⟨hle, acc, ha, p⟩ hi => ?_⟩
  · subst e1 e2
    exact hs C i acc _ _ hC hi ha p fun acc' H5 h5 p5 => ⟨hi, acc', h5, p5⟩
  · obtain rfl : i = n := by omega
    exact ⟨hi, hd C acc H2 hC ha p⟩
end
section
open HotX L2H
theorem walks_listH {prog : Program} {w : World} {A : Around} {x1 : Addr} {o1 : Obj} {vs1 : Array Value} (hh : A.handled = some (.ref x1)) (d1 : o1.data = .fields vs1) (c1 : vs1[2]? = some .none) (I ax : Addr) (hne : ax ≠ I) (hx : x1 ≠ I) (items : Array Value) :
    Walks prog w A I [I, ax, x1] [I] items.size (fun i v => items[i]? = some v) (fun i h => h.IsListIter I ax i ∧ h.IsList ax items ∧ h.get? x1 = some o1) where
  sub := fun b hb => by simp at hb; simp [hb]
  frame := fun _ _ _ st hk => ⟨st.1.at fun o e => hk I (by simp) o e, st.2.1.at fun o e => hk ax (by simp) o e, hk x1 (by simp) _ st.2.2⟩
  item := fun i s Q E hi st hQ => by
    refine wpAny_pyNext_list_item st.1 st.2.1 (x := items[i]) (by simp [hi]) fun h' hit' hs' => ?_
    exact hQ _ h' s.toks (by simp [hi]) ⟨hit', st.2.1.extBut hs'.extBut hne, hs'.extBut x1 o1 hx st.2.2⟩ fun b o hb e => hs'.extBut b o (fun h => hb (by simp [h])) e
  done := fun s Q E st hQ => list_end_hot ⟨hh, o1, vs1, st.2.2, d1, c1⟩ st.1 st.2.1 (by simp) hx fun h' he' => hQ h' s.toks fun b o hb e => he' b o (fun h => hb (by simp [h])) e
  self := fun _ _ _ _ st hQ => wpAny_pyIter_listiter st.1 hQ
variable {X : Cx}
theorem cr_allH (hc : HotC X) : CallR X (.builtin "all") (rAll X.K) := by
  intro pins s σ H vs us Q I r h
  obtain ⟨a, bs, rfl, hs, q⟩ := h
  obtain ⟨its, rv, hl, _⟩ := I.list hs
  rw [Vals.ref1 r]
  have hb := rv.bls
  obtain ⟨p, ⟨hh, v1, e1, c1⟩, hp⟩ := hc
  have P1 := (I.pin p (List.mem_append_left _ hp)).1
  refine call_all_walk (iter_any hl.isList fun s₂ e2 st hne => ?_)
  subst e2
  have hx : p.1 ≠ s.heap.objs.size := Nat.ne_of_lt (Heap.lt_size P1)
  refine ⟨_, _, _, _, _, _, _, rfl, walks_listH (A := X.A.in1) (x1 := p.1) hh e1 c1 _ a hne hx its.toArray, ⟨st.1, st.2, Heap.get?_push_of_some _ P1⟩, truth_bools hb, fun h' tk hk => ?_⟩
  refine ⟨.bl _, H, I.kept fun b o eo => hk b o (fun hmem => ?_) (Heap.get?_push_of_some _ eo), ?_, q⟩
  · rcases List.mem_cons.mp hmem with e1 | hmem
    · exact absurd (e1 ▸ Heap.lt_size eo) (Nat.lt_irrefl _)
    · cases hmem
  · show Value.bool _ = Value.bool _
    rw [← L2.all_range, hb, List.size_toArray, List.length_map]
theorem sum_rawH {prog : Program} {w : World} {A : Around} {E : Value → Shared → Prop} {s : Shared} {l : Addr} {its : List Value} {ns : List Int} {Q : Value → Shared → Prop} {x1 : Addr} {o1 : Obj} {vs1 : Array Value} (hh : A.handled = some (.ref x1)) (e1 : s.heap.get? x1 = some o1) (d1 : o1.data = .fields vs1) (c1 : vs1[2]? = some .none)
    (hl : s.heap.IsList l its.toArray) (hi : IntsAre its ns)
    (h : ∀ h' tk t', (∀ b o, s.heap.get? b = some o → h'.get? b = some o) → Q (.int ns.sum t') { s with heap := h', toks := tk }) : wpAny (model prog w) A (call (.builtin "sum") [.ref l]) Q E s := by
  obtain ⟨xs, e⟩ := hi.allInts.items
  have hn : numsOf (intItems xs).toList = ns := by rw [← e]; exact hi.numsOf
  rw [nums_intItems] at hn
  rw [e] at hl
  refine PySem.call_sum_walkG (PySem.iter_intList hl fun s₂ e2 st hfp hlI => ?_)
  subst e2
  have hx : x1 ≠ s.heap.objs.size := Nat.ne_of_lt (Heap.lt_size e1)
  refine ⟨_, _, _, _, _, _, numAt xs, rfl, walks_listH (A := A.in1) (x1 := x1) hh d1 c1 _ l hlI hx (intItems xs), ⟨st.1, st.2, Heap.get?_push_of_some _ e1⟩, (fun b hb => ?_), (fun _ _ => intItems_at), fun h' tk t' hk => ?_⟩
  · rcases List.mem_cons.mp hb with rfl | hb
    · exact hfp _ (by simp)
    rcases List.mem_cons.mp hb with rfl | hb
    · exact hfp _ (by simp)
    rw [List.mem_singleton.mp hb]
    exact Heap.lt_size (Heap.get?_push_of_some _ e1)
  · have := h h' tk t' (PySem.old_kept hk)
    have e3 : preSum (numAt xs) (intItems xs).size = ns.sum := by
      rw [show (intItems xs).size = xs.size by simp [intItems], preSum_eq, List.take_of_length_le (by simp), hn]
    rw [e3]
    exact this
theorem cr_sumH (hc : HotC X) : CallR X (.builtin "sum") (rSum X.K) := by
  intro pins s σ H vs us Q I r h
  obtain ⟨a, ns, rfl, hs, q⟩ := h
  obtain ⟨its, rv, hl, _⟩ := I.list hs
  rw [Vals.ref1 r]
  obtain ⟨p, ⟨hh, v1, e1, c1⟩, hp⟩ := hc
  have P1 := (I.pin p (List.mem_append_left _ hp)).1
  exact sum_rawH hh P1 e1 c1 hl.isList rv.ints fun h' tk t' hk => ⟨.int _, H, I.kept hk, ⟨_, rfl⟩, q⟩
end

/-! ## HoQ -/
section
variable {X : Cx}
theorem pe_clXK0 {j k : Nat} {x : Str} {ps : List Str} {sp : Sp} {ks : List Str} {p pos : Pos} {kws : List Keyword} {t2 : TA} (C : ClXK X.prog X.w X.K X.mg X.base j x ps 0 ks sp) (hr : Room k X.A) (hg : Gl X x) (hkw : PK X kws t2) (hjk : j ≤ k := by decide)
    (hall : (backToKw pos (keywordEach kws X.env)).all (·.1.isSome) = true := by rfl) (hks : (backToKw pos (keywordEach kws X.env)).filterMap (·.1) = ks := by rfl)
    (hdb : (x == ("__debug__" : Str)) = false := by decide)
    (hpl : ((backTo pos (starEach [] X.env)).any (·.1) || (backToKw pos (keywordEach kws X.env)).any (·.1.isNone)) = false := by rfl) :
    PE X (.Call (.Name x p) [] kws pos) (fun σ H Q => t2 σ H fun zs H2 => zs.length = ks.length ∧ sp zs H2 Q (fun _ _ _ => False)) := by
  obtain ⟨f, fd, a, b, c, d⟩ := C
  refine ⟨fun pins s σ H Q I h => ?_⟩
  refine wpAny_Call_Name_kw (ld_glob I hg a ?_ hdb)
  refine PySem.W.callWith_KW0 (h₀ := X.base) I.ok.mod.kin b hall ?_ hpl
  refine thn (hkw.run pos pins s σ H _ I h) fun ws s2 ⟨zs, H2, I2, rz, l2, q2⟩ => ⟨I2.kIn, ?_⟩
  rw [hks]
  exact run_fnN (us := []) (vs := []) (d.mono hjk) hr c (fun pins σ H s e s' I c => L2N.passAt (W := fun _ _ _ _ => False) takesN0 σ pins H s e s' I c) I2 .nil rz rfl l2 q2
def qTupA : List V → Hp → VK → Prop := fun xs H Q => ∃ p ys, xs = [.ref p] ∧ sq H p = some ys ∧ ∀ u H', Same H H' → H' u = some (.tup ys) → Q (.ref u) H'
theorem tupA1 : CallR X (.type "tuple") qTupA := CallR_imp call_tuple_of fun xs H Q h => by
  obtain ⟨p, ys, rfl, hq, k⟩ := h
  rcases sq_or hq with e | e
  · exact ⟨p, ys, rfl, .inl ⟨SqL.of e, fun l hl => k l _ (New.mk' hl).same upd_same⟩⟩
  · exact ⟨p, ys, rfl, .inr ⟨SqT.of e, k p H (Same.refl _) e⟩⟩
end
theorem b_tupA {p : Addr} {H : Hp} {Q : VK} : qTupA [.ref p] H Q = ∃ ys, sq H p = some ys ∧ ∀ u H', Same H H' → H' u = some (.tup ys) → Q (.ref u) H' := by
  unfold qTupA; apply propext; constructor
  · rintro ⟨q, ys, e, h⟩; cases e; exact ⟨ys, h⟩
  · rintro ⟨ys, h⟩; exact ⟨p, ys, rfl, h⟩

/-! ## HoS -/
def pix (m t : Nat) : Nat := t / m + (m - 1 - t % m)
/-- the program's path -/
def pth (m n : Nat) : List Int := (List.range n).flatMap fun (k : Nat) => (List.range m).map fun (s : Nat) => (((m : Int) + k) - 1) - (s : Int)
theorem range_mul (m : Nat) : ∀ n : Nat, List.range (n * m) = (List.range n).flatMap fun k => (List.range m).map fun s => k * m + s
  | 0 => by simp
  | n + 1 => by
    rw [Nat.succ_mul, List.range_add, range_mul m n, List.range_succ, List.flatMap_append]
    simp
theorem pth_eq (m n : Nat) : pth m n = (List.range (n * m)).map fun t => (pix m t : Int) := by
  rw [range_mul, List.map_flatMap]
  unfold pth
  rw [List.flatMap_def, List.flatMap_def]
  congr 1
  refine List.map_congr_left fun k hk => ?_
  rw [List.map_map]
  refine List.map_congr_left fun s hs => ?_
  have hs := List.mem_range.mp hs
  show _ = ((pix m (k * m + s) : Nat) : Int)
  unfold pix
  have h1 : (k * m + s) / m = k := by
    rw [Nat.mul_comm, Nat.mul_add_div (by omega), Nat.div_eq_of_lt hs, Nat.add_zero]
  have h2 : (k * m + s) % m = s := by
    rw [Nat.mul_comm, Nat.mul_add_mod, Nat.mod_eq_of_lt hs]
  rw [h1, h2]
  omega
section
variable {α : Type}
/-- k entries of ys have gone through xs, the next one s steps far -/
def wks (xs ys : List α) (k s : Nat) : List α := ys.take k ++ xs.take (xs.length - s) ++ ys[k]?.toList ++ xs.drop (xs.length - s) ++ ys.drop (k + 1)
def wd (xs ys : List α) (t : Nat) : List α := if t < ys.length * xs.length then wks xs ys (t / xs.length) (t % xs.length) else ys ++ xs
theorem wks_zero {xs ys : List α} {k : Nat} (hk : k < ys.length) : wks xs ys k 0 = ys.take k ++ xs ++ ys.drop k := by
  unfold wks
  rw [Nat.sub_zero, List.take_length, List.drop_length, List.getElem?_eq_getElem hk, List.drop_eq_getElem_cons hk]
  simp
theorem wks_end {xs ys : List α} {k : Nat} (hk : k < ys.length) : wks xs ys k xs.length = ys.take (k + 1) ++ xs ++ ys.drop (k + 1) := by
  unfold wks
  rw [Nat.sub_self, List.take_zero, List.drop_zero, List.take_add_one]
  simp
theorem wd_zero (xs ys : List α) : wd xs ys 0 = xs ++ ys := by
  unfold wd
  by_cases h : 0 < ys.length * xs.length
  · rw [if_pos h, Nat.zero_div, Nat.zero_mod, wks_zero (Nat.pos_of_mul_pos_right h |> fun _ => by
      rcases Nat.eq_zero_or_pos ys.length with e | e
      · rw [e, Nat.zero_mul] at h; omega
      · exact e)]
    simp
  · rw [if_neg h]
    have : ys.length * xs.length = 0 := by omega
    rcases Nat.mul_eq_zero.mp this with e | e
    · rw [List.eq_nil_of_length_eq_zero e]; simp
    · rw [List.eq_nil_of_length_eq_zero e]; simp
theorem wd_last (xs ys : List α) : wd xs ys (ys.length * xs.length) = ys ++ xs := by
  unfold wd
  rw [if_neg (Nat.lt_irrefl _)]
theorem wd_at {xs ys : List α} {k s : Nat} (hk : k < ys.length) (hs : s < xs.length) : wd xs ys (k * xs.length + s) = wks xs ys k s := by
  unfold wd
  have h1 : (k * xs.length + s) / xs.length = k := by
    rw [Nat.mul_comm, Nat.mul_add_div (by omega), Nat.div_eq_of_lt hs, Nat.add_zero]
  have h2 : (k * xs.length + s) % xs.length = s := by
    rw [Nat.mul_comm, Nat.mul_add_mod, Nat.mod_eq_of_lt hs]
  have h3 : (k + 1) * xs.length ≤ ys.length * xs.length := Nat.mul_le_mul_right _ hk
  rw [Nat.succ_mul] at h3
  rw [if_pos (by omega), h1, h2]
theorem wd_succ {xs ys : List α} {k s : Nat} (hk : k < ys.length) (hs : s < xs.length) : wd xs ys (k * xs.length + s + 1) = wks xs ys k (s + 1) := by
  by_cases h : s + 1 < xs.length
  · rw [Nat.add_assoc, wd_at hk h]
  · have e : s + 1 = xs.length := by omega
    rw [e, wks_end hk, Nat.add_assoc, e, show k * xs.length + xs.length = (k + 1) * xs.length by rw [Nat.succ_mul]]
    by_cases h2 : k + 1 < ys.length
    · have := wd_at (xs := xs) (ys := ys) (k := k + 1) (s := 0) h2 (by omega)
      rw [Nat.add_zero] at this
      rw [this, wks_zero h2]
    · have e2 : k + 1 = ys.length := by omega
      rw [e2, wd_last, List.take_length, List.drop_length, List.append_nil]
/-- a turn of the path swaps an entry of xs with one of ys behind it -/
theorem wd_step {xs ys : List α} {t : Nat} (ht : t < ys.length * xs.length) : ∃ (A B : List α) (a b : α), wd xs ys t = A ++ a :: b :: B ∧ wd xs ys (t + 1) = A ++ b :: a :: B ∧ A.length = pix xs.length t ∧ a ∈ xs ∧ b ∈ ys := by
  have hm : 0 < xs.length := by
    rcases Nat.eq_zero_or_pos xs.length with e | e
    · rw [e, Nat.mul_zero] at ht; omega
    · exact e
  have hs : t % xs.length < xs.length := Nat.mod_lt _ hm
  have hk : t / xs.length < ys.length := Nat.div_lt_of_lt_mul (by rw [Nat.mul_comm]; exact ht)
  have et : t = t / xs.length * xs.length + t % xs.length := by rw [Nat.mul_comm]; exact (Nat.div_add_mod t xs.length).symm
  generalize hK : t / xs.length = k at hk et
  generalize hS : t % xs.length = s at hs et
  have hi : xs.length - (s + 1) < xs.length := by omega
  refine ⟨ys.take k ++ xs.take (xs.length - (s + 1)), xs.drop (xs.length - s) ++ ys.drop (k + 1), xs[xs.length - (s + 1)], ys[k], ?_, ?_, ?_, List.getElem_mem _, List.getElem_mem _⟩
  · have e1 : xs.length - s = xs.length - (s + 1) + 1 := by omega
    rw [et, wd_at hk hs]
    unfold wks
    rw [List.getElem?_eq_getElem hk]
    have e2 : xs.take (xs.length - s) = xs.take (xs.length - (s + 1)) ++ [xs[xs.length - (s + 1)]] := by
      rw [e1, List.take_add_one, List.getElem?_eq_getElem hi]
      rfl
    rw [e2]
    simp only [Option.toList_some, List.append_assoc, List.cons_append, List.nil_append]
  · rw [et, wd_succ hk hs]
    unfold wks
    rw [List.getElem?_eq_getElem hk]
    have e2 : xs.drop (xs.length - (s + 1)) = xs[xs.length - (s + 1)] :: xs.drop (xs.length - s) := by
      rw [List.drop_eq_getElem_cons hi, show xs.length - (s + 1) + 1 = xs.length - s by omega]
    rw [e2]
    simp
  · unfold pix
    rw [hK, hS, List.length_append, List.length_take, List.length_take]
    omega
theorem wd_len {xs ys : List α} : ∀ {t : Nat}, t ≤ ys.length * xs.length → (wd xs ys t).length = xs.length + ys.length
  | 0, _ => by rw [wd_zero, List.length_append]
  | t + 1, h => by
    obtain ⟨A, B, a, b, e1, e2, _⟩ := wd_step (xs := xs) (ys := ys) (t := t) (by omega)
    have := wd_len (xs := xs) (ys := ys) (t := t) (by omega)
    rw [e1] at this
    rw [e2]
    simp at this ⊢
    omega
end

/-! ## R1 -/
local macro_rules | `(tactic| walk_at "wp") => `(tactic| (try simp only [a_var, a_c, a_op, a_un, a_test, a_b, a_and, a_or, a_not, a_andV, a_orV, a_notV, a_if, a_next, a_seq, a_break, a_cont, a_drop, a_ret, a_retN, a_ifS, a_asg, a_name, a_sub, a_nil, a_cons, a_tup, a_lst, a_call, a_cb, a_bm0, a_bm, a_sl, a_nopart, a_part, a_aug, b_rI, b_rI0, b_rU, b_eq, b_ne, b_isTF, b_int, b_intb, b_list, b_tuple, b_ix, b_len, b_setL, b_app, b_pop, b_popAt, b_sl, b_rep, b_cat, b_lstRg, b_tupRg, b_rg1, b_rg2, a_forR, a_forR2, a_forS, b_fsq, a_lcR, a_lcR2, a_lcS, b_csq, wipe_nil, wipe_cons, a_yes, wh_i, wh_s, wh_b, wh_r, wh_n, Bool.not_eq_true, eq_self, not_true_eq_false, not_false_eq_true, b_isi, kb_all, ty_non, ty_bl, ty_int, ty_str, a_m1, b_ixS, b_slS, List.cons.injEq, and_assoc, exists_and_left, cxK, List.getElem?_cons_zero, List.getElem?_cons_succ, List.set_cons_zero, List.set_cons_succ, Option.some.injEq, exists_eq_left', exists_eq_left, V.bl.injEq, V.int.injEq, V.ref.injEq, V.str.injEq, HO.lst.injEq, HO.tup.injEq, decide_eq_true_eq, true_and, and_true, L2.start, List.map_cons, List.map_nil, List.length_cons, List.length_nil, Nat.zero_add, Nat.reduceAdd, Nat.reduceSub, List.replicate_succ, List.replicate_zero, List.cons_append, List.nil_append, if_true, if_false, Bool.false_eq_true, Bool.not_true, Bool.not_false, decide_not, Bool.not_eq_true', decide_eq_false_iff_not, scal_ii, scal_bb, scal_ss, scal_is, scal_si, reduceCtorEq, Bool.true_eq_false, decide_false, decide_true, if_pos, ne_eq, Int.reduceNeg, atI_0, atI_1, atI_2, atI_3, atI_4, atI_5, atI_6, ixN_7, b_ins, a_revL, b_isT, V.ty.injEq, Bool.true_or, Bool.or_true, Bool.false_or, Bool.or_false, Bool.or_self, b_sorted, b_repT, a_err, a_callS, a_xp, a_isP, a_lcE, a_forE, a_isV, a_lcH, a_ch, a_forES, a_lcG, a_lcI, b_tupA]))
local macro_rules | `(tactic| walk_at "wps") => `(tactic| (try simp only [a_var, a_c, a_op, a_un, a_test, a_b, a_and, a_or, a_not, a_andV, a_orV, a_notV, a_if, a_next, a_seq, a_break, a_cont, a_drop, a_ret, a_retN, a_ifS, a_asg, a_name, a_sub, a_nil, a_cons, a_tup, a_lst, a_call, a_cb, a_bm0, a_bm, a_sl, a_nopart, a_part, a_aug, b_rI, b_rI0, b_rU, b_eq, b_ne, b_isTF, b_int, b_intb, b_list, b_tuple, b_ix, b_len, b_setL, b_app, b_pop, b_popAt, b_sl, b_rep, b_cat, b_lstRg, b_tupRg, b_rg1, b_rg2, a_forR, a_forR2, a_forS, b_fsq, a_lcR, a_lcR2, a_lcS, b_csq, wipe_nil, wipe_cons, a_yes, wh_i, wh_s, wh_b, wh_r, wh_n, Bool.not_eq_true, eq_self, not_true_eq_false, not_false_eq_true, b_isi, kb_all, ty_non, ty_bl, ty_int, ty_str, a_m1, b_ixS, b_slS, List.cons.injEq, and_assoc, exists_and_left, cxK, List.getElem?_cons_zero, List.getElem?_cons_succ, List.set_cons_zero, List.set_cons_succ, Option.some.injEq, exists_eq_left', exists_eq_left, V.bl.injEq, V.int.injEq, V.ref.injEq, V.str.injEq, HO.lst.injEq, HO.tup.injEq, decide_eq_true_eq, true_and, and_true, L2.start, List.map_cons, List.map_nil, List.length_cons, List.length_nil, Nat.zero_add, Nat.reduceAdd, Nat.reduceSub, List.replicate_succ, List.replicate_zero, List.cons_append, List.nil_append, if_true, if_false, Bool.false_eq_true, Bool.not_true, Bool.not_false, decide_not, Bool.not_eq_true', decide_eq_false_iff_not, scal_ii, scal_bb, scal_ss, scal_is, scal_si, reduceCtorEq, Bool.true_eq_false, decide_false, decide_true, if_pos, ne_eq, Int.reduceNeg, atI_0, atI_1, atI_2, atI_3, atI_4, atI_5, atI_6, ixN_7, b_ins, a_revL, b_isT, V.ty.injEq, Bool.true_or, Bool.or_true, Bool.false_or, Bool.or_false, Bool.or_self, b_sorted, b_repT, a_err, a_callS, a_xp, a_isP, a_lcE, a_forE, a_isV, a_lcH, a_ch, a_forES, a_lcG, a_lcI, b_tupA, *]))
local macro_rules | `(tactic| walk_at "wq") => `(tactic| (try simp only [a_var, a_c, a_op, a_un, a_test, a_b, a_and, a_or, a_not, a_andV, a_orV, a_notV, a_if, a_next, a_break, a_cont, a_drop, a_ret, a_retN, a_ifS, a_asg, a_name, a_sub, a_nil, a_cons, a_tup, a_lst, a_call, a_cb, a_bm0, a_bm, a_sl, a_nopart, a_part, a_aug, b_rI, b_rI0, b_rU, b_eq, b_ne, b_isTF, b_int, b_intb, b_list, b_tuple, b_ix, b_len, b_setL, b_app, b_pop, b_popAt, b_sl, b_rep, b_cat, b_lstRg, b_tupRg, b_rg1, b_rg2, a_forR, a_forR2, a_forS, b_fsq, a_lcR, a_lcR2, a_lcS, b_csq, wipe_nil, wipe_cons, a_yes, wh_i, wh_s, wh_b, wh_r, wh_n, Bool.not_eq_true, eq_self, not_true_eq_false, not_false_eq_true, b_isi, kb_all, ty_non, ty_bl, ty_int, ty_str, a_m1, b_ixS, b_slS, List.cons.injEq, and_assoc, exists_and_left, cxK, List.getElem?_cons_zero, List.getElem?_cons_succ, List.set_cons_zero, List.set_cons_succ, Option.some.injEq, exists_eq_left', exists_eq_left, V.bl.injEq, V.int.injEq, V.ref.injEq, V.str.injEq, HO.lst.injEq, HO.tup.injEq, decide_eq_true_eq, true_and, and_true, L2.start, List.map_cons, List.map_nil, List.length_cons, List.length_nil, Nat.zero_add, Nat.reduceAdd, Nat.reduceSub, List.replicate_succ, List.replicate_zero, List.cons_append, List.nil_append, if_true, if_false, Bool.false_eq_true, Bool.not_true, Bool.not_false, decide_not, Bool.not_eq_true', decide_eq_false_iff_not, scal_ii, scal_bb, scal_ss, scal_is, scal_si, reduceCtorEq, Bool.true_eq_false, decide_false, decide_true, if_pos, ne_eq, Int.reduceNeg, atI_0, atI_1, atI_2, atI_3, atI_4, atI_5, atI_6, ixN_7, b_ins, a_revL, b_isT, V.ty.injEq, Bool.true_or, Bool.or_true, Bool.false_or, Bool.or_false, Bool.or_self, b_sorted, b_repT, a_err, a_callS, a_xp, a_isP, a_lcE, a_forE, a_isV, a_lcH, a_ch, a_forES, a_lcG, a_lcI, b_tupA, *]))
local macro_rules | `(tactic| walk_at "wn") => `(tactic| (try simp only [a_var, a_c, a_op, a_un, a_test, a_b, a_and, a_or, a_not, a_andV, a_orV, a_notV, a_if, a_next, a_break, a_cont, a_drop, a_ret, a_retN, a_ifS, a_asg, a_name, a_sub, a_nil, a_cons, a_tup, a_lst, a_call, a_cb, a_bm0, a_bm, a_sl, a_nopart, a_part, a_aug, b_rI, b_rI0, b_rU, b_eq, b_ne, b_isTF, b_int, b_intb, b_list, b_tuple, b_ix, b_len, b_setL, b_app, b_pop, b_popAt, b_sl, b_rep, b_cat, b_lstRg, b_tupRg, b_rg1, b_rg2, a_forR, a_forR2, a_forS, b_fsq, a_lcR, a_lcR2, a_lcS, b_csq, wipe_nil, wipe_cons, a_yes, wh_i, wh_s, wh_b, wh_r, wh_n, Bool.not_eq_true, eq_self, not_true_eq_false, not_false_eq_true, b_isi, kb_all, ty_non, ty_bl, ty_int, ty_str, a_m1, b_ixS, b_slS, List.cons.injEq, and_assoc, exists_and_left, cxK, List.getElem?_cons_zero, List.getElem?_cons_succ, List.set_cons_zero, List.set_cons_succ, Option.some.injEq, exists_eq_left', exists_eq_left, V.bl.injEq, V.int.injEq, V.ref.injEq, V.str.injEq, HO.lst.injEq, HO.tup.injEq, decide_eq_true_eq, true_and, and_true, L2.start, List.map_cons, List.map_nil, List.length_cons, List.length_nil, Nat.zero_add, Nat.reduceAdd, Nat.reduceSub, List.replicate_succ, List.replicate_zero, List.cons_append, List.nil_append, if_true, if_false, Bool.false_eq_true, Bool.not_true, Bool.not_false, decide_not, Bool.not_eq_true', decide_eq_false_iff_not, scal_ii, scal_bb, scal_ss, scal_is, scal_si, reduceCtorEq, Bool.true_eq_false, decide_false, decide_true, if_pos, ne_eq, Int.reduceNeg, atI_0, atI_1, atI_2, atI_3, atI_4, atI_5, atI_6, ixN_7, b_ins, a_revL, b_isT, V.ty.injEq, Bool.true_or, Bool.or_true, Bool.false_or, Bool.or_false, Bool.or_self, b_sorted, b_repT, a_err, a_callS, a_xp, a_isP, a_lcE, a_forE, a_isV, a_lcH, a_ch, a_forES, a_lcG, a_lcI, b_tupA]))
local macro_rules | `(tactic| walk_at "sq") => `(tactic| ((try dsimp only); rw [a_seq]; walk_at "wq"))
local macro_rules | `(tactic| walk_at "sn") => `(tactic| ((try dsimp only); rw [a_seq]; walk_at "wn"))

section
variable {P : Program} {w : World} {K : PySem.W.Frag} {mg : Str → Option Value} {base : Heap}
def sp_csize (K : PySem.W.Frag) : Sp := fun vs H Q Er => ∃ (p : Addr) (xs : List V) (lim : Nat), vs = [.ref p, .int lim] ∧ sq H p = some xs ∧ lim ≤ 1000 ∧ (xs.length ≤ lim → Q .non H) ∧ (lim < xs.length → Raises K (.many "row" lim) H Er)
abbrev stcheck_size : Stmt := topS 38
theorem sccheck_size : FnScope ["row", "limit"] ["row", "limit"] (defScope stcheck_size) := ⟨rfl, rfl, rfl, by decide +kernel, rfl, by decide +kernel, by decide +kernel⟩
theorem okcheck_size (D : Df K mg "check_size" stcheck_size) (T : NoB mg)  (Er_TooMany : ErT_TooMany P w K mg base): ClX P w K mg base 4 "check_size" ["row", "limit"] (sp_csize K) := by
  refine clX_of D sccheck_size (fun _ _ _ _ _ _ us hl => match us, hl with | [_, _], _ => rfl) (fun vs H Q E h => ?_) (fun f cdv A outer sh H vs Q E hr tk h => ?_)
  · obtain ⟨_, _, _, rfl, _⟩ := h; rfl
  obtain ⟨p, xs, lim, rfl, hq, hl, k1, k2⟩ := h
  refine ⟨_, (pss_one (ps_if (pt_cmpR op_gt (pe_callB len1 (by rfl) T.no_len (by decide +kernel) (pa_cons (pv 0) pa_nil)) (pv 1) (nomark _)) (pss_one (L2N.ps_raise rfl tk (pmk_err Er_TooMany hr (by rfl) (pa_cons pe_str (pa_cons (pv 1) pa_nil))))) pss_nil)), ?_⟩
  walk_at "wn"
  refine ⟨_, hq, ?_⟩
  by_cases c : lim < xs.length
  · rw [if_pos (by omega)]
    exact ⟨⟨⟨"row", rfl, by decide⟩, .inl ⟨lim, rfl, log_sm (Nat.lt_of_le_of_lt (show (lim : Int).natAbs ≤ 1000 by omega) (by decide))⟩, trivial⟩, fun d2 H2 n2 => k2 c d2 H H2 (Same.refl _) n2⟩
  · rw [if_neg (by omega)]
    exact k1 (by omega)
def sp_exch : Sp := fun vs H Q _ => ∃ (p : Addr) (A B : List V) (a b : V) (i : Int), vs = [.ref p, .int i] ∧ H p = some (.tup (A ++ a :: b :: B)) ∧ i = A.length ∧ (A ++ a :: b :: B).length ≤ 1000 ∧ ∀ u H', Same H H' → H' u = some (.tup (A ++ b :: a :: B)) → Q (.ref u) H'
theorem app_get0 {α : Type} {A B : List α} {a b : α} : (A ++ a :: b :: B)[A.length]? = some a := by
  rw [List.getElem?_append_right (Nat.le_refl _), Nat.sub_self]; rfl
theorem app_get1 {α : Type} {A B : List α} {a b : α} : (A ++ a :: b :: B)[A.length + 1]? = some b := by
  rw [List.getElem?_append_right (by omega), show A.length + 1 - A.length = 1 by omega]; rfl
theorem app_take {α : Type} {A B : List α} {a b : α} : (A ++ a :: b :: B).take A.length = A := by simp
theorem app_drop2 {α : Type} {A B : List α} {a b : α} : (A ++ a :: b :: B).drop (A.length + 2) = B := by
  rw [List.drop_append]
  simp
abbrev stexchanged : Stmt := topS 42
theorem scexchanged : FnScope ["row", "index"] ["row", "index"] (defScope stexchanged) := ⟨rfl, rfl, rfl, by decide +kernel, rfl, by decide +kernel, by decide +kernel⟩
theorem okexchanged (D : Df K mg "exchanged" stexchanged) (T : NoB mg)  : Cl P w K mg base 1 "exchanged" ["row", "index"] sp_exch := by
  refine cl_of D scexchanged (fun _ _ _ _ _ _ us hl => match us, hl with | [_, _], _ => rfl) (fun vs H Q E h => ?_) (fun f cdv A outer sh H vs Q E hr h => ?_)
  · obtain ⟨_, _, _, _, _, _, rfl, _⟩ := h; rfl
  obtain ⟨p, A, B, a, b, i, rfl, hp, rfl, hl, k⟩ := h
  refine ⟨_, (pss_one (ps_ret (pe_op op_catA (pe_op op_catA (pe_slice sl_tupA (pv 0) po_none (po_some (pv 1))) (pe_tup (pa_cons (pe_ix ix1 (pv 0) (pe_op op_add (pv 1) pe_int) (fun _ _ => rfl)) (pa_cons (pe_ix ix1 (pv 0) (pv 1) (fun _ _ => rfl)) pa_nil)))) (pe_slice sl_tupA (pv 0) (po_some (pe_op op_add (pv 1) pe_int)) po_none)))), ?_⟩
  have hl2 : A.length + (B.length + 1 + 1) ≤ 1000 := by simpa using hl
  walk_at "wn"
  refine b_slU ⟨_, hp, fun u1 H1 s1 e1 => ?_⟩
  rw [cut_to (by omega), Int.toNat_natCast, app_take] at e1
  walk_at "wn"
  refine ⟨_, sq_t (s1 _ _ hp), _, atI_of (by omega) (by rw [show ((A.length : Int) + 1).toNat = A.length + 1 by omega]; exact app_get1), _, sq_t (s1 _ _ hp), _, atI_of (by omega) (by rw [Int.toNat_natCast]; exact app_get0), szl (by decide), fun t H2 n2 => ?_⟩
  have s2 := s1.trans n2.same
  walk_at "wn"
  refine b_catU ⟨_, _, n2.k e1, n2.at_, by rw [sizeLine_eq]; simp; omega, fun u3 H3 s3 e3 => ?_⟩
  walk_at "wn"
  have s23 := s2.trans s3
  refine b_slU ⟨_, s23 _ _ hp, fun u4 H4 s4 e4 => ?_⟩
  rw [cut_from (by omega), show ((A.length : Int) + 2).toNat = A.length + 2 by omega, app_drop2] at e4
  refine b_catU ⟨_, _, s4 _ _ e3, e4, by rw [sizeLine_eq]; simp; omega, fun u5 H5 s5 e5 => ?_⟩
  refine k u5 H5 ((s23.trans s4).trans s5) ?_
  rw [e5]
  simp
def sp_pidx : Sp := fun vs H Q _ => ∃ (m n : Int), vs = [.int m, .int n] ∧ 0 ≤ m ∧ m ≤ 100 ∧ 0 ≤ n ∧ n ≤ 100 ∧ ∀ p H', Same H H' → H p = none → H' p = some (.lst ((pth m.toNat n.toNat).map V.int)) → Q (.ref p) H'
abbrev stpath_indexes : Stmt := topS 43
theorem scpath_indexes : FnScope ["many", "more", "path", "k", "step"] ["many", "more"] (defScope stpath_indexes) := ⟨rfl, rfl, rfl, by decide +kernel, rfl, by decide +kernel, by decide +kernel⟩
theorem okpath_indexes (D : Df K mg "path_indexes" stpath_indexes) (T : NoB mg)  : Cl P w K mg base 1 "path_indexes" ["many", "more"] sp_pidx := by
  refine cl_of D scpath_indexes (fun _ _ _ _ _ _ us hl => match us, hl with | [_, _], _ => rfl) (fun vs H Q E h => ?_) (fun f cdv A outer sh H vs Q E hr h => ?_)
  · obtain ⟨_, _, rfl, _⟩ := h; rfl
  obtain ⟨m, n, rfl, m0, m1, n0, n1, k⟩ := h
  refine ⟨_, (pss_cons (ps_set (i := 2) scpath_indexes.nd rfl (Or.inl rfl) (pe_lst pa_nil))
    (pss_cons (ps_for PassesOwn.never rfl (pi_range1 (by rfl) T.no_range (pa_cons (pv 1) pa_nil)) (pg_name (i := 3) scpath_indexes.nd rfl (Or.inl rfl)) (pss_one (ps_for PassesOwn.never rfl (pi_range1 (by rfl) T.no_range (pa_cons (pv 0) pa_nil)) (pg_name (i := 4) scpath_indexes.nd rfl (Or.inl rfl)) (pss_one (ps_expr (pe_bm PySem.F.plainAttrs_list PySem.F.slot_list_append PySem.F.type_list_append mt_append (pv 2) (pa_cons (pe_op op_sub (pe_op op_sub (pe_op op_add (pv 0) (pv 3)) pe_int) (pv 4)) pa_nil)))))))
    (pss_one (ps_ret (pv 2))))), ?_⟩
  obtain ⟨m, rfl⟩ : ∃ q : Nat, m = q := ⟨m.toNat, by omega⟩
  obtain ⟨n, rfl⟩ : ∃ q : Nat, n = q := ⟨n.toNat, by omega⟩
  rw [Int.toNat_natCast, Int.toNat_natCast] at k
  have fl : ∀ i : Nat, (((List.range i).flatMap fun (k : Nat) => (List.range m).map fun (s : Nat) => (((m : Int) + k) - 1) - (s : Int)) : List Int).length = i * m := by
    intro i
    induction i with
    | zero => simp
    | succ i ih => rw [List.range_succ, List.flatMap_append, List.length_append, ih, Nat.succ_mul]; simp
  walk_at "sn"
  refine ⟨szl (by decide), fun L H1 n1' => ?_⟩
  walk_at "sn"
  refine ⟨by omega, by omega, ?_⟩
  refine fr_by (fun i σ H' => Same H H' ∧ (∃ v3 v4, σ = [some (.int m), some (.int n), some (.ref L), v3, v4]) ∧ i ≤ n ∧ H' L = some (.lst (((List.range i).flatMap fun (k : Nat) => (List.range m).map fun (s : Nat) => (((m : Int) + k) - 1) - (s : Int)).map V.int))) ⟨n1'.same, ⟨_, _, rfl⟩, Nat.zero_le _, by simpa using n1'.at_⟩ ?_ ?_
  · rintro i _ H2 N hN hi ⟨s2, ⟨v3, v4, rfl⟩, hin, e2⟩
    have hi' : i < n := by omega
    walk_at "wn"
    refine ⟨by omega, by omega, ?_⟩
    refine fr_by (fun j σ H' => Same H H' ∧ (∃ v4, σ = [some (.int m), some (.int n), some (.ref L), some (.int (0 + i)), v4]) ∧ j ≤ m ∧ H' L = some (.lst ((((List.range i).flatMap fun (k : Nat) => (List.range m).map fun (s : Nat) => (((m : Int) + k) - 1) - (s : Int)) ++ (List.range j).map fun (s : Nat) => (((m : Int) + i) - 1) - (s : Int)).map V.int))) ⟨s2, ⟨_, rfl⟩, Nat.zero_le _, by simpa using e2⟩ ?_ ?_
    · rintro j _ H3 N3 hN3 hj ⟨s3, ⟨v4, rfl⟩, hjm, e3⟩
      have hj' : j < m := by omega
      walk_at "wn"
      refine ⟨tyl e3, _, e3, ?_, fun H4 n4 => hN3 _ _ ⟨n4.same s3 n1'.fr, ⟨_, rfl⟩, by omega, ?_⟩⟩
      · have := fl i
        have h3 : i * m ≤ 100 * 100 := Nat.mul_le_mul (by omega) (by omega)
        rw [List.length_map, List.length_append, this, List.length_map, List.length_range, sizeLine_eq]
        omega
      · rw [n4.at_, List.range_succ (n := j)]
        simp only [List.map_append, List.map_cons, List.map_nil, List.append_assoc, Int.zero_add]
    · rintro _ H3 ⟨s3, ⟨v4, rfl⟩, hjm, e3⟩
      refine hN _ _ ⟨s3, ⟨_, _, rfl⟩, by omega, ?_⟩
      rw [e3, Int.toNat_natCast, List.range_succ (n := i), List.flatMap_append]
      simp
  · rintro _ H2 ⟨s2, ⟨v3, v4, rfl⟩, hin, e2⟩
    rw [Int.toNat_natCast] at e2
    walk_at "wn"
    exact k L H2 s2 n1'.fr e2
/-- the words stand -/
def Wds (H : Hp) (ws : List Addr) (xs ys : List V) : Prop := ws.length = ys.length * xs.length + 1 ∧ ∀ (t : Nat) (a : Addr), ws[t]? = some a → H a = some (.tup (wd xs ys t))
theorem Wds.same {H H' : Hp} {ws : List Addr} {xs ys : List V} (h : Wds H ws xs ys) (s : Same H H') : Wds H' ws xs ys := ⟨h.1, fun t a e => s _ _ (h.2 t a e)⟩
theorem pth_at {m n t : Nat} (h : t < n * m) : (pth m n)[t]? = some (pix m t : Int) := by
  rw [pth_eq, List.getElem?_map, List.getElem?_range h]
  rfl
theorem pth_len (m n : Nat) : (pth m n).length = n * m := by rw [pth_eq, List.length_map, List.length_range]
def sp_words : Sp := fun vs H Q _ => ∃ (p q : Addr) (xs ys : List V), vs = [.ref p, .ref q] ∧ H p = some (.tup xs) ∧ H q = some (.tup ys) ∧ xs.length ≤ 24 ∧ ys.length ≤ 24 ∧ ∀ (L : Addr) (ws : List Addr) H', Same H H' → H L = none → H' L = some (.lst (ws.map V.ref)) → Wds H' ws xs ys → L ∉ ws → Q (.ref L) H'
abbrev stall_words : Stmt := topS 44
theorem scall_words : FnScope ["one", "other", "word", "words", "index"] ["one", "other"] (defScope stall_words) := ⟨rfl, rfl, rfl, by decide +kernel, rfl, by decide +kernel, by decide +kernel⟩
theorem okall_words (D : Df K mg "all_words" stall_words) (T : NoB mg) (Cexchanged : Cl P w K mg base 1 "exchanged" ["row", "index"] sp_exch) (Cpath_indexes : Cl P w K mg base 1 "path_indexes" ["many", "more"] sp_pidx) : Cl P w K mg base 2 "all_words" ["one", "other"] sp_words := by
  refine cl_of D scall_words (fun _ _ _ _ _ _ us hl => match us, hl with | [_, _], _ => rfl) (fun vs H Q E h => ?_) (fun f cdv A outer sh H vs Q E hr h => ?_)
  · obtain ⟨_, _, _, _, rfl, _⟩ := h; rfl
  obtain ⟨p, q, xs, ys, rfl, hp, hq, hx, hy, k⟩ := h
  refine ⟨_, (pss_cons (ps_set (i := 2) scall_words.nd rfl (Or.inl rfl) (pe_op op_catA (pv 0) (pv 1)))
    (pss_cons (ps_set (i := 3) scall_words.nd rfl (Or.inl rfl) (pe_lst (pa_cons (pv 2) pa_nil)))
    (pss_cons (ps_for PassesOwn.never rfl (pi_sq (pe_cl Cpath_indexes hr (by rfl) (pa_cons (pe_callB len1 (by rfl) T.no_len (by decide +kernel) (pa_cons (pv 0) pa_nil)) (pa_cons (pe_callB len1 (by rfl) T.no_len (by decide +kernel) (pa_cons (pv 1) pa_nil)) pa_nil)))) (pg_name (i := 4) scall_words.nd rfl (Or.inl rfl)) (pss_cons (ps_set (i := 2) scall_words.nd rfl (Or.inl rfl) (pe_cl Cexchanged hr (by rfl) (pa_cons (pv 2) (pa_cons (pv 4) pa_nil))))
    (pss_one (ps_expr (pe_bm PySem.F.plainAttrs_list PySem.F.slot_list_append PySem.F.type_list_append mt_append (pv 3) (pa_cons (pv 2) pa_nil))))))
    (pss_one (ps_ret (pv 3)))))), ?_⟩
  walk_at "sn"
  refine b_catU ⟨_, _, hp, hq, by rw [sizeLine_eq]; omega, fun u0 H1 s1 e1 => ?_⟩
  walk_at "sn"
  refine ⟨szl (by decide), fun L H2 n2 => ?_⟩
  have s2 := s1.trans n2.same
  walk_at "sn"
  refine ⟨_, sq_t (s2 _ _ hp), _, sq_t (s2 _ _ hq), _, _, rfl, by omega, by omega, by omega, by omega, fun pa H3 s3 fpa epa => ?_⟩
  rw [Int.toNat_natCast, Int.toNat_natCast] at epa
  have hL : H1 L = none := n2.fr
  have eL3 := s3 _ _ n2.at_
  have paL : pa ≠ L := fun e => by (have h := n2.at_; rw [← e, fpa] at h; cases h)
  walk_at "wn"
  refine fs_by (sq_l epa) (fun i σ H' => (Same H1 H' ∧ H' pa = some (.lst ((pth xs.length ys.length).map V.int))) ∧ ∃ (u : Addr) (v4 : Option V) (ws : List Addr), σ = [some (.ref p), some (.ref q), some (.ref u), some (.ref L), v4] ∧ H' L = some (.lst (ws.map V.ref)) ∧ ws.length = i + 1 ∧ L ∉ ws ∧ H' u = some (.tup (wd xs ys i)) ∧ ∀ (t : Nat) (a : Addr), ws[t]? = some a → H' a = some (.tup (wd xs ys t)))
    ⟨⟨n2.same.trans s3, epa⟩, u0, _, [u0], rfl, eL3, rfl, by simpa using fun e : L = u0 => by (rw [← e, hL] at e1; cases e1), by rw [wd_zero]; exact (n2.same.trans s3) _ _ e1, fun t a e => ?_⟩ (fun i σ' H' f o ho => by rw [epa] at ho; cases ho; exact f.1.2) ?_ ?_
  · cases t with
    | zero =>
      obtain rfl := Option.some.inj e
      rw [wd_zero]
      exact (n2.same.trans s3) _ _ e1
    | succ t => simp at e
  · rintro i x _ H4 N hN hxi ⟨⟨s4, ep4⟩, u, v4, ws, rfl, eL4, hwl, hLw, eu, hw⟩
    have hil : i < ys.length * xs.length := by
      have := (List.getElem?_eq_some_iff.mp hxi).1
      rw [List.length_map, pth_len] at this
      exact this
    rw [List.getElem?_map, pth_at hil] at hxi
    obtain rfl := Option.some.inj hxi
    obtain ⟨A, B, a, b, w1, w2, w3, _, _⟩ := wd_step hil
    have hlen := wd_len (xs := xs) (ys := ys) (t := i) (by omega)
    rw [w1] at eu hlen
    walk_at "wn"
    rw [a_seq]
    walk_at "wn"
    refine ⟨u, A, B, a, b, _, rfl, eu, by rw [w3], by omega, fun u2 H5 s5 e5 => ?_⟩
    rw [← w2] at e5
    have eL5 := s5 _ _ eL4
    have u2L : u2 ≠ L := fun e => by rw [e, eL5] at e5; cases e5
    walk_at "wn"
    have hbig : ys.length * xs.length ≤ 24 * 24 := Nat.mul_le_mul hy hx
    refine ⟨tyl eL5, _, eL5, by rw [List.length_map, sizeLine_eq]; omega, fun H6 p6 => hN _ _ ⟨⟨p6.same (s4.trans s5) hL, p6.k paL (s5 _ _ ep4)⟩, u2, _, ws ++ [u2], rfl, by rw [p6.at_, List.map_append]; rfl, by simp [hwl], ?_, p6.k u2L e5, fun t c e => ?_⟩⟩
    · intro h
      rcases List.mem_append.mp h with h | h
      · exact hLw h
      · exact u2L (List.mem_singleton.mp h).symm
    · by_cases ht : t < ws.length
      · rw [List.getElem?_append_left ht] at e
        have hc := hw t c e
        refine p6.k (fun e2 => hLw (e2 ▸ List.mem_of_getElem? e)) (s5 _ _ hc)
      · rw [List.getElem?_append_right (by omega)] at e
        have : t - ws.length = 0 := by
          have := (List.getElem?_eq_some_iff.mp e).1
          simp at this
          omega
        rw [this] at e
        obtain rfl := Option.some.inj e
        rw [show t = i + 1 by omega]
        exact p6.k u2L e5
  · rintro _ H4 ⟨⟨s4, ep4⟩, u, v4, ws, rfl, eL4, hwl, hLw, eu, hw⟩
    rw [List.length_map, pth_len] at hwl
    walk_at "wn"
    exact k L ws H4 (s1.trans s4) (s1.free hL) eL4 ⟨hwl, hw⟩ hLw
end

/-! ## R2 -/

section
variable {P : Program} {w : World} {K : PySem.W.Frag} {mg : Str → Option Value} {base : Heap}
def sp_swp : Sp := fun vs H Q _ => ∃ (p : Addr) (A B : List V) (a b : V) (i : Int), vs = [.ref p, .int i] ∧ sq H p = some (A ++ a :: b :: B) ∧ i = A.length ∧ (A ++ a :: b :: B).length ≤ 24 ∧ ∀ u H', Same H H' → H' u = some (.tup (A ++ b :: a :: B)) → Q (.ref u) H'
theorem numOk_nat {i lo hi : Int} (h1 : lo ≤ i) (h2 : i ≤ hi) : numOk (.int i) lo hi = true := by simp [numOk, h1, h2]
abbrev stswapped : Stmt := topS 45
theorem scswapped : FnScope ["row", "index"] ["row", "index"] (defScope stswapped) := ⟨rfl, rfl, rfl, by decide +kernel, rfl, by decide +kernel, by decide +kernel⟩
theorem okswapped (D : Df K mg "swapped" stswapped) (T : NoB mg) (Ccheck_number : ClX P w K mg base 4 "check_number" ["value", "low", "high"] (sp_number K)) (Ccheck_size : ClX P w K mg base 4 "check_size" ["row", "limit"] (sp_csize K)) (Cexchanged : Cl P w K mg base 1 "exchanged" ["row", "index"] sp_exch) {tkr : Tok} (G_MOST_ROW : mg "MOST_ROW" = some (.int 24 tkr)): ClX P w K mg base 5 "swapped" ["row", "index"] sp_swp := by
  refine clX_of D scswapped (fun _ _ _ _ _ _ us hl => match us, hl with | [_, _], _ => rfl) (fun vs H Q E h => ?_) (fun f cdv A outer sh H vs Q E hr tk h => ?_)
  · obtain ⟨_, _, _, _, _, _, rfl, _⟩ := h; rfl
  obtain ⟨p, A, B, a, b, i, rfl, hq, rfl, hl, k⟩ := h
  refine ⟨_, (pss_cons (ps_expr (pe_clX Ccheck_size tk hr (by rfl) (pa_cons (pv 0) (pa_cons (pe_glob (by rfl) G_MOST_ROW (show RelV (.int 24) _ from ⟨_, rfl⟩)) pa_nil))))
    (pss_cons (ps_expr (pe_clX Ccheck_number tk hr (by rfl) (pa_cons (pv 1) (pa_cons pe_int (pa_cons (pe_op op_sub (pe_callB len1 (by rfl) T.no_len (by decide +kernel) (pa_cons (pv 0) pa_nil)) pe_int) pa_nil)))))
    (PSs.nox (pss_one (ps_ret (pe_cl Cexchanged hr (by rfl) (pa_cons (pe_callTy tupA1 (by rfl) T.no_tuple (by decide +kernel) (pa_cons (pv 0) pa_nil)) (pa_cons (pv 1) pa_nil)))))))), ?_⟩
  have hl2 : A.length + (B.length + 1 + 1) ≤ 24 := by simpa using hl
  have hlen : (A ++ a :: b :: B).length = A.length + (B.length + 1 + 1) := by simp
  walk_at "sn"
  refine ⟨p, _, 24, rfl, hq, by decide, fun _ => ?_, fun c => by omega⟩
  walk_at "sn"
  refine ⟨_, hq, ?_⟩
  rw [hlen]
  have ok : numOk (.int (A.length : Int)) 0 (((A.length + (B.length + 1 + 1) : Nat) : Int) - 2) = true := numOk_nat (by omega) (by omega)
  refine ⟨.int A.length, 0, _, [], _, _, rfl, .lf (.int _), sm_small (by omega), by decide, log_sm (Nat.lt_of_le_of_lt (show (((A.length + (B.length + 1 + 1) : Nat) : Int) - 2).natAbs ≤ 24 by omega) (by decide)), fun _ => ?_, fun c => by (rw [ok] at c; cases c)⟩
  walk_at "wn"
  refine ⟨_, hq, fun u H1 s1 e1 => ?_⟩
  exact ⟨u, A, B, a, b, _, rfl, e1, rfl, by omega, fun u2 H2 s2 e2 => k u2 H2 (s1.trans s2) e2⟩
/-- the first wrong number -/
noncomputable def spFlt (v1 v2 : V) : Option Flt := if numOk v1 0 24 = false then some (.num v1 0 24) else if numOk v2 0 24 = false then some (.num v2 0 24) else none
def sp_spath (K : PySem.W.Frag) : Sp := fun vs H Q Er => ∃ (v1 v2 : V) (d1 d2 : PyData) (n1 n2 : Nat), vs = [v1, v2] ∧ Dw [] H v1 d1 n1 ∧ Dw [] H v2 d2 n2 ∧ Sm v1 ∧ Sm v2 ∧
  Ans K (spFlt v1 v2) H Er (∀ m n : Nat, v1 = .int m → v2 = .int n → m ≤ 24 → n ≤ 24 → ∀ p H', Same H H' → H p = none → H' p = some (.lst ((pth m n).map V.int)) → Q (.ref p) H')
abbrev stswap_path : Stmt := topS 46
theorem scswap_path : FnScope ["first", "second"] ["first", "second"] (defScope stswap_path) := ⟨rfl, rfl, rfl, by decide +kernel, rfl, by decide +kernel, by decide +kernel⟩
theorem okswap_path (D : Df K mg "swap_path" stswap_path) (T : NoB mg) (Ccheck_number : ClX P w K mg base 4 "check_number" ["value", "low", "high"] (sp_number K)) (Cpath_indexes : Cl P w K mg base 1 "path_indexes" ["many", "more"] sp_pidx) {tkr : Tok} (G_MOST_ROW : mg "MOST_ROW" = some (.int 24 tkr)): ClX P w K mg base 5 "swap_path" ["first", "second"] (sp_spath K) := by
  refine clX_of D scswap_path (fun _ _ _ _ _ _ us hl => match us, hl with | [_, _], _ => rfl) (fun vs H Q E h => ?_) (fun f cdv A outer sh H vs Q E hr tk h => ?_)
  · obtain ⟨_, _, _, _, _, _, rfl, _⟩ := h; rfl
  obtain ⟨v1, v2, d1, d2, n1, n2, rfl, h1, h2, m1, m2, k⟩ := h
  refine ⟨_, (pss_cons (ps_expr (pe_clX Ccheck_number tk hr (by rfl) (pa_cons (pv 0) (pa_cons pe_int (pa_cons (pe_glob (by rfl) G_MOST_ROW (show RelV (.int 24) _ from ⟨_, rfl⟩)) pa_nil)))))
    (pss_cons (ps_expr (pe_clX Ccheck_number tk hr (by rfl) (pa_cons (pv 1) (pa_cons pe_int (pa_cons (pe_glob (by rfl) G_MOST_ROW (show RelV (.int 24) _ from ⟨_, rfl⟩)) pa_nil)))))
    (PSs.nox (pss_one (ps_ret (pe_cl Cpath_indexes hr (by rfl) (pa_cons (pv 0) (pa_cons (pv 1) pa_nil)))))))), ?_⟩
  unfold spFlt at k
  walk_at "sn"
  refine ⟨v1, 0, 24, [], d1, n1, rfl, h1, m1, by decide, by decide, fun c1 => ?_, fun c1 => by (rw [if_pos c1] at k; exact k)⟩
  rw [if_neg (by rw [c1]; decide)] at k
  walk_at "sn"
  refine ⟨v2, 0, 24, [], d2, n2, rfl, h2, m2, by decide, by decide, fun c2 => ?_, fun c2 => by (rw [if_pos c2] at k; exact k)⟩
  rw [if_neg (by rw [c2]; decide)] at k
  obtain ⟨i, rfl, i0, i1⟩ := numOk_wh c1
  obtain ⟨j, rfl, j0, j1⟩ := numOk_wh c2
  walk_at "wn"
  refine ⟨i, j, rfl, i0, by omega, j0, by omega, fun p H' s f e => ?_⟩
  exact k i.toNat j.toNat (by rw [Int.toNat_of_nonneg i0]) (by rw [Int.toNat_of_nonneg j0]) (by omega) (by omega) p H' s f e
def sp_pwords (K : PySem.W.Frag) : Sp := fun vs H Q Er => ∃ (p q : Addr) (xs ys : List V), vs = [.ref p, .ref q] ∧ sq H p = some xs ∧ sq H q = some ys ∧ ((12 < xs.length ∨ 12 < ys.length) → Raises K (.many "row" 12) H Er) ∧
  (xs.length ≤ 12 → ys.length ≤ 12 → ∀ (L : Addr) (ws : List Addr) H', Same H H' → H L = none → H' L = some (.lst (ws.map V.ref)) → Wds H' ws xs ys → L ∉ ws → Q (.ref L) H')
abbrev stpath_words : Stmt := topS 47
theorem scpath_words : FnScope ["first", "second"] ["first", "second"] (defScope stpath_words) := ⟨rfl, rfl, rfl, by decide +kernel, rfl, by decide +kernel, by decide +kernel⟩
theorem okpath_words (D : Df K mg "path_words" stpath_words) (T : NoB mg) (Call_words : Cl P w K mg base 2 "all_words" ["one", "other"] sp_words) (Ccheck_size : ClX P w K mg base 4 "check_size" ["row", "limit"] (sp_csize K)) {tkw : Tok} (G_MOST_WORD_PART : mg "MOST_WORD_PART" = some (.int 12 tkw)): ClX P w K mg base 5 "path_words" ["first", "second"] (sp_pwords K) := by
  refine clX_of D scpath_words (fun _ _ _ _ _ _ us hl => match us, hl with | [_, _], _ => rfl) (fun vs H Q E h => ?_) (fun f cdv A outer sh H vs Q E hr tk h => ?_)
  · obtain ⟨_, _, _, _, rfl, _⟩ := h; rfl
  obtain ⟨p, q, xs, ys, rfl, hp, hq, kb, kg⟩ := h
  refine ⟨_, (pss_cons (ps_expr (pe_clX Ccheck_size tk hr (by rfl) (pa_cons (pv 0) (pa_cons (pe_glob (by rfl) G_MOST_WORD_PART (show RelV (.int 12) _ from ⟨_, rfl⟩)) pa_nil))))
    (pss_cons (ps_expr (pe_clX Ccheck_size tk hr (by rfl) (pa_cons (pv 1) (pa_cons (pe_glob (by rfl) G_MOST_WORD_PART (show RelV (.int 12) _ from ⟨_, rfl⟩)) pa_nil))))
    (PSs.nox (pss_one (ps_ret (pe_cl Call_words hr (by rfl) (pa_cons (pe_callTy tupA1 (by rfl) T.no_tuple (by decide +kernel) (pa_cons (pv 0) pa_nil)) (pa_cons (pe_callTy tupA1 (by rfl) T.no_tuple (by decide +kernel) (pa_cons (pv 1) pa_nil)) pa_nil)))))))), ?_⟩
  walk_at "sn"
  refine ⟨p, xs, 12, rfl, hp, by decide, fun cx => ?_, fun cx => kb (.inl cx)⟩
  walk_at "sn"
  refine ⟨q, ys, 12, rfl, hq, by decide, fun cy => ?_, fun cy => kb (.inr cy)⟩
  walk_at "wn"
  refine ⟨_, hp, fun u1 H1 s1 e1 => ⟨_, same_sq s1 hq, fun u2 H2 s2 e2 => ?_⟩⟩
  have s12 := s1.trans s2
  exact ⟨u1, u2, xs, ys, rfl, s2 _ _ e1, e2, by omega, by omega, fun L ws H3 s3 f3 e3 w3 l3 => kg cx cy L ws H3 (s12.trans s3) (s12.free f3) e3 w3 l3⟩
end
/-! what agrees -/
/-- nested at most so deep -/
def Dk : Nat → PyData → Prop
  | 0, _ => False
  | n + 1, .list ds => ∀ d ∈ ds, Dk n d
  | n + 1, .tuple ds => ∀ d ∈ ds, Dk n d
  | _ + 1, _ => True
theorem Dk.leaf {v : V} {d : PyData} {m : Nat} (h : Lf v d m) {n : Nat} (hn : 0 < n) : Dk n d := by
  obtain ⟨n, rfl⟩ : ∃ k, n = k + 1 := ⟨n - 1, by omega⟩
  cases h <;> trivial
section
variable {P : Program} {w : World} {K : PySem.W.Frag} {mg : Str → Option Value} {base : Heap}
def sp_agree (N : Nat) : Sp := fun vs H Q _ => ∃ (x y : V) (d : PyData) (n m : Nat), vs = [x, y] ∧ Dk N d ∧ Dw [] H x d n ∧ Dw [] H y d m ∧ n ≤ 1000000 ∧ ∀ H', Same H H' → Q (.bl true) H'
abbrev st_law_agree : Stmt := topS 57
theorem sc_law_agree : FnScope ["actual", "due", "k"] ["actual", "due"] (defScope st_law_agree) := ⟨rfl, rfl, rfl, by decide +kernel, rfl, by decide +kernel, by decide +kernel⟩
theorem ok_law_agree (D : Df K mg "_law_agree" st_law_agree) (T : NoB mg) (C_law_is_whole : Cl P w K mg base 1 "_law_is_whole" ["value"] sp_isw) {n : Nat} (C_law_agree : Cl P w K mg base (n+1) "_law_agree" ["actual", "due"] (sp_agree n)): Cl P w K mg base (n+2) "_law_agree" ["actual", "due"] (sp_agree (n+1)) := by
  refine cl_of D sc_law_agree (fun _ _ _ _ _ _ us hl => match us, hl with | [_, _], _ => rfl) (fun vs H Q E h => ?_) (fun f cdv A outer sh H vs Q E hr h => ?_)
  · obtain ⟨_, _, _, _, _, rfl, _⟩ := h; rfl
  obtain ⟨x, y, d, n', m, rfl, hk, hx, hy, hn, k⟩ := h
  refine ⟨_, (pss_cons (ps_if (PW.pt (pw_or (PW.pt (pw_and (pt_val (pe_callB isi1 (by rfl) T.no_isinstance (by decide +kernel) (pa_cons (pv 1) (pa_cons (pe_bltn (by rfl) T.no_tuple (by decide +kernel) (show RelV (.ty "tuple") _ from rfl)) pa_nil)))) (pw_and1 (pt_val (pe_callB isi1 (by rfl) T.no_isinstance (by decide +kernel) (pa_cons (pv 0) (pa_cons (pe_bltn (by rfl) T.no_tuple (by decide +kernel) (show RelV (.ty "tuple") _ from rfl)) pa_nil))))))) (pw_or1 (PW.pt (pw_and (pt_val (pe_callB isi1 (by rfl) T.no_isinstance (by decide +kernel) (pa_cons (pv 1) (pa_cons (pe_bltn (by rfl) T.no_list (by decide +kernel) (show RelV (.ty "list") _ from rfl)) pa_nil)))) (pw_and1 (pt_val (pe_callB isi1 (by rfl) T.no_isinstance (by decide +kernel) (pa_cons (pv 0) (pa_cons (pe_bltn (by rfl) T.no_list (by decide +kernel) (show RelV (.ty "list") _ from rfl)) pa_nil)))))))))) (pss_one (ps_ret (pe_and (pe_cmpR op_eq (pe_callB len1 (by rfl) T.no_len (by decide +kernel) (pa_cons (pv 0) pa_nil)) (pe_callB len1 (by rfl) T.no_len (by decide +kernel) (pa_cons (pv 1) pa_nil)) (nomark _)) (pe_one (pe_callB (cr_all rfl) (by rfl) T.no_all (by decide +kernel) (pa_cons (pe_lc (own := [("k", 2)]) (g := gName 2) (tt := tYes) rfl sc_law_agree.nd (pi_range1 (by rfl) T.no_range (pa_cons (pe_callB len1 (by rfl) T.no_len (by decide +kernel) (pa_cons (pv 1) pa_nil)) pa_nil)) (blkOk_by (own := [("k", 2)]) (N := ["actual", "due", "k"]) (sc := defScope st_law_agree) (by decide +kernel)) (fun _ _ _ _ _ => (pg_name (i := 2) sc_law_agree.nd rfl (Or.inl rfl))) (fun _ _ _ _ _ => pts_nil) (fun _ _ _ _ _ => (pe_cl C_law_agree hr (by rfl) (pa_cons (pe_ix ix1 (pv 0) (pv 2) (fun _ _ => rfl)) (pa_cons (pe_ix ix1 (pv 1) (pv 2) (fun _ _ => rfl)) pa_nil)) (Nat.le_refl _)))) pa_nil)))))) pss_nil)
    (pss_cons (ps_if (PW.pt (pw_or (pt_cmpR op_isN (pv 1) pe_non (nomark _)) (pw_or (pt_cmpR op_isTF (pv 1) pe_bl (nomark _)) (pw_or1 (pt_cmpR op_isTF (pv 1) pe_bl (nomark _)))))) (pss_one (ps_ret (pe_or (pe_and (pe_cmpR op_isN (pv 0) pe_non (nomark _)) (pe_one (pe_cmpR op_isN (pv 1) pe_non (nomark _)))) (pe_or (pe_and (pe_cmpR op_isTF (pv 0) pe_bl (nomark _)) (pe_one (pe_cmpR op_isTF (pv 1) pe_bl (nomark _)))) (pe_one (pe_and (pe_cmpR op_isTF (pv 0) pe_bl (nomark _)) (pe_one (pe_cmpR op_isTF (pv 1) pe_bl (nomark _))))))))) pss_nil)
    (pss_cons (ps_if (pt_val (pe_callB isi1 (by rfl) T.no_isinstance (by decide +kernel) (pa_cons (pv 1) (pa_cons (pe_bltn (by rfl) T.no_int (by decide +kernel) (show RelV (.ty "int") _ from rfl)) pa_nil)))) (pss_one (ps_ret (pe_and (pe_cl C_law_is_whole hr (by rfl) (pa_cons (pv 0) pa_nil) (Nat.le_add_left 1 n)) (pe_one (pe_cmpR op_eq (pv 0) (pv 1) (nomark _)))))) pss_nil)
    (pss_one (ps_ret (pe_and (pe_callB isi1 (by rfl) T.no_isinstance (by decide +kernel) (pa_cons (pv 1) (pa_cons (pe_bltn (by rfl) T.no_str (by decide +kernel) (show RelV (.ty "str") _ from rfl)) pa_nil))) (pe_and (pe_callB isi1 (by rfl) T.no_isinstance (by decide +kernel) (pa_cons (pv 0) (pa_cons (pe_bltn (by rfl) T.no_str (by decide +kernel) (show RelV (.ty "str") _ from rfl)) pa_nil))) (pe_one (pe_cmpR op_eq (pv 0) (pv 1) (nomark _)))))))))), ?_⟩
  have seq : ∀ (a b : Addr) (as bs : List V) (ds : List PyData) (n1 m1 : Nat) (R : VK), (∀ d ∈ ds, Dk n d) → sq H a = some as → sq H b = some bs → DwAll [] H as ds n1 → DwAll [] H bs ds m1 → n1 ≤ 1000000 → (∀ C H', Same H H' → H' C = some (.lst ((List.replicate as.length true).map V.bl)) → R (.ref C) H') →
      CRg 0 bs.length (gName 2) tYes (tCall (sp_agree n) [] E0 (tCons (tOp rIx1 (tVar 0) (tVar 2)) (tCons (tOp rIx1 (tVar 1) (tVar 2)) tNil))) [2] [some (V.ref a), some (V.ref b), none] H R := by
    intro a b as bs ds n1 m1 R hdk qa qb da db hn1 hR
    have hab : as.length = bs.length := by rw [da.len.1, db.len.1]
    refine cr_by (fun C i acc H' => Same H H' ∧ acc = (List.replicate i true).map V.bl) (fun C H0 n0 => ⟨n0.same, rfl⟩) ?_ ?_
    · rintro C i acc H1 N hC hi hacc ⟨s1, rfl⟩ hN
      have hil : i < as.length := by omega
      have ga := List.getElem?_eq_getElem hil
      have gb := List.getElem?_eq_getElem hi
      obtain ⟨e, c1, e1, e2, e3⟩ := da.get ga
      obtain ⟨e', c2, f1, f2, f3⟩ := db.get gb
      rw [e1] at f1
      obtain rfl := Option.some.inj f1
      have hz0 : (0 : Int) + (i : Int) = i := by omega
      refine ⟨rfl, ?_⟩
      walk_at "wn"
      refine ⟨_, same_sq s1 qa, _, atI_of (by omega) (by rw [hz0, Int.toNat_natCast]; exact ga), _, same_sq s1 qb, _, atI_of (by omega) (by rw [hz0, Int.toNat_natCast]; exact gb), ?_⟩
      refine ⟨_, _, e, c1, c2, rfl, hdk e (List.mem_of_getElem? e1), e2.same s1, f2.same s1, by omega, fun H2 s2 => ?_⟩
      have hl := da.len.2
      refine cst (s2 _ _ hacc) (by rw [List.length_map, List.length_replicate, sizeLine_eq]; omega) fun H3 p3 => hN _ _ p3.at_ ⟨p3.same (s1.trans s2) hC, ?_⟩
      rw [List.replicate_succ', List.map_append]
      rfl
    · rintro C acc H1 hC hacc ⟨s1, rfl⟩
      rw [hab] at hR
      exact hR C H1 s1 hacc
  have allT : ∀ m : Nat, (List.replicate m true).all id = true := fun m => by simp
  cases hy with
  | lf l =>
    cases l with
    | non => cases hx with | lf l' => cases l'; walk_at "wps"; exact k H (Same.refl _)
    | bl c => cases hx with | lf l' => cases l'; cases c <;> walk_at "wps" <;> exact k H (Same.refl _)
    | int c =>
      cases hx with
      | lf l' =>
        cases l'
        walk_at "wps"
        refine ⟨.int c, .int c, 1, [], rfl, .lf (.int c), ?_⟩
        walk_at "wps"
        exact k H (Same.refl _)
    | str c => cases hx with | lf l' => cases l'; walk_at "wps"; exact k H (Same.refl _)
  | @lst bp bs ds k'' bne eb db =>
    cases hx with
    | lf l' => cases l'
    | @lst ap as _ n'' ane ea da =>
      have tb := ty_l eb
      have ta := ty_l ea
      have qb := sq_l eb
      have qa := sq_l ea
      have hl := da.len.1.trans db.len.1.symm
      have hl2 := da.len.2
      walk_at "wps"
      refine ⟨by omega, by omega, ?_⟩
      rw [Int.toNat_natCast]
      refine seq ap bp as bs ds _ _ _ hk qa qb da db (by omega) fun C H' s e => ?_
      exact ⟨C, _, rfl, SqL.of e, by rw [allT]; exact k H' s⟩
  | @tup bp bs ds k'' bne eb db =>
    cases hx with
    | lf l' => cases l'
    | @tup ap as _ n'' ane ea da =>
      have tb := ty_t eb
      have ta := ty_t ea
      have qb := sq_t eb
      have qa := sq_t ea
      have hl := da.len.1.trans db.len.1.symm
      have hl2 := da.len.2
      walk_at "wps"
      refine ⟨by omega, by omega, ?_⟩
      rw [Int.toNat_natCast]
      refine seq ap bp as bs ds _ _ _ hk qa qb da db (by omega) fun C H' s e => ?_
      exact ⟨C, _, rfl, SqL.of e, by rw [allT]; exact k H' s⟩
theorem agree_all (D : Df K mg "_law_agree" st_law_agree) (T : NoB mg) : ∀ (n : Nat) (C_law_is_whole : Cl P w K mg base 1 "_law_is_whole" ["value"] sp_isw), Cl P w K mg base n "_law_agree" ["actual", "due"] (sp_agree (n - 1))
  | 0, _ => cl_false D (fun _ _ _ _ _ _ us hl => match us, hl with | [_, _], _ => rfl) 0 fun vs H Q E h => by
    obtain ⟨x, y, d, n, m, _, h0, _⟩ := h
    exact h0
  | 1, _ => cl_false D (fun _ _ _ _ _ _ us hl => match us, hl with | [_, _], _ => rfl) 1 fun vs H Q E h => by
    obtain ⟨x, y, d, n, m, _, h0, _⟩ := h
    exact h0
  | n + 2, C => ok_law_agree D T C (agree_all D T (n + 1) C)

def sp_agreeH (N : Nat) : HSp := fun _ _ _ vs H Q E => sp_agree N vs H Q E
theorem ok_law_agreeH (D : Df K mg "_law_agree" st_law_agree) (T : NoB mg) (C_law_is_wholeH : ClH P w K mg base 1 "_law_is_whole" ["value"] sp_iswH) {n : Nat} (C_law_agreeH : ClH P w K mg base (n+1) "_law_agree" ["actual", "due"] (sp_agreeH n)): ClH P w K mg base (n+2) "_law_agree" ["actual", "due"] (sp_agreeH (n+1)) := by
  refine clH_of D sc_law_agree (fun _ _ _ _ _ _ us hl => match us, hl with | [_, _], _ => rfl) (fun _ _ _ vs H Q E h => ?_) (fun f cdv A outer sh H vs Q E p cls dd hot hz hc hr h => ?_)
  · obtain ⟨_, _, _, _, _, rfl, _⟩ := h; rfl
  have hf : ∃ vs, p.2.data = .fields vs := hot.2.imp fun _ h => h.1
  obtain ⟨x, y, d, n', m, rfl, hk, hx, hy, hn, k⟩ := h
  refine ⟨_, (pss_cons (ps_if (PW.pt (pw_or (PW.pt (pw_and (pt_val (pe_callB isi1 (by rfl) T.no_isinstance (by decide +kernel) (pa_cons (pv 1) (pa_cons (pe_bltn (by rfl) T.no_tuple (by decide +kernel) (show RelV (.ty "tuple") _ from rfl)) pa_nil)))) (pw_and1 (pt_val (pe_callB isi1 (by rfl) T.no_isinstance (by decide +kernel) (pa_cons (pv 0) (pa_cons (pe_bltn (by rfl) T.no_tuple (by decide +kernel) (show RelV (.ty "tuple") _ from rfl)) pa_nil))))))) (pw_or1 (PW.pt (pw_and (pt_val (pe_callB isi1 (by rfl) T.no_isinstance (by decide +kernel) (pa_cons (pv 1) (pa_cons (pe_bltn (by rfl) T.no_list (by decide +kernel) (show RelV (.ty "list") _ from rfl)) pa_nil)))) (pw_and1 (pt_val (pe_callB isi1 (by rfl) T.no_isinstance (by decide +kernel) (pa_cons (pv 0) (pa_cons (pe_bltn (by rfl) T.no_list (by decide +kernel) (show RelV (.ty "list") _ from rfl)) pa_nil)))))))))) (pss_one (ps_ret (pe_and (pe_cmpR op_eq (pe_callB len1 (by rfl) T.no_len (by decide +kernel) (pa_cons (pv 0) pa_nil)) (pe_callB len1 (by rfl) T.no_len (by decide +kernel) (pa_cons (pv 1) pa_nil)) (nomark _)) (pe_one (pe_callB (cr_allH hc) (by rfl) T.no_all (by decide +kernel) (pa_cons (pe_lcI hot List.mem_cons_self (own := [("k", 2)]) (g := gName 2) (tt := tYes) sc_law_agree.nd (L2H.pi_range1H (by rfl) T.no_range (pa_cons (pe_callB len1 (by rfl) T.no_len (by decide +kernel) (pa_cons (pv 1) pa_nil)) pa_nil)) (blkOk_by (own := [("k", 2)]) (N := ["actual", "due", "k"]) (sc := defScope st_law_agree) (by decide +kernel)) (fun _ _ _ _ _ => (pg_name (i := 2) sc_law_agree.nd rfl (Or.inl rfl))) (fun _ _ _ _ _ => pts_nil) (fun _ _ _ _ _ => (pe_clH C_law_agreeH hot List.mem_cons_self hz hr (by rfl) (pa_cons (pe_ix ix1 (pv 0) (pv 2) (fun _ _ => rfl)) (pa_cons (pe_ix ix1 (pv 1) (pv 2) (fun _ _ => rfl)) pa_nil)) (Nat.le_refl _)))) pa_nil)))))) pss_nil)
    (pss_cons (ps_if (PW.pt (pw_or (pt_cmpR op_isN (pv 1) pe_non (nomark _)) (pw_or (pt_cmpR op_isTF (pv 1) pe_bl (nomark _)) (pw_or1 (pt_cmpR op_isTF (pv 1) pe_bl (nomark _)))))) (pss_one (ps_ret (pe_or (pe_and (pe_cmpR op_isN (pv 0) pe_non (nomark _)) (pe_one (pe_cmpR op_isN (pv 1) pe_non (nomark _)))) (pe_or (pe_and (pe_cmpR op_isTF (pv 0) pe_bl (nomark _)) (pe_one (pe_cmpR op_isTF (pv 1) pe_bl (nomark _)))) (pe_one (pe_and (pe_cmpR op_isTF (pv 0) pe_bl (nomark _)) (pe_one (pe_cmpR op_isTF (pv 1) pe_bl (nomark _))))))))) pss_nil)
    (pss_cons (ps_if (pt_val (pe_callB isi1 (by rfl) T.no_isinstance (by decide +kernel) (pa_cons (pv 1) (pa_cons (pe_bltn (by rfl) T.no_int (by decide +kernel) (show RelV (.ty "int") _ from rfl)) pa_nil)))) (pss_one (ps_ret (pe_and (pe_clH C_law_is_wholeH hot List.mem_cons_self hz hr (by rfl) (pa_cons (pv 0) pa_nil) (Nat.le_add_left 1 n)) (pe_one (pe_cmpR op_eq (pv 0) (pv 1) (nomark _)))))) pss_nil)
    (pss_one (ps_ret (pe_and (pe_callB isi1 (by rfl) T.no_isinstance (by decide +kernel) (pa_cons (pv 1) (pa_cons (pe_bltn (by rfl) T.no_str (by decide +kernel) (show RelV (.ty "str") _ from rfl)) pa_nil))) (pe_and (pe_callB isi1 (by rfl) T.no_isinstance (by decide +kernel) (pa_cons (pv 0) (pa_cons (pe_bltn (by rfl) T.no_str (by decide +kernel) (show RelV (.ty "str") _ from rfl)) pa_nil))) (pe_one (pe_cmpR op_eq (pv 0) (pv 1) (nomark _)))))))))), ?_⟩
  have seq : ∀ (a b : Addr) (as bs : List V) (ds : List PyData) (n1 m1 : Nat) (R : VK), (∀ d ∈ ds, Dk n d) → sq H a = some as → sq H b = some bs → DwAll [] H as ds n1 → DwAll [] H bs ds m1 → n1 ≤ 1000000 → (∀ C H', Same H H' → H' C = some (.lst ((List.replicate as.length true).map V.bl)) → R (.ref C) H') →
      CI bs.length (gName 2) tYes (fun σ H Q => (tCons (tOp rIx1 (tVar 0) (tVar 2)) (tCons (tOp rIx1 (tVar 1) (tVar 2)) tNil)) σ H fun vs H1 => sp_agreeH n p.1 cls dd vs H1 Q E0) [2] [some (V.ref a), some (V.ref b), none] H R := by
    intro a b as bs ds n1 m1 R hdk qa qb da db hn1 hR
    have hab : as.length = bs.length := by rw [da.len.1, db.len.1]
    refine ci_by (fun C i acc H' => Same H H' ∧ acc = (List.replicate i true).map V.bl) (fun C H0 n0 => ⟨n0.same, rfl⟩) ?_ ?_
    · rintro C i acc H1 N hC hi hacc ⟨s1, rfl⟩ hN
      have hil : i < as.length := by omega
      have ga := List.getElem?_eq_getElem hil
      have gb := List.getElem?_eq_getElem hi
      obtain ⟨e, c1, e1, e2, e3⟩ := da.get ga
      obtain ⟨e', c2, f1, f2, f3⟩ := db.get gb
      rw [e1] at f1
      obtain rfl := Option.some.inj f1
      have hz0 : (0 : Int) + (i : Int) = i := by omega
      refine ⟨rfl, ?_⟩
      walk_at "wn"
      refine ⟨_, same_sq s1 qa, _, atI_of (by omega) (by rw [hz0, Int.toNat_natCast]; exact ga), _, same_sq s1 qb, _, atI_of (by omega) (by rw [hz0, Int.toNat_natCast]; exact gb), ?_⟩
      refine ⟨_, _, e, c1, c2, rfl, hdk e (List.mem_of_getElem? e1), e2.same s1, f2.same s1, by omega, fun H2 s2 => ?_⟩
      have hl := da.len.2
      refine cst (s2 _ _ hacc) (by rw [List.length_map, List.length_replicate, sizeLine_eq]; omega) fun H3 p3 => hN _ _ p3.at_ ⟨p3.same (s1.trans s2) hC, ?_⟩
      rw [List.replicate_succ', List.map_append]
      rfl
    · rintro C acc H1 hC hacc ⟨s1, rfl⟩
      rw [hab] at hR
      exact hR C H1 s1 hacc
  have allT : ∀ m : Nat, (List.replicate m true).all id = true := fun m => by simp
  cases hy with
  | lf l =>
    cases l with
    | non => cases hx with | lf l' => cases l'; walk_at "wps"; exact k H (Same.refl _)
    | bl c => cases hx with | lf l' => cases l'; cases c <;> walk_at "wps" <;> exact k H (Same.refl _)
    | int c =>
      cases hx with
      | lf l' =>
        cases l'
        walk_at "wps"
        refine ⟨.int c, .int c, 1, [], rfl, .lf (.int c), ?_⟩
        walk_at "wps"
        exact k H (Same.refl _)
    | str c => cases hx with | lf l' => cases l'; walk_at "wps"; exact k H (Same.refl _)
  | @lst bp bs ds k'' bne eb db =>
    cases hx with
    | lf l' => cases l'
    | @lst ap as _ n'' ane ea da =>
      have tb := ty_l eb
      have ta := ty_l ea
      have qb := sq_l eb
      have qa := sq_l ea
      have hl := da.len.1.trans db.len.1.symm
      have hl2 := da.len.2
      walk_at "wps"
      refine ⟨by omega, by omega, ?_⟩
      rw [Int.toNat_natCast]
      refine seq ap bp as bs ds _ _ _ hk qa qb da db (by omega) fun C H' s e => ?_
      exact ⟨C, _, rfl, SqL.of e, by rw [allT]; exact k H' s⟩
  | @tup bp bs ds k'' bne eb db =>
    cases hx with
    | lf l' => cases l'
    | @tup ap as _ n'' ane ea da =>
      have tb := ty_t eb
      have ta := ty_t ea
      have qb := sq_t eb
      have qa := sq_t ea
      have hl := da.len.1.trans db.len.1.symm
      have hl2 := da.len.2
      walk_at "wps"
      refine ⟨by omega, by omega, ?_⟩
      rw [Int.toNat_natCast]
      refine seq ap bp as bs ds _ _ _ hk qa qb da db (by omega) fun C H' s e => ?_
      exact ⟨C, _, rfl, SqL.of e, by rw [allT]; exact k H' s⟩
theorem agree_allH (D : Df K mg "_law_agree" st_law_agree) (T : NoB mg) : ∀ (n : Nat) (C_law_is_wholeH : ClH P w K mg base 1 "_law_is_whole" ["value"] sp_iswH), ClH P w K mg base n "_law_agree" ["actual", "due"] (sp_agreeH (n - 1))
  | 0, _ => clH_false D (fun _ _ _ _ _ _ us hl => match us, hl with | [_, _], _ => rfl) fun a c d vs H Q E h => by
    obtain ⟨x, y, d, n, m, _, h0, _⟩ := h
    exact h0
  | 1, _ => clH_false D (fun _ _ _ _ _ _ us hl => match us, hl with | [_, _], _ => rfl) fun a c d vs H Q E h => by
    obtain ⟨x, y, d, n, m, _, h0, _⟩ := h
    exact h0
  | n + 2, C => ok_law_agreeH D T C (agree_allH D T (n + 1) C)

end

/-! ## R3 -/

def kindNames : List Str := ["BadEdit", "BadNumber", "BadText", "FullLot", "GameOver", "NoSuchLength", "NotABase", "NotAChain", "NotAColumn", "NotACount", "NotAFailing", "NotAMove", "NotAPaper", "NotAPoint", "NotAWord", "NotAllowed", "NotAnOrder", "NotFull", "NotInside", "NotMade", "NotNeighbours", "NotShorter", "NotTight", "NothingKept", "NothingToRedo", "NothingToUndo", "OrderMatters", "RepeatedPoint", "SameLength", "TooMany", "UnknownName", "UnlikeSizes"]
def errL : List Str := ["BadNumber", "TooMany"]
section
variable {P : Program} {w : World} {K : PySem.W.Frag} {mg : Str → Option Value} {base : Heap}
def sp_kindsH (K : PySem.W.Frag) (mg : Str → Option Value) : HSp := fun a c d vs H Q _ => ∃ En : Str, ErN K mg En ∧ ((kindNames.map fun z => if z = En then (1 : Int) else 0).sum = 1) ∧ vs = [.ref a] ∧ c = .ref (He.ga K En) ∧ XdAt d H ∧ ∀ H', Same H H' → Q (.int 1) H'
abbrev st_law_kinds : Stmt := topS 60
theorem sc_law_kinds : FnScope ["error", "kinds", "flag"] ["error"] (defScope st_law_kinds) := ⟨rfl, rfl, rfl, by decide +kernel, rfl, by decide +kernel, by decide +kernel⟩
theorem ok_law_kindsH (D : Df K mg "_law_kinds" st_law_kinds) (T : NoB mg)  : ClH P w K mg base 1 "_law_kinds" ["error"] (sp_kindsH K mg) := by
  refine clH_of D sc_law_kinds (fun _ _ _ _ _ _ us hl => match us, hl with | [_], _ => rfl) (fun _ _ _ vs H Q E h => ?_) (fun f cdv A outer sh H vs Q E p cls dd hot hz hc hr h => ?_)
  · obtain ⟨_, _, _, rfl, _⟩ := h; rfl
  have hf : ∃ vs, p.2.data = .fields vs := hot.2.imp fun _ h => h.1
  obtain ⟨En, EN, hEn, rfl, rfl, hx, k⟩ := h
  refine ⟨_, (pss_cons (ps_set (i := 1) sc_law_kinds.nd rfl (Or.inl rfl) (pe_lst (pa_cons (pe_isE EN List.mem_cons_self hz hf T.no_isinstance (by rfl) (pv 0) (by rfl)) (pa_cons (pe_isE EN List.mem_cons_self hz hf T.no_isinstance (by rfl) (pv 0) (by rfl)) (pa_cons (pe_isE EN List.mem_cons_self hz hf T.no_isinstance (by rfl) (pv 0) (by rfl)) (pa_cons (pe_isE EN List.mem_cons_self hz hf T.no_isinstance (by rfl) (pv 0) (by rfl)) (pa_cons (pe_isE EN List.mem_cons_self hz hf T.no_isinstance (by rfl) (pv 0) (by rfl)) (pa_cons (pe_isE EN List.mem_cons_self hz hf T.no_isinstance (by rfl) (pv 0) (by rfl)) (pa_cons (pe_isE EN List.mem_cons_self hz hf T.no_isinstance (by rfl) (pv 0) (by rfl)) (pa_cons (pe_isE EN List.mem_cons_self hz hf T.no_isinstance (by rfl) (pv 0) (by rfl)) (pa_cons (pe_isE EN List.mem_cons_self hz hf T.no_isinstance (by rfl) (pv 0) (by rfl)) (pa_cons (pe_isE EN List.mem_cons_self hz hf T.no_isinstance (by rfl) (pv 0) (by rfl)) (pa_cons (pe_isE EN List.mem_cons_self hz hf T.no_isinstance (by rfl) (pv 0) (by rfl)) (pa_cons (pe_isE EN List.mem_cons_self hz hf T.no_isinstance (by rfl) (pv 0) (by rfl)) (pa_cons (pe_isE EN List.mem_cons_self hz hf T.no_isinstance (by rfl) (pv 0) (by rfl)) (pa_cons (pe_isE EN List.mem_cons_self hz hf T.no_isinstance (by rfl) (pv 0) (by rfl)) (pa_cons (pe_isE EN List.mem_cons_self hz hf T.no_isinstance (by rfl) (pv 0) (by rfl)) (pa_cons (pe_isE EN List.mem_cons_self hz hf T.no_isinstance (by rfl) (pv 0) (by rfl)) (pa_cons (pe_isE EN List.mem_cons_self hz hf T.no_isinstance (by rfl) (pv 0) (by rfl)) (pa_cons (pe_isE EN List.mem_cons_self hz hf T.no_isinstance (by rfl) (pv 0) (by rfl)) (pa_cons (pe_isE EN List.mem_cons_self hz hf T.no_isinstance (by rfl) (pv 0) (by rfl)) (pa_cons (pe_isE EN List.mem_cons_self hz hf T.no_isinstance (by rfl) (pv 0) (by rfl)) (pa_cons (pe_isE EN List.mem_cons_self hz hf T.no_isinstance (by rfl) (pv 0) (by rfl)) (pa_cons (pe_isE EN List.mem_cons_self hz hf T.no_isinstance (by rfl) (pv 0) (by rfl)) (pa_cons (pe_isE EN List.mem_cons_self hz hf T.no_isinstance (by rfl) (pv 0) (by rfl)) (pa_cons (pe_isE EN List.mem_cons_self hz hf T.no_isinstance (by rfl) (pv 0) (by rfl)) (pa_cons (pe_isE EN List.mem_cons_self hz hf T.no_isinstance (by rfl) (pv 0) (by rfl)) (pa_cons (pe_isE EN List.mem_cons_self hz hf T.no_isinstance (by rfl) (pv 0) (by rfl)) (pa_cons (pe_isE EN List.mem_cons_self hz hf T.no_isinstance (by rfl) (pv 0) (by rfl)) (pa_cons (pe_isE EN List.mem_cons_self hz hf T.no_isinstance (by rfl) (pv 0) (by rfl)) (pa_cons (pe_isE EN List.mem_cons_self hz hf T.no_isinstance (by rfl) (pv 0) (by rfl)) (pa_cons (pe_isE EN List.mem_cons_self hz hf T.no_isinstance (by rfl) (pv 0) (by rfl)) (pa_cons (pe_isE EN List.mem_cons_self hz hf T.no_isinstance (by rfl) (pv 0) (by rfl)) (pa_cons (pe_isE EN List.mem_cons_self hz hf T.no_isinstance (by rfl) (pv 0) (by rfl)) pa_nil))))))))))))))))))))))))))))))))))
    (pss_one (ps_ret (pe_callB (cr_sumH hc) (by rfl) T.no_sum (by decide +kernel) (pa_cons (pe_lcG hot List.mem_cons_self (own := [("flag", 2)]) (g := gName 2) (tt := tYes) sc_law_kinds.nd (pv 1) (blkOk_by (own := [("flag", 2)]) (N := ["error", "kinds", "flag"]) (sc := defScope st_law_kinds) (by decide +kernel)) (fun _ _ _ _ _ => (pg_name (i := 2) sc_law_kinds.nd rfl (Or.inl rfl))) (fun _ _ _ _ _ => pts_nil) (fun _ _ _ _ _ => (pe_callTy int1 (by rfl) T.no_int (by decide +kernel) (pa_cons (pv 2) pa_nil)))) pa_nil))))), ?_⟩
  rw [a_seq]
  walk_at "wn"
  refine ⟨hx, hx, hx, hx, hx, hx, hx, hx, hx, hx, hx, hx, hx, hx, hx, hx, hx, hx, hx, hx, hx, hx, hx, hx, hx, hx, hx, hx, hx, hx, hx, hx, by rw [sizeLine_eq]; decide, fun L H1 n1 => ?_⟩
  have e1 : H1 L = some (.lst (kindNames.map fun z => V.bl (decide (z = En)))) := n1.at_
  walk_at "wn"
  refine cg_by (sq_l e1) (fun C i acc H' => Same H1 H' ∧ acc = (((kindNames.take i).map fun z => if z = En then (1 : Int) else 0).map V.int)) (fun C H0 n0 => ⟨n0.same, rfl⟩) (fun C i acc H' hC f o ho => f.1 _ _ ho) ?_ ?_
  · rintro C i x acc H2 N hC hx' hacc ⟨s2, rfl⟩ hN
    obtain ⟨z, hz, rfl⟩ : ∃ z, kindNames[i]? = some z ∧ x = V.bl (decide (z = En)) := by
      rw [List.getElem?_map] at hx'
      cases e : kindNames[i]? with
      | none => rw [e] at hx'; cases hx'
      | some z => rw [e] at hx'; exact ⟨z, rfl, (Option.some.inj hx').symm⟩
    refine ⟨rfl, ?_⟩
    walk_at "wn"
    have hil := (List.getElem?_eq_some_iff.mp hz).1
    refine cst hacc (by rw [List.length_map, List.length_map, List.length_take, sizeLine_eq]; have : kindNames.length = 32 := rfl; omega) fun H3 p3 => hN _ _ p3.at_ ⟨p3.same s2 hC, ?_⟩
    rw [List.take_add_one, hz, List.map_append, List.map_append]
    by_cases c : z = En
    · simp [c]
    · simp [c]
  · rintro C acc H2 hC hacc ⟨s2, rfl⟩
    rw [List.length_map, List.take_length] at hacc
    walk_at "wn"
    exact ⟨C, _, rfl, SqL.of hacc, by rw [hEn]; exact k H2 (n1.same.trans s2)⟩
/-- what is due stands as a tuple of data -/
def DueAt (H : Hp) (du : Addr) (f : Flt) : Prop := f.cls ∈ errL ∧ H du = some (.tup f.due) ∧ ∃ ds k, DwAll [] H f.due ds k ∧ (∀ d ∈ ds, Dk 4 d) ∧ k ≤ 2000
theorem DueAt.same {H H' : Hp} {du : Addr} {f : Flt} (h : DueAt H du f) (s : Same H H') : DueAt H' du f := ⟨h.1, s _ _ h.2.1, by
  obtain ⟨ds, k, h1, h2⟩ := h.2.2
  exact ⟨ds, k, h1.same s, h2⟩⟩
def sp_rerrH (K : PySem.W.Frag) : HSp := fun a c d vs H Q _ => ∃ (f : Flt) (du dd : Addr), vs = [.ref a, .ref du] ∧ c = .ref (He.ga K f.cls) ∧ d = some dd ∧ H dd = some (.xd f.fs) ∧ DueAt H du f ∧ ∀ H', Same H H' → Q (.bl true) H'
abbrev st_law_right_error : Stmt := topS 61
theorem sc_law_right_error : FnScope ["error", "due", "told", "one"] ["error", "due"] (defScope st_law_right_error) := ⟨rfl, rfl, rfl, by decide +kernel, rfl, by decide +kernel, by decide +kernel⟩
theorem ok_law_right_errorH (D : Df K mg "_law_right_error" st_law_right_error) (T : NoB mg) (C_law_agreeH : ClH P w K mg base 6 "_law_agree" ["actual", "due"] (sp_agreeH 5)) (C_law_kindsH : ClH P w K mg base 1 "_law_kinds" ["error"] (sp_kindsH K mg)) (ENF : ∀ f : Flt, f.cls ∈ errL → ErN K mg f.cls) (Er_BadNumber : ErT_BadNumber P w K mg base) (Er_TooMany : ErT_TooMany P w K mg base): ClH P w K mg base 7 "_law_right_error" ["error", "due"] (sp_rerrH K) := by
  refine clH_of D sc_law_right_error (fun _ _ _ _ _ _ us hl => match us, hl with | [_, _], _ => rfl) (fun _ _ _ vs H Q E h => ?_) (fun f cdv A outer sh H vs Q E p cls dd hot hz hc hr h => ?_)
  · obtain ⟨_, _, _, rfl, _⟩ := h; rfl
  have hf : ∃ vs, p.2.data = .fields vs := hot.2.imp fun _ h => h.1
  obtain ⟨ft, du, dx, rfl, rfl, rfl, hx, hdue, k⟩ := h
  have EN0 := ENF ft hdue.1
  have hcl := hdue.1
  obtain ⟨_, hd, ds, n, hda, hdk, hn⟩ := hdue
  have fin : ∀ t H1, New H t (.tup ft.due) H1 → ∀ H2, Same H1 H2 → sp_agreeH 5 p.1 (.ref (He.ga K ft.cls)) (some dx) [.ref t, .ref du] H2 Q E0 := fun t H1 n1 H2 s2 =>
    ⟨.ref t, .ref du, .tuple ds, n + 1, n + 1, rfl, hdk, .tup (by simp) (s2 _ _ n1.at_) (hda.same (n1.same.trans s2)), .tup (by simp) (s2 _ _ (n1.k hd)) (hda.same (n1.same.trans s2)), by omega, fun H3 s3 => k _ ((n1.same.trans s2).trans s3)⟩
  cases ft with
  | num v lo hi =>
    have EN : ErN K mg "BadNumber" := EN0
    have ErD := Er_BadNumber
    refine ⟨_, (pss_cons (ps_set (i := 2) sc_law_right_error.nd rfl (Or.inl rfl) pe_non)
    (pss_cons (ps_if (pt_val (pe_isE EN List.mem_cons_self hz hf T.no_isinstance (by rfl) (pv 0) (by rfl))) (pss_one (ps_set (i := 2) sc_law_right_error.nd rfl (Or.inl rfl) (pe_tup (pa_cons pe_str (pa_cons (pe_xP ErD.xf (ErD.no _ (by decide)) List.mem_cons_self hz hf (pv 0)) (pa_cons (pe_xP ErD.xf (ErD.no _ (by decide)) List.mem_cons_self hz hf (pv 0)) (pa_cons (pe_xP ErD.xf (ErD.no _ (by decide)) List.mem_cons_self hz hf (pv 0)) pa_nil))))))) pss_nil)
    (pss_cons (ps_if (pt_val (pe_isE EN List.mem_cons_self hz hf T.no_isinstance (by rfl) (pv 0) (by rfl))) (pss_cons ps_never pss_nil) pss_nil)
    (pss_cons (ps_set (i := 3) sc_law_right_error.nd rfl (Or.inl rfl) (pe_and (pe_isH EN List.mem_cons_self hz hf T.no_isinstance (by rfl) (pv 0) (by rfl)) (pe_and (pe_isVE EN List.mem_cons_self hz hf T.no_isinstance (by rfl) (pv 0) (by rfl)) (pe_one (pe_cmpR op_eq (pe_clH C_law_kindsH hot List.mem_cons_self hz hr (by rfl) (pa_cons (pv 0) pa_nil)) pe_int (nomark _))))))
    (pss_one (ps_ret (pe_and (pv 3) (pe_one (pe_clH C_law_agreeH hot List.mem_cons_self hz hr (by rfl) (pa_cons (pv 2) (pa_cons (pv 1) pa_nil))))))))))), ?_⟩
    have d1 : decide (("TooMany" : Str) = ("BadNumber" : Str)) = false := by decide +kernel
    rw [d1]
    rw [a_seq]
    walk_at "wn"
    rw [a_seq]
    walk_at "wn"
    refine ⟨⟨_, hx⟩, _, hx, _, rfl, _, hx, _, rfl, _, hx, _, rfl, by rw [sizeLine_eq]; decide, fun t H1 n1 => ?_⟩
    have hx1 := n1.k hx
    walk_at "sn"
    refine ⟨⟨_, hx1⟩, ?_⟩
    walk_at "sn"
    exact ⟨⟨_, hx1⟩, ⟨_, hx1⟩, "BadNumber", EN, by decide +kernel, rfl, rfl, ⟨_, hx1⟩, fun H2 s2 => ⟨rfl, by rw [if_pos rfl]; exact fin t H1 n1 H2 s2⟩⟩
  | many z l =>
    have EN : ErN K mg "TooMany" := EN0
    have ErD := Er_TooMany
    refine ⟨_, (pss_cons (ps_set (i := 2) sc_law_right_error.nd rfl (Or.inl rfl) pe_non)
    (pss_cons (ps_if (pt_val (pe_isE EN List.mem_cons_self hz hf T.no_isinstance (by rfl) (pv 0) (by rfl))) (pss_cons ps_never pss_nil) pss_nil)
    (pss_cons (ps_if (pt_val (pe_isE EN List.mem_cons_self hz hf T.no_isinstance (by rfl) (pv 0) (by rfl))) (pss_one (ps_set (i := 2) sc_law_right_error.nd rfl (Or.inl rfl) (pe_tup (pa_cons pe_str (pa_cons (pe_xP ErD.xf (ErD.no _ (by decide)) List.mem_cons_self hz hf (pv 0)) (pa_cons (pe_xP ErD.xf (ErD.no _ (by decide)) List.mem_cons_self hz hf (pv 0)) pa_nil)))))) pss_nil)
    (pss_cons (ps_set (i := 3) sc_law_right_error.nd rfl (Or.inl rfl) (pe_and (pe_isH EN List.mem_cons_self hz hf T.no_isinstance (by rfl) (pv 0) (by rfl)) (pe_and (pe_isVE EN List.mem_cons_self hz hf T.no_isinstance (by rfl) (pv 0) (by rfl)) (pe_one (pe_cmpR op_eq (pe_clH C_law_kindsH hot List.mem_cons_self hz hr (by rfl) (pa_cons (pv 0) pa_nil)) pe_int (nomark _))))))
    (pss_one (ps_ret (pe_and (pv 3) (pe_one (pe_clH C_law_agreeH hot List.mem_cons_self hz hr (by rfl) (pa_cons (pv 2) (pa_cons (pv 1) pa_nil))))))))))), ?_⟩
    have d0 : decide (("BadNumber" : Str) = ("TooMany" : Str)) = false := by decide +kernel
    rw [d0]
    rw [a_seq]
    walk_at "wn"
    rw [a_seq]
    walk_at "wn"
    refine ⟨⟨_, hx⟩, ?_⟩
    rw [a_seq]
    walk_at "wn"
    refine ⟨⟨_, hx⟩, _, hx, _, rfl, _, hx, _, rfl, by rw [sizeLine_eq]; decide, fun t H1 n1 => ?_⟩
    have hx1 := n1.k hx
    walk_at "sn"
    exact ⟨⟨_, hx1⟩, ⟨_, hx1⟩, "TooMany", EN, by decide +kernel, rfl, rfl, ⟨_, hx1⟩, fun H2 s2 => ⟨rfl, by rw [if_pos rfl]; exact fin t H1 n1 H2 s2⟩⟩
  | mv i => exact absurd hcl (show ¬ ("NotAMove" : Str) ∈ errL by decide +kernel)
  | pt v => exact absurd hcl (show ¬ ("NotAPoint" : Str) ∈ errL by decide +kernel)
  | rep v => exact absurd hcl (show ¬ ("RepeatedPoint" : Str) ∈ errL by decide +kernel)
  | sz x y => exact absurd hcl (show ¬ ("UnlikeSizes" : Str) ∈ errL by decide +kernel)
  | txt i => exact absurd hcl (show ¬ ("BadText" : Str) ∈ errL by decide +kernel)
end

/-! ## R4 -/

section
variable {P : Program} {w : World} {K : PySem.W.Frag} {mg : Str → Option Value} {base : Heap}
theorem fdm {t m : Nat} (h : 0 < m) : Int.fdiv (t : Int) (m : Int) = ((t / m : Nat) : Int) ∧ Int.fmod (t : Int) (m : Int) = ((t % m : Nat) : Int) := by
  rw [Int.fdiv_eq_ediv_of_nonneg _ (by omega), Int.fmod_eq_emod_of_nonneg _ (by omega)]
  exact ⟨by rw [Int.natCast_ediv], by rw [Int.natCast_emod]⟩
def sp_wnum : Sp := fun vs H Q _ => ∃ (s l : Addr), vs = [.ref s, .int 0, .int 24] ∧ Sto s l H ∧ ∀ v d n H', Ge s l H H' → Dw [s] H' v d n → n ≤ 20 → Dk 3 d → Sm v → numOk v 0 24 = false → Q v H'
abbrev st_law_wrong_number : Stmt := topS 56
theorem sc_law_wrong_number : FnScope ["store", "low", "high", "far"] ["store", "low", "high"] (defScope st_law_wrong_number) := ⟨rfl, rfl, rfl, by decide +kernel, rfl, by decide +kernel, by decide +kernel⟩
theorem ok_law_wrong_number (D : Df K mg "_law_wrong_number" st_law_wrong_number) (T : NoB mg) (C_law_pick : Cl P w K mg base 3 "_law_pick" ["store", "things"] sp_pick) (C_law_take : Cl P w K mg base 2 "_law_take" ["store", "many"] sp_take) : Cl P w K mg base 4 "_law_wrong_number" ["store", "low", "high"] sp_wnum := by
  refine cl_of D sc_law_wrong_number (fun _ _ _ _ _ _ us hl => match us, hl with | [_, _, _], _ => rfl) (fun vs H Q E h => ?_) (fun f cdv A outer sh H vs Q E hr h => ?_)
  · obtain ⟨_, _, rfl, _⟩ := h; rfl
  obtain ⟨s, l, rfl, st, k⟩ := h
  refine ⟨_, (pss_cons (ps_set (i := 3) sc_law_wrong_number.nd rfl (Or.inl rfl) (pe_op op_add pe_int (pe_cl C_law_take hr (by rfl) (pa_cons (pv 0) (pa_cons pe_int pa_nil)))))
    (pss_one (ps_ret (pe_cl C_law_pick hr (by rfl) (pa_cons (pv 0) (pa_cons (pe_lst (pa_cons (pe_op op_sub (pv 1) pe_int) (pa_cons (pe_op op_add (pv 2) pe_int) (pa_cons (pe_op op_sub (pv 1) (pv 3)) (pa_cons (pe_op op_add (pv 2) (pv 3)) (pa_cons (pe_op op_add (pv 2) (pe_op op_pow pe_int pe_int)) (pa_cons (pe_op op_sub (pv 1) (pe_op op_pow pe_int pe_int)) (pa_cons pe_bl (pa_cons pe_bl (pa_cons pe_non (pa_cons pe_str (pa_cons (pe_callTy call_str_int (by rfl) T.no_str (by decide +kernel) (pa_cons (pv 1) pa_nil)) (pa_cons pe_str (pa_cons (pe_tup pa_nil) (pa_cons (pe_tup (pa_cons (pv 1) pa_nil)) (pa_cons (pe_lst (pa_cons (pv 1) pa_nil)) (pa_cons (pe_lst pa_nil) pa_nil))))))))))))))))) pa_nil)))))), ?_⟩
  have ki : ∀ (i : Int) (H' : Hp), Ge s l H H' → -(10 ^ 40) < i ∧ i < 10 ^ 40 → (i < 0 ∨ 24 < i) → Q (.int i) H' := fun i H' g hb ho => k _ _ _ _ g (.lf (.int i)) (by decide) trivial (sm_small hb) (by simp [numOk]; omega)
  walk_at "sn"
  refine ⟨s, l, _, rfl, by decide, st, fun far H1 g1 r0 r1 r2 => ?_⟩
  have := r1 (by decide)
  walk_at "wn"
  refine ⟨⟨by decide, by decide⟩, ⟨by decide, by decide⟩, sm_small (i := 0) (by omega) _ rfl, szl (by decide), fun p1 H2 n1 => ⟨szl (by decide), fun p2 H3 n2 => ⟨szl (by decide), fun p3 H4 n3 => ⟨szl (by decide), fun p4 H5 n4 => ⟨szl (by decide), fun p5 H6 n5 => ?_⟩⟩⟩⟩⟩
  have g2 := g1.new n1
  have g3 := g2.new n2
  have g4 := g3.new n3
  have g5 := g4.new n4
  have g6 := g5.new n5
  refine ⟨s, l, p5, _, rfl, g6.st, (st.ne (g5.fr n5.fr)).1, sq_l n5.at_, by simp, by simp, fun x H9 g89 hx => ?_⟩
  have g9 := g6.trans g89
  have at9 : ∀ {p : Addr} {o : HO}, H p = none → H6 p = some o → H9 p = some o := fun hp h => g89.at st hp h
  have f1 := g1.fr n1.fr
  have f2 := g2.fr n2.fr
  have f3 := g3.fr n3.fr
  have f4 := g4.fr n4.fr
  have e29 : (10 : Int) ^ Int.toNat 29 = 100000000000000000000000000000 := by decide +kernel
  rw [e29] at hx
  simp only [List.mem_cons, List.not_mem_nil, or_false] at hx
  rcases hx with rfl | rfl | rfl | rfl | rfl | rfl | rfl | rfl | rfl | rfl | rfl | rfl | rfl | rfl | rfl | rfl
  · refine ki _ _ g9 ?_ ?_ <;> omega
  · refine ki _ _ g9 ?_ ?_ <;> omega
  · refine ki _ _ g9 ?_ ?_ <;> omega
  · refine ki _ _ g9 ?_ ?_ <;> omega
  · refine ki _ _ g9 ?_ ?_ <;> omega
  · refine ki _ _ g9 ?_ ?_ <;> omega
  · exact k _ _ _ _ g9 (.lf (.bl _)) (by decide) trivial (sm_any (by simp)) rfl
  · exact k _ _ _ _ g9 (.lf (.bl _)) (by decide) trivial (sm_any (by simp)) rfl
  · exact k _ _ _ _ g9 (.lf .non) (by decide) trivial (sm_any (by simp)) rfl
  · exact k _ _ _ _ g9 (.lf (.str _)) (by decide) trivial (sm_any (by simp)) rfl
  · exact k _ _ _ _ g9 (.lf (.str _)) (by have := str_len10 (a := 0) (k := 4) (by decide) (by omega); omega) trivial (sm_any (by simp)) rfl
  · exact k _ _ _ _ g9 (.lf (.str _)) (by decide) trivial (sm_any (by simp)) rfl
  · exact k _ _ _ _ g9 (.tup (by simpa using (st.ne f1).1) (at9 f1 (n5.k (n4.k (n3.k (n2.k n1.at_))))) .nil) (by decide) (by intro d hd; simp at hd) (sm_any (by simp)) rfl
  · exact k _ _ _ _ g9 (.tup (by simpa using (st.ne f2).1) (at9 f2 (n5.k (n4.k (n3.k n2.at_)))) (.cons (.lf (.int 0)) .nil)) (by decide) (by intro d hd; rw [List.mem_singleton.mp hd]; trivial) (sm_any (by simp)) rfl
  · exact k _ _ _ _ g9 (.lst (by simpa using (st.ne f3).1) (at9 f3 (n5.k (n4.k n3.at_))) (.cons (.lf (.int 0)) .nil)) (by decide) (by intro d hd; rw [List.mem_singleton.mp hd]; trivial) (sm_any (by simp)) rfl
  · exact k _ _ _ _ g9 (.lst (by simpa using (st.ne f4).1) (at9 f4 (n5.k n4.at_)) .nil) (by decide) (by intro d hd; simp at hd) (sm_any (by simp)) rfl
def sp_big : Sp := fun vs H Q _ => ∃ (s l : Addr), vs = [.ref s] ∧ Sto s l H ∧ ∀ r H', Ge s l H H' → Q (.int r) H'
abbrev st_law_big : Stmt := topS 58
theorem sc_law_big : FnScope ["store", "far"] ["store"] (defScope st_law_big) := ⟨rfl, rfl, rfl, by decide +kernel, rfl, by decide +kernel, by decide +kernel⟩
theorem ok_law_big (D : Df K mg "_law_big" st_law_big) (T : NoB mg) (C_law_pick : Cl P w K mg base 3 "_law_pick" ["store", "things"] sp_pick) (C_law_take : Cl P w K mg base 2 "_law_take" ["store", "many"] sp_take) : Cl P w K mg base 4 "_law_big" ["store"] sp_big := by
  refine cl_of D sc_law_big (fun _ _ _ _ _ _ us hl => match us, hl with | [_], _ => rfl) (fun vs H Q E h => ?_) (fun f cdv A outer sh H vs Q E hr h => ?_)
  · obtain ⟨_, _, rfl, _⟩ := h; rfl
  obtain ⟨s, l, rfl, st, k⟩ := h
  refine ⟨_, (pss_cons (ps_set (i := 1) sc_law_big.nd rfl (Or.inl rfl) (pe_cl C_law_take hr (by rfl) (pa_cons (pv 0) (pa_cons pe_int pa_nil))))
    (pss_one (ps_ret (pe_cl C_law_pick hr (by rfl) (pa_cons (pv 0) (pa_cons (pe_lst (pa_cons (pe_op op_sub (pe_op op_modN (pe_callTy int1 (by rfl) T.no_int (by decide +kernel) (pa_cons (pv 1) pa_nil)) pe_int) pe_int) (pa_cons (pe_op op_sub (pv 1) pe_int) (pa_cons (pe_op op_sub (pe_op op_sub (pe_op op_pow pe_int pe_int) pe_int) (pv 1)) (pa_cons (pe_op op_add (pe_op op_sub (pv 1) (pe_op op_pow pe_int pe_int)) pe_int) pa_nil))))) pa_nil)))))), ?_⟩
  walk_at "sn"
  refine ⟨s, l, _, rfl, by decide, st, fun far H1 g1 r0 r1 r2 => ?_⟩
  have := r1 (by decide)
  walk_at "wn"
  refine ⟨by decide, ⟨by decide, by decide⟩, ⟨by decide, by decide⟩, szl (by decide), fun p1 H2 n1 => ?_⟩
  have g2 := g1.new n1
  refine ⟨s, l, p1, _, rfl, g2.st, (st.ne (g1.fr n1.fr)).1, sq_l n1.at_, by simp, by simp, fun x H9 g89 hx => ?_⟩
  have g9 := g2.trans g89
  simp only [List.mem_cons, List.not_mem_nil, or_false] at hx
  rcases hx with rfl | rfl | rfl | rfl <;> exact k _ _ g9
abbrev st_law_path : Stmt := topS 62
theorem sc_law_path : FnScope ["first", "second", "path", "t"] ["first", "second"] (defScope st_law_path) := ⟨rfl, rfl, rfl, by decide +kernel, rfl, by decide +kernel, by decide +kernel⟩
theorem ok_law_path (D : Df K mg "_law_path" st_law_path) (T : NoB mg)  : Cl P w K mg base 1 "_law_path" ["first", "second"] sp_pidx := by
  refine cl_of D sc_law_path (fun _ _ _ _ _ _ us hl => match us, hl with | [_, _], _ => rfl) (fun vs H Q E h => ?_) (fun f cdv A outer sh H vs Q E hr h => ?_)
  · obtain ⟨_, _, rfl, _⟩ := h; rfl
  obtain ⟨m, n, rfl, m0, m1, n0, n1, k⟩ := h
  refine ⟨_, (pss_cons (ps_set (i := 2) sc_law_path.nd rfl (Or.inl rfl) (pe_lst pa_nil))
    (pss_cons (ps_for PassesOwn.never rfl (pi_range1 (by rfl) T.no_range (pa_cons (pe_op op_mul (pv 0) (pv 1)) pa_nil)) (pg_name (i := 3) sc_law_path.nd rfl (Or.inl rfl)) (pss_one (ps_expr (pe_bm PySem.F.plainAttrs_list PySem.F.slot_list_append PySem.F.type_list_append mt_append (pv 2) (pa_cons (pe_op op_sub (pe_op op_sub (pe_op op_add (pv 0) (pe_op op_fdivN (pv 3) (pv 0))) pe_int) (pe_op op_modN (pe_callTy int1 (by rfl) T.no_int (by decide +kernel) (pa_cons (pv 3) pa_nil)) (pv 0))) pa_nil)))))
    (pss_one (ps_ret (pv 2))))), ?_⟩
  obtain ⟨m, rfl⟩ : ∃ q : Nat, m = q := ⟨m.toNat, by omega⟩
  obtain ⟨n, rfl⟩ : ∃ q : Nat, n = q := ⟨n.toNat, by omega⟩
  rw [Int.toNat_natCast, Int.toNat_natCast, pth_eq] at k
  have hmn : m * n ≤ 100 * 100 := Nat.mul_le_mul (by omega) (by omega)
  have emn : (m : Int) * (n : Int) = ((m * n : Nat) : Int) := by rw [Int.natCast_mul]
  walk_at "sn"
  refine ⟨szl (by decide), fun L H1 n1' => ?_⟩
  walk_at "sn"
  refine ⟨.inl (by omega), ?_⟩
  rw [emn]
  refine ⟨by omega, by omega, ?_⟩
  rw [Int.toNat_natCast]
  refine fr_by (fun i σ H' => Same H H' ∧ (∃ v3, σ = [some (.int m), some (.int n), some (.ref L), v3]) ∧ H' L = some (.lst (((List.range i).map fun t => (pix m t : Int)).map V.int))) ⟨n1'.same, ⟨_, rfl⟩, by simpa using n1'.at_⟩ ?_ ?_
  · rintro i _ H2 N hN hi ⟨s2, ⟨v3, rfl⟩, e2⟩
    have hm : 0 < m := by
      rcases Nat.eq_zero_or_pos m with e | e
      · rw [e, Nat.zero_mul] at hi; omega
      · exact e
    obtain ⟨fd, fm⟩ := fdm (t := i) hm
    walk_at "wn"
    rw [Int.zero_add]
    have ep : (m : Int) + ((i / m : Nat) : Int) - 1 - ((i % m : Nat) : Int) = (pix m i : Int) := by
      unfold pix
      have := Nat.mod_lt i hm
      omega
    refine ⟨tyl e2, ⟨by omega, by omega⟩, by omega, _, e2, by rw [List.length_map, List.length_map, List.length_range, sizeLine_eq]; omega, fun H3 n3 => hN _ _ ⟨n3.same s2 n1'.fr, ⟨_, rfl⟩, ?_⟩⟩
    rw [n3.at_, fd, fm, ep, List.range_succ (n := i)]
    simp only [List.map_append, List.map_cons, List.map_nil]
  · rintro _ H2 ⟨s2, ⟨v3, rfl⟩, e2⟩
    walk_at "wn"
    refine k L H2 s2 n1'.fr ?_
    rw [e2, Nat.mul_comm]
theorem wd_next {α : Type} {xs ys : List α} {t : Nat} (ht : t < ys.length * xs.length) : 0 < xs.length ∧ t / xs.length < ys.length ∧ wd xs ys (t + 1) = wks xs ys (t / xs.length) (t % xs.length + 1) := by
  have hm : 0 < xs.length := by
    rcases Nat.eq_zero_or_pos xs.length with e | e
    · rw [e, Nat.mul_zero] at ht; omega
    · exact e
  have hs : t % xs.length < xs.length := Nat.mod_lt _ hm
  have hk : t / xs.length < ys.length := Nat.div_lt_of_lt_mul (by rw [Nat.mul_comm]; exact ht)
  have et : t = t / xs.length * xs.length + t % xs.length := by rw [Nat.mul_comm]; exact (Nat.div_add_mod t xs.length).symm
  refine ⟨hm, hk, ?_⟩
  rw [← wd_succ hk hs, ← et]
def sp_lwords : Sp := fun vs H Q _ => ∃ (p q : Addr) (xs ys : List V), vs = [.ref p, .ref q] ∧ H p = some (.lst xs) ∧ H q = some (.lst ys) ∧ xs.length ≤ 24 ∧ ys.length ≤ 24 ∧ ∀ (L : Addr) (ws : List Addr) H', Same H H' → H L = none → H' L = some (.lst (ws.map V.ref)) → Wds H' ws xs ys → L ∉ ws → Q (.ref L) H'
abbrev st_law_words : Stmt := topS 59
theorem sc_law_words : FnScope ["first", "second", "words", "t", "k", "cut"] ["first", "second"] (defScope st_law_words) := ⟨rfl, rfl, rfl, by decide +kernel, rfl, by decide +kernel, by decide +kernel⟩
theorem ok_law_words (D : Df K mg "_law_words" st_law_words) (T : NoB mg)  : Cl P w K mg base 1 "_law_words" ["first", "second"] sp_lwords := by
  refine cl_of D sc_law_words (fun _ _ _ _ _ _ us hl => match us, hl with | [_, _], _ => rfl) (fun vs H Q E h => ?_) (fun f cdv A outer sh H vs Q E hr h => ?_)
  · obtain ⟨_, _, _, _, rfl, _⟩ := h; rfl
  obtain ⟨p, q, xs, ys, rfl, hp, hq, hx, hy, k⟩ := h
  refine ⟨_, (pss_cons (ps_set (i := 2) sc_law_words.nd rfl (Or.inl rfl) (pe_lst (pa_cons (pe_callTy tup1 (by rfl) T.no_tuple (by decide +kernel) (pa_cons (pe_op op_cat (pv 0) (pv 1)) pa_nil)) pa_nil)))
    (pss_cons (ps_for PassesOwn.never rfl (pi_range1 (by rfl) T.no_range (pa_cons (pe_op op_mul (pe_callB len1 (by rfl) T.no_len (by decide +kernel) (pa_cons (pv 0) pa_nil)) (pe_callB len1 (by rfl) T.no_len (by decide +kernel) (pa_cons (pv 1) pa_nil))) pa_nil)) (pg_name (i := 3) sc_law_words.nd rfl (Or.inl rfl)) (pss_cons (ps_set (i := 4) sc_law_words.nd rfl (Or.inl rfl) (pe_op op_fdivN (pv 3) (pe_callB len1 (by rfl) T.no_len (by decide +kernel) (pa_cons (pv 0) pa_nil))))
    (pss_cons (ps_set (i := 5) sc_law_words.nd rfl (Or.inl rfl) (pe_op op_sub (pe_op op_sub (pe_callB len1 (by rfl) T.no_len (by decide +kernel) (pa_cons (pv 0) pa_nil)) pe_int) (pe_op op_modN (pe_callTy int1 (by rfl) T.no_int (by decide +kernel) (pa_cons (pv 3) pa_nil)) (pe_callB len1 (by rfl) T.no_len (by decide +kernel) (pa_cons (pv 0) pa_nil)))))
    (pss_one (ps_expr (pe_bm PySem.F.plainAttrs_list PySem.F.slot_list_append PySem.F.type_list_append mt_append (pv 2) (pa_cons (pe_callTy tup1 (by rfl) T.no_tuple (by decide +kernel) (pa_cons (pe_op op_cat (pe_op op_cat (pe_op op_cat (pe_op op_cat (pe_slice sl_list (pv 1) po_none (po_some (pv 4))) (pe_slice sl_list (pv 0) po_none (po_some (pv 5)))) (pe_lst (pa_cons (pe_ix ix1 (pv 1) (pv 4) (fun _ _ => rfl)) pa_nil))) (pe_slice sl_list (pv 0) (po_some (pv 5)) po_none)) (pe_slice sl_list (pv 1) (po_some (pe_op op_add (pv 4) pe_int)) po_none)) pa_nil)) pa_nil)))))))
    (pss_one (ps_ret (pv 2))))), ?_⟩
  have hbig : ys.length * xs.length ≤ 24 * 24 := Nat.mul_le_mul hy hx
  have emn : (xs.length : Int) * (ys.length : Int) = ((ys.length * xs.length : Nat) : Int) := by rw [Int.natCast_mul, Int.mul_comm]
  walk_at "sn"
  refine ⟨_, hp, _, hq, by rw [sizeLine_eq]; omega, fun c1 H1 n1 => ⟨_, n1.at_, fun u0 H2 n2 => ⟨szl (by decide), fun L H3 n3 => ?_⟩⟩⟩
  have s2 := n1.same.trans n2.same
  have s3 := s2.trans n3.same
  have hL : H2 L = none := n3.fr
  walk_at "sn"
  refine ⟨_, sq_l (s3 _ _ hp), _, sq_l (s3 _ _ hq), .inl (by omega), ?_⟩
  rw [emn]
  refine ⟨by omega, by omega, ?_⟩
  rw [Int.toNat_natCast]
  refine fr_by (fun i σ H' => Same H2 H' ∧ ∃ (v3 v4 v5 : Option V) (ws : List Addr), σ = [some (.ref p), some (.ref q), some (.ref L), v3, v4, v5] ∧ H' L = some (.lst (ws.map V.ref)) ∧ ws.length = i + 1 ∧ L ∉ ws ∧ ∀ (t : Nat) (a : Addr), ws[t]? = some a → H' a = some (.tup (wd xs ys t)))
    ⟨n3.same, _, _, _, [u0], rfl, n3.at_, rfl, by simpa using (fun e : L = u0 => by (have h := n2.at_; rw [← e, hL] at h; cases h)), fun t a e => ?_⟩ ?_ ?_
  · cases t with
    | zero =>
      obtain rfl := Option.some.inj e
      rw [wd_zero]
      exact n3.k n2.at_
    | succ t => simp at e
  · rintro i _ H4 N hN hi ⟨s4, v3, v4, v5, ws, rfl, eL4, hwl, hLw, hw⟩
    obtain ⟨hm, hk, wn⟩ := wd_next (xs := xs) (ys := ys) hi
    have hs := Nat.mod_lt i hm
    obtain ⟨fd, fm⟩ := fdm (t := i) hm
    generalize i / xs.length = kk at fd hk wn
    generalize i % xs.length = ss at fm hs wn
    have s24 := s2.trans s4
    have hp4 := s24 _ _ hp
    have hq4 := s24 _ _ hq
    walk_at "wn"
    rw [a_seq]
    walk_at "wn"
    rw [Int.zero_add]
    refine ⟨_, sq_l hp4, ⟨by omega, by omega⟩, ?_⟩
    rw [fd]
    walk_at "sn"
    refine ⟨_, sq_l hp4, _, sq_l hp4, by omega, ?_⟩
    rw [fm]
    have hcut : (xs.length : Int) - 1 - ((ss : Nat) : Int) = ((xs.length - (ss + 1) : Nat) : Int) := by omega
    rw [hcut]
    have c1 : ∀ zs : List V, cutV zs none (some ((kk : Nat) : Int)) = zs.take kk := fun zs => by rw [cut_to (by omega), Int.toNat_natCast]
    have c2 : ∀ zs : List V, cutV zs none (some ((xs.length - (ss + 1) : Nat) : Int)) = zs.take (xs.length - (ss + 1)) := fun zs => by rw [cut_to (by omega), Int.toNat_natCast]
    have c3 : ∀ zs : List V, cutV zs (some ((xs.length - (ss + 1) : Nat) : Int)) none = zs.drop (xs.length - (ss + 1)) := fun zs => by rw [cut_from (by omega), Int.toNat_natCast]
    have c4 : ∀ zs : List V, cutV zs (some (((kk : Nat) : Int) + 1)) none = zs.drop (kk + 1) := fun zs => by rw [cut_from (by omega), show (((kk : Nat) : Int) + 1).toNat = kk + 1 by omega]
    simp only [c1, c2, c3, c4]
    refine ⟨tyl eL4, ys, SqL.of hq4, fun l1 J1 j1 => ⟨xs, SqL.of (j1.k hp4), fun l2 J2 j2 => ⟨_, j2.k j1.at_, _, j2.at_, by rw [List.length_take, List.length_take, sizeLine_eq]; omega, fun l3 J3 j3 => ?_⟩⟩⟩
    have b3 := (j1.same.trans j2.same).trans j3.same
    refine ⟨_, sq_l (b3 _ _ hq4), _, atI_of (by omega) (by rw [Int.toNat_natCast]; exact List.getElem?_eq_getElem hk), szl (by decide), fun l4 J4 j4 => ⟨_, j4.k j3.at_, _, j4.at_, by rw [sizeLine_eq]; simp; omega, fun l5 J5 j5 => ?_⟩⟩
    have b5 := (b3.trans j4.same).trans j5.same
    refine ⟨xs, SqL.of (b5 _ _ hp4), fun l6 J6 j6 => ⟨_, j6.k j5.at_, _, j6.at_, by rw [sizeLine_eq]; simp; omega, fun l7 J7 j7 => ?_⟩⟩
    have b7 := (b5.trans j6.same).trans j7.same
    refine ⟨ys, SqL.of (b7 _ _ hq4), fun l8 J8 j8 => ⟨_, j8.k j7.at_, _, j8.at_, by rw [sizeLine_eq]; simp; omega, fun l9 J9 j9 => ?_⟩⟩
    have b9 := (b7.trans j8.same).trans j9.same
    refine ⟨_, j9.at_, fun u JA ja => ?_⟩
    have bA := b9.trans ja.same
    have eu : JA u = some (.tup (wd xs ys (i + 1))) := by
      rw [ja.at_, wn]
      unfold wks
      rw [List.getElem?_eq_getElem hk]
      rfl
    have eLA := bA _ _ eL4
    have uL : u ≠ L := fun e => by (rw [e, eLA] at eu; cases eu)
    refine ⟨_, eLA, by rw [List.length_map, sizeLine_eq]; omega, fun JB jb => hN _ _ ⟨jb.same (s4.trans bA) hL, _, _, _, ws ++ [u], rfl, by rw [jb.at_, List.map_append]; rfl, by simp [hwl], ?_, fun t c e => ?_⟩⟩
    · intro h
      rcases List.mem_append.mp h with h | h
      · exact hLw h
      · exact uL (List.mem_singleton.mp h).symm
    · by_cases ht : t < ws.length
      · rw [List.getElem?_append_left ht] at e
        exact jb.k (fun e2 => hLw (e2 ▸ List.mem_of_getElem? e)) (bA _ _ (hw t c e))
      · rw [List.getElem?_append_right (by omega)] at e
        have : t - ws.length = 0 := by
          have := (List.getElem?_eq_some_iff.mp e).1
          simp at this
          omega
        rw [this] at e
        obtain rfl := Option.some.inj e
        rw [show t = i + 1 by omega]
        exact jb.k uL eu
  · rintro _ H4 ⟨s4, v3, v4, v5, ws, rfl, eL4, hwl, hLw, hw⟩
    walk_at "wn"
    exact k L ws H4 (s2.trans s4) (s2.free hL) eL4 ⟨hwl, hw⟩ hLw
end

/-! ## R5 -/

theorem rng_app (a b : Nat) : rng (a + b) = rng a ++ (rng b).map fun k => (a : Int) + k := by
  unfold rng
  rw [List.range_add, List.map_append, List.map_map, List.map_map]
  congr 1
/-- the points behind the first m -/
def rnb (m n : Nat) : List Int := (rng n).map fun k => (m : Int) + k
theorem rnb_len (m n : Nat) : (rnb m n).length = n := by unfold rnb; rw [List.length_map, rng_len]
theorem rnb_ge {m n : Nat} {z : Int} (h : z ∈ rnb m n) : (m : Int) ≤ z := by
  obtain ⟨k, hk, rfl⟩ := List.mem_map.mp h
  have := mem_rng.mp hk
  omega
theorem rgV_rnb {m n : Nat} : rgV (m : Int) ((m : Int) + n) = (rnb m n).map V.int := by
  unfold rgV rnb rng
  rw [List.map_map, List.map_map, show ((m : Int) + n - m).toNat = n by omega]
  rfl
section
variable {P : Program} {w : World} {K : PySem.W.Frag} {mg : Str → Option Value} {base : Heap}
def sp_turn : Sp := fun vs H Q _ => ∃ (p : Addr) (m n : Nat), vs = [.ref p, .int m, .int n] ∧ H p = some (.lst ((pth m n).map V.int)) ∧ m ≤ 24 ∧ n ≤ 24 ∧ ∀ H', Same H H' → Q (.bl true) H'
abbrev st_law_path_turns : Stmt := topS 63
theorem sc_law_path_turns : FnScope ["path", "many", "more", "row", "at", "k"] ["path", "many", "more"] (defScope st_law_path_turns) := ⟨rfl, rfl, rfl, by decide +kernel, rfl, by decide +kernel, by decide +kernel⟩
theorem ok_law_path_turns (D : Df K mg "_law_path_turns" st_law_path_turns) (T : NoB mg) (Cswapped : ClX P w K mg base 5 "swapped" ["row", "index"] sp_swp) : Cl P w K mg base 6 "_law_path_turns" ["path", "many", "more"] sp_turn := by
  refine cl_of D sc_law_path_turns (fun _ _ _ _ _ _ us hl => match us, hl with | [_, _, _], _ => rfl) (fun vs H Q E h => ?_) (fun f cdv A outer sh H vs Q E hr h => ?_)
  · obtain ⟨_, _, _, rfl, _⟩ := h; rfl
  obtain ⟨p, m, n, rfl, hp, hm, hn, k⟩ := h
  refine ⟨_, (pss_cons (ps_setLc (i := 3) (own := [("k", 5)]) (g := gName 5) (tt := tYes) rfl sc_law_path_turns.nd rfl rfl (sw_true rfl rfl rfl (by decide +kernel)) (pi_range1 (by rfl) T.no_range (pa_cons (pe_op op_add (pv 1) (pv 2)) pa_nil)) (blkOk_by (own := [("k", 5)]) (N := ["path", "many", "more", "row", "at", "k"]) (sc := defScope st_law_path_turns) (by decide +kernel)) (fun _ _ _ _ _ => (pg_name (i := 5) sc_law_path_turns.nd rfl (Or.inl rfl))) (fun _ _ _ _ _ => pts_nil) (fun _ _ _ _ _ => (pv 5)))
    (pss_cons (ps_for PassesOwn.never rfl (pi_sq (pv 0)) (pg_name (i := 4) sc_law_path_turns.nd rfl (Or.inl rfl)) (pss_cons (ps_if (PW.pt (pw_or (pt_cmpR op_ge (pe_op op_add (pv 4) pe_int) (pe_callB len1 (by rfl) T.no_len (by decide +kernel) (pa_cons (pv 3) pa_nil)) (nomark _)) (pw_or (pt_cmpR op_ge (pe_ix ix1 (pv 3) (pv 4) (fun _ _ => rfl)) (pv 1) (nomark _)) (pw_or1 (pt_cmpR op_lt (pe_ix ix1 (pv 3) (pe_op op_add (pv 4) pe_int) (fun _ _ => rfl)) (pv 1) (nomark _)))))) (pss_one (ps_ret pe_bl)) pss_nil)
    (pss_one (ps_if (pt_cmpR op_le (pe_op op_add (pv 1) (pv 2)) pe_int (nomark _)) (pss_one (ps_set (i := 3) sc_law_path_turns.nd rfl (Or.inl rfl) (pe_callTy lst1 (by rfl) T.no_list (by decide +kernel) (pa_cons (pe_clX Cswapped takesN0 hr (by rfl) (pa_cons (pv 3) (pa_cons (pv 4) pa_nil))) pa_nil)))) (pss_one (ps_set (i := 3) sc_law_path_turns.nd rfl (Or.inl rfl) (pe_op op_cat (pe_op op_cat (pe_slice sl_list (pv 3) po_none (po_some (pv 4))) (pe_lst (pa_cons (pe_ix ix1 (pv 3) (pe_op op_add (pv 4) pe_int) (fun _ _ => rfl)) (pa_cons (pe_ix ix1 (pv 3) (pv 4) (fun _ _ => rfl)) pa_nil)))) (pe_slice sl_list (pv 3) (po_some (pe_op op_add (pv 4) pe_int)) po_none))))))))
    (pss_one (ps_ret (pe_cmpR (op_eqD hr.units) (pv 3) (pe_op op_cat (pe_listRg rfl (by rfl) T.no_list (prg_2 (by rfl) T.no_range (pv 1) (pe_op op_add (pv 1) (pv 2)))) (pe_listRg rfl (by rfl) T.no_list (prg_1 (by rfl) T.no_range (pv 1)))) (nomark _)))))), ?_⟩
  have emn : (m : Int) + (n : Int) = ((m + n : Nat) : Int) := by omega
  walk_at "sn"
  rw [emn]
  refine ⟨by omega, by omega, ?_⟩
  rw [Int.toNat_natCast]
  refine cr_by (fun C i acc H' => Same H H' ∧ acc = (rng i).map V.int) (fun C H0 n0 => ⟨n0.same, rfl⟩) ?_ ?_
  · rintro C i acc H1 N hC hi hacc ⟨s1, rfl⟩ hN
    refine ⟨rfl, ?_⟩
    walk_at "wn"
    refine cst hacc (by rw [List.length_map, rng_len, sizeLine_eq]; omega) fun H2 p2 => hN _ _ p2.at_ ⟨p2.same s1 hC, ?_⟩
    rw [Int.zero_add]
    unfold rng
    rw [List.range_succ, List.map_append, List.map_append]
    rfl
  rintro r0 acc H1 hr0 eacc ⟨s1, rfl⟩
  have hlx : (rng m).length = m := rng_len m
  have hly : (rnb m n).length = n := rnb_len m n
  rw [rng_app, show ((rng n).map fun k => (m : Int) + k) = rnb m n from rfl, ← wd_zero] at eacc
  walk_at "sn"
  refine fs_by (sq_l (s1 _ _ hp)) (fun i σ H' => Same H H' ∧ ∃ (r : Addr) (v4 : Option V), σ = [some (.ref p), some (.int m), some (.int n), some (.ref r), v4, none] ∧ H' r = some (.lst ((wd (rng m) (rnb m n) i).map V.int))) ⟨s1, r0, _, rfl, eacc⟩ (fun i σ' H' f o ho => by rw [s1 _ _ hp] at ho; cases ho; exact f.1 _ _ hp) ?_ ?_
  · rintro i x _ H2 N hN hx ⟨s2, r, v4, rfl, er⟩
    have hil : i < n * m := by
      have := (List.getElem?_eq_some_iff.mp hx).1
      rw [List.length_map, pth_len] at this
      exact this
    rw [List.getElem?_map, pth_at hil] at hx
    obtain rfl := Option.some.inj hx
    have hil2 : i < (rnb m n).length * (rng m).length := by rw [hlx, hly]; exact hil
    obtain ⟨A, B, a, b, w1, w2, w3, ha, hb⟩ := wd_step hil2
    have hlen := wd_len (xs := rng m) (ys := rnb m n) (t := i) (by omega)
    rw [hlx] at w3
    rw [w1, hlx, hly] at hlen
    have hla : A.length + (B.length + 1 + 1) = m + n := by simpa using hlen
    have ha2 := (mem_rng.mp ha).2
    have hb2 := rnb_ge hb
    rw [w1, List.map_append, List.map_cons, List.map_cons] at er
    have hAl : (A.map V.int).length = A.length := List.length_map _
    have g0 : atI (A.map V.int ++ V.int a :: V.int b :: B.map V.int) (A.length : Int) = some (V.int a) := atI_of (by omega) (by rw [Int.toNat_natCast, ← hAl]; exact app_get0)
    have g1 : atI (A.map V.int ++ V.int a :: V.int b :: B.map V.int) ((A.length : Int) + 1) = some (V.int b) := atI_of (by omega) (by rw [show ((A.length : Int) + 1).toNat = (A.map V.int).length + 1 by omega]; exact app_get1)
    rw [← w3]
    have done : ∀ (r' : Addr) (v4 : Option V) (H' : Hp), Same H H' → H' r' = some (.lst (A.map V.int ++ V.int b :: V.int a :: B.map V.int)) → N [some (.ref p), some (.int m), some (.int n), some (.ref r'), v4, none] H' := fun r' v4 H' s e => hN _ _ ⟨s, r', v4, rfl, by rw [w2, List.map_append, List.map_cons, List.map_cons]; exact e⟩
    walk_at "wn"
    rw [a_seq]
    walk_at "wn"
    have hlen2 : (A.map V.int ++ V.int a :: V.int b :: B.map V.int).length = m + n := by simp; omega
    refine ⟨_, sq_l er, ?_⟩
    rw [hlen2, if_neg (by omega)]
    refine ⟨_, sq_l er, _, g0, ?_⟩
    walk_at "wn"
    rw [if_neg (by omega)]
    refine ⟨_, sq_l er, _, g1, ?_⟩
    walk_at "wn"
    rw [if_neg (by omega)]
    by_cases c24 : (m : Int) + n ≤ 24
    · rw [if_pos c24]
      refine ⟨r, A.map V.int, B.map V.int, .int a, .int b, _, rfl, sq_l er, by rw [hAl], by rw [hlen2]; omega, fun u H3 s3 e3 => ?_⟩
      walk_at "wn"
      exact ⟨_, sq_t e3, fun l H4 n4 => done l _ H4 ((s2.trans s3).trans n4.same) n4.at_⟩
    · rw [if_neg c24]
      have c1 : ∀ zs : List V, cutV zs none (some ((A.length : Nat) : Int)) = zs.take A.length := fun zs => by rw [cut_to (by omega), Int.toNat_natCast]
      have c2 : ∀ zs : List V, cutV zs (some (((A.length : Nat) : Int) + 2)) none = zs.drop (A.length + 2) := fun zs => by rw [cut_from (by omega), show (((A.length : Nat) : Int) + 2).toNat = A.length + 2 by omega]
      simp only [c1, c2]
      refine ⟨_, SqL.of er, fun l1 J1 j1 => ⟨_, sq_l (j1.k er), _, g1, _, sq_l (j1.k er), _, g0, szl (by decide), fun l2 J2 j2 => ⟨_, j2.k j1.at_, _, j2.at_, by rw [sizeLine_eq]; simp; omega, fun l3 J3 j3 => ?_⟩⟩⟩
      have b3 := (j1.same.trans j2.same).trans j3.same
      refine ⟨_, SqL.of (b3 _ _ er), fun l4 J4 j4 => ⟨_, j4.k j3.at_, _, j4.at_, by rw [sizeLine_eq]; simp; omega, fun l5 J5 j5 => ?_⟩⟩
      refine done l5 _ J5 (((s2.trans b3).trans j4.same).trans j5.same) ?_
      have t1 : (A.map V.int ++ V.int a :: V.int b :: B.map V.int).take A.length = A.map V.int := by rw [← hAl]; exact app_take
      have t2 : (A.map V.int ++ V.int a :: V.int b :: B.map V.int).drop (A.length + 2) = B.map V.int := by rw [← hAl]; exact app_drop2
      rw [j5.at_, t1, t2]
      simp
  · rintro _ H2 ⟨s2, r, v4, rfl, er⟩
    rw [List.length_map, pth_len] at er
    have e2 : wd (rng m) (rnb m n) (n * m) = rnb m n ++ rng m := by
      have := wd_last (rng m) (rnb m n)
      rw [hlx, hly] at this
      exact this
    rw [e2] at er
    walk_at "wn"
    rw [rgV_rnb, rgV_rng (by omega), Int.toNat_natCast]
    refine ⟨.of_le (by omega) (by omega) (by omega) (by omega), fun l1 J1 j1 => ⟨.of_le (by decide) (by omega) (by decide) (by omega), fun l2 J2 j2 => ⟨_, j2.k j1.at_, _, j2.at_, by rw [List.length_map, List.length_map, rnb_len, rng_len, sizeLine_eq]; omega, fun l3 J3 j3 => ?_⟩⟩⟩
    have er3 := j3.k (j2.k (j1.k er))
    have e3 := j3.at_
    rw [← List.map_append] at e3
    refine ⟨_, _, .lst (SqL.of er3) (dpAll_ints _), .lst (SqL.of e3) (dpAll_ints _), shaped_ints _, shaped_ints _, ?_⟩
    rw [eqv_ints, decide_eq_true rfl]
    exact k J3 (((s2.trans j1.same).trans j2.same).trans j3.same)
end

/-! ## R6 -/

theorem dwAll_idx {E : List Addr} {H : Hp} {c : Nat} : ∀ (ws : List Addr) (f : Nat → PyData), (∀ (t : Nat) (a : Addr), ws[t]? = some a → Dw E H (.ref a) (f t) c) → DwAll E H (ws.map V.ref) ((List.range ws.length).map f) (c * ws.length)
  | [], _, _ => .nil
  | a :: r, f, h => by
    have h2 := DwAll.cons (h 0 a rfl) (dwAll_idx r (fun t => f (t + 1)) fun t b e => h (t + 1) b (by simpa using e))
    rw [List.length_cons, List.range_succ_eq_map, List.map_cons, List.map_cons, List.map_map, Nat.mul_succ, Nat.add_comm]
    exact h2
theorem wks_map {α β : Type} (f : α → β) (xs ys : List α) (k s : Nat) : wks (xs.map f) (ys.map f) k s = (wks xs ys k s).map f := by
  unfold wks
  rw [List.length_map]
  simp only [List.map_append, List.map_take, List.map_drop, List.getElem?_map]
  cases ys[k]? <;> rfl
theorem wd_map {α β : Type} (f : α → β) (xs ys : List α) (t : Nat) : wd (xs.map f) (ys.map f) t = (wd xs ys t).map f := by
  unfold wd
  rw [List.length_map, List.length_map]
  split
  · exact wks_map f xs ys _ _
  · rw [List.map_append]
theorem ints_dk {n : Nat} (zs : List Int) : ∀ d ∈ zs.map PyData.int, Dk (n + 1) d := fun d hd => by
  obtain ⟨z, _, rfl⟩ := List.mem_map.mp hd
  trivial
theorem ag_ints {a b : Addr} {zs : List Int} {H : Hp} {Q : VK} {E : XK} (ha : H a = some (.lst (zs.map V.int))) (hb : H b = some (.lst (zs.map V.int))) (hl : zs.length ≤ 10000) (k : ∀ H', Same H H' → Q (.bl true) H') : sp_agree 5 [.ref a, .ref b] H Q E :=
  ⟨_, _, .list (zs.map .int), _, _, rfl, ints_dk (n := 3) zs, .lst (by simp) ha (DwAll.ints zs), .lst (by simp) hb (DwAll.ints zs), by omega, k⟩
theorem ag_tup {a b : Addr} {zs : List Int} {H : Hp} {Q : VK} {E : XK} (ha : H a = some (.tup (zs.map V.int))) (hb : H b = some (.tup (zs.map V.int))) (hl : zs.length ≤ 10000) (k : ∀ H', Same H H' → Q (.bl true) H') : sp_agree 5 [.ref a, .ref b] H Q E :=
  ⟨_, _, .tuple (zs.map .int), _, _, rfl, ints_dk (n := 3) zs, .tup (by simp) ha (DwAll.ints zs), .tup (by simp) hb (DwAll.ints zs), by omega, k⟩
theorem Wds.dw {H : Hp} {ws : List Addr} {as bs : List Int} {L : Addr} (h : Wds H ws (as.map V.int) (bs.map V.int)) (e : H L = some (.lst (ws.map V.ref))) : Dw [] H (.ref L) (.list ((List.range (bs.length * as.length + 1)).map fun t => .tuple ((wd as bs t).map .int))) ((as.length + bs.length + 1) * (bs.length * as.length + 1) + 1) := by
  have hl := h.1
  rw [List.length_map, List.length_map] at hl
  have := dwAll_idx (E := []) (H := H) (c := as.length + bs.length + 1) ws (fun t => .tuple ((wd as bs t).map .int)) fun t a ea => by
    have h2 := h.2 t a ea
    rw [wd_map] at h2
    have ht : t ≤ bs.length * as.length := by have := (List.getElem?_eq_some_iff.mp ea).1; omega
    have h3 := Dw.tup (E := []) (by simp) h2 (DwAll.ints (wd as bs t))
    rw [wd_len ht] at h3
    exact h3
  rw [hl] at this
  exact .lst (by simp) e this
theorem ag_words {a b : Addr} {ws vs : List Addr} {as bs : List Int} {H : Hp} {Q : VK} {E : XK} (ha : H a = some (.lst (ws.map V.ref))) (hb : H b = some (.lst (vs.map V.ref))) (wa : Wds H ws (as.map V.int) (bs.map V.int)) (wb : Wds H vs (as.map V.int) (bs.map V.int)) (h1 : as.length ≤ 12) (h2 : bs.length ≤ 12) (k : ∀ H', Same H H' → Q (.bl true) H') : sp_agree 5 [.ref a, .ref b] H Q E := by
  refine ⟨_, _, _, _, _, rfl, ?_, wa.dw ha, wb.dw hb, ?_, k⟩
  · intro d hd
    obtain ⟨t, _, rfl⟩ := List.mem_map.mp hd
    exact ints_dk (n := 2) _
  · have h3 : bs.length * as.length ≤ 12 * 12 := Nat.mul_le_mul h2 h1
    have h4 : (as.length + bs.length + 1) * (bs.length * as.length + 1) ≤ 25 * 145 := Nat.mul_le_mul (by omega) (by omega)
    omega
theorem spath_ok {K : PySem.W.Frag} {H : Hp} {Q : VK} {Er : XK} {m n : Nat} (hm : m ≤ 24) (hn : n ≤ 24) (k : ∀ p H', Same H H' → H p = none → H' p = some (.lst ((pth m n).map V.int)) → Q (.ref p) H') : sp_spath K [.int m, .int n] H Q Er := by
  refine ⟨_, _, _, _, _, _, rfl, .lf (.int m), .lf (.int n), sm_small (by omega), sm_small (by omega), ?_⟩
  unfold spFlt
  rw [numOk_nat (by omega) (by omega), if_neg (by decide), numOk_nat (by omega) (by omega), if_neg (by decide)]
  intro m' n' e1 e2 _ _
  have e1 : m = m' := by have := V.int.inj e1; omega
  have e2 : n = n' := by have := V.int.inj e2; omega
  subst e1 e2
  exact k
section
variable {P : Program} {w : World} {K : PySem.W.Frag} {mg : Str → Option Value} {base : Heap}
def sp_pholds : Sp := fun vs H Q _ => ∃ (m n : Nat), vs = [.int m, .int n] ∧ m ≤ 24 ∧ n ≤ 24 ∧ ∀ H', Same H H' → Q (.bl true) H'
abbrev st_law_path_holds : Stmt := topS 64
theorem sc_law_path_holds : FnScope ["many", "more", "due", "path"] ["many", "more"] (defScope st_law_path_holds) := ⟨rfl, rfl, rfl, by decide +kernel, rfl, by decide +kernel, by decide +kernel⟩
theorem ok_law_path_holds (D : Df K mg "_law_path_holds" st_law_path_holds) (T : NoB mg) (C_law_agree : Cl P w K mg base 6 "_law_agree" ["actual", "due"] (sp_agree 5)) (C_law_path : Cl P w K mg base 1 "_law_path" ["first", "second"] sp_pidx) (C_law_path_turns : Cl P w K mg base 6 "_law_path_turns" ["path", "many", "more"] sp_turn) (Cswap_path : ClX P w K mg base 5 "swap_path" ["first", "second"] (sp_spath K)) (CK_swap_path : ClXK P w K mg base 5 "swap_path" ["first", "second"] 0 ["first", "second"] (sp_spath K)): Cl P w K mg base 7 "_law_path_holds" ["many", "more"] sp_pholds := by
  refine cl_of D sc_law_path_holds (fun _ _ _ _ _ _ us hl => match us, hl with | [_, _], _ => rfl) (fun vs H Q E h => ?_) (fun f cdv A outer sh H vs Q E hr h => ?_)
  · obtain ⟨_, _, rfl, _⟩ := h; rfl
  obtain ⟨m, n, rfl, hm, hn, k⟩ := h
  refine ⟨_, (pss_cons (ps_set (i := 2) sc_law_path_holds.nd rfl (Or.inl rfl) (pe_cl C_law_path hr (by rfl) (pa_cons (pv 0) (pa_cons (pv 1) pa_nil))))
    (pss_cons (ps_set (i := 3) sc_law_path_holds.nd rfl (Or.inl rfl) (pe_clX Cswap_path takesN0 hr (by rfl) (pa_cons (pv 0) (pa_cons (pv 1) pa_nil))))
    (pss_cons (ps_if (PW.pt (pw_or (pt_not (pt_val (pe_cl C_law_agree hr (by rfl) (pa_cons (pv 3) (pa_cons (pv 2) pa_nil))))) (pw_or1 (pt_not (pt_val (pe_cl C_law_path_turns hr (by rfl) (pa_cons (pv 2) (pa_cons (pv 0) (pa_cons (pv 1) pa_nil))))))))) (pss_one (ps_ret pe_bl)) pss_nil)
    (pss_cons (ps_expr (pe_bm PySem.F.plainAttrs_list PySem.F.slot_list_append PySem.F.type_list_append mt_append (pv 3) (pa_cons pe_int pa_nil)))
    (pss_cons (ps_expr (pe_bm0 PySem.F.plainAttrs_list PySem.F.slot_list_reverse PySem.F.type_list_reverse mt_reverse (pv 3)))
    (pss_one (ps_ret (pe_cl C_law_agree hr (by rfl) (pa_cons (pe_clXK0 CK_swap_path hr (by rfl) (pk_cons (pv 0) (pk_cons (pv 1) pk_nil))) (pa_cons (pv 2) pa_nil)))))))))), ?_⟩
  have hpl : (pth m n).length ≤ 10000 := by
    rw [pth_len]
    have : n * m ≤ 24 * 24 := Nat.mul_le_mul hn hm
    omega
  walk_at "sn"
  refine ⟨m, n, rfl, by omega, by omega, by omega, by omega, fun L1 H1 s1 f1 e1 => ?_⟩
  rw [Int.toNat_natCast, Int.toNat_natCast] at e1
  walk_at "sn"
  refine spath_ok hm hn fun L2 H2 s2 f2 e2 => ?_
  have L12 : L1 ≠ L2 := fun e => by rw [← e, e1] at f2; cases f2
  walk_at "sn"
  refine ag_ints e2 (s2 _ _ e1) hpl fun H3 s3 => ?_
  have e13 := s3 _ _ (s2 _ _ e1)
  have e23 := s3 _ _ e2
  have s13 := (s1.trans s2).trans s3
  have fL2 : H L2 = none := s1.free f2
  walk_at "wn"
  refine ⟨L1, m, n, rfl, e13, hm, hn, fun H4 s4 => ?_⟩
  have e24 := s4 _ _ e23
  walk_at "wn"
  rw [a_seq]
  walk_at "wn"
  refine ⟨tyl e24, _, e24, by rw [List.length_map, sizeLine_eq]; omega, fun H5 p5 => ?_⟩
  have e25 := p5.at_
  have s15 := p5.same (s13.trans s4) fL2
  have e15 := p5.k L12 (s4 _ _ e13)
  walk_at "sn"
  refine ⟨tyl e25, L2, _, rfl, rfl, e25, ?_⟩
  have p6 : Put H5 L2 (.lst ((pth m n).map V.int ++ [V.int 7]).reverse) (upd H5 L2 (.lst ((pth m n).map V.int ++ [V.int 7]).reverse)) := Put.mk'
  have s16 := p6.same s15 fL2
  have e16 := p6.k L12 e15
  refine spath_ok hm hn fun L3 H7 s7 f7 e7 => ?_
  exact ag_ints e7 (s7 _ _ e16) hpl fun H8 s8 => k H8 ((s16.trans s7).trans s8)
def sp_whold : Sp := fun vs H Q _ => ∃ (s l p q : Addr) (as bs : List Int), vs = [.ref s, .ref p, .ref q] ∧ Sto s l H ∧ p ≠ s ∧ q ≠ s ∧ H p = some (.lst (as.map V.int)) ∧ H q = some (.lst (bs.map V.int)) ∧ as.length ≤ 12 ∧ bs.length ≤ 12 ∧ ∀ H', Ge s l H H' → Q (.bl true) H'
abbrev st_law_words_hold : Stmt := topS 65
theorem sc_law_words_hold : FnScope ["store", "first", "second", "due", "one", "two", "words", "again", "path", "k"] ["store", "first", "second"] (defScope st_law_words_hold) := ⟨rfl, rfl, rfl, by decide +kernel, rfl, by decide +kernel, by decide +kernel⟩
theorem ok_law_words_hold (D : Df K mg "_law_words_hold" st_law_words_hold) (T : NoB mg) (C_law_agree : Cl P w K mg base 6 "_law_agree" ["actual", "due"] (sp_agree 5)) (C_law_either : Cl P w K mg base 3 "_law_either" ["store", "entries"] sp_either) (C_law_words : Cl P w K mg base 1 "_law_words" ["first", "second"] sp_lwords) (Cpath_words : ClX P w K mg base 5 "path_words" ["first", "second"] (sp_pwords K)) (Cswap_path : ClX P w K mg base 5 "swap_path" ["first", "second"] (sp_spath K)) (Cswapped : ClX P w K mg base 5 "swapped" ["row", "index"] sp_swp) : Cl P w K mg base 7 "_law_words_hold" ["store", "first", "second"] sp_whold := by
  refine cl_of D sc_law_words_hold (fun _ _ _ _ _ _ us hl => match us, hl with | [_, _, _], _ => rfl) (fun vs H Q E h => ?_) (fun f cdv A outer sh H vs Q E hr h => ?_)
  · obtain ⟨_, _, _, _, _, _, rfl, _⟩ := h; rfl
  obtain ⟨s, l, p, q, as, bs, rfl, st, ps, qs, hp, hq, ha, hb, k⟩ := h
  refine ⟨_, (pss_cons (ps_set (i := 3) sc_law_words_hold.nd rfl (Or.inl rfl) (pe_cl C_law_words hr (by rfl) (pa_cons (pv 1) (pa_cons (pv 2) pa_nil))))
    (pss_cons (ps_set (i := 4) sc_law_words_hold.nd rfl (Or.inl rfl) (pe_cl C_law_either hr (by rfl) (pa_cons (pv 0) (pa_cons (pv 1) pa_nil))))
    (pss_cons (ps_set (i := 5) sc_law_words_hold.nd rfl (Or.inl rfl) (pe_cl C_law_either hr (by rfl) (pa_cons (pv 0) (pa_cons (pv 2) pa_nil))))
    (pss_cons (ps_set (i := 6) sc_law_words_hold.nd rfl (Or.inl rfl) (pe_clX Cpath_words takesN0 hr (by rfl) (pa_cons (pv 4) (pa_cons (pv 5) pa_nil))))
    (pss_cons (ps_if (PW.pt (pw_or (pt_not (pt_val (pe_cl C_law_agree hr (by rfl) (pa_cons (pv 6) (pa_cons (pv 3) pa_nil))))) (pw_or1 (pt_cmpR op_ne (pe_callB len1 (by rfl) T.no_len (by decide +kernel) (pa_cons (pv 3) pa_nil)) (pe_op op_add (pe_op op_mul (pe_callB len1 (by rfl) T.no_len (by decide +kernel) (pa_cons (pv 1) pa_nil)) (pe_callB len1 (by rfl) T.no_len (by decide +kernel) (pa_cons (pv 2) pa_nil))) pe_int) (nomark _))))) (pss_one (ps_ret pe_bl)) pss_nil)
    (pss_cons (ps_if (PW.pt (pw_or (pt_not (pt_val (pe_cl C_law_agree hr (by rfl) (pa_cons (pe_callTy lst1 (by rfl) T.no_list (by decide +kernel) (pa_cons (pv 4) pa_nil)) (pa_cons (pv 1) pa_nil))))) (pw_or1 (pt_not (pt_val (pe_cl C_law_agree hr (by rfl) (pa_cons (pe_callTy lst1 (by rfl) T.no_list (by decide +kernel) (pa_cons (pv 5) pa_nil)) (pa_cons (pv 2) pa_nil)))))))) (pss_one (ps_ret pe_bl)) pss_nil)
    (pss_cons (ps_expr (pe_bm PySem.F.plainAttrs_list PySem.F.slot_list_append PySem.F.type_list_append mt_append (pv 6) (pa_cons (pe_tup pa_nil) pa_nil)))
    (pss_cons (ps_set (i := 7) sc_law_words_hold.nd rfl (Or.inl rfl) (pe_clX Cpath_words takesN0 hr (by rfl) (pa_cons (pv 4) (pa_cons (pv 5) pa_nil))))
    (pss_cons (ps_set (i := 8) sc_law_words_hold.nd rfl (Or.inl rfl) (pe_clX Cswap_path takesN0 hr (by rfl) (pa_cons (pe_callB len1 (by rfl) T.no_len (by decide +kernel) (pa_cons (pv 1) pa_nil)) (pa_cons (pe_callB len1 (by rfl) T.no_len (by decide +kernel) (pa_cons (pv 2) pa_nil)) pa_nil))))
    (pss_cons (ps_for PassesOwn.never rfl (pi_range1 (by rfl) T.no_range (pa_cons (pe_callB len1 (by rfl) T.no_len (by decide +kernel) (pa_cons (pv 8) pa_nil)) pa_nil)) (pg_name (i := 9) sc_law_words_hold.nd rfl (Or.inl rfl)) (pss_one (ps_if (pt_not (pt_val (pe_cl C_law_agree hr (by rfl) (pa_cons (pe_clX Cswapped takesN0 hr (by rfl) (pa_cons (pe_ix ix1 (pv 7) (pv 9) (fun _ _ => rfl)) (pa_cons (pe_ix ix1 (pv 8) (pv 9) (fun _ _ => rfl)) pa_nil))) (pa_cons (pe_ix ix1 (pv 3) (pe_op op_add (pv 9) pe_int) (fun _ _ => rfl)) pa_nil))))) (pss_one (ps_ret pe_bl)) pss_nil)))
    (pss_one (ps_ret (pe_cl C_law_agree hr (by rfl) (pa_cons (pv 7) (pa_cons (pv 3) pa_nil))))))))))))))), ?_⟩
  have hla : (as.map V.int).length = as.length := List.length_map _
  have hlb : (bs.map V.int).length = bs.length := List.length_map _
  have hbig : bs.length * as.length ≤ 12 * 12 := Nat.mul_le_mul hb ha
  walk_at "sn"
  refine ⟨p, q, _, _, rfl, hp, hq, by omega, by omega, fun L0 ws0 H1 s1 f0 e0 w0 n0 => ?_⟩
  have L0s : L0 ≠ s := (st.ne f0).1
  have g1 := (Ge.refl st).same s1
  walk_at "sn"
  refine ⟨s, l, p, _, rfl, g1.st, ps, s1 _ _ hp, fun o1 H2 g2 fo1 eo1 => ?_⟩
  have g12 := g1.trans g2
  walk_at "sn"
  refine ⟨s, l, q, _, rfl, g12.st, qs, g2.k qs (s1 _ _ hq), fun o2 H3 g3 fo2 eo2 => ?_⟩
  have g13 := g12.trans g3
  have g23 := g2.trans g3
  have w03 : Wds H3 ws0 (as.map V.int) (bs.map V.int) := ⟨w0.1, fun t a e => g23.k (g1.st.ne' (w0.2 t a e) (by intros; simp)) (w0.2 t a e)⟩
  have e03 := g23.k L0s e0
  have o1s : o1 ≠ s := (g1.st.ne fo1).1
  have qo1 : sq H3 o1 = some (as.map V.int) := by
    rcases eo1 with e | e
    · exact sq_t (g3.k o1s e)
    · exact sq_l (g3.k o1s e)
  have qo2 : sq H3 o2 = some (bs.map V.int) := by
    rcases eo2 with e | e
    · exact sq_t e
    · exact sq_l e
  have hp3 := g13.k ps hp
  have hq3 := g13.k qs hq
  walk_at "sn"
  refine ⟨o1, o2, _, _, rfl, qo1, qo2, fun c => by omega, fun _ _ L1 ws1 H4 s4 f1 e1 w1 n1 => ?_⟩
  have L01 : L0 ≠ L1 := fun e => by rw [← e, e03] at f1; cases f1
  walk_at "sn"
  refine ag_words e1 (s4 _ _ e03) w1 (w03.same s4) ha hb fun H5 s5 => ?_
  have t5 := s4.trans s5
  have e15 := s5 _ _ e1
  walk_at "wn"
  refine ⟨_, sq_l (t5 _ _ e03), _, sq_l (t5 _ _ hp3), _, sq_l (t5 _ _ hq3), .inl (by omega), ?_⟩
  have hlw := w03.1
  rw [hla, hlb] at hlw
  have emul : (as.length : Int) * (bs.length : Int) + 1 = ((bs.length * as.length + 1 : Nat) : Int) := by
    rw [Int.natCast_add, Int.natCast_mul, Int.mul_comm]
    rfl
  rw [List.length_map, hla, hlb, hlw, emul, if_neg (by simp)]
  walk_at "sn"
  refine ⟨_, same_sq t5 qo1, fun c1 H6 m6 => ag_ints m6.at_ (m6.k (t5 _ _ hp3)) (by omega) fun H7 s7 => ?_⟩
  have t7 := (t5.trans m6.same).trans s7
  walk_at "wn"
  refine ⟨_, same_sq t7 qo2, fun c2 H8 m8 => ag_ints m8.at_ (m8.k (t7 _ _ hq3)) (by omega) fun H9 s9 => ?_⟩
  have t9 := (t7.trans m8.same).trans s9
  have e19 := (((m6.same.trans s7).trans m8.same).trans s9) _ _ e15
  walk_at "wn"
  walk_at "sn"
  have hl1 := w1.1
  rw [hla, hlb] at hl1
  refine ⟨tyl e19, szl (by decide), fun z Ha na => ⟨_, na.k e19, by rw [List.length_map, hl1, sizeLine_eq]; omega, fun Hb pb => ?_⟩⟩
  have tb := pb.same (t9.trans na.same) f1
  walk_at "sn"
  refine ⟨o1, o2, _, _, rfl, same_sq tb qo1, same_sq tb qo2, fun c => by omega, fun _ _ L2 ws2 Hc sc f2 e2 w2 n2 => ?_⟩
  have tc := tb.trans sc
  walk_at "sn"
  refine ⟨_, sq_l (tc _ _ hp3), _, sq_l (tc _ _ hq3), ?_⟩
  rw [hla, hlb]
  refine spath_ok (by omega) (by omega) fun L3 Hd sd fd ed => ?_
  have td := tc.trans sd
  have e2d := sd _ _ e2
  have w2d := w2.same sd
  have e0d := td _ _ e03
  have w0d := w03.same td
  walk_at "sn"
  refine ⟨_, sq_l ed, ?_⟩
  rw [List.length_map, pth_len]
  refine ⟨by omega, by omega, ?_⟩
  rw [Int.toNat_natCast]
  refine fr_by (fun i σ H' => Same Hd H' ∧ ∃ v9 : Option V, σ = [some (.ref s), some (.ref p), some (.ref q), some (.ref L0), some (.ref o1), some (.ref o2), some (.ref L1), some (.ref L2), some (.ref L3), v9]) ⟨Same.refl _, _, rfl⟩ ?_ ?_
  · rintro i _ He N hN hi ⟨se, v9, rfl⟩
    have hl2 := w2d.1
    have hl0 := w0d.1
    rw [hla, hlb] at hl2 hl0
    have ga := List.getElem?_eq_getElem (show i < ws2.length by omega)
    have gb := List.getElem?_eq_getElem (show i + 1 < ws0.length by omega)
    generalize ws2[i] = xa at ga
    generalize ws0[i + 1] = xb at gb
    have ea := se _ _ (w2d.2 i xa ga)
    have eb := se _ _ (w0d.2 (i + 1) xb gb)
    rw [wd_map] at ea eb
    obtain ⟨A, B, a, b, u1, u2, u3, _, _⟩ := wd_step (xs := as) (ys := bs) hi
    have hlen := wd_len (xs := as) (ys := bs) (t := i) (by omega)
    rw [u1, List.map_append, List.map_cons, List.map_cons] at ea
    rw [u1] at hlen
    have hla' : A.length + (B.length + 1 + 1) = as.length + bs.length := by simpa using hlen
    walk_at "wn"
    rw [Int.zero_add]
    refine ⟨_, sq_l (se _ _ e2d), .ref xa, atI_of (by omega) (by rw [Int.toNat_natCast, List.getElem?_map, ga]; rfl), _, sq_l (se _ _ ed), .int (pix as.length i : Int), atI_of (by omega) (by rw [Int.toNat_natCast, List.getElem?_map, pth_at hi]; rfl), ?_⟩
    refine ⟨xa, A.map V.int, B.map V.int, .int a, .int b, _, rfl, sq_t ea, by rw [List.length_map, u3], by simp; omega, fun u Hf sf ef => ?_⟩
    walk_at "wn"
    refine ⟨_, sq_l ((se.trans sf) _ _ e0d), .ref xb, atI_of (by omega) (by rw [show ((i : Int) + 1).toNat = i + 1 by omega, List.getElem?_map, gb]; rfl), ?_⟩
    refine ag_tup (zs := wd as bs (i + 1)) ?_ (sf _ _ eb) (by rw [wd_len (by omega)]; omega) fun Hg sg => ?_
    · rw [ef, u2, List.map_append, List.map_cons, List.map_cons]
    · walk_at "wn"
      exact hN _ _ ⟨(se.trans sf).trans sg, _, rfl⟩
  · rintro _ He ⟨se, v9, rfl⟩
    walk_at "wn"
    exact ag_words (se _ _ e2d) (se _ _ e0d) (w2d.same se) (w0d.same se) ha hb fun Hg sg => k Hg (g13.same ((td.trans se).trans sg))
def sp_refuses : Sp := fun vs H Q _ => ∃ (rows : Bool) (v1 v2 : V) (du : Addr) (f : Flt), vs = [.bl rows, v1, v2, .ref du] ∧ DueAt H du f ∧
  (rows = true → ∃ (p q : Addr) (xs ys : List V), v1 = .ref p ∧ v2 = .ref q ∧ sq H p = some xs ∧ sq H q = some ys ∧ (12 < xs.length ∨ 12 < ys.length) ∧ f = .many "row" 12) ∧
  (rows = false → ∃ (d1 d2 : PyData) (n1 n2 : Nat), Dw [] H v1 d1 n1 ∧ Dw [] H v2 d2 n2 ∧ Sm v1 ∧ Sm v2 ∧ spFlt v1 v2 = some f) ∧ ∀ H', Same H H' → Q (.bl true) H'
abbrev st_law_refuses : Stmt := topS 66
theorem sc_law_refuses : FnScope ["rows", "one", "two", "due", "error"] ["rows", "one", "two", "due"] (defScope st_law_refuses) := ⟨rfl, rfl, rfl, by decide +kernel, rfl, by decide +kernel, by decide +kernel⟩
theorem ok_law_refuses (D : Df K mg "_law_refuses" st_law_refuses) (T : NoB mg) (C_law_right_errorH : ClH P w K mg base 7 "_law_right_error" ["error", "due"] (sp_rerrH K)) (Cpath_words : ClX P w K mg base 5 "path_words" ["first", "second"] (sp_pwords K)) (Cswap_path : ClX P w K mg base 5 "swap_path" ["first", "second"] (sp_spath K)) (EH : mg "HeldorderError" = some (.ref (He.ga K "HeldorderError"))) (exmF : ∀ f : Flt, f.cls ∈ errL → PySem.W.exmOne K (.ref (He.ga K f.cls)) (.ref (He.ga K "HeldorderError")) = some true): Cl P w K mg base 8 "_law_refuses" ["rows", "one", "two", "due"] sp_refuses := by
  refine cl_of D sc_law_refuses (fun _ _ _ _ _ _ us hl => match us, hl with | [_, _, _, _], _ => rfl) (fun vs H Q E h => ?_) (fun f cdv A outer sh H vs Q E hr h => ?_)
  · obtain ⟨_, _, _, _, _, rfl, _⟩ := h; rfl
  obtain ⟨rows, v1, v2, du, f, rfl, hdue, k1, k2, k⟩ := h
  refine ⟨_, (pss_cons (L2N.ps_try_as (i := 4) rfl rfl sc_law_refuses.nd rfl rfl ⟨by rfl, by decide, .inl EH⟩ takesN0 (fun W pn xe tk po => (pss_one (ps_if (pt_val (pv 0)) (pss_one (ps_expr (pe_clX Cpath_words tk hr (by rfl) (pa_cons (pv 1) (pa_cons (pv 2) pa_nil))))) (pss_one (ps_expr (pe_clX Cswap_path tk hr (by rfl) (pa_cons (pv 1) (pa_cons (pv 2) pa_nil)))))))) (fun a oe cls d pn hz hf => (pss_one (ps_ret (pe_clU C_law_right_errorH hz hf hr (by rfl) (pa_cons (pv 4) (pa_cons (pv 3) pa_nil)))))))
    (pss_one (ps_ret pe_bl))), ?_⟩
  rw [a_seq]
  walk_at "wn"
  cases rows with
  | true =>
    obtain ⟨p, q, xs, ys, rfl, rfl, hp, hq, hlen, rfl⟩ := k1 rfl
    refine ⟨p, q, xs, ys, rfl, hp, hq, fun _ => ?_, fun c1 c2 => by omega⟩
    intro dd G0 G1 t3 m4
    refine ⟨true, exmF _ hdue.1, fun _ a1 ha1 => ?_, fun z => by cases z⟩
    have t4 := t3.trans m4.same
    walk_at "wn"
    exact ⟨_, du, dd, rfl, rfl, rfl, m4.at_, hdue.same t4, fun H5 s5 => k H5 (t4.trans s5)⟩
  | false =>
    obtain ⟨d1, d2, n1, n2, h1, h2, m1, m2, hf⟩ := k2 rfl
    refine ⟨v1, v2, d1, d2, n1, n2, rfl, h1, h2, m1, m2, ?_⟩
    rw [hf]
    intro dd G0 G1 t3 m4
    refine ⟨true, exmF _ hdue.1, fun _ a1 ha1 => ?_, fun z => by cases z⟩
    have t4 := t3.trans m4.same
    walk_at "wn"
    exact ⟨_, du, dd, rfl, rfl, rfl, m4.at_, hdue.same t4, fun H5 s5 => k H5 (t4.trans s5)⟩
end

/-! ## R7 -/

theorem Dk.mono : ∀ {n : Nat} {d : PyData}, Dk n d → Dk (n + 1) d
  | 0, _, h => h.elim
  | n + 1, .list ds, h => fun e he => (h e he).mono
  | n + 1, .tuple ds, h => fun e he => (h e he).mono
  | n + 1, .none, _ => trivial
  | n + 1, .bool _, _ => trivial
  | n + 1, .int _, _ => trivial
  | n + 1, .str _, _ => trivial
  | n + 1, .dict _, _ => trivial
theorem due_num {H : Hp} {du : Addr} {x : V} {lo hi : Int} {d : PyData} {n : Nat} (hx : Dw [] H x d n) (hn : n ≤ 100) (hk : Dk 3 d) (e : H du = some (.tup [.str "BadNumber", x, .int lo, .int hi])) : DueAt H du (.num x lo hi) := by
  have l8 : ("BadNumber" : Str).length = 9 := by decide +kernel
  refine ⟨by show ("BadNumber" : Str) ∈ errL; decide +kernel, e, _, _, .cons (.lf (.str "BadNumber")) (.cons hx (.cons (.lf (.int lo)) (.cons (.lf (.int hi)) .nil))), fun d hd => ?_, by omega⟩
  simp only [List.mem_cons, List.not_mem_nil, or_false] at hd
  rcases hd with rfl | rfl | rfl | rfl
  · trivial
  · exact hk.mono
  · trivial
  · trivial
theorem due_row {H : Hp} {du : Addr} (e : H du = some (.tup [.str "TooMany", .str "row", .int 12])) : DueAt H du (.many "row" 12) := by
  have l8 : ("TooMany" : Str).length = 7 := by decide +kernel
  have l3 : ("row" : Str).length = 3 := by decide +kernel
  refine ⟨by show ("TooMany" : Str) ∈ errL; decide +kernel, e, _, _, .cons (.lf (.str "TooMany")) (.cons (.lf (.str "row")) (.cons (.lf (.int 12)) .nil)), fun d hd => ?_, by omega⟩
  simp only [List.mem_cons, List.not_mem_nil, or_false] at hd
  rcases hd with rfl | rfl | rfl <;> trivial
def sp_law (K : PySem.W.Frag) : Sp := fun vs H Q _ => ∃ (a : Addr) (ns : List Int), vs = [.ref a] ∧ SqL K H a (ns.map V.int) ∧ ns.length ≤ 63 ∧ ∀ H', Q (.bl true) H'
section
variable {P : Program} {w : World} {K : PySem.W.Frag} {mg : Str → Option Value} {base : Heap}
abbrev stlaw : Stmt := topS 67
theorem sclaw : FnScope ["script", "store", "many", "more", "first", "second", "bad", "wide", "k"] ["script"] (defScope stlaw) := ⟨rfl, rfl, rfl, by decide +kernel, rfl, by decide +kernel, by decide +kernel⟩
theorem oklaw {f : Addr} {fd : FuncData} (F : FnP K "law" stlaw f fd) (T : NoB mg) (C_law_big : Cl P w K mg base 4 "_law_big" ["store"] sp_big) (C_law_either : Cl P w K mg base 3 "_law_either" ["store", "entries"] sp_either) (C_law_path_holds : Cl P w K mg base 7 "_law_path_holds" ["many", "more"] sp_pholds) (C_law_pick : Cl P w K mg base 3 "_law_pick" ["store", "things"] sp_pick) (C_law_place : Cl P w K mg base 3 "_law_place" ["store", "size"] sp_place) (C_law_refuses : Cl P w K mg base 8 "_law_refuses" ["rows", "one", "two", "due"] sp_refuses) (C_law_store : Cl P w K mg base 1 "_law_store" ["script"] (sp_store K)) (C_law_take : Cl P w K mg base 2 "_law_take" ["store", "many"] sp_take) (C_law_words_hold : Cl P w K mg base 7 "_law_words_hold" ["store", "first", "second"] sp_whold) (C_law_wrong_number : Cl P w K mg base 4 "_law_wrong_number" ["store", "low", "high"] sp_wnum) : FnOk P w K mg base CX0 9 f fd ["script"] (sp_law K) := by
  refine fn_ofF F sclaw (fun vs H Q E h => ?_) (fun f cdv A outer sh H vs Q E hr h => ?_)
  · obtain ⟨_, _, rfl, _⟩ := h; rfl
  obtain ⟨a, cells, rfl, hs, hn, k⟩ := h
  refine ⟨_, (pss_cons (ps_set (i := 1) sclaw.nd rfl (Or.inr rfl) (pe_cl C_law_store hr (by rfl) (pa_cons (pv 0) pa_nil)))
    (pss_cons (ps_set (i := 2) sclaw.nd rfl (Or.inl rfl) (pe_cl C_law_place hr (by rfl) (pa_cons (pv 1) (pa_cons pe_int pa_nil))))
    (pss_cons (ps_set (i := 3) sclaw.nd rfl (Or.inl rfl) (pe_cl C_law_place hr (by rfl) (pa_cons (pv 1) (pa_cons pe_int pa_nil))))
    (pss_cons (ps_if (PW.pt (pw_or (pt_not (pt_val (pe_cl C_law_path_holds hr (by rfl) (pa_cons (pv 2) (pa_cons (pv 3) pa_nil))))) (pw_or1 (pt_not (pt_val (pe_cl C_law_path_holds hr (by rfl) (pa_cons (pv 3) (pa_cons (pv 2) pa_nil)))))))) (pss_one (ps_ret pe_bl)) pss_nil)
    (pss_cons (ps_setLc (i := 4) (own := [("k", 8)]) (g := gName 8) (tt := tYes) rfl sclaw.nd rfl rfl (sw_true rfl rfl rfl (by decide +kernel)) (pi_range1 (by rfl) T.no_range (pa_cons (pe_cl C_law_place hr (by rfl) (pa_cons (pv 1) (pa_cons pe_int pa_nil))) pa_nil)) (blkOk_by (own := [("k", 8)]) (N := ["script", "store", "many", "more", "first", "second", "bad", "wide", "k"]) (sc := defScope stlaw) (by decide +kernel)) (fun _ _ _ _ _ => (pg_name (i := 8) sclaw.nd rfl (Or.inl rfl))) (fun _ _ _ _ _ => pts_nil) (fun _ _ _ _ _ => (pe_cl C_law_big hr (by rfl) (pa_cons (pv 1) pa_nil))))
    (pss_cons (ps_setLc (i := 5) (own := [("k", 8)]) (g := gName 8) (tt := tYes) rfl sclaw.nd rfl rfl (sw_true rfl rfl rfl (by decide +kernel)) (pi_range1 (by rfl) T.no_range (pa_cons (pe_cl C_law_place hr (by rfl) (pa_cons (pv 1) (pa_cons pe_int pa_nil))) pa_nil)) (blkOk_by (own := [("k", 8)]) (N := ["script", "store", "many", "more", "first", "second", "bad", "wide", "k"]) (sc := defScope stlaw) (by decide +kernel)) (fun _ _ _ _ _ => (pg_name (i := 8) sclaw.nd rfl (Or.inl rfl))) (fun _ _ _ _ _ => pts_nil) (fun _ _ _ _ _ => (pe_cl C_law_big hr (by rfl) (pa_cons (pv 1) pa_nil))))
    (pss_cons (ps_if (pt_cmpR op_eq (pe_cl C_law_take hr (by rfl) (pa_cons (pv 1) (pa_cons pe_int pa_nil))) pe_int (nomark _)) (pss_cons (ps_setLc (i := 5) (own := [("k", 8)]) (g := gName 8) (tt := tYes) rfl sclaw.nd rfl rfl (sw_true rfl rfl rfl (by decide +kernel)) (pi_range1 (by rfl) T.no_range (pa_cons (pe_callB len1 (by rfl) T.no_len (by decide +kernel) (pa_cons (pv 5) pa_nil)) pa_nil)) (blkOk_by (own := [("k", 8)]) (N := ["script", "store", "many", "more", "first", "second", "bad", "wide", "k"]) (sc := defScope stlaw) (by decide +kernel)) (fun _ _ _ _ _ => (pg_name (i := 8) sclaw.nd rfl (Or.inl rfl))) (fun _ _ _ _ _ => pts_nil) (fun _ _ _ _ _ => (pe_cl C_law_take hr (by rfl) (pa_cons (pv 1) (pa_cons pe_int pa_nil)))))
    (pss_one (ps_setLc (i := 4) (own := [("k", 8)]) (g := gName 8) (tt := tYes) rfl sclaw.nd rfl rfl (sw_true rfl rfl rfl (by decide +kernel)) (pi_range1 (by rfl) T.no_range (pa_cons (pe_callB len1 (by rfl) T.no_len (by decide +kernel) (pa_cons (pv 4) pa_nil)) pa_nil)) (blkOk_by (own := [("k", 8)]) (N := ["script", "store", "many", "more", "first", "second", "bad", "wide", "k"]) (sc := defScope stlaw) (by decide +kernel)) (fun _ _ _ _ _ => (pg_name (i := 8) sclaw.nd rfl (Or.inl rfl))) (fun _ _ _ _ _ => pts_nil) (fun _ _ _ _ _ => (pe_cl C_law_take hr (by rfl) (pa_cons (pv 1) (pa_cons pe_int pa_nil))))))) pss_nil)
    (pss_cons (ps_if (PW.pt (pw_or (pt_not (pt_val (pe_cl C_law_words_hold hr (by rfl) (pa_cons (pv 1) (pa_cons (pv 4) (pa_cons (pv 5) pa_nil)))))) (pw_or1 (pt_not (pt_val (pe_cl C_law_words_hold hr (by rfl) (pa_cons (pv 1) (pa_cons (pv 5) (pa_cons (pv 4) pa_nil))))))))) (pss_one (ps_ret pe_bl)) pss_nil)
    (pss_cons (ps_set (i := 6) sclaw.nd rfl (Or.inl rfl) (pe_cl C_law_wrong_number hr (by rfl) (pa_cons (pv 1) (pa_cons pe_int (pa_cons pe_int pa_nil)))))
    (pss_cons (ps_if (pt_not (pt_val (pe_cl C_law_refuses hr (by rfl) (pa_cons pe_bl (pa_cons (pv 6) (pa_cons (pe_cl C_law_pick hr (by rfl) (pa_cons (pv 1) (pa_cons (pe_lst (pa_cons (pv 3) (pa_cons pe_int (pa_cons pe_non pa_nil)))) pa_nil))) (pa_cons (pe_tup (pa_cons pe_str (pa_cons (pv 6) (pa_cons pe_int (pa_cons pe_int pa_nil))))) pa_nil))))))) (pss_one (ps_ret pe_bl)) pss_nil)
    (pss_cons (ps_if (pt_not (pt_val (pe_cl C_law_refuses hr (by rfl) (pa_cons pe_bl (pa_cons (pv 2) (pa_cons (pv 6) (pa_cons (pe_tup (pa_cons pe_str (pa_cons (pv 6) (pa_cons pe_int (pa_cons pe_int pa_nil))))) pa_nil))))))) (pss_one (ps_ret pe_bl)) pss_nil)
    (pss_cons (ps_setLc (i := 7) (own := [("k", 8)]) (g := gName 8) (tt := tYes) rfl sclaw.nd rfl rfl (sw_true rfl rfl rfl (by decide +kernel)) (pi_range1 (by rfl) T.no_range (pa_cons (pe_cl C_law_pick hr (by rfl) (pa_cons (pv 1) (pa_cons (pe_lst (pa_cons pe_int (pa_cons pe_int (pa_cons pe_int (pa_cons pe_int (pa_cons pe_int pa_nil)))))) pa_nil))) pa_nil)) (blkOk_by (own := [("k", 8)]) (N := ["script", "store", "many", "more", "first", "second", "bad", "wide", "k"]) (sc := defScope stlaw) (by decide +kernel)) (fun _ _ _ _ _ => (pg_name (i := 8) sclaw.nd rfl (Or.inl rfl))) (fun _ _ _ _ _ => pts_nil) (fun _ _ _ _ _ => (pe_cl C_law_big hr (by rfl) (pa_cons (pv 1) pa_nil))))
    (pss_cons (ps_if (pt_not (pt_val (pe_cl C_law_refuses hr (by rfl) (pa_cons pe_bl (pa_cons (pe_cl C_law_either hr (by rfl) (pa_cons (pv 1) (pa_cons (pv 7) pa_nil))) (pa_cons (pe_cl C_law_either hr (by rfl) (pa_cons (pv 1) (pa_cons (pv 5) pa_nil))) (pa_cons (pe_tup (pa_cons pe_str (pa_cons pe_str (pa_cons pe_int pa_nil)))) pa_nil))))))) (pss_one (ps_ret pe_bl)) pss_nil)
    (pss_cons (ps_if (pt_not (pt_val (pe_cl C_law_refuses hr (by rfl) (pa_cons pe_bl (pa_cons (pe_cl C_law_either hr (by rfl) (pa_cons (pv 1) (pa_cons (pv 4) pa_nil))) (pa_cons (pe_cl C_law_either hr (by rfl) (pa_cons (pv 1) (pa_cons (pv 7) pa_nil))) (pa_cons (pe_tup (pa_cons pe_str (pa_cons pe_str (pa_cons pe_int pa_nil)))) pa_nil))))))) (pss_one (ps_ret pe_bl)) pss_nil)
    (pss_one (ps_ret (pe_and (pe_cl C_law_path_holds hr (by rfl) (pa_cons (pv 3) (pa_cons (pv 2) pa_nil))) (pe_one (pe_cl C_law_words_hold hr (by rfl) (pa_cons (pv 1) (pa_cons (pe_slice sl_list (pv 4) po_none (po_some pe_int)) (pa_cons (pv 5) pa_nil)))))))))))))))))))))), ?_⟩
  walk_at "sn"
  refine ⟨a, cells, rfl, hs, by omega, fun s l H1 s1 hs1 st => ?_⟩
  walk_at "sn"
  refine ⟨s, l, _, rfl, st, by decide, by decide, fun m' H2 g2 m0 m1 => ?_⟩
  obtain ⟨m, rfl⟩ : ∃ q : Nat, m' = q := ⟨m'.toNat, by omega⟩
  walk_at "sn"
  refine ⟨s, l, _, rfl, g2.st, by decide, by decide, fun n' H3 g23 n0 n1 => ?_⟩
  obtain ⟨n, rfl⟩ : ∃ q : Nat, n' = q := ⟨n'.toNat, by omega⟩
  have g3 := g2.trans g23
  walk_at "sn"
  refine ⟨m, n, rfl, by omega, by omega, fun H4 s4 => ?_⟩
  walk_at "wn"
  refine ⟨n, m, rfl, by omega, by omega, fun H5 s5 => ?_⟩
  have g5 := (g3.same s4).same s5
  walk_at "wn"
  -- first
  walk_at "sn"
  refine ⟨s, l, _, rfl, g5.st, by decide, by decide, fun c1 H6 g56 c10 c11 => ?_⟩
  have g6 := g5.trans g56
  walk_at "wn"
  refine ⟨by omega, by omega, ?_⟩
  have comp : ∀ {σ : L2.St} {H0 : Hp} {te : TE} {c : Nat} {j : Nat} {R : VK}, Sto s l H0 → c ≤ 1000 → (∀ (i : Nat) (H' : Hp) (Q : VK), Sto s l H' → (∀ r H2, Ge s l H' H2 → Q (.int r) H2) → te ((wipe σ [j]).set j (some (.int (0 + i)))) H' Q) → (∀ i : Nat, wipe ((wipe σ [j]).set j (some (.int (0 + i)))) [j] = wipe σ [j]) →
      (∀ (C : Addr) (zs : List Int) H', Ge s l H0 H' → H0 C = none → H' C = some (.lst (zs.map V.int)) → zs.length = c → R (.ref C) H') → CRg 0 c (gName j) tYes te [j] σ H0 R := by
    intro σ H0 te c j R st0 hc ht hw hR
    refine cr_by (fun C i acc H' => Ge s l H0 H' ∧ ∃ zs : List Int, acc = zs.map V.int ∧ zs.length = i) (fun C H1 n1 => ⟨(Ge.refl st0).new n1, [], rfl, rfl⟩) ?_ ?_
    · rintro C i acc H1 N hC hi hacc ⟨g, zs, rfl, hl⟩ hN
      refine ⟨hw i, ?_⟩
      rw [a_yes, if_pos rfl]
      refine ht i H1 _ g.st fun r H2 g12 => ?_
      have eC := g12.at st0 hC hacc
      exact cst eC (by rw [List.length_map, sizeLine_eq]; omega) fun H3 p3 => hN _ _ p3.at_ ⟨(g.trans g12).put st0 hC p3, zs ++ [r], by rw [List.map_append]; rfl, by simp [hl]⟩
    · rintro C acc H1 hC hacc ⟨g, zs, rfl, hl⟩
      exact hR C zs H1 g hC hacc hl
  have tbig : ∀ (σ : L2.St) (H' : Hp) (Q : VK), σ[1]? = some (some (V.ref s)) → Sto s l H' → (∀ r H2, Ge s l H' H2 → Q (.int r) H2) → tCall sp_big [] E0 (tCons (tVar 1) tNil) σ H' Q := by
    intro σ H' Q hσ st' hq
    rw [a_call, a_cons, a_var]
    refine ⟨_, hσ, ?_⟩
    rw [a_nil]
    exact ⟨s, l, rfl, st', hq⟩
  have ttake : ∀ (σ : L2.St) (H' : Hp) (Q : VK), σ[1]? = some (some (V.ref s)) → Sto s l H' → (∀ r H2, Ge s l H' H2 → Q (.int r) H2) → tCall sp_take [] E0 (tCons (tVar 1) (tCons (tC (V.int 3)) tNil)) σ H' Q := by
    intro σ H' Q hσ st' hq
    rw [a_call, a_cons, a_var]
    refine ⟨_, hσ, ?_⟩
    rw [a_cons, a_c, a_nil]
    exact ⟨s, l, 3, rfl, by decide, st', fun r H2 g _ _ _ => hq r H2 g⟩
  refine comp g6.st (by omega) (fun i H' Q st' hq => tbig _ H' Q rfl st' hq) (fun i => rfl) fun F as H7 g67 fF eF lF => ?_
  have g7 := g6.trans g67
  have Fs := (g6.st.ne fF).1
  walk_at "sn"
  refine ⟨s, l, _, rfl, g7.st, by decide, by decide, fun c2 H8 g78 c20 c21 => ?_⟩
  have g8 := g7.trans g78
  walk_at "wn"
  refine ⟨by omega, by omega, ?_⟩
  refine comp g8.st (by omega) (fun i H' Q st' hq => tbig _ H' Q rfl st' hq) (fun i => rfl) fun G bs H9 g89 fG eG lG => ?_
  have g9 := g8.trans g89
  have Gs := (g8.st.ne fG).1
  have eF9 := (g78.trans g89).k Fs eF
  refine seq_join (fun σ H' => Ge s l H9 H' ∧ ∃ (F G : Addr) (as bs : List Int), σ = [some (.ref a), some (.ref s), some (.int m), some (.int n), some (.ref F), some (.ref G), none, none, none] ∧ F ≠ s ∧ G ≠ s ∧ H' F = some (.lst (as.map V.int)) ∧ H' G = some (.lst (bs.map V.int)) ∧ as.length ≤ 12 ∧ bs.length ≤ 12) (fun M hM => ?_) ?_
  · walk_at "wn"
    refine ⟨s, l, _, rfl, by decide, g9.st, fun c3 J1 j1 d0 d1 d2 => ?_⟩
    walk_at "wn"
    have eF1 := j1.k Fs eF9
    have eG1 := j1.k Gs eG
    split
    · rw [a_seq]
      walk_at "wn"
      refine ⟨_, sq_l eG1, ?_⟩
      rw [List.length_map]
      refine ⟨by omega, by omega, ?_⟩
      rw [Int.toNat_natCast]
      refine comp j1.st (by omega) (fun i H' Q st' hq => ttake _ H' Q rfl st' hq) (fun i => rfl) fun G' bs' J2 j2 fG' eG' lG' => ?_
      have eF2 := j2.k Fs eF1
      have Gs' := (j1.st.ne fG').1
      walk_at "wn"
      refine ⟨_, sq_l eF2, ?_⟩
      rw [List.length_map]
      refine ⟨by omega, by omega, ?_⟩
      rw [Int.toNat_natCast]
      refine comp j2.st (by omega) (fun i H' Q st' hq => ttake _ H' Q rfl st' hq) (fun i => rfl) fun F' as' J3 j3 fF' eF' lF' => ?_
      walk_at "wn"
      exact hM _ _ ⟨(j1.trans j2).trans j3, F', G', as', bs', rfl, (j2.st.ne fF').1, Gs', eF', j3.k Gs' eG', by omega, by omega⟩
    · exact hM _ _ ⟨j1, F, G, as, bs, rfl, Fs, Gs, eF1, eG1, by omega, by omega⟩
  clear eF eG eF9 fF fG Fs Gs lF lG
  clear F G as bs
  rintro _ J0 ⟨j0, F, G, as, bs, rfl, Fs, Gs, eF, eG, lF, lG⟩
  walk_at "sn"
  refine ⟨s, l, F, G, as, bs, rfl, j0.st, Fs, Gs, eF, eG, lF, lG, fun J1 j1 => ?_⟩
  have eF := j1.k Fs eF
  have eG := j1.k Gs eG
  walk_at "wn"
  refine ⟨s, l, G, F, bs, as, rfl, j1.st, Gs, Fs, eG, eF, lG, lF, fun J2 j2 => ?_⟩
  have eF := j2.k Fs eF
  have eG := j2.k Gs eG
  walk_at "wn"
  walk_at "sn"
  refine ⟨s, l, rfl, j2.st, fun bad bd bn J3 j3 hbd hbn hbk hbs hbo => ?_⟩
  have eF := j3.k Fs eF
  have eG := j3.k Gs eG
  walk_at "sn"
  have lz : ∀ {E : List Addr}, ∀ a : Addr, a ∈ ([] : List Addr) → a ∈ E := fun a z => by simp at z
  have ss : s ∈ [s] := by simp
  refine ⟨szl (by decide), fun L J4 j4 => ?_⟩
  have g4 := (Ge.refl j3.st).new j4
  refine ⟨s, l, L, _, rfl, g4.st, (j3.st.ne j4.fr).1, sq_l j4.at_, by simp, by simp, fun x J5 g45 hx => ?_⟩
  have g5 := g4.trans g45
  have hbd5 := hbd.ge g5 ss
  have eF := g5.k Fs eF
  have eG := g5.k Gs eG
  have hx2 : ∃ xd xn, Dw [] J5 x xd xn ∧ Sm x := by
    simp only [List.mem_cons, List.not_mem_nil, or_false] at hx
    rcases hx with rfl | rfl | rfl
    · exact ⟨_, _, .lf (.int _), sm_small (by omega)⟩
    · exact ⟨_, _, .lf (.int _), sm_small (by omega)⟩
    · exact ⟨_, _, .lf .non, sm_any (by simp)⟩
  obtain ⟨xd, xn, hxd, hxs⟩ := hx2
  refine ⟨szl (by decide), fun du J6 j6 => ?_⟩
  have hb6 := (hbd5.same j6.same).sub (E' := []) lz
  refine ⟨false, bad, x, du, .num bad 0 24, rfl, due_num hb6 (by omega) hbk j6.at_, fun z => (by cases z), fun _ => ⟨_, _, _, _, hb6, hxd.same j6.same, hbs, hxs, by unfold spFlt; rw [if_pos hbo]⟩, fun J7 f7 => ?_⟩
  have g7 := g5.same (j6.same.trans f7)
  have u7 := j6.same.trans f7
  walk_at "wn"
  walk_at "sn"
  refine ⟨szl (by decide), fun du2 J8 j8 => ?_⟩
  have hb8 := (hbd5.same (u7.trans j8.same)).sub (E' := []) lz
  have hmok : numOk (.int (m : Int)) 0 24 = true := numOk_nat (by omega) (by omega)
  refine ⟨false, .int m, bad, du2, .num bad 0 24, rfl, due_num hb8 (by omega) hbk j8.at_, fun z => (by cases z), fun _ => ⟨_, _, _, _, .lf (.int m), hb8, sm_small (by omega), hbs, by unfold spFlt; rw [hmok, if_neg (by decide), if_pos hbo]⟩, fun J9 f9 => ?_⟩
  have u9 := (u7.trans j8.same).trans f9
  have g9 := g5.same u9
  have eF := u9 _ _ eF
  have eG := u9 _ _ eG
  walk_at "wn"
  walk_at "sn"
  refine ⟨szl (by decide), fun L2 K1 k1 => ?_⟩
  have h1 := (Ge.refl g9.st).new k1
  refine ⟨s, l, L2, _, rfl, h1.st, (g9.st.ne k1.fr).1, sq_l k1.at_, by simp, by simp, fun x K2 h12 hx => ?_⟩
  have h2 := h1.trans h12
  obtain ⟨c, rfl, c0, c1⟩ : ∃ c : Nat, x = .int c ∧ 13 ≤ c ∧ c ≤ 25 := by
    simp only [List.mem_cons, List.not_mem_nil, or_false] at hx
    rcases hx with rfl | rfl | rfl | rfl | rfl
    · exact ⟨13, rfl, by decide, by decide⟩
    · exact ⟨13, rfl, by decide, by decide⟩
    · exact ⟨14, rfl, by decide, by decide⟩
    · exact ⟨24, rfl, by decide, by decide⟩
    · exact ⟨25, rfl, by decide, by decide⟩
  walk_at "wn"
  refine ⟨by omega, by omega, ?_⟩
  rw [Int.toNat_natCast]
  refine comp h2.st (by omega) (fun i H' Q st' hq => tbig _ H' Q rfl st' hq) (fun i => rfl) fun W ws K3 h23 fW eW lW => ?_
  have h3 := h2.trans h23
  have Ws := (h2.st.ne fW).1
  have eF := h3.k Fs eF
  have eG := h3.k Gs eG
  have eor : ∀ {H' : Hp} {o : Addr} {zs : List V}, (H' o = some (.tup zs) ∨ H' o = some (.lst zs)) → sq H' o = some zs := fun h => h.elim sq_t sq_l
  walk_at "sn"
  refine ⟨s, l, W, _, rfl, h3.st, Ws, eW, fun o1 K4 h34 fo1 eo1 => ?_⟩
  have o1s := (h3.st.ne fo1).1
  walk_at "wn"
  refine ⟨s, l, G, _, rfl, h34.st, Gs, h34.k Gs eG, fun o2 K5 h45 fo2 eo2 => ?_⟩
  walk_at "wn"
  refine ⟨szl (by decide), fun du3 K6 k6 => ?_⟩
  have q1 : sq K6 o1 = some (ws.map V.int) := same_sq k6.same (eor (eo1.imp (h45.k o1s) (h45.k o1s)))
  have q2 : sq K6 o2 = some (bs.map V.int) := same_sq k6.same (eor eo2)
  refine ⟨true, .ref o1, .ref o2, du3, .many "row" 12, rfl, due_row k6.at_, fun _ => ⟨o1, o2, _, _, rfl, rfl, q1, q2, .inl (by rw [List.length_map]; omega), rfl⟩, fun z => (by cases z), fun K7 f7 => ?_⟩
  have h37 := (h34.trans h45).same (k6.same.trans f7)
  have eF := h37.k Fs eF
  have eG := h37.k Gs eG
  have eW := h37.k Ws eW
  walk_at "wn"
  walk_at "sn"
  refine ⟨s, l, F, _, rfl, h37.st, Fs, eF, fun o3 K8 h78 fo3 eo3 => ?_⟩
  have o3s := (h37.st.ne fo3).1
  walk_at "wn"
  refine ⟨s, l, W, _, rfl, h78.st, Ws, h78.k Ws eW, fun o4 K9 h89 fo4 eo4 => ?_⟩
  walk_at "wn"
  refine ⟨szl (by decide), fun du4 M1 m1' => ?_⟩
  have q3 : sq M1 o3 = some (as.map V.int) := same_sq m1'.same (eor (eo3.imp (h89.k o3s) (h89.k o3s)))
  have q4 : sq M1 o4 = some (ws.map V.int) := same_sq m1'.same (eor eo4)
  refine ⟨true, .ref o3, .ref o4, du4, .many "row" 12, rfl, due_row m1'.at_, fun _ => ⟨o3, o4, _, _, rfl, rfl, q3, q4, .inr (by rw [List.length_map]; omega), rfl⟩, fun z => (by cases z), fun M2 f2 => ?_⟩
  have h72 := (h78.trans h89).same (m1'.same.trans f2)
  have eF := h72.k Fs eF
  have eG := h72.k Gs eG
  walk_at "wn"
  refine ⟨n, m, rfl, by omega, by omega, fun M3 f3 => ?_⟩
  walk_at "wn"
  refine ⟨_, SqL.of (f3 _ _ eF), fun T M4 m4 => ?_⟩
  have st4 := (h72.same f3).new m4
  have eT := m4.at_
  rw [cut_to (by decide), ← List.map_take] at eT
  exact ⟨s, l, T, G, _, bs, rfl, st4.st, (h72.st.same f3 |>.ne m4.fr).1, Gs, eT, m4.k (f3 _ _ eG), by rw [List.length_take]; omega, lG, fun H' _ => k H'⟩
end

/-! ## R8 -/
set_option maxHeartbeats 4000000 in
theorem hfacts {P : Program} {w : World} {K : PySem.W.Frag} {h : Heap} {mg : Str → Option Value} {f : Addr} (hfl : P.main.file = hfile) (htop : (P.main.scope.names.lookup ("super" : Str)).isSome = false) (X : K.In h) (G : h.Ns mainGlobals mg) (hf : mg ("law" : Str) = some (.ref f)) (ce : SaysE hfa hfn hfile hdi hks K) :
    ∃ fd : FuncData, (∀ (s : Shared) (v : Value), BindsTo s fd ⟨[v], []⟩ [("script", v)]) ∧ ∀ base : Heap, K.In base → base.Ns mainGlobals mg → FnOk P w K mg base CX0 9 f fd ["script"] (sp_law K) := by
  have c := ce.d
  have D_shown : Df K mg "shown" stshown := by
    obtain ⟨fd, F⟩ := c.def_ 0 (d := d_shown) rfl
    exact ⟨_, fd, F, He.glo_ok X G (c.fact 0 (f := .glo "shown") rfl)⟩
  have D_is_whole : Df K mg "is_whole" stis_whole := by
    obtain ⟨fd, F⟩ := c.def_ 1 (d := d_is_whole) rfl
    exact ⟨_, fd, F, He.glo_ok X G (c.fact 1 (f := .glo "is_whole") rfl)⟩
  have D_check_size : Df K mg "check_size" stcheck_size := by
    obtain ⟨fd, F⟩ := c.def_ 2 (d := d_check_size) rfl
    exact ⟨_, fd, F, He.glo_ok X G (c.fact 2 (f := .glo "check_size") rfl)⟩
  have D_check_number : Df K mg "check_number" stcheck_number := by
    obtain ⟨fd, F⟩ := c.def_ 3 (d := d_check_number) rfl
    exact ⟨_, fd, F, He.glo_ok X G (c.fact 3 (f := .glo "check_number") rfl)⟩
  have D_exchanged : Df K mg "exchanged" stexchanged := by
    obtain ⟨fd, F⟩ := c.def_ 4 (d := d_exchanged) rfl
    exact ⟨_, fd, F, He.glo_ok X G (c.fact 4 (f := .glo "exchanged") rfl)⟩
  have D_path_indexes : Df K mg "path_indexes" stpath_indexes := by
    obtain ⟨fd, F⟩ := c.def_ 5 (d := d_path_indexes) rfl
    exact ⟨_, fd, F, He.glo_ok X G (c.fact 5 (f := .glo "path_indexes") rfl)⟩
  have D_all_words : Df K mg "all_words" stall_words := by
    obtain ⟨fd, F⟩ := c.def_ 6 (d := d_all_words) rfl
    exact ⟨_, fd, F, He.glo_ok X G (c.fact 6 (f := .glo "all_words") rfl)⟩
  have D_swapped : Df K mg "swapped" stswapped := by
    obtain ⟨fd, F⟩ := c.def_ 7 (d := d_swapped) rfl
    exact ⟨_, fd, F, He.glo_ok X G (c.fact 7 (f := .glo "swapped") rfl)⟩
  have D_swap_path : Df K mg "swap_path" stswap_path := by
    obtain ⟨fd, F⟩ := c.def_ 8 (d := d_swap_path) rfl
    exact ⟨_, fd, F, He.glo_ok X G (c.fact 8 (f := .glo "swap_path") rfl)⟩
  have D_path_words : Df K mg "path_words" stpath_words := by
    obtain ⟨fd, F⟩ := c.def_ 9 (d := d_path_words) rfl
    exact ⟨_, fd, F, He.glo_ok X G (c.fact 9 (f := .glo "path_words") rfl)⟩
  have D_law_store : Df K mg "_law_store" st_law_store := by
    obtain ⟨fd, F⟩ := c.def_ 10 (d := d_law_store) rfl
    exact ⟨_, fd, F, He.glo_ok X G (c.fact 10 (f := .glo "_law_store") rfl)⟩
  have D_law_mixed : Df K mg "_law_mixed" st_law_mixed := by
    obtain ⟨fd, F⟩ := c.def_ 11 (d := d_law_mixed) rfl
    exact ⟨_, fd, F, He.glo_ok X G (c.fact 11 (f := .glo "_law_mixed") rfl)⟩
  have D_law_take : Df K mg "_law_take" st_law_take := by
    obtain ⟨fd, F⟩ := c.def_ 12 (d := d_law_take) rfl
    exact ⟨_, fd, F, He.glo_ok X G (c.fact 12 (f := .glo "_law_take") rfl)⟩
  have D_law_pick : Df K mg "_law_pick" st_law_pick := by
    obtain ⟨fd, F⟩ := c.def_ 13 (d := d_law_pick) rfl
    exact ⟨_, fd, F, He.glo_ok X G (c.fact 13 (f := .glo "_law_pick") rfl)⟩
  have D_law_place : Df K mg "_law_place" st_law_place := by
    obtain ⟨fd, F⟩ := c.def_ 14 (d := d_law_place) rfl
    exact ⟨_, fd, F, He.glo_ok X G (c.fact 14 (f := .glo "_law_place") rfl)⟩
  have D_law_either : Df K mg "_law_either" st_law_either := by
    obtain ⟨fd, F⟩ := c.def_ 15 (d := d_law_either) rfl
    exact ⟨_, fd, F, He.glo_ok X G (c.fact 15 (f := .glo "_law_either") rfl)⟩
  have D_law_is_whole : Df K mg "_law_is_whole" st_law_is_whole := by
    obtain ⟨fd, F⟩ := c.def_ 16 (d := d_law_is_whole) rfl
    exact ⟨_, fd, F, He.glo_ok X G (c.fact 16 (f := .glo "_law_is_whole") rfl)⟩
  have D_law_wrong_number : Df K mg "_law_wrong_number" st_law_wrong_number := by
    obtain ⟨fd, F⟩ := c.def_ 17 (d := d_law_wrong_number) rfl
    exact ⟨_, fd, F, He.glo_ok X G (c.fact 17 (f := .glo "_law_wrong_number") rfl)⟩
  have D_law_agree : Df K mg "_law_agree" st_law_agree := by
    obtain ⟨fd, F⟩ := c.def_ 18 (d := d_law_agree) rfl
    exact ⟨_, fd, F, He.glo_ok X G (c.fact 18 (f := .glo "_law_agree") rfl)⟩
  have D_law_big : Df K mg "_law_big" st_law_big := by
    obtain ⟨fd, F⟩ := c.def_ 19 (d := d_law_big) rfl
    exact ⟨_, fd, F, He.glo_ok X G (c.fact 19 (f := .glo "_law_big") rfl)⟩
  have D_law_words : Df K mg "_law_words" st_law_words := by
    obtain ⟨fd, F⟩ := c.def_ 20 (d := d_law_words) rfl
    exact ⟨_, fd, F, He.glo_ok X G (c.fact 20 (f := .glo "_law_words") rfl)⟩
  have D_law_kinds : Df K mg "_law_kinds" st_law_kinds := by
    obtain ⟨fd, F⟩ := c.def_ 21 (d := d_law_kinds) rfl
    exact ⟨_, fd, F, He.glo_ok X G (c.fact 21 (f := .glo "_law_kinds") rfl)⟩
  have D_law_right_error : Df K mg "_law_right_error" st_law_right_error := by
    obtain ⟨fd, F⟩ := c.def_ 22 (d := d_law_right_error) rfl
    exact ⟨_, fd, F, He.glo_ok X G (c.fact 22 (f := .glo "_law_right_error") rfl)⟩
  have D_law_path : Df K mg "_law_path" st_law_path := by
    obtain ⟨fd, F⟩ := c.def_ 23 (d := d_law_path) rfl
    exact ⟨_, fd, F, He.glo_ok X G (c.fact 23 (f := .glo "_law_path") rfl)⟩
  have D_law_path_turns : Df K mg "_law_path_turns" st_law_path_turns := by
    obtain ⟨fd, F⟩ := c.def_ 24 (d := d_law_path_turns) rfl
    exact ⟨_, fd, F, He.glo_ok X G (c.fact 24 (f := .glo "_law_path_turns") rfl)⟩
  have D_law_path_holds : Df K mg "_law_path_holds" st_law_path_holds := by
    obtain ⟨fd, F⟩ := c.def_ 25 (d := d_law_path_holds) rfl
    exact ⟨_, fd, F, He.glo_ok X G (c.fact 25 (f := .glo "_law_path_holds") rfl)⟩
  have D_law_words_hold : Df K mg "_law_words_hold" st_law_words_hold := by
    obtain ⟨fd, F⟩ := c.def_ 26 (d := d_law_words_hold) rfl
    exact ⟨_, fd, F, He.glo_ok X G (c.fact 26 (f := .glo "_law_words_hold") rfl)⟩
  have D_law_refuses : Df K mg "_law_refuses" st_law_refuses := by
    obtain ⟨fd, F⟩ := c.def_ 27 (d := d_law_refuses) rfl
    exact ⟨_, fd, F, He.glo_ok X G (c.fact 27 (f := .glo "_law_refuses") rfl)⟩
  have D_law : Df K mg "law" stlaw := by
    obtain ⟨fd, F⟩ := c.def_ 28 (d := d_law) rfl
    exact ⟨_, fd, F, He.glo_ok X G (c.fact 28 (f := .glo "law") rfl)⟩
  have T : NoB mg := ⟨He.free_ok X G (c.fact 29 (f := .free "len") rfl), He.free_ok X G (c.fact 30 (f := .free "int") rfl), He.free_ok X G (c.fact 31 (f := .free "bool") rfl), He.free_ok X G (c.fact 32 (f := .free "str") rfl), He.free_ok X G (c.fact 33 (f := .free "range") rfl), He.free_ok X G (c.fact 34 (f := .free "isinstance") rfl), He.free_ok X G (c.fact 35 (f := .free "tuple") rfl), He.free_ok X G (c.fact 36 (f := .free "list") rfl), He.free_ok X G (c.fact 37 (f := .free "min") rfl), He.free_ok X G (c.fact 38 (f := .free "max") rfl), He.free_ok X G (c.fact 39 (f := .free "sorted") rfl), He.free_ok X G (c.fact 40 (f := .free "enumerate") rfl), He.free_ok X G (c.fact 41 (f := .free "sum") rfl), He.free_ok X G (c.fact 42 (f := .free "any") rfl), He.free_ok X G (c.fact 43 (f := .free "all") rfl), He.free_ok X G (c.fact 44 (f := .free "zip") rfl), He.free_ok X G (c.fact 45 (f := .free "reversed") rfl), He.free_ok X G (c.fact 46 (f := .free "super") rfl), He.free_ok X G (c.fact 47 (f := .free "set") rfl), He.free_ok X G (c.fact 48 (f := .free "dict") rfl), He.free_ok X G (c.fact 49 (f := .free "ValueError") rfl), He.free_ok X G (c.fact 50 (f := .free "abs") rfl)⟩
  obtain ⟨tk_MOST_ROW, G_MOST_ROW⟩ := He.int_ok X G (c.fact 51 (f := .int "MOST_ROW" 24) rfl)
  obtain ⟨tk_MOST_WORD_PART, G_MOST_WORD_PART⟩ := He.int_ok X G (c.fact 52 (f := .int "MOST_WORD_PART" 12) rfl)
  have EH := ce.gH X G
  have EN_BadNumber : ErN K mg "BadNumber" := ce.erN X G T.no_ValueError (i := 0) (d := di_BadNumber) rfl (by decide)
  have exm_BadNumber := ce.exm (x := "BadNumber") (by decide)
  have EN_TooMany : ErN K mg "TooMany" := ce.erN X G T.no_ValueError (i := 1) (d := di_TooMany) rfl (by decide)
  have exm_TooMany := ce.exm (x := "TooMany") (by decide)
  have ENF : ∀ f : Flt, f.cls ∈ errL → ErN K mg f.cls := fun f h => by cases f with | num => exact EN_BadNumber | mv => exact absurd h (show ¬ ("NotAMove" : Str) ∈ errL by decide +kernel) | many => exact EN_TooMany | pt => exact absurd h (show ¬ ("NotAPoint" : Str) ∈ errL by decide +kernel) | rep => exact absurd h (show ¬ ("RepeatedPoint" : Str) ∈ errL by decide +kernel) | sz => exact absurd h (show ¬ ("UnlikeSizes" : Str) ∈ errL by decide +kernel) | txt => exact absurd h (show ¬ ("BadText" : Str) ∈ errL by decide +kernel)
  have exmF : ∀ f : Flt, f.cls ∈ errL → PySem.W.exmOne K (.ref (He.ga K f.cls)) (.ref (He.ga K "HeldorderError")) = some true := fun f h => by cases f with | num => exact exm_BadNumber | mv => exact absurd h (show ¬ ("NotAMove" : Str) ∈ errL by decide +kernel) | many => exact exm_TooMany | pt => exact absurd h (show ¬ ("NotAPoint" : Str) ∈ errL by decide +kernel) | rep => exact absurd h (show ¬ ("RepeatedPoint" : Str) ∈ errL by decide +kernel) | sz => exact absurd h (show ¬ ("UnlikeSizes" : Str) ∈ errL by decide +kernel) | txt => exact absurd h (show ¬ ("BadText" : Str) ∈ errL by decide +kernel)
  obtain ⟨fd, F⟩ := c.def_ 28 (d := d_law) rfl
  have e := hf.symm.trans (He.glo_ok X G (c.fact 28 (f := .glo "law") rfl))
  cases e
  refine ⟨fd, fun s v => FunD.bindsA (ps := ["script"]) F (fun _ _ _ _ _ _ us hl => match us, hl with | [_], _ => rfl) s [v] rfl, fun base _ _ => ?_⟩
  have C_law_mixed : Cl P w K mg base 1 "_law_mixed" ["seed", "turn"] sp_mixed := ok_law_mixed D_law_mixed T  
  have C_law_take : Cl P w K mg base 2 "_law_take" ["store", "many"] sp_take := ok_law_take D_law_take T C_law_mixed 
  have C_law_pick : Cl P w K mg base 3 "_law_pick" ["store", "things"] sp_pick := ok_law_pick D_law_pick T C_law_take 
  have C_law_big : Cl P w K mg base 4 "_law_big" ["store"] sp_big := ok_law_big D_law_big T C_law_pick C_law_take 
  have C_law_either : Cl P w K mg base 3 "_law_either" ["store", "entries"] sp_either := ok_law_either D_law_either T C_law_take 
  have C_law_is_whole : Cl P w K mg base 1 "_law_is_whole" ["value"] sp_isw := ok_law_is_whole D_law_is_whole T  
  have C_law_agree : Cl P w K mg base 6 "_law_agree" ["actual", "due"] (sp_agree 5) := agree_all D_law_agree T 6 C_law_is_whole
  have C_law_path : Cl P w K mg base 1 "_law_path" ["first", "second"] sp_pidx := ok_law_path D_law_path T  
  have Cis_whole : Cl P w K mg base 1 "is_whole" ["value"] sp_isw := okis_whole D_is_whole T  
  have Cshown : Cl P w K mg base 1 "shown" ["value"] sp_shown := okshown D_shown T  
  have Er_BadNumber : ErrC P w K mg base 2 "BadNumber" (He.ga K "BadNumber") (okP [0, 0, 0]) ["value", "low", "high"] := by
    obtain ⟨cc, cda, fi, S, B, i1, i2, x1, x2, x3, x4⟩ := ce.sup hfl htop T.no_super (i := 0) (d := di_BadNumber) (ps := ["self", "value", "low", "high"]) rfl (fun _ _ _ _ _ _ _ us hl => match us, hl with | [_, _, _, _], _ => rfl)
    exact ⟨ce.g X G _ (by decide), x1, ⟨_, fi, ["self", "value", "low", "high"], i1, i2, B, okini_BadNumber S (x4 _ (by decide)) (x4 _ (by decide)) (x4 _ (by decide)) Cshown⟩, x2, x3, x4, by decide, okP_mono _⟩
  have Ccheck_number : ClX P w K mg base 4 "check_number" ["value", "low", "high"] (sp_number K) := okcheck_number D_check_number T Cis_whole Er_BadNumber
  have Er_TooMany : ErrC P w K mg base 2 "TooMany" (He.ga K "TooMany") (okP [1, 0]) ["what", "limit"] := by
    obtain ⟨cc, cda, fi, S, B, i1, i2, x1, x2, x3, x4⟩ := ce.sup hfl htop T.no_super (i := 1) (d := di_TooMany) (ps := ["self", "what", "limit"]) rfl (fun _ _ _ _ _ _ _ us hl => match us, hl with | [_, _, _], _ => rfl)
    exact ⟨ce.g X G _ (by decide), x1, ⟨_, fi, ["self", "what", "limit"], i1, i2, B, okini_TooMany S (x4 _ (by decide)) (x4 _ (by decide)) Cshown⟩, x2, x3, x4, by decide, okP_mono _⟩
  have Ccheck_size : ClX P w K mg base 4 "check_size" ["row", "limit"] (sp_csize K) := okcheck_size D_check_size T  Er_TooMany
  have Cexchanged : Cl P w K mg base 1 "exchanged" ["row", "index"] sp_exch := okexchanged D_exchanged T  
  have Cswapped : ClX P w K mg base 5 "swapped" ["row", "index"] sp_swp := okswapped D_swapped T Ccheck_number Ccheck_size Cexchanged G_MOST_ROW
  have C_law_path_turns : Cl P w K mg base 6 "_law_path_turns" ["path", "many", "more"] sp_turn := ok_law_path_turns D_law_path_turns T Cswapped 
  have Cpath_indexes : Cl P w K mg base 1 "path_indexes" ["many", "more"] sp_pidx := okpath_indexes D_path_indexes T  
  have Cswap_path : ClX P w K mg base 5 "swap_path" ["first", "second"] (sp_spath K) := okswap_path D_swap_path T Ccheck_number Cpath_indexes G_MOST_ROW
  have CK_swap_path : ClXK P w K mg base 5 "swap_path" ["first", "second"] 0 ["first", "second"] (sp_spath K) := clXK_of (n := 0) (ks := ["first", "second"]) D_swap_path Cswap_path (fun _ _ _ _ _ _ us ws hu hw => match us, ws, hu, hw with | [], [_, _], _, _ => rfl)
  have C_law_path_holds : Cl P w K mg base 7 "_law_path_holds" ["many", "more"] sp_pholds := ok_law_path_holds D_law_path_holds T C_law_agree C_law_path C_law_path_turns Cswap_path CK_swap_path
  have C_law_place : Cl P w K mg base 3 "_law_place" ["store", "size"] sp_place := ok_law_place D_law_place T C_law_take 
  have C_law_is_wholeH : ClH P w K mg base 1 "_law_is_whole" ["value"] sp_iswH := ok_law_is_wholeH D_law_is_whole T  
  have C_law_agreeH : ClH P w K mg base 6 "_law_agree" ["actual", "due"] (sp_agreeH 5) := agree_allH D_law_agree T 6 C_law_is_wholeH
  have C_law_kindsH : ClH P w K mg base 1 "_law_kinds" ["error"] (sp_kindsH K mg) := ok_law_kindsH D_law_kinds T  
  have C_law_right_errorH : ClH P w K mg base 7 "_law_right_error" ["error", "due"] (sp_rerrH K) := ok_law_right_errorH D_law_right_error T C_law_agreeH C_law_kindsH ENF Er_BadNumber Er_TooMany
  have Call_words : Cl P w K mg base 2 "all_words" ["one", "other"] sp_words := okall_words D_all_words T Cexchanged Cpath_indexes 
  have Cpath_words : ClX P w K mg base 5 "path_words" ["first", "second"] (sp_pwords K) := okpath_words D_path_words T Call_words Ccheck_size G_MOST_WORD_PART
  have C_law_refuses : Cl P w K mg base 8 "_law_refuses" ["rows", "one", "two", "due"] sp_refuses := ok_law_refuses D_law_refuses T C_law_right_errorH Cpath_words Cswap_path EH exmF
  have C_law_store : Cl P w K mg base 1 "_law_store" ["script"] (sp_store K) := ok_law_store D_law_store T  
  have C_law_words : Cl P w K mg base 1 "_law_words" ["first", "second"] sp_lwords := ok_law_words D_law_words T  
  have C_law_words_hold : Cl P w K mg base 7 "_law_words_hold" ["store", "first", "second"] sp_whold := ok_law_words_hold D_law_words_hold T C_law_agree C_law_either C_law_words Cpath_words Cswap_path Cswapped 
  have C_law_wrong_number : Cl P w K mg base 4 "_law_wrong_number" ["store", "low", "high"] sp_wnum := ok_law_wrong_number D_law_wrong_number T C_law_pick C_law_take 
  exact oklaw (P := P) (w := w) (base := base) F T C_law_big C_law_either C_law_path_holds C_law_pick C_law_place C_law_refuses C_law_store C_law_take C_law_words_hold C_law_wrong_number 
end Ho
open PySem PySem.W PySem.Calls PyProof.Rows
set_option maxRecDepth 100000 in
set_option maxHeartbeats 0 in
theorem PySem.Challenge.cw_heldorder_k51_the_swap_path_turns_two_ro_holds : PySem.Challenge.rw_heldorder_k51_the_swap_path_turns_two_ro.Holds := by
  w_on; o_law
  refine HandSHeadRun.head_any (r := OpenLaw.row PySem.Challenge.rw_heldorder_k51_the_swap_path_turns_two_ro) (q := view (OpenLaw.row PySem.Challenge.rw_heldorder_k51_the_swap_path_turns_two_ro).prog [67]) (H := Ho.hhk) (ob := Ho.hob) (M := 30000) (loose := Ho.hloose) (d := HandSHeadRun.topDef (OpenLaw.row PySem.Challenge.rw_heldorder_k51_the_swap_path_turns_two_ro).prog 67) (kwd := []) Ho.hob_eq
    (by kernel_rfl) (fun s => by kernel_rfl) Ho.hrun (by kernel_rfl) (by kernel_rfl) (by kernel_rfl) (by rfl) (by first | assumption | decide +kernel) (by decide +kernel) ⟨rfl, rfl, rfl, rfl, rfl, by decide +kernel⟩ ?hw ?hc
  case hw => w_witness2
  case hc =>
    refine L2.walk_ofE (l := PySem.Challenge.rw_heldorder_k51_the_swap_path_turns_two_ro) (n := 63) (k := 9) (x := "script") (CX := L2.CX0) rfl (by decide) (by kernel_rfl) ⟨rfl, by decide, by decide⟩ ?F (fun _ _ _ _ z => z)
    intro w mg fa h Y G hmg0
    obtain ⟨K, KX, c⟩ := Y
    have hmg : mg ("law" : PySem.Str) = some (.ref fa) := by
      have e : (HandSHeadRun.topDef (OpenLaw.row PySem.Challenge.rw_heldorder_k51_the_swap_path_turns_two_ro).prog 67).name = ("law" : PySem.Str) := by kernel_rfl
      rw [← e]
      exact hmg0
    obtain ⟨fd, hb, hF⟩ := Ho.hfacts (P := (PySem.Challenge.rw_heldorder_k51_the_swap_path_turns_two_ro).prog) (w := w) rfl (by kernel_rfl) KX G hmg c
    exact ⟨K, fd, (Ho.sp_law K), KX, hb, fun H a ns hl _ hS => ⟨a, ns, rfl, hS, hl, fun _ => rfl⟩, hF⟩

