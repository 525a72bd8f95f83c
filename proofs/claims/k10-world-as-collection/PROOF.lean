import PyProof.Rows.All
import Wide.All
import OpenK.AllK
import Wide.FinOn
import KE.KStateDown
import Lean
import HandS.ForMost
import HandS.IsInst
import HandS.Style
import HandS.Wide
import HandS.TupMul
import HandS.Conv
import HandS.TupAny
import HandS.TupLe
import HandS.SortInts
import HandS.Codes
import HandS.StrMore
import HandS.FStr
import HandS.Walk
import HandS.More
import HandS.Defaults
import HandS.Head0
import HandS.Head1
import HandS.Head2
import HandS.HeadEnd
import HandS.HeadHook1
import HandS.HeadHook2
import PySem.Challenge.RW_heldorder_k10_world_as_collection
import KE.KExcSuper
import KE.KSuper
import HandS.ExcInit
import HandS.NestedK
import HandS.ExcField
import HandS.TryOnly
import HandS.ExcIs
import HandS.HotCalls
import HandS.ExcCtx
import HandS.RaiseFrom
import HandS.ExcInitHot
import KE.KExcIs
import HandS.ExcOwn
import KE.GoesEnum
import HandS.Iter
import HandS.Ends
import HandS.FStrTup
import KE.SortData
import KE.KDictDisplayH
import HandS.Small
import HandS.Dict
import HandS.Property
import HandS.OwnEq
import HandS.OwnIter
import HandS.Deep
import HandS.IterVal
import PyProof.Rows.Chain
import HandS.List
import HandS.Flow
import KE.DataAny
set_option Elab.async false
set_option linter.all false
set_option maxRecDepth 100000
set_option maxHeartbeats 4000000
namespace Ho
open PySem PySem.Spec PyProof.Rows L2
/-! ## HoA -/


/-- the items of a tracked list or tuple -/
def sq (H : Hp) (p : Addr) : Option (List V) := match H p with
  | some (.lst xs) => some xs
  | some (.tup xs) => some xs
  | _ => none
theorem sq_l {H : Hp} {p : Addr} {xs : List V} (h : H p = some (.lst xs)) : sq H p = some xs := by unfold sq; rw [h]
theorem sq_t {H : Hp} {p : Addr} {xs : List V} (h : H p = some (.tup xs)) : sq H p = some xs := by unfold sq; rw [h]
theorem sq_or {H : Hp} {p : Addr} {xs : List V} (h : sq H p = some xs) : H p = some (.lst xs) ∨ H p = some (.tup xs) := by
  unfold sq at h
  cases e : H p with
  | none => rw [e] at h; cases h
  | some o => rw [e] at h; cases o <;> first | (cases h; first | exact .inl rfl | exact .inr rfl) | cases h

def rIx1 : R2 := fun x y H Q => ∃ p i xs v, x = .ref p ∧ y = .int i ∧ sq H p = some xs ∧ atI xs i = some v ∧ Q v H
def rLen1 : List V → Hp → VK → Prop := fun vs H Q => ∃ p xs, vs = [.ref p] ∧ sq H p = some xs ∧ Q (.int xs.length) H
def tyN (H : Hp) (x : V) : Option String := match x with
  | .non => some "NoneType"
  | .bl _ => some "bool"
  | .int _ => some "int"
  | .str _ => some "str"
  | .ref p => match H p with
    | some (.lst _) => some "list"
    | some (.tup _) => some "tuple"
    | some (.dK _) => some "dict"
    | some (.dT _) => some "dict"
    | _ => none
  | _ => none
def rIsi1 : List V → Hp → VK → Prop := fun vs H Q => ∃ x T t b, vs = [x, .ty T] ∧ tyN H x = some t ∧ kitB t T = some b ∧ Q (.bl b) H
def rIsTF : R2 := fun x y H Q => ∃ b, y = .bl b ∧ Q (.bl (decide (x = .bl b))) H
section
variable {X : Cx}
theorem ix1 : IxR X rIx1 := by
  intro value slice pins s σ H x y v u Q I rx ry h hs
  obtain ⟨p, i, xs, z, rfl, rfl, hq, he, q⟩ := h
  rcases sq_or hq with hq | hq
  · exact ix_list value slice pins s σ H _ _ v u Q I rx ry ⟨p, xs, i, z, rfl, rfl, SqL.of hq, he, q⟩ hs
  · exact ix_tup value slice pins s σ H _ _ v u Q I rx ry ⟨p, xs, i, z, rfl, rfl, SqT.of hq, he, q⟩ hs
theorem len1 : CallR X (.builtin "len") rLen1 := by
  intro pins s σ H xs us Q I r h
  obtain ⟨p, ys, rfl, hq, q⟩ := h
  rcases sq_or hq with hq | hq
  · exact call_len pins s σ H _ us Q I r ⟨_, _, rfl, .inl ⟨_, SqL.of hq, rfl⟩, q⟩
  · exact call_len pins s σ H _ us Q I r ⟨_, _, rfl, .inr ⟨_, SqT.of hq, rfl⟩, q⟩
theorem tyN_ty {K : PySem.W.Frag} {H : Hp} {x : V} {t : String} (h : tyN H x = some t) : TyX K H x (.type t) := by
  cases x with
  | non => cases h; exact .base .non
  | bl b => cases h; exact .base (.bl b)
  | int i => cases h; exact .base (.int i)
  | str z => cases h; exact .base (.str z)
  | byt b => cases h
  | flt b => cases h
  | ty n => cases h
  | ref p =>
    unfold tyN at h
    simp only at h
    cases e : H p with
    | none => rw [e] at h; cases h
    | some o =>
      rw [e] at h
      cases o <;> first
        | (cases h; first | exact .base (.lst e) | exact .base (.tup e) | exact .base (.dK e) | exact .base (.dT e))
        | cases h
theorem isi1 : CallR X (.builtin "isinstance") rIsi1 := by
  intro pins s σ H xs us Q I r h
  obtain ⟨x, T, t, b, rfl, ht, hk, q⟩ := h
  exact call_isi pins s σ H _ us Q I r ⟨x, .ty T, .type t, .type T, b, rfl, .ty T, tyN_ty ht, kit_ty hk, q⟩
end

section
variable {X : Cx}
theorem is_plain_bl {x : V} {v : Value} {b : Bool} (r : RelV x v) : plainIs v (.bool b) = true ∧ (v == Value.bool b) = decide (x = .bl b) := by
  cases x with
  | bl a => cases (show v = Value.bool a from r); exact ⟨rfl, by cases a <;> cases b <;> rfl⟩
  | non => cases (show v = Value.none from r); exact ⟨rfl, by simp⟩
  | ref a => cases (show v = Value.ref a from r); exact ⟨rfl, by simp⟩
  | ty a => cases (show v = Value.type a from r); exact ⟨rfl, by simp⟩
  | int i => obtain ⟨t, rfl⟩ := r; exact ⟨rfl, by simp⟩
  | str i => obtain ⟨t, rfl⟩ := r; exact ⟨rfl, by simp⟩
  | byt i => obtain ⟨t, rfl⟩ := r; exact ⟨rfl, by simp⟩
  | flt i => obtain ⟨t, rfl⟩ := r; exact ⟨rfl, by simp⟩
theorem op_isTF : OpR X (compareOp .Is) rIsTF := by
  intro pins s σ H x y v u Q I rx ry h
  obtain ⟨b, rfl, q⟩ := h
  cases (show u = Value.bool b from ry)
  obtain ⟨h1, h2⟩ := is_plain_bl (b := b) rx
  exact wpAny_is_plain h1 (by rw [h2]; exact ⟨.bl _, H, I, rfl, q⟩)
def iSq (K : PySem.W.Frag) (tl : TE) : TI := fun σ H R => tl σ H fun x H1 => ∃ a xs, x = .ref a ∧ ((H1 a = some (.lst xs) ∧ R (Itl K a) H1) ∨ (H1 a = some (.tup xs) ∧ R (Itt K a) H1))
theorem pi_sq {tg l : Expr} {tl : TE} (hl : PE X l tl) : PI X tg l (iSq X.K tl) := by
  refine ⟨fun pins s σ H R I h => ?_⟩
  refine thn (hl.run pins s σ H _ I h) fun v s1 ⟨x, H1, I1, r1, q1⟩ => ?_
  obtain ⟨a, xs, rfl, ⟨hq, q⟩ | ⟨hq, q⟩⟩ := q1
  · cases r1
    obtain ⟨its, rv, p, hz⟩ := I1.list (SqL.of hq)
    refine wpAny_pyIter_list p.isList ?_
    refine ⟨s1.heap.objs.size, [s1.heap.objs.size], _, _, H1, rfl, I1.kept (t' := s1.toks) fun b o e => Heap.get?_push_of_some _ e, turn_list a _, ⟨_, Heap.get?_push_size _ rfl, rfl, rfl⟩, fun b hb => ?_, q⟩
    have e : b = s1.heap.objs.size := by simpa using hb
    subst e
    exact I1.fpOk (Nat.le_refl _) (I1.hok.fresh (Nat.le_refl _))
  · cases r1
    obtain ⟨its, rv, p, hz⟩ := I1.tuple (SqT.of hq)
    refine wpAny_pyIter_tuple (show s1.heap.IsTuple a its.toArray from p) ?_
    refine ⟨s1.heap.objs.size, [s1.heap.objs.size], _, _, H1, rfl, I1.kept (t' := s1.toks) fun b o e => Heap.get?_push_of_some _ e, turn_tuple a _, ⟨_, Heap.get?_push_size _ rfl, rfl, rfl⟩, fun b hb => ?_, q⟩
    have e : b = s1.heap.objs.size := by simpa using hb
    subst e
    exact I1.fpOk (Nat.le_refl _) (I1.hok.fresh (Nat.le_refl _))
end
/-! ### defs that let nothing out -/
def Cl (P : Program) (w : World) (K : PySem.W.Frag) (mg : Str → Option Value) (base : Heap) (k : Nat) (x : Str) (ps : List Str) (sp : Sp) : Prop :=
  ∃ f fd, mg x = some (.ref f) ∧ PySem.W.keepIn K (.ref f) = true ∧ (∀ (s : Shared) (us : List Value), us.length = ps.length → BindsTo s fd ⟨us, []⟩ (ps.zip us)) ∧ FnOk P w K mg base CX0 k f fd ps sp
abbrev FnP (K : PySem.W.Frag) (x : Str) (st : Stmt) (f : Addr) (fd : FuncData) : Prop := FunD K x x (defArgs st) (defBody st) (defScope st) [] [] f fd
def Df (K : PySem.W.Frag) (mg : Str → Option Value) (x : Str) (st : Stmt) : Prop := ∃ f fd, FnP K x st f fd ∧ mg x = some (.ref f)
section
variable {P : Program} {w : World} {K : PySem.W.Frag} {mg : Str → Option Value} {base : Heap}
theorem Cl.mono {j k : Nat} {x : Str} {ps : List Str} {sp : Sp} (C : Cl P w K mg base j x ps sp) (h : j ≤ k) : Cl P w K mg base k x ps sp := by
  obtain ⟨f, fd, a, b, c, d⟩ := C
  exact ⟨f, fd, a, b, c, d.mono h⟩
theorem cl_of {x : Str} {st : Stmt} {N ps : List Str} {k : Nat} {sp : Sp} (D : Df K mg x st) (S : FnScope N ps (defScope st))
    (hb : ∀ (kV doc pm : Value) (an : Option Addr) (cdv ct : Value) (us : List Value), us.length = ps.length → bindArgs (PySem.W.fnOf x x (defArgs st) (defBody st) (defScope st) .none kV doc pm an cdv ct) ⟨us, []⟩ = pure (ps.zip us))
    (len : ∀ vs H Q E, sp vs H Q E → vs.length = ps.length)
    (hbody : ∀ (f : Addr) (cdv : Value) (A : Around) (outer : List Env) (s : Shared) (H : Hp) (vs : List V) (Q : VK) (E : XK), Room k (A.deeper (envOfC x (defScope st) s.heap.objs.size f cdv)) → sp vs H Q E →
      ∃ t, PSs (cxOf CX0 P w K mg base N x (defScope st) f cdv A outer s H E).nox (defBody st) t ∧ t { nx := fun _ H' => Q .non H', rt := Q } (start N vs) H) : Cl P w K mg base (k + 1) x ps sp := by
  obtain ⟨f, fd, F, g⟩ := D
  refine ⟨f, fd, g, F.kp, F.bindsA hb, F.ok S len fun cdv A outer s H vs Q E hr hsp => ?_⟩
  obtain ⟨t, h, q⟩ := hbody f cdv A outer s H vs Q E hr hsp
  exact ⟨t, h.nox, q⟩
end
theorem fn_ofF {P : Program} {w : World} {K : PySem.W.Frag} {mg : Str → Option Value} {base : Heap} {x : Str} {st : Stmt} {N ps : List Str} {k : Nat} {sp : Sp} {f : Addr} {fd : FuncData} (F : FnP K x st f fd) (S : FnScope N ps (defScope st))
    (len : ∀ vs H Q E, sp vs H Q E → vs.length = ps.length)
    (hbody : ∀ (f : Addr) (cdv : Value) (A : Around) (outer : List Env) (s : Shared) (H : Hp) (vs : List V) (Q : VK) (E : XK), Room k (A.deeper (envOfC x (defScope st) s.heap.objs.size f cdv)) → sp vs H Q E →
      ∃ t, PSs (cxOf CX0 P w K mg base N x (defScope st) f cdv A outer s H E).nox (defBody st) t ∧ t { nx := fun _ H' => Q .non H', rt := Q } (start N vs) H) : FnOk P w K mg base CX0 (k + 1) f fd ps sp := by
  refine F.ok S len fun cdv A outer s H vs Q E hr hsp => ?_
  obtain ⟨t, h, q⟩ := hbody f cdv A outer s H vs Q E hr hsp
  exact ⟨t, h.nox, q⟩
section
variable {X : Cx}
theorem pe_cl {j k : Nat} {x : Str} {ps : List Str} {sp : Sp} {p pos : Pos} {e : Expr} {es : List Expr} {t : TA} (C : Cl X.prog X.w X.K X.mg X.base j x ps sp) (hr : Room k X.A) (hg : Gl X x) (ha : PA X (e :: es) t) (hjk : j ≤ k := by decide)
    (hdb : (x == ("__debug__" : Str)) = false := by decide) (he : starEach (e :: es) X.env = (false, eval e X.env) :: starEach es X.env := by rfl) (hpl : (backTo pos (starEach es X.env)).any (·.1) = false := by rfl) :
    PE X (.Call (.Name x p) (e :: es) [] pos) (tCall sp [] E0 t) := by
  obtain ⟨f, fd, a, b, c, d⟩ := C
  exact pe_call d (hr.mono hjk) hg a b (fun s us _ hl => by rw [List.append_nil] at hl ⊢; exact c s us hl) .nil pass0 ha hdb he hpl
end
/-! ### heaps that have grown, heaps that have changed -/
structure New (H : Hp) (p : Addr) (o : HO) (H' : Hp) : Prop where
  fr : H p = none
  at_ : H' p = some o
  old : ∀ b, b ≠ p → H' b = H b
structure Put (H : Hp) (p : Addr) (o : HO) (H' : Hp) : Prop where
  at_ : H' p = some o
  old : ∀ b, b ≠ p → H' b = H b
theorem New.eq {H H' : Hp} {p : Addr} {o : HO} (n : New H p o H') : H' = upd H p o := by
  funext b
  by_cases e : b = p
  · rw [e, n.at_, upd_same]
  · rw [n.old b e, upd_ne e]
theorem Put.eq {H H' : Hp} {p : Addr} {o : HO} (n : Put H p o H') : H' = upd H p o := by
  funext b
  by_cases e : b = p
  · rw [e, n.at_, upd_same]
  · rw [n.old b e, upd_ne e]
theorem New.mk' {H : Hp} {p : Addr} {o : HO} (h : H p = none) : New H p o (upd H p o) := ⟨h, upd_same, fun _ e => upd_ne e⟩
theorem Put.mk' {H : Hp} {p : Addr} {o : HO} : Put H p o (upd H p o) := ⟨upd_same, fun _ e => upd_ne e⟩
theorem New.ne {H H' : Hp} {p b : Addr} {o u : HO} (n : New H p o H') (h : H b = some u) : b ≠ p := ne_of_none h n.fr
theorem New.k {H H' : Hp} {p b : Addr} {o u : HO} (n : New H p o H') (h : H b = some u) : H' b = some u := (n.old b (n.ne h)).trans h
theorem New.same {H H' : Hp} {p : Addr} {o : HO} (n : New H p o H') : Same H H' := fun _ _ h => n.k h
theorem Put.k {H H' : Hp} {p b : Addr} {o u : HO} (n : Put H p o H') (ne : b ≠ p) (h : H b = some u) : H' b = some u := (n.old b ne).trans h
def Nw (H : Hp) (o : HO) (Q : Addr → Hp → Prop) : Prop := ∀ p H', New H p o H' → Q p H'
def Wr (H : Hp) (p : Addr) (o : HO) (Q : Hp → Prop) : Prop := ∀ H', Put H p o H' → Q H'
theorem nw_eq {H : Hp} {o : HO} {Q : VK} : (∀ p, H p = none → Q (.ref p) (upd H p o)) = Nw H o fun p H' => Q (.ref p) H' := by
  apply propext; constructor
  · intro h p H' n; rw [n.eq]; exact h p n.fr
  · intro h p hp; exact h p _ (New.mk' hp)
theorem wr_eq {H : Hp} {p : Addr} {o : HO} {Q : Hp → Prop} : Q (upd H p o) = Wr H p o Q := by
  apply propext; constructor
  · intro h H' n; rw [n.eq]; exact h
  · intro h; exact h _ Put.mk'
/-- what stood is as it was, but what stands at s -/
def Kp (s : Addr) (H H' : Hp) : Prop := ∀ b o, b ≠ s → H b = some o → H' b = some o
theorem Kp.refl {s : Addr} {H : Hp} : Kp s H H := fun _ _ _ h => h
theorem Kp.trans {s : Addr} {H H1 H2 : Hp} (a : Kp s H H1) (b : Kp s H1 H2) : Kp s H H2 := fun c o ne h => b c o ne (a c o ne h)
theorem Kp.same {s : Addr} {H H1 : Hp} (a : Same H H1) : Kp s H H1 := fun c o _ h => a c o h
theorem Kp.put {s : Addr} {H H1 : Hp} {o : HO} (a : Put H s o H1) : Kp s H H1 := fun c u ne h => a.k ne h
theorem Kp.k {s b : Addr} {H H' : Hp} {o : HO} (a : Kp s H H') (ne : b ≠ s) (h : H b = some o) : H' b = some o := a b o ne h
theorem Kp.fresh {s b : Addr} {H H' : Hp} (a : Kp s H H') (ne : b ≠ s) (h : H' b = none) : H b = none := by
  cases e : H b with
  | none => rfl
  | some o => rw [a b o ne e] at h; cases h
/-! ### rules of my own, and what the library's say -/
section
variable {X : Cx}
theorem CallR_imp {f : Value} {r r' : List V → Hp → VK → Prop} (h : CallR X f r) (i : ∀ xs H Q, r' xs H Q → r xs H Q) : CallR X f r' := fun pins s σ H xs us Q I rv q => h pins s σ H xs us Q I rv (i _ _ _ q)
theorem OpR_imp {f : Value → Value → Sem Value} {r r' : R2} (h : OpR X f r) (i : ∀ x y H Q, r' x y H Q → r x y H Q) : OpR X f r' := fun pins s σ H x y v u Q I rx ry q => h pins s σ H x y v u Q I rx ry (i _ _ _ _ q)
theorem MtR_imp {id : String} {r r' : V → List V → Hp → VK → Prop} (h : MtR X id r) (i : ∀ x xs H Q, r' x xs H Q → r x xs H Q) : MtR X id r' := fun pins s σ H x xs v us Q I rx rv q => h pins s σ H x xs v us Q I rx rv (i _ _ _ _ q)
def qInt : List V → Hp → VK → Prop := fun xs H Q => match xs with
  | [.int i] => Q (.int i) H
  | [.bl b] => Q (.int (if b then 1 else 0)) H
  | _ => False
theorem int1 : CallR X (.type "int") qInt := CallR_imp call_int1 fun xs H Q h => by
  unfold qInt at h
  split at h
  · exact .inl ⟨_, rfl, h⟩
  · exact .inr ⟨_, rfl, h⟩
  · exact h.elim
/-- list(x), x a list or a tuple -/
def qLst : List V → Hp → VK → Prop := fun xs H Q => match xs with
  | [.ref p] => ∃ ys, sq H p = some ys ∧ Nw H (.lst ys) fun l H' => Q (.ref l) H'
  | _ => False
theorem lst1 : CallR X (.type "list") qLst := CallR_imp call_list_of fun xs H Q h => by
  unfold qLst at h
  split at h
  · obtain ⟨ys, hs, q⟩ := h
    refine ⟨_, ys, rfl, ?_, ?_⟩
    · rcases sq_or hs with h | h
      · exact .inl (SqL.of h)
      · exact .inr (SqT.of h)
    · rw [nw_eq]; exact q
  · exact h.elim
/-- tuple(x), x a list -/
def qTup : List V → Hp → VK → Prop := fun xs H Q => match xs with
  | [.ref p] => ∃ ys, H p = some (.lst ys) ∧ Nw H (.tup ys) fun l H' => Q (.ref l) H'
  | _ => False
theorem tup1 : CallR X (.type "tuple") qTup := CallR_imp call_tuple_of fun xs H Q h => by
  unfold qTup at h
  split at h
  · obtain ⟨ys, hs, q⟩ := h
    refine ⟨_, ys, rfl, .inl ⟨SqL.of hs, ?_⟩⟩
    rw [nw_eq]; exact q
  · exact h.elim
end
section
variable {H : Hp} {Q : VK} {K : PySem.W.Frag}
theorem b_int {i : Int} : qInt [.int i] H Q = Q (.int i) H := rfl
theorem b_intb {b : Bool} : qInt [.bl b] H Q = Q (.int (if b then 1 else 0)) H := rfl
theorem b_list {p : Addr} : qLst [.ref p] H Q = ∃ ys, sq H p = some ys ∧ Nw H (.lst ys) fun l H' => Q (.ref l) H' := rfl
theorem b_tuple {p : Addr} : qTup [.ref p] H Q = ∃ ys, H p = some (.lst ys) ∧ Nw H (.tup ys) fun l H' => Q (.ref l) H' := rfl
theorem b_ix {p : Addr} {i : Int} : rIx1 (.ref p) (.int i) H Q = ∃ xs, sq H p = some xs ∧ ∃ v, atI xs i = some v ∧ Q v H := by
  unfold rIx1; apply propext; constructor
  · rintro ⟨_, _, xs, v, h1, h2, h⟩; cases h1; cases h2; exact ⟨xs, h.1, v, h.2⟩
  · rintro ⟨xs, h0, v, h⟩; exact ⟨_, _, xs, v, rfl, rfl, h0, h⟩
theorem b_len {p : Addr} : rLen1 [.ref p] H Q = ∃ xs, sq H p = some xs ∧ Q (.int xs.length) H := by
  unfold rLen1; apply propext; constructor
  · rintro ⟨_, xs, h1, h⟩; cases h1; exact ⟨xs, h⟩
  · rintro ⟨xs, h⟩; exact ⟨_, xs, rfl, h⟩
theorem b_setL {p : Addr} {k : Int} {v : V} {Q : Hp → Prop} : rSetL (.ref p) (.int k) v H Q = ∃ xs, H p = some (.lst xs) ∧ ∃ j, ixN xs.length k = some j ∧ Wr H p (.lst (xs.set j v)) Q := by
  unfold rSetL; apply propext; constructor
  · rintro ⟨_, xs, _, j, h1, h2, h3, h4, h⟩; cases h1; cases h2; rw [wr_eq (Q := Q)] at h; exact ⟨xs, h3, j, h4, h⟩
  · rintro ⟨xs, h3, j, h4, h⟩; rw [← wr_eq (Q := Q)] at h; exact ⟨_, xs, _, j, rfl, rfl, h3, h4, h⟩
theorem b_app {p : Addr} {y : V} : rAppend (.ref p) [y] H Q = ∃ xs, H p = some (.lst xs) ∧ xs.length < sizeLine ∧ Wr H p (.lst (xs ++ [y])) fun H' => Q .non H' := by
  unfold rAppend; apply propext; constructor
  · rintro ⟨_, xs, _, h1, h2, h3, h4, h⟩; cases h1; cases h2; rw [wr_eq (Q := fun H' => Q .non H')] at h; exact ⟨xs, h3, h4, h⟩
  · rintro ⟨xs, h3, h4, h⟩; rw [← wr_eq (Q := fun H' => Q .non H')] at h; exact ⟨_, xs, _, rfl, rfl, h3, h4, h⟩
theorem b_pop {p : Addr} : rPop (.ref p) [] H Q = ∃ xs, H p = some (.lst xs) ∧ ∃ y, xs[xs.length - 1]? = some y ∧ Wr H p (.lst xs.dropLast) fun H' => Q y H' := by
  unfold rPop; apply propext; constructor
  · rintro ⟨_, xs, y, h1, h2, h3, h4, h⟩; cases h1; rw [wr_eq (Q := fun H' => Q y H')] at h; exact ⟨xs, h3, y, h4, h⟩
  · rintro ⟨xs, h3, y, h4, h⟩; rw [← wr_eq (Q := fun H' => Q y H')] at h; exact ⟨_, xs, y, rfl, rfl, h3, h4, h⟩
theorem b_popAt {p : Addr} {i : Int} : rPopAt (.ref p) [.int i] H Q = ∃ xs, H p = some (.lst xs) ∧ ∃ k y, -(2 ^ 63) ≤ i ∧ i < 2 ^ 63 ∧ seqIndex? i xs.length = some k ∧ xs[k]? = some y ∧ Wr H p (.lst (xs.eraseIdx k)) fun H' => Q y H' := by
  unfold rPopAt; apply propext; constructor
  · rintro ⟨_, xs, _, k, y, h1, h2, h3, a, b, c, d, h⟩; cases h1; cases h2; rw [wr_eq (Q := fun H' => Q y H')] at h; exact ⟨xs, h3, k, y, a, b, c, d, h⟩
  · rintro ⟨xs, h3, k, y, a, b, c, d, h⟩; rw [← wr_eq (Q := fun H' => Q y H')] at h; exact ⟨_, xs, _, k, y, rfl, rfl, h3, a, b, c, d, h⟩
theorem b_sl {p : Addr} {lo hi : Option Int} : rSlL K (.ref p) lo hi H Q = ∃ xs, SqL K H p xs ∧ Nw H (.lst (cutV xs lo hi)) fun q H' => Q (.ref q) H' := by
  unfold rSlL; apply propext; constructor
  · rintro ⟨_, xs, h1, h2, h⟩; cases h1; rw [nw_eq] at h; exact ⟨xs, h2, h⟩
  · rintro ⟨xs, h2, h⟩; rw [← nw_eq] at h; exact ⟨_, xs, rfl, h2, h⟩
theorem b_rep {p : Addr} {k : Int} : rRep (.ref p) (.int k) H Q = ∃ xs, H p = some (.lst xs) ∧ -(2 ^ 63) ≤ k ∧ k < 2 ^ 63 ∧ xs.length * k.toNat ≤ sizeLine ∧ Nw H (.lst (List.replicate k.toNat xs).flatten) fun q H' => Q (.ref q) H' := by
  unfold rRep; apply propext; constructor
  · rintro ⟨_, _, xs, h1, h2, h3, a, b, c, h⟩; cases h1; cases h2; rw [nw_eq] at h; exact ⟨xs, h3, a, b, c, h⟩
  · rintro ⟨xs, h3, a, b, c, h⟩; rw [← nw_eq] at h; exact ⟨_, _, xs, rfl, rfl, h3, a, b, c, h⟩
theorem b_cat {p q : Addr} : rCat (.ref p) (.ref q) H Q = ∃ xs, H p = some (.lst xs) ∧ ∃ zs, H q = some (.lst zs) ∧ xs.length + zs.length ≤ sizeLine ∧ Nw H (.lst (xs ++ zs)) fun q H' => Q (.ref q) H' := by
  unfold rCat; apply propext; constructor
  · rintro ⟨_, _, xs, zs, h1, h2, h3, h4, a, h⟩; cases h1; cases h2; rw [nw_eq] at h; exact ⟨xs, h3, zs, h4, a, h⟩
  · rintro ⟨xs, h3, zs, h4, a, h⟩; rw [← nw_eq] at h; exact ⟨_, _, xs, zs, rfl, rfl, h3, h4, a, h⟩
theorem b_lstRg {σ : L2.St} {te : L2.St → Hp → (Int → Int → Hp → Prop) → Prop} : tLstRg te σ H Q = te σ H fun a b H1 => RgOk a b ∧ Nw H1 (.lst (rgV a b)) fun q H' => Q (.ref q) H' := by
  unfold tLstRg; simp only [nw_eq]
theorem b_tupRg {σ : L2.St} {te : L2.St → Hp → (Int → Int → Hp → Prop) → Prop} : tTupRg te σ H Q = te σ H fun a b H1 => RgOk a b ∧ Nw H1 (.tup (rgV a b)) fun q H' => Q (.ref q) H' := by
  unfold tTupRg; simp only [nw_eq]
theorem b_rg1 {σ : L2.St} {ta : TE} {Q : Int → Int → Hp → Prop} : tRg1 ta σ H Q = ta σ H fun x H1 => ∃ n, x = .int n ∧ Q 0 n H1 := rfl
theorem b_rg2 {σ : L2.St} {ta tb : TE} {Q : Int → Int → Hp → Prop} : tRg2 ta tb σ H Q = ta σ H fun x H1 => tb σ H1 fun y H2 => ∃ i j, x = .int i ∧ y = .int j ∧ Q i j H2 := rfl
theorem tyl {p : Addr} {xs : List V} (h : H p = some (.lst xs)) : tyV K "list" (.ref p) H := .inl ⟨rfl, _, SqL.of h⟩
end
structure NoB (mg : Str → Option Value) : Prop where
  no_len : mg "len" = none
  no_int : mg "int" = none
  no_bool : mg "bool" = none
  no_str : mg "str" = none
  no_range : mg "range" = none
  no_isinstance : mg "isinstance" = none
  no_tuple : mg "tuple" = none
  no_list : mg "list" = none
  no_min : mg "min" = none
  no_max : mg "max" = none
  no_sorted : mg "sorted" = none
  no_enumerate : mg "enumerate" = none
  no_sum : mg "sum" = none
  no_any : mg "any" = none
  no_all : mg "all" = none
  no_zip : mg "zip" = none
  no_reversed : mg "reversed" = none
  no_super : mg "super" = none
  no_set : mg "set" = none
  no_dict : mg "dict" = none
  no_ValueError : mg "ValueError" = none
  no_abs : mg "abs" = none
  no_repr : mg "repr" = none
  no_iter : mg "iter" = none
/-! ### what readings say, applied -/
section
variable {σ : L2.St} {H : Hp} {Q : VK} {D : Ends} {K : PySem.W.Frag}
theorem a_var {i : Nat} : tVar i σ H Q = ∃ v, σ[i]? = some (some v) ∧ Q v H := rfl
theorem a_c {v : V} : tC v σ H Q = Q v H := rfl
theorem a_op {r : R2} {a b : TE} : tOp r a b σ H Q = a σ H fun x H1 => b σ H1 fun y H2 => r x y H2 Q := rfl
theorem a_un {r : V → Hp → VK → Prop} {a : TE} : tUn r a σ H Q = a σ H fun x H1 => r x H1 Q := rfl
theorem a_test {a : TE} {Q : Bool → Hp → Prop} : tTest a σ H Q = a σ H fun x H1 => ∃ k, x = .bl k ∧ Q k H1 := rfl
theorem a_b {a : TE} {Q : Bool → Hp → Prop} : tB a σ H Q = a σ H fun x H1 => ∃ k, x = .bl k ∧ Q k H1 := rfl
theorem a_and {t u : TT} {Q : Bool → Hp → Prop} : tAnd t u σ H Q = t σ H fun c H1 => if c = true then u σ H1 Q else Q false H1 := rfl
theorem a_or {t u : TT} {Q : Bool → Hp → Prop} : tOr t u σ H Q = t σ H fun c H1 => if c = true then Q true H1 else u σ H1 Q := rfl
theorem a_not {t : TT} {Q : Bool → Hp → Prop} : tNot t σ H Q = t σ H fun c H1 => Q (!c) H1 := rfl
theorem a_andV {a b : TE} : tAndV a b σ H Q = a σ H fun x H1 => ∃ c, x = .bl c ∧ if c = true then b σ H1 Q else Q (.bl false) H1 := rfl
theorem a_orV {a b : TE} : tOrV a b σ H Q = a σ H fun x H1 => ∃ c, x = .bl c ∧ if c = true then Q (.bl true) H1 else b σ H1 Q := rfl
theorem a_notV {a : TE} : tNotV a σ H Q = a σ H fun x H1 => ∃ c, x = .bl c ∧ Q (.bl (!c)) H1 := rfl
theorem a_if {t : TT} {a b : TE} : tIf t a b σ H Q = t σ H fun c H1 => if c = true then a σ H1 Q else b σ H1 Q := rfl
theorem a_next : tNext D σ H = D.nx σ H := rfl
theorem a_seq {t u : TS} : tSeq t u D σ H = t { D with nx := u D } σ H := rfl
theorem a_break : tBreak D σ H = D.bk σ H := rfl
theorem a_cont : tCont D σ H = D.ct σ H := rfl
theorem a_drop {a : TE} : tDrop a D σ H = a σ H fun _ H1 => D.nx σ H1 := rfl
theorem a_ret {a : TE} : tRet a D σ H = a σ H D.rt := rfl
theorem a_retN : tRetN D σ H = D.rt .non H := rfl
theorem a_ifS {c : TT} {t u : TS} : tIfS c t u D σ H = c σ H fun b H1 => if b = true then t D σ H1 else u D σ H1 := rfl
theorem a_asg {a : TE} {g : TG} : tAsg a g D σ H = a σ H fun x H1 => g x σ H1 D.nx := rfl
theorem a_name {i : Nat} {v : V} {Q : L2.St → Hp → Prop} : gName i v σ H Q = Q (σ.set i (some v)) H := rfl
theorem a_sub {o i : TE} {t : TSet} {v : V} {Q : L2.St → Hp → Prop} : gSub o i t v σ H Q = o σ H fun o H1 => i σ H1 fun i H2 => t o i v H2 fun H3 => Q σ H3 := rfl
theorem a_nil {Q : List V → Hp → Prop} : tNil σ H Q = Q [] H := rfl
theorem a_cons {a : TE} {r : TA} {Q : List V → Hp → Prop} : tCons a r σ H Q = a σ H fun x H1 => r σ H1 fun xs H2 => Q (x :: xs) H2 := rfl
theorem a_tup {t : TA} : tTup t σ H Q = t σ H fun xs H1 => xs.length ≤ sizeLine ∧ Nw H1 (.tup xs) fun p H' => Q (.ref p) H' := by unfold tTup; simp only [nw_eq]
theorem a_lst {t : TA} : tLst t σ H Q = t σ H fun xs H1 => xs.length ≤ sizeLine ∧ Nw H1 (.lst xs) fun p H' => Q (.ref p) H' := by unfold tLst; simp only [nw_eq]
theorem a_call {sp : Sp} {E : XK} {t : TA} : tCall sp [] E t σ H Q = t σ H fun vs H1 => sp vs H1 Q E := by
  unfold tCall; simp only [List.append_nil]
theorem a_cb {r : List V → Hp → VK → Prop} {t : TA} : tCB r t σ H Q = t σ H fun vs H1 => r vs H1 Q := rfl
theorem a_bm0 {T : String} {r : V → List V → Hp → VK → Prop} {to : TE} : tBM0 K T r to σ H Q = to σ H fun x H1 => tyV K T x H1 ∧ r x [] H1 Q := rfl
theorem a_bm {T : String} {r : V → List V → Hp → VK → Prop} {to : TE} {t : TA} : tBM K T r to t σ H Q = to σ H fun x H1 => tyV K T x H1 ∧ t σ H1 fun xs H2 => r x xs H2 Q := rfl
theorem a_sl {r : V → Option Int → Option Int → Hp → VK → Prop} {te : TE} {tl th : TO} : tSl r te tl th σ H Q = te σ H fun x H1 => tl σ H1 fun l H2 => th σ H2 fun u H3 => r x l u H3 Q := rfl
theorem a_nopart {Q : Option Int → Hp → Prop} : tNoPart σ H Q = Q none H := rfl
theorem a_part {t : TE} {Q : Option Int → Hp → Prop} : tPart t σ H Q = t σ H fun x H1 => ∃ i, x = .int i ∧ Q (some i) H1 := rfl
theorem a_aug {i : Nat} {te : TE} {ti : TIp} : tAug i te ti D σ H = ∃ x, σ[i]? = some (some x) ∧ te σ H fun y H1 => ti x y H1 fun z H2 => D.nx (σ.set i (some z)) H2 := rfl
theorem b_rI {C : Int → Int → Prop} {g : Int → Int → V} {x y : Int} : rI C g (.int x) (.int y) H Q = (C x y ∧ Q (g x y) H) := by
  unfold rI; apply propext; constructor
  · rintro ⟨i, j, h1, h2, h⟩; cases h1; cases h2; exact h
  · intro h; exact ⟨x, y, rfl, rfl, h⟩
theorem b_rI0 {g : Int → Int → V} {x y : Int} : rI0 g (.int x) (.int y) H Q = Q (g x y) H := by
  unfold rI0; apply propext; constructor
  · rintro ⟨i, j, h1, h2, h⟩; cases h1; cases h2; exact h
  · intro h; exact ⟨x, y, rfl, rfl, h⟩
theorem b_rU {g : Int → V} {x : Int} : rU g (.int x) H Q = Q (g x) H := by
  unfold rU; apply propext; constructor
  · rintro ⟨i, h1, h⟩; cases h1; exact h
  · intro h; exact ⟨x, rfl, h⟩
theorem b_eq {x y : V} : rEq x y H Q = (scal x y = true ∧ Q (.bl (decide (x = y))) H) := rfl
theorem b_ne {x y : V} : rNe x y H Q = (scal x y = true ∧ Q (.bl (!decide (x = y))) H) := rfl
theorem b_isTF {x : V} {b : Bool} : rIsTF x (.bl b) H Q = Q (.bl (decide (x = .bl b))) H := by
  unfold rIsTF; apply propext; constructor
  · rintro ⟨i, h1, h⟩; cases h1; exact h
  · intro h; exact ⟨b, rfl, h⟩
end
theorem seq_join {t u : TS} {D : Ends} {σ : L2.St} {H : Hp} (M : L2.St → Hp → Prop) (h2 : ∀ N : L2.St → Hp → Prop, (∀ σ H, M σ H → N σ H) → t { D with nx := N } σ H) (h1 : ∀ σ H, M σ H → u D σ H) : tSeq t u D σ H := h2 (u D) h1
theorem ixN_7 : ixN 7 1 = some 1 ∧ ixN 7 2 = some 2 ∧ ixN 7 3 = some 3 ∧ ixN 7 4 = some 4 ∧ ixN 7 5 = some 5 ∧ ixN 7 6 = some 6 := by decide
theorem atI_of {α : Type} {xs : List α} {i : Int} {v : α} (h0 : 0 ≤ i) (h : xs[i.toNat]? = some v) : atI xs i = some v := by
  have hl := (List.getElem?_eq_some_iff.mp h).1
  unfold atI ixN
  rw [if_pos h0, if_pos (by omega)]
  exact h
theorem atI_0 {α : Type} {a : α} {r : List α} : atI (a :: r) 0 = some a := atI_of (by decide) rfl
theorem atI_1 {α : Type} {a b : α} {r : List α} : atI (a :: b :: r) 1 = some b := atI_of (by decide) rfl
theorem atI_2 {α : Type} {a b c : α} {r : List α} : atI (a :: b :: c :: r) 2 = some c := atI_of (by decide) rfl
theorem atI_3 {α : Type} {a b c d : α} {r : List α} : atI (a :: b :: c :: d :: r) 3 = some d := atI_of (by decide) rfl
theorem atI_4 {α : Type} {a b c d e : α} {r : List α} : atI (a :: b :: c :: d :: e :: r) 4 = some e := atI_of (by decide) rfl
theorem atI_5 {α : Type} {a b c d e f : α} {r : List α} : atI (a :: b :: c :: d :: e :: f :: r) 5 = some f := atI_of (by decide) rfl
theorem atI_6 {α : Type} {a b c d e f g : α} {r : List α} : atI (a :: b :: c :: d :: e :: f :: g :: r) 6 = some g := atI_of (by decide) rfl
theorem ixN_of {n : Nat} {i : Int} (h0 : 0 ≤ i) (h : i < n) : ixN n i = some i.toNat := by
  unfold ixN
  rw [if_pos h0, if_pos h]
theorem fm_bound {x m : Int} (h : 0 < m) : 0 ≤ x.fmod m ∧ x.fmod m < m := ⟨Int.fmod_nonneg_of_pos x h, Int.fmod_lt_of_pos x h⟩
theorem cm_lit {i j : Int} (h : -(2 ^ 64) < j ∧ j < 2 ^ 64) : CMul i j := .inr h
theorem cm_fm {x y m : Int} (h : 0 < m) (h2 : m < 2 ^ 64) : CMul (x.fmod m) y := .inl (by have := fm_bound (x := x) h; omega)
theorem scal_ii {i j : Int} : scal (.int i) (.int j) = true := rfl
theorem scal_bb {i j : Bool} : scal (.bl i) (.bl j) = true := rfl
theorem scal_ss {i j : Str} : scal (.str i) (.str j) = true := rfl
theorem scal_is {i : Int} {j : Str} : scal (.int i) (.str j) = true := rfl
theorem scal_si {i : Int} {j : Str} : scal (.str j) (.int i) = true := rfl
/-! ### loops -/
section
variable {σ : L2.St} {H : Hp} {Q : VK} {D : Ends} {K : PySem.W.Frag} {g : TG} {tb : TS} {tt : TT} {te : TE} {vs : List Nat} {ta : TA} {tl : TE}
def FRg (lo : Int) (n : Nat) (g : TG) (tb : TS) (D : Ends) (σ : L2.St) (H : Hp) : Prop := ∃ W : Nat → Nat → L2.St → Hp → Prop, (∃ m, W 0 m σ H) ∧ ∀ i m σ H, W i m σ H →
      ((Itr lo n).stop i H ∧ D.nx σ H) ∨ ((Itr lo n).go i H ∧ ∃ N : L2.St → Hp → Prop, (∀ σ' H', N σ' H' → ∃ m', m' < m ∧ W (i + 1) m' σ' H') ∧ ∀ x H', (Itr lo n).yld i H x H' → g x σ H' fun σ2 H2 => tb { D with nx := N, ct := N, bk := D.nx } σ2 H2)
theorem a_forR : tFor (iRng1 ta) g tb D σ H = ta σ H fun vs H1 => ∃ j : Int, vs = [.int j] ∧ -(2 ^ 62) ≤ j ∧ j < 2 ^ 62 ∧ FRg 0 j.toNat g tb D σ H1 := rfl
theorem a_forR2 : tFor (iRng2 ta) g tb D σ H = ta σ H fun vs H1 => ∃ i j : Int, vs = [.int i, .int j] ∧ (-(2 ^ 62) ≤ i ∧ i < 2 ^ 62 ∧ -(2 ^ 62) ≤ j ∧ j < 2 ^ 62) ∧ FRg i (j - i).toNat g tb D σ H1 := rfl
theorem fr_by {lo : Int} {n : Nat} (Pv : Nat → L2.St → Hp → Prop) (h0 : Pv 0 σ H)
    (hs : ∀ i σ H (N : L2.St → Hp → Prop), (∀ σ' H', Pv (i + 1) σ' H' → N σ' H') → i < n → Pv i σ H → g (.int (lo + i)) σ H fun σ2 H2 => tb { D with nx := N, ct := N, bk := D.nx } σ2 H2) (hd : ∀ σ H, Pv n σ H → D.nx σ H) : FRg lo n g tb D σ H := for_range Pv h0 (fun i σ H => hs i σ H _ fun _ _ z => z) hd
def FSq (K : PySem.W.Frag) (a : Addr) (g : TG) (tb : TS) (D : Ends) (σ : L2.St) (H : Hp) : Prop := ∃ xs, (H a = some (.lst xs) ∧ tFor (fun _ H R => R (Itl K a) H) g tb D σ H) ∨ (H a = some (.tup xs) ∧ tFor (fun _ H R => R (Itt K a) H) g tb D σ H)
def FSqV (K : PySem.W.Frag) (x : V) (g : TG) (tb : TS) (D : Ends) (σ : L2.St) (H : Hp) : Prop := ∃ a xs, x = .ref a ∧ ((H a = some (.lst xs) ∧ tFor (fun _ H R => R (Itl K a) H) g tb D σ H) ∨ (H a = some (.tup xs) ∧ tFor (fun _ H R => R (Itt K a) H) g tb D σ H))
theorem a_forS : tFor (iSq K tl) g tb D σ H = tl σ H fun x H1 => FSqV K x g tb D σ H1 := rfl
theorem b_fsq {a : Addr} : FSqV K (.ref a) g tb D σ H = FSq K a g tb D σ H := by
  unfold FSqV FSq; apply propext; constructor
  · rintro ⟨b, xs, e, h⟩; cases e; exact ⟨xs, h⟩
  · rintro ⟨xs, h⟩; exact ⟨a, xs, rfl, h⟩
theorem fs_by {a : Addr} {xs : List V} (hq : sq H a = some xs) (Pv : Nat → L2.St → Hp → Prop) (h0 : Pv 0 σ H) (hl : ∀ i σ' H', Pv i σ' H' → ∀ o, H a = some o → H' a = some o)
    (hs : ∀ i x σ H (N : L2.St → Hp → Prop), (∀ σ' H', Pv (i + 1) σ' H' → N σ' H') → xs[i]? = some x → Pv i σ H → g x σ H fun σ2 H2 => tb { D with nx := N, ct := N, bk := D.nx } σ2 H2) (hd : ∀ σ H, Pv xs.length σ H → D.nx σ H) : FSq K a g tb D σ H := by
  rcases sq_or hq with h | h
  · exact ⟨xs, .inl ⟨h, for_list Pv h0 (fun i σ' H' _ p => SqL.of (hl i σ' H' p _ h)) (fun i x σ H => hs i x σ H _ fun _ _ z => z) hd⟩⟩
  · exact ⟨xs, .inr ⟨h, for_tup Pv h0 (fun i σ' H' _ p => SqT.of (hl i σ' H' p _ h)) (fun i x σ H => hs i x σ H _ fun _ _ z => z) hd⟩⟩
/-! ### comprehensions -/
def CRg (lo : Int) (n : Nat) (g : TG) (tt : TT) (te : TE) (vs : List Nat) (σ : L2.St) (H : Hp) (Q : VK) : Prop := tLc (fun _ H R => R (Itr lo n) H) g tt te vs σ H Q
theorem a_lcR : tLc (iRng1 ta) g tt te vs σ H Q = ta σ H fun ws H1 => ∃ j : Int, ws = [.int j] ∧ -(2 ^ 62) ≤ j ∧ j < 2 ^ 62 ∧ CRg 0 j.toNat g tt te vs σ H1 Q := rfl
theorem a_lcR2 : tLc (iRng2 ta) g tt te vs σ H Q = ta σ H fun ws H1 => ∃ i j : Int, ws = [.int i, .int j] ∧ (-(2 ^ 62) ≤ i ∧ i < 2 ^ 62 ∧ -(2 ^ 62) ≤ j ∧ j < 2 ^ 62) ∧ CRg i (j - i).toNat g tt te vs σ H1 Q := rfl
/-- the end of a comprehension's turn -/
def CSt (C : Addr) (N : Hp → Prop) (y : V) (H : Hp) : Prop := ∃ acc, H C = some (.lst acc) ∧ acc.length < sizeLine ∧ N (upd H C (.lst (acc ++ [y])))
theorem cst {C : Addr} {N : Hp → Prop} {y : V} {H : Hp} {acc : List V} (h : H C = some (.lst acc)) (hl : acc.length < sizeLine) (hn : ∀ H5, Put H C (.lst (acc ++ [y])) H5 → N H5) : CSt C N y H := ⟨acc, h, hl, hn _ Put.mk'⟩
theorem cr_by {lo : Int} {n : Nat} (Pv : Addr → Nat → List V → Hp → Prop) (h0 : ∀ C H0, New H C (.lst []) H0 → Pv C 0 [] H0)
    (hs : ∀ C i acc H1 N, H C = none → i < n → H1 C = some (.lst acc) → Pv C i acc H1 → (∀ acc' H5, H5 C = some (.lst acc') → Pv C (i + 1) acc' H5 → N H5) → g (.int (lo + i)) (wipe σ vs) H1 fun σ2 H2 => wipe σ2 vs = wipe σ vs ∧ tt σ2 H2 fun b H3 =>
      if b = true then te σ2 H3 fun y H4 => CSt C N y H4 else N H3)
    (hd : ∀ C acc H1, H C = none → H1 C = some (.lst acc) → Pv C n acc H1 → Q (.ref C) H1) : CRg lo n g tt te vs σ H Q := by
  intro C hC
  refine lc_range (fun i H1 => ∃ acc, H1 C = some (.lst acc) ∧ Pv C i acc H1) ⟨[], upd_same, h0 C _ (New.mk' hC)⟩ (fun i H1 hi ⟨acc, ha, p⟩ => ?_) (fun H1 ⟨acc, ha, p⟩ => hd C acc H1 hC ha p)
  exact hs C i acc H1 _ hC hi ha p fun acc' H5 h5 p5 => ⟨acc', h5, p5⟩
def CSq (K : PySem.W.Frag) (a : Addr) (g : TG) (tt : TT) (te : TE) (vs : List Nat) (σ : L2.St) (H : Hp) (Q : VK) : Prop := ∃ xs, (H a = some (.lst xs) ∧ tLc (fun _ H R => R (Itl K a) H) g tt te vs σ H Q) ∨ (H a = some (.tup xs) ∧ tLc (fun _ H R => R (Itt K a) H) g tt te vs σ H Q)
def CSqV (K : PySem.W.Frag) (x : V) (g : TG) (tt : TT) (te : TE) (vs : List Nat) (σ : L2.St) (H : Hp) (Q : VK) : Prop := ∃ a xs, x = .ref a ∧ ((H a = some (.lst xs) ∧ tLc (fun _ H R => R (Itl K a) H) g tt te vs σ H Q) ∨ (H a = some (.tup xs) ∧ tLc (fun _ H R => R (Itt K a) H) g tt te vs σ H Q))
theorem a_lcS : tLc (iSq K tl) g tt te vs σ H Q = tl σ H fun x H1 => CSqV K x g tt te vs σ H1 Q := rfl
theorem b_csq {a : Addr} : CSqV K (.ref a) g tt te vs σ H Q = CSq K a g tt te vs σ H Q := by
  unfold CSqV CSq; apply propext; constructor
  · rintro ⟨b, xs, e, h⟩; cases e; exact ⟨xs, h⟩
  · rintro ⟨xs, h⟩; exact ⟨a, xs, rfl, h⟩
theorem cs_by {a : Addr} {xs : List V} (hq : sq H a = some xs) (Pv : Addr → Nat → List V → Hp → Prop) (h0 : ∀ C H0, New H C (.lst []) H0 → Pv C 0 [] H0) (hl : ∀ C i acc H', H C = none → Pv C i acc H' → ∀ o, H a = some o → H' a = some o)
    (hs : ∀ C i x acc H1 N, H C = none → xs[i]? = some x → H1 C = some (.lst acc) → Pv C i acc H1 → (∀ acc' H5, H5 C = some (.lst acc') → Pv C (i + 1) acc' H5 → N H5) → g x (wipe σ vs) H1 fun σ2 H2 => wipe σ2 vs = wipe σ vs ∧ tt σ2 H2 fun b H3 =>
      if b = true then te σ2 H3 fun y H4 => CSt C N y H4 else N H3)
    (hd : ∀ C acc H1, H C = none → H1 C = some (.lst acc) → Pv C xs.length acc H1 → Q (.ref C) H1) : CSq K a g tt te vs σ H Q := by
  rcases sq_or hq with h | h
  · refine ⟨xs, .inl ⟨h, fun C hC => ?_⟩⟩
    refine lc_list (fun i H1 => ∃ acc, H1 C = some (.lst acc) ∧ Pv C i acc H1) ⟨[], upd_same, h0 C _ (New.mk' hC)⟩ (fun i H1 _ ⟨acc, ha, p⟩ => SqL.of (hl C i acc H1 hC p _ h)) (fun i x H1 hi ⟨acc, ha, p⟩ => ?_) (fun H1 ⟨acc, ha, p⟩ => hd C acc H1 hC ha p)
    exact hs C i x acc H1 _ hC hi ha p fun acc' H5 h5 p5 => ⟨acc', h5, p5⟩
  · refine ⟨xs, .inr ⟨h, fun C hC => ?_⟩⟩
    refine lc_tup (fun i H1 => ∃ acc, H1 C = some (.lst acc) ∧ Pv C i acc H1) ⟨[], upd_same, h0 C _ (New.mk' hC)⟩ (fun i H1 _ ⟨acc, ha, p⟩ => SqT.of (hl C i acc H1 hC p _ h)) (fun i x H1 hi ⟨acc, ha, p⟩ => ?_) (fun H1 ⟨acc, ha, p⟩ => hd C acc H1 hC ha p)
    exact hs C i x acc H1 _ hC hi ha p fun acc' H5 h5 p5 => ⟨acc', h5, p5⟩
/-! ### while -/
def WSt (N : L2.St → Hp → Prop) (tb : TS) (D : Ends) (σ : L2.St) (b : Bool) (H : Hp) : Prop := if b = true then tb { D with nx := N, ct := N, bk := D.nx } σ H else D.nx σ H
theorem wh_by {c : TT} (Pv : Nat → L2.St → Hp → Prop) (m : Nat) (h0 : Pv m σ H) (hs : ∀ m σ H (N : L2.St → Hp → Prop) (R : Bool → Hp → Prop), (∀ m' σ' H', m' < m → Pv m' σ' H' → N σ' H') → (∀ b H1, WSt N tb D σ b H1 → R b H1) → Pv m σ H → c σ H R) : tWhile c tb D σ H := by
  refine ⟨Pv, ⟨m, h0⟩, fun m σ H p => ?_⟩
  refine hs m σ H (fun σ' H' => ∃ m', m' < m ∧ Pv m' σ' H') _ (fun m' σ' H' h p => ⟨m', h, p⟩) (fun b H1 h => ?_) p
  unfold WSt at h
  cases b with
  | true => exact ⟨_, fun _ _ z => z, h⟩
  | false => exact h
theorem wst {N : L2.St → Hp → Prop} {b : Bool} (ht : b = true → tb { D with nx := N, ct := N, bk := D.nx } σ H) (hf : b = false → D.nx σ H) : WSt N tb D σ b H := by
  cases b with
  | true => exact ht rfl
  | false => exact hf rfl
end
theorem wipe_nil {σ : L2.St} : wipe σ [] = σ := rfl
theorem wipe_cons {σ : L2.St} {v : Nat} {vs : List Nat} : wipe σ (v :: vs) = (wipe σ vs).set v none := rfl
theorem a_yes {σ : L2.St} {H : Hp} {Q : Bool → Hp → Prop} : tYes σ H Q = Q true H := rfl
/-! ### data -/
inductive Lf : V → PyData → Nat → Prop
  | non : Lf .non .none 1
  | bl (b : Bool) : Lf (.bl b) (.bool b) 1
  | int (i : Int) : Lf (.int i) (.int i) 1
  | str (x : Str) : Lf (.str x) (.str x) (x.length + 1)
theorem Lf.pos {v : V} {d : PyData} {n : Nat} (h : Lf v d n) : 0 < n := by cases h <;> omega
mutual
inductive Dw (E : List Addr) (H : Hp) : V → PyData → Nat → Prop
  | lf {v : V} {d : PyData} {n : Nat} : Lf v d n → Dw E H v d n
  | lst {a : Addr} {xs : List V} {ds : List PyData} {n : Nat} : a ∉ E → H a = some (.lst xs) → DwAll E H xs ds n → Dw E H (.ref a) (.list ds) (n + 1)
  | tup {a : Addr} {xs : List V} {ds : List PyData} {n : Nat} : a ∉ E → H a = some (.tup xs) → DwAll E H xs ds n → Dw E H (.ref a) (.tuple ds) (n + 1)
inductive DwAll (E : List Addr) (H : Hp) : List V → List PyData → Nat → Prop
  | nil : DwAll E H [] [] 0
  | cons {v : V} {vs : List V} {d : PyData} {ds : List PyData} {n m : Nat} : Dw E H v d n → DwAll E H vs ds m → DwAll E H (v :: vs) (d :: ds) (n + m)
end
mutual
theorem Dw.kp {E : List Addr} {H H' : Hp} (k : ∀ a o, a ∉ E → H a = some o → H' a = some o) : ∀ {v : V} {d : PyData} {n : Nat}, Dw E H v d n → Dw E H' v d n
  | _, _, _, .lf l => .lf l
  | _, _, _, .lst ne h a => .lst ne (k _ _ ne h) (DwAll.kp k a)
  | _, _, _, .tup ne h a => .tup ne (k _ _ ne h) (DwAll.kp k a)
theorem DwAll.kp {E : List Addr} {H H' : Hp} (k : ∀ a o, a ∉ E → H a = some o → H' a = some o) : ∀ {v : List V} {d : List PyData} {n : Nat}, DwAll E H v d n → DwAll E H' v d n
  | _, _, _, .nil => .nil
  | _, _, _, .cons a b => .cons (Dw.kp k a) (DwAll.kp k b)
end
theorem Dw.pos {E : List Addr} {H : Hp} {v : V} {d : PyData} {n : Nat} (h : Dw E H v d n) : 0 < n := by
  cases h with
  | lf l => exact l.pos
  | lst => omega
  | tup => omega
theorem DwAll.len {E : List Addr} {H : Hp} : ∀ {v : List V} {d : List PyData} {n : Nat}, DwAll E H v d n → v.length = d.length ∧ v.length ≤ n
  | _, _, _, .nil => ⟨rfl, Nat.le_refl _⟩
  | _, _, _, .cons a b => by
    have h1 := DwAll.len b
    have h2 := a.pos
    simp only [List.length_cons]
    omega
theorem DwAll.app {E : List Addr} {H : Hp} : ∀ {v : List V} {d : List PyData} {n : Nat} {v' : List V} {d' : List PyData} {n' : Nat}, DwAll E H v d n → DwAll E H v' d' n' → DwAll E H (v ++ v') (d ++ d') (n + n')
  | _, _, _, _, _, n', .nil, b => by rw [Nat.zero_add]; exact b
  | _, _, _, _, _, _, .cons (n := n) (m := m) a r, b => by rw [Nat.add_assoc]; exact .cons a (DwAll.app r b)
theorem DwAll.one {E : List Addr} {H : Hp} {v : V} {d : PyData} {n : Nat} (h : Dw E H v d n) : DwAll E H [v] [d] n := .cons h .nil
theorem DwAll.get {E : List Addr} {H : Hp} : ∀ {v : List V} {d : List PyData} {n i : Nat} {x : V}, DwAll E H v d n → v[i]? = some x → ∃ e m, d[i]? = some e ∧ Dw E H x e m ∧ m ≤ n
  | _, _, _, _, _, .nil, h => by simp at h
  | _, _, _, 0, x, .cons (n := n) (m := m) a r, h => by
    simp at h; subst h
    exact ⟨_, _, rfl, a, by omega⟩
  | _, _, _, i + 1, x, .cons (n := n) (m := m) a r, h => by
    obtain ⟨e, k, h1, h2, h3⟩ := DwAll.get (i := i) (x := x) r (by simpa using h)
    exact ⟨e, k, by simpa using h1, h2, by omega⟩
theorem DwAll.mem {E : List Addr} {H : Hp} {v : List V} {d : List PyData} {n : Nat} {x : V} (h : DwAll E H v d n) (hx : x ∈ v) : ∃ e m, e ∈ d ∧ Dw E H x e m ∧ m ≤ n := by
  obtain ⟨i, hi⟩ := List.getElem?_of_mem hx
  obtain ⟨e, m, h1, h2, h3⟩ := h.get hi
  exact ⟨e, m, List.mem_of_getElem? h1, h2, h3⟩
/-- any list of data -/
theorem DwAll.of {E : List Addr} {H : Hp} {b : Nat} : ∀ {v : List V}, (∀ x ∈ v, ∃ d n, Dw E H x d n ∧ n ≤ b) → ∃ ds n, DwAll E H v ds n ∧ n ≤ b * v.length
  | [], _ => ⟨[], 0, .nil, by simp⟩
  | x :: r, h => by
    obtain ⟨d, n, h1, h2⟩ := h x List.mem_cons_self
    obtain ⟨ds, m, h3, h4⟩ := DwAll.of (v := r) fun y hy => h y (List.mem_cons_of_mem _ hy)
    refine ⟨d :: ds, n + m, .cons h1 h3, ?_⟩
    rw [List.length_cons, Nat.mul_add]
    omega
theorem DwAll.ints {E : List Addr} {H : Hp} : ∀ ns : List Int, DwAll E H (ns.map V.int) (ns.map PyData.int) ns.length
  | [] => .nil
  | n :: r => by
    have := DwAll.cons (E := E) (H := H) (Dw.lf (.int n)) (DwAll.ints r)
    rw [List.length_cons, Nat.add_comm]
    exact this
/-- the law's store at s, its list of cells at l -/
def Sto (s l : Addr) (H : Hp) : Prop := ∃ (ns : List Int) (i1 i2 i3 i4 i5 i6 : Int), H s = some (.lst [.ref l, .int i1, .int i2, .int i3, .int i4, .int i5, .int i6]) ∧ H l = some (.lst (ns.map V.int)) ∧ l ≠ s ∧ 0 ≤ i1
theorem Sto.put {s l : Addr} {H H' : Hp} {ns : List Int} {i1 i2 i3 i4 i5 i6 : Int} (hl : H l = some (.lst (ns.map V.int))) (ne : l ≠ s) (n : Put H s (.lst [.ref l, .int i1, .int i2, .int i3, .int i4, .int i5, .int i6]) H') (h1 : 0 ≤ i1) : Sto s l H' :=
  ⟨ns, i1, i2, i3, i4, i5, i6, n.at_, n.k ne hl, ne, h1⟩
theorem Sto.ne {s l p : Addr} {H : Hp} (h : Sto s l H) (hp : H p = none) : p ≠ s ∧ p ≠ l := by
  obtain ⟨ns, i1, i2, i3, i4, i5, i6, hs, hl, ne, h1⟩ := h
  exact ⟨(ne_of_none hs hp).symm, (ne_of_none hl hp).symm⟩
theorem Sto.keep {s l : Addr} {H H' : Hp} (h : Sto s l H) (a : ∀ o, H s = some o → H' s = some o) (b : ∀ o, H l = some o → H' l = some o) : Sto s l H' := by
  obtain ⟨ns, i1, i2, i3, i4, i5, i6, hs, hl, ne, h1⟩ := h
  exact ⟨ns, i1, i2, i3, i4, i5, i6, a _ hs, b _ hl, ne, h1⟩
theorem Sto.same {s l : Addr} {H H' : Hp} (h : Sto s l H) (a : Same H H') : Sto s l H' := h.keep (fun _ => a _ _) fun _ => a _ _
structure Ge (s l : Addr) (H H' : Hp) : Prop where
  kp : Kp s H H'
  st : Sto s l H'
section
variable {s l p : Addr} {H H1 H2 : Hp} {o : HO}
theorem Ge.refl (h : Sto s l H) : Ge s l H H := ⟨Kp.refl, h⟩
theorem Ge.trans (a : Ge s l H H1) (b : Ge s l H1 H2) : Ge s l H H2 := ⟨a.kp.trans b.kp, b.st⟩
theorem Ge.same (a : Ge s l H H1) (b : Same H1 H2) : Ge s l H H2 := ⟨a.kp.trans (Kp.same b), a.st.same b⟩
theorem Ge.new (a : Ge s l H H1) (n : New H1 p o H2) : Ge s l H H2 := a.same n.same
theorem Ge.fr (a : Ge s l H H1) (h : H1 p = none) : H p = none := a.kp.fresh (a.st.ne h).1 h
/-- a store to an object that is new since H -/
theorem Ge.put (a : Ge s l H H1) (h0 : Sto s l H) (hp : H p = none) (n : Put H1 p o H2) : Ge s l H H2 := by
  have e := h0.ne hp
  exact ⟨fun b u hb hu => n.k (ne_of_none hu hp) (a.kp b u hb hu), a.st.keep (fun _ h => n.k e.1.symm h) fun _ h => n.k e.2.symm h⟩
theorem Ge.at (a : Ge s l H1 H2) (h0 : Sto s l H) (hp : H p = none) (h : H1 p = some o) : H2 p = some o := a.kp.k (h0.ne hp).1 h
theorem Ge.k (a : Ge s l H1 H2) (ne : p ≠ s) (h : H1 p = some o) : H2 p = some o := a.kp.k ne h
end
theorem Kp.sq {s p : Addr} {H H' : Hp} {xs : List V} (a : Kp s H H') (ne : p ≠ s) (h : sq H p = some xs) : sq H' p = some xs := by
  rcases sq_or h with h | h
  · exact sq_l (a.k ne h)
  · exact sq_t (a.k ne h)
theorem cxK {CX : CXT} {P : Program} {w : World} {K : PySem.W.Frag} {mg : Str → Option Value} {base : Heap} {N : List Str} {q : Str} {sc : Scope} {f : Addr} {cd : Value} {A : Around} {outer : List Env} {s : Shared} {H : Hp} {E : XK} : (cxOf CX P w K mg base N q sc f cd A outer s H E).K = K := rfl
theorem Sto.ne' {s l p : Addr} {H : Hp} {o : HO} (h : Sto s l H) (hp : H p = some o) (hb : ∀ m i1 i2 i3 i4 i5 i6, o ≠ .lst [.ref m, .int i1, .int i2, .int i3, .int i4, .int i5, .int i6]) : p ≠ s := by
  obtain ⟨ns, i1, i2, i3, i4, i5, i6, hs, hl, ne, h1⟩ := h
  rintro rfl
  rw [hp] at hs
  exact hb _ _ _ _ _ _ _ (Option.some.inj hs)
section
variable {σ : L2.St} {H : Hp} {Q : VK}
theorem a_m1 {r : V → List V → Hp → VK → Prop} {a b : TE} : tM1 r a b σ H Q = a σ H fun x H1 => (∃ z, x = .str z) ∧ b σ H1 fun y H2 => r x [y] H2 Q := rfl
theorem b_ixS {z : Str} {i : Int} : rIxS (.str z) (.int i) H Q = (z.length ≤ sizeLine ∧ ∃ c, atI z.cps.toList i = some c ∧ Q (.str ⟨#[c]⟩) H) := by
  unfold rIxS; apply propext; constructor
  · rintro ⟨_, _, c, h1, h2, h3, h4, h⟩; cases h1; cases h2; exact ⟨h3, c, h4, h⟩
  · rintro ⟨h3, c, h4, h⟩; exact ⟨_, _, c, rfl, rfl, h3, h4, h⟩
theorem b_slS {z : Str} {lo hi : Option Int} : rSlS (.str z) lo hi H Q = (z.length ≤ sizeLine ∧ Q (.str (cutS z lo hi)) H) := by
  unfold rSlS; apply propext; constructor
  · rintro ⟨_, h1, h3, h⟩; cases h1; exact ⟨h3, h⟩
  · rintro ⟨h3, h⟩; exact ⟨_, rfl, h3, h⟩
end
theorem len_app (a b : Str) : (a ++ b).length = a.length + b.length := by
  show (Array.size (a.cps ++ b.cps)) = _
  rw [Array.size_append]
  rfl
theorem tl_app (a b : Str) : (a ++ b).cps.toList = a.cps.toList ++ b.cps.toList := by
  show (a.cps ++ b.cps).toList = _
  rw [Array.toList_append]
theorem len_tl (a : Str) : a.cps.toList.length = a.length := by simp [Str.length]
/-- signs from the space to the tilde and line feeds -/
def Vis (z : Str) : Prop := ∀ c ∈ z.cps.toList, c = 10 ∨ (32 ≤ c ∧ c < 127)
theorem Vis.app {a b : Str} (h : Vis a) (h' : Vis b) : Vis (a ++ b) := by
  intro c hc
  rw [tl_app] at hc
  rcases List.mem_append.mp hc with z | z
  · exact h c z
  · exact h' c z
theorem Vis.cut {a : Str} (h : Vis a) (lo hi : Option Int) : Vis (cutS a lo hi) := by
  intro c hc
  unfold cutS at hc
  exact h c (List.mem_of_mem_drop (List.mem_of_mem_take (by simpa using hc)))
theorem joinL_nil : ∀ ps : List (List Nat), TL.joinL [] ps = ps.flatten
  | [] => rfl
  | [p] => by simp [TL.joinL]
  | p :: q :: r => by
    have e := joinL_nil (q :: r)
    show p ++ ([] ++ TL.joinL [] (q :: r)) = _
    rw [e] <;> simp
theorem join_tl (ys : List Str) : (Txt.join ("" : Str) ys).cps.toList = (ys.map fun z => z.cps.toList).flatten := by
  have e := TL.tl_join ("" : Str) ys
  rw [← TL.join_eq] at e
  have e0 : TL.tl ("" : Str) = [] := by decide +kernel
  rw [e0, joinL_nil] at e
  exact e
mutual
theorem Dw.sub {E E' : List Addr} {H : Hp} (k : ∀ a, a ∈ E' → a ∈ E) : ∀ {v : V} {d : PyData} {n : Nat}, Dw E H v d n → Dw E' H v d n
  | _, _, _, .lf l => .lf l
  | _, _, _, .lst ne h a => .lst (fun z => ne (k _ z)) h (DwAll.sub k a)
  | _, _, _, .tup ne h a => .tup (fun z => ne (k _ z)) h (DwAll.sub k a)
theorem DwAll.sub {E E' : List Addr} {H : Hp} (k : ∀ a, a ∈ E' → a ∈ E) : ∀ {v : List V} {d : List PyData} {n : Nat}, DwAll E H v d n → DwAll E' H v d n
  | _, _, _, .nil => .nil
  | _, _, _, .cons a b => .cons (Dw.sub k a) (DwAll.sub k b)
end
/-- these addresses are taken -/
def Lv (E : List Addr) (H : Hp) : Prop := ∀ a ∈ E, H a ≠ none
section
variable {s l p : Addr} {E : List Addr} {H H1 H2 : Hp} {o : HO} {v : V} {d : PyData} {n : Nat}
theorem Lv.out (h : Lv E H) (hp : H p = none) : p ∉ E := fun z => h p z hp
theorem Lv.cons (h : Lv E H) (hp : H p = some o) : Lv (p :: E) H := fun a ha => by
  rcases List.mem_cons.mp ha with z | z
  · rw [z, hp]; exact fun q => by cases q
  · exact h a z
theorem Lv.ge (h : Lv E H) (g : Ge s l H H1) : Lv E H1 := fun a ha => by
  by_cases e : a = s
  · obtain ⟨ns, i1, i2, i3, i4, i5, i6, hs, _⟩ := g.st
    rw [e, hs]; exact fun q => by cases q
  · have := h a ha
    cases q : H a with
    | none => exact absurd q this
    | some o => rw [g.k e q]; exact fun z => by cases z
theorem Lv.same (h : Lv E H) (g : Same H H1) : Lv E H1 := fun a ha => by
  have := h a ha
  cases q : H a with
  | none => exact absurd q this
  | some o => rw [g _ _ q]; exact fun z => by cases z
theorem Dw.ge (h : Dw E H v d n) (g : Ge s l H H1) (hs : s ∈ E) : Dw E H1 v d n := h.kp fun a o ha e => g.k (fun z => ha (z ▸ hs)) e
theorem Dw.same (h : Dw E H v d n) (g : Same H H1) : Dw E H1 v d n := h.kp fun a o _ e => g a o e
theorem Dw.new (h : Dw E H v d n) (g : New H p o H1) : Dw E H1 v d n := h.same g.same
theorem Dw.put (h : Dw E H v d n) (g : Put H p o H1) (hp : p ∈ E) : Dw E H1 v d n := h.kp fun a o ha e => g.k (fun z => ha (z ▸ hp)) e
theorem DwAll.ge {vs : List V} {ds : List PyData} (h : DwAll E H vs ds n) (g : Ge s l H H1) (hs : s ∈ E) : DwAll E H1 vs ds n := h.kp fun a o ha e => g.k (fun z => ha (z ▸ hs)) e
theorem DwAll.same {vs : List V} {ds : List PyData} (h : DwAll E H vs ds n) (g : Same H H1) : DwAll E H1 vs ds n := h.kp fun a o _ e => g a o e
theorem DwAll.put {vs : List V} {ds : List PyData} (h : DwAll E H vs ds n) (g : Put H p o H1) (hp : p ∈ E) : DwAll E H1 vs ds n := h.kp fun a o ha e => g.k (fun z => ha (z ▸ hp)) e
end
/-- data of at most so much weight -/
def Db (E : List Addr) (H : Hp) (b : Nat) (v : V) : Prop := ∃ d n, Dw E H v d n ∧ n ≤ b
section
variable {s l p : Addr} {E E' : List Addr} {H H1 H2 : Hp} {o : HO} {v : V} {b b' : Nat} {xs : List V}
theorem Db.le (h : Db E H b v) (hb : b ≤ b') : Db E H b' v := by
  obtain ⟨d, n, h, hn⟩ := h
  exact ⟨d, n, h, Nat.le_trans hn hb⟩
theorem Db.sub (h : Db E H b v) (k : ∀ a, a ∈ E' → a ∈ E) : Db E' H b v := by
  obtain ⟨d, n, h, hn⟩ := h
  exact ⟨d, n, h.sub k, hn⟩
theorem Db.ge (h : Db E H b v) (g : Ge s l H H1) (hs : s ∈ E) : Db E H1 b v := by
  obtain ⟨d, n, h, hn⟩ := h
  exact ⟨d, n, h.ge g hs, hn⟩
theorem Db.same (h : Db E H b v) (g : Same H H1) : Db E H1 b v := by
  obtain ⟨d, n, h, hn⟩ := h
  exact ⟨d, n, h.same g, hn⟩
theorem Db.put (h : Db E H b v) (g : Put H p o H1) (hp : p ∈ E) : Db E H1 b v := by
  obtain ⟨d, n, h, hn⟩ := h
  exact ⟨d, n, h.put g hp, hn⟩
theorem Db.seq (h : ∀ x ∈ xs, Db E H b x) (hp : p ∉ E) (hq : H p = some (.tup xs) ∨ H p = some (.lst xs)) : Db E H (b * xs.length + 1) (.ref p) := by
  obtain ⟨ds, n, h1, h2⟩ := DwAll.of h
  rcases hq with q | q
  · exact ⟨_, _, .tup hp q h1, by omega⟩
  · exact ⟨_, _, .lst hp q h1, by omega⟩
end
theorem all_app {p : V → Prop} {xs : List V} {y : V} (h : ∀ x ∈ xs, p x) (hy : p y) : ∀ x ∈ xs ++ [y], p x := fun x hx => by
  rcases List.mem_append.mp hx with q | q
  · exact h x q
  · rw [List.mem_singleton.mp q]; exact hy
mutual
theorem Dw.fresh {E : List Addr} {C : Addr} {H : Hp} (k : H C = none) : ∀ {v : V} {d : PyData} {n : Nat}, Dw E H v d n → Dw (C :: E) H v d n
  | _, _, _, .lf l => .lf l
  | _, _, _, .lst ne h a => .lst (fun z => by
      rcases List.mem_cons.mp z with q | q
      · rw [q, k] at h; cases h
      · exact ne q) h (DwAll.fresh k a)
  | _, _, _, .tup ne h a => .tup (fun z => by
      rcases List.mem_cons.mp z with q | q
      · rw [q, k] at h; cases h
      · exact ne q) h (DwAll.fresh k a)
theorem DwAll.fresh {E : List Addr} {C : Addr} {H : Hp} (k : H C = none) : ∀ {v : List V} {d : List PyData} {n : Nat}, DwAll E H v d n → DwAll (C :: E) H v d n
  | _, _, _, .nil => .nil
  | _, _, _, .cons a b => .cons (Dw.fresh k a) (DwAll.fresh k b)
end
theorem kb_all : kitB "NoneType" "int" = some false ∧ kitB "bool" "int" = some true ∧ kitB "int" "int" = some true ∧ kitB "str" "int" = some false ∧ kitB "list" "int" = some false ∧ kitB "tuple" "int" = some false ∧ kitB "dict" "int" = some false ∧ kitB "NoneType" "bool" = some false ∧ kitB "bool" "bool" = some true ∧ kitB "int" "bool" = some false ∧ kitB "str" "bool" = some false ∧ kitB "list" "bool" = some false ∧ kitB "tuple" "bool" = some false ∧ kitB "dict" "bool" = some false ∧ kitB "NoneType" "str" = some false ∧ kitB "bool" "str" = some false ∧ kitB "int" "str" = some false ∧ kitB "str" "str" = some true ∧ kitB "list" "str" = some false ∧ kitB "tuple" "str" = some false ∧ kitB "dict" "str" = some false ∧ kitB "NoneType" "list" = some false ∧ kitB "bool" "list" = some false ∧ kitB "int" "list" = some false ∧ kitB "str" "list" = some false ∧ kitB "list" "list" = some true ∧ kitB "tuple" "list" = some false ∧ kitB "dict" "list" = some false ∧ kitB "NoneType" "tuple" = some false ∧ kitB "bool" "tuple" = some false ∧ kitB "int" "tuple" = some false ∧ kitB "str" "tuple" = some false ∧ kitB "list" "tuple" = some false ∧ kitB "tuple" "tuple" = some true ∧ kitB "dict" "tuple" = some false := by decide +kernel
theorem b_isi {x : V} {T : String} {H : Hp} {Q : VK} : rIsi1 [x, .ty T] H Q = ∃ t, tyN H x = some t ∧ ∃ b, kitB t T = some b ∧ Q (.bl b) H := by
  unfold rIsi1; apply propext; constructor
  · rintro ⟨_, _, t, b, h1, h2, h3, h⟩; cases h1; exact ⟨t, h2, b, h3, h⟩
  · rintro ⟨t, h2, b, h3, h⟩; exact ⟨_, _, t, b, rfl, h2, h3, h⟩
theorem ty_non {H : Hp} : tyN H .non = some "NoneType" := rfl
theorem ty_bl {H : Hp} {b : Bool} : tyN H (.bl b) = some "bool" := rfl
theorem ty_int {H : Hp} {b : Int} : tyN H (.int b) = some "int" := rfl
theorem ty_str {H : Hp} {b : Str} : tyN H (.str b) = some "str" := rfl
theorem ty_l {H : Hp} {p : Addr} {xs : List V} (h : H p = some (.lst xs)) : tyN H (.ref p) = some "list" := by unfold tyN; simp only [h]
theorem ty_t {H : Hp} {p : Addr} {xs : List V} (h : H p = some (.tup xs)) : tyN H (.ref p) = some "tuple" := by unfold tyN; simp only [h]
theorem cl_false {P : Program} {w : World} {K : PySem.W.Frag} {mg : Str → Option Value} {base : Heap} {x : Str} {st : Stmt} {ps : List Str} (D : Df K mg x st)
    (hb : ∀ (kV doc pm : Value) (an : Option Addr) (cdv ct : Value) (us : List Value), us.length = ps.length → bindArgs (PySem.W.fnOf x x (defArgs st) (defBody st) (defScope st) .none kV doc pm an cdv ct) ⟨us, []⟩ = pure (ps.zip us)) (k : Nat) {sp : Sp} (hf : ∀ vs H Q E, ¬ sp vs H Q E) : Cl P w K mg base k x ps sp := by
  obtain ⟨f, fd, F, g⟩ := D
  exact ⟨f, fd, g, F.kp, F.bindsA hb, fun vs H Q E h => (hf _ _ _ _ h).elim, fun A outer s H args us vs Q E _ _ _ _ h => (hf _ _ _ _ h).elim⟩
def isWh : V → Bool
  | .int _ => true
  | _ => false
theorem wh_i {i : Int} : isWh (.int i) = true := rfl
theorem wh_s {i : Str} : isWh (.str i) = false := rfl
theorem wh_b {i : Bool} : isWh (.bl i) = false := rfl
theorem wh_r {i : Addr} : isWh (.ref i) = false := rfl
theorem wh_n : isWh .non = false := rfl
theorem same_sq {p : Addr} {H H' : Hp} {xs : List V} (a : Same H H') (h : sq H p = some xs) : sq H' p = some xs := by
  rcases sq_or h with h | h
  · exact sq_l (a _ _ h)
  · exact sq_t (a _ _ h)
theorem Put.same {H H1 H2 : Hp} {p : Addr} {o : HO} (n : Put H1 p o H2) (a : Same H H1) (hp : H p = none) : Same H H2 := fun b u e => n.k (ne_of_none e hp) (a _ _ e)
def qIns : V → List V → Hp → VK → Prop := fun x vs H Q => match x, vs with
  | .ref l, [.int i, y] => ∃ xs, H l = some (.lst xs) ∧ xs.length < sizeLine ∧ 0 ≤ i ∧ i < 2 ^ 63 ∧ Wr H l (.lst (xs.take i.toNat ++ [y] ++ xs.drop i.toNat)) fun H' => Q .non H'
  | _, _ => False
theorem ins1 {X : Cx} : MtR X "list.insert" qIns := MtR_imp mt_insert fun x vs H Q h => by
  unfold qIns at h
  split at h
  · obtain ⟨xs, h1, h2, h3, h4, q⟩ := h
    refine ⟨_, xs, _, _, rfl, rfl, h1, h2, h3, h4, ?_⟩
    rw [wr_eq (Q := fun H' => Q .non H')]
    exact q
  · exact h.elim
section
variable {σ : L2.St} {H : Hp} {Q : VK} {K : PySem.W.Frag}
theorem b_ins {l : Addr} {i : Int} {y : V} : qIns (.ref l) [.int i, y] H Q = ∃ xs, H l = some (.lst xs) ∧ xs.length < sizeLine ∧ 0 ≤ i ∧ i < 2 ^ 63 ∧ Wr H l (.lst (xs.take i.toNat ++ [y] ++ xs.drop i.toNat)) fun H' => Q .non H' := rfl
theorem a_revL {te : TE} : tRevL K te σ H Q = te σ H fun x H1 => ∃ a xs, x = .ref a ∧ SqL K H1 a xs ∧ Nw H1 (.lst xs.reverse) fun q H' => Q (.ref q) H' := by
  unfold tRevL; simp only [nw_eq]
theorem idx_ints {p : Addr} {ns : List Int} {c : Int} (h : H p = some (.lst (ns.map V.int))) (hc : c ∈ ns) (hq : ∀ j : Nat, j < ns.length → ns[j]? = some c → Q (.int j) H) : rIndex K (.ref p) [.int c] H Q := by
  have hl := List.idxOf_lt_length_of_mem hc
  have hg : ns[ns.idxOf c]? = some c := by
    rw [List.getElem?_eq_getElem hl, List.getElem_idxOf hl]
  refine ⟨p, ns.map V.int, .int c, ns.idxOf c, .int c, rfl, rfl, SqL.of h, rfl, ?_, by rw [List.getElem?_map, hg]; rfl, ?_, fun m z hm hz => ?_, hq _ hl hg⟩
  · rw [List.all_map]; exact List.all_eq_true.mpr fun _ _ => rfl
  · simp [eqV]
  · rw [List.getElem?_map] at hz
    have hml : m < ns.length := by omega
    rw [List.getElem?_eq_getElem hml] at hz
    cases hz
    have : ns[m] ≠ c := fun e => by
      have := List.not_of_lt_findIdx (p := (· == c)) (xs := ns) (i := m) (by simpa [List.idxOf] using hm)
      simp [e] at this
    simp [eqV, this]
theorem cut_le (z : Str) (lo hi : Option Int) : (cutS z lo hi).length ≤ z.length := cutS_length z lo hi
end
theorem str_len10 {a : Int} {k : Nat} (hk : 0 < k) (h : a.natAbs < 10 ^ k) : (Str.ofString (toString a)).length ≤ k + 1 := by
  rw [PySem.ofString_length]; exact int_text_length_le10 hk h
def qIsT : List V → Hp → VK → Prop := fun vs H Q => match vs with
  | [x, .ref tp] => ∃ a b, H tp = some (.tup [.ty a, .ty b]) ∧ ∃ t, tyN H x = some t ∧ ∃ r1, kitB t a = some r1 ∧ ∃ r2, kitB t b = some r2 ∧ Q (.bl (r1 || r2)) H
  | _ => False
theorem isiT1 {X : Cx} : CallR X (.builtin "isinstance") qIsT := by
  intro pins s σ H xs us Q I r h
  unfold qIsT at h
  split at h
  · obtain ⟨a, b, hT, t, ht, r1, h1, r2, h2, q⟩ := h
    refine call_isiT pins s σ H _ us Q I r ⟨_, _, [.ty a, .ty b], .type t, [.type a, .type b], r1 || r2, rfl, hT, .cons (.ty a) (.cons (.ty b) .nil), tyN_ty ht, ?_, q⟩
    refine kitAny_cons (kit_ty h1) (fun e => ?_) (fun e => by rw [e]; rfl)
    refine kitAny_cons (kit_ty h2) (fun e' => by rw [e, e']; exact kitAny_nil) (fun e' => by rw [e, e']; rfl)
  · exact h.elim
theorem b_isT {x : V} {tp : Addr} {H : Hp} {Q : VK} : qIsT [x, .ref tp] H Q = ∃ a b, H tp = some (.tup [.ty a, .ty b]) ∧ ∃ t, tyN H x = some t ∧ ∃ r1, kitB t a = some r1 ∧ ∃ r2, kitB t b = some r2 ∧ Q (.bl (r1 || r2)) H := rfl
section
open PySem AutoSeq1 PyProof.Rows
variable {prog : Program} {w : World} {A : Around} {E : Value → Shared → Prop} {s : Shared}
theorem collect_seq2 {Q : List Value → Shared → Prop} (it : Addr) {T : String} {o : Obj} {items : Array Value} {n : Nat} (hT : T = "list" ∨ T = "tuple")
    (ho : s.heap.get? it = some o) (hc : o.cls = .type T) (hd : o.data = .seq items n)
    (hQ : ∀ h', (∀ b o', s.heap.get? b = some o' → h'.get? b = some o') → s.heap.objs.size < h'.objs.size → Q items.toList { s with heap := h' }) (hsz : items.size ≤ sizeLine := by size_fits) :
    wpAny (model prog w) A (collect (.ref it)) Q E s := by
  unfold collect
  refine wpAny_bind (wpAny_runValue (codeAny_builtin F.entry_proto_collect ?_))
  rw [Around.under_plainId F.plain_proto_collect _]
  show wpAny _ A.in1 (newList [] >>= fun l => again (.builtin "list.__iadd__" ⟨[l, .ref it], []⟩)) _ _ s
  refine wpAny_bind (wpAny_newObj_type ?_)
  refine wpAny_pure ⟨plainId_quiet F.plain_list_iadd _, codeAny_builtin F.entry_list_iadd ?_⟩
  rw [Around.under_plainId F.plain_list_iadd _]
  show wpAny _ A.in1 (Builtin.List.listExtendWith (.ref s.heap.objs.size) (.ref it) (.ref s.heap.objs.size)) _ _ _
  have hS : (s.heap.push { cls := .type "list", data := .seq ([] : List Value).toArray }).get? s.heap.objs.size = some { cls := .type "list", data := .seq #[] 0 } := Heap.get?_push_size _ rfl
  have hS₂ := Heap.get?_update_self (Obj.mapSeq (· ++ items)) hS rfl
  have fin' : wpAny (model prog w) A (match Value.ref s.heap.objs.size with
      | Value.ref a => do
        match (← load a).data with
          | Data.seq xs _ => pure xs.toList
          | _ => unsupported "internal:collect"
      | _ => unsupported "internal:collect") Q E { s with heap := (s.heap.push { cls := .type "list", data := .seq ([] : List Value).toArray }).update s.heap.objs.size (Obj.mapSeq (· ++ items)) } := by
    show wpAny _ A (load s.heap.objs.size >>= _) _ _ _
    refine wpAny_bind (wpAny_load hS₂ ?_)
    refine wpAny_pure ?_
    have e : ((#[] : Array Value) ++ items).toList = items.toList := by simp
    show Q ((#[] : Array Value) ++ items).toList _
    rw [e]
    refine hQ _ (fun b o' hb => ?_) (by rw [Heap.size_update, size_push']; exact Nat.lt_succ_self _)
    exact (Heap.get?_update_other _ _ (Nat.ne_of_gt (Heap.lt_size hb))).trans (Heap.get?_push_of_some _ hb)
  refine wpAny_mono (wpAny_extend_seq (hsz := hsz) (A := A) (R := fun r s' => r = .ok (.ret (.ref s.heap.objs.size)) ∧ s' = { s with heap := (s.heap.push { cls := .type "list", data := .seq ([] : List Value).toArray }).update s.heap.objs.size (Obj.mapSeq (· ++ items)) })
    (s := { s with heap := s.heap.push { cls := .type "list", data := .seq ([] : List Value).toArray } }) _ it _ 0 hT hS (Heap.get?_push_of_some _ ho) hc hd ⟨rfl, rfl⟩) (fun fin s' h => ?_) (fun e s' h => ?_)
  · cases fin with
    | done f =>
      obtain ⟨e, rfl⟩ := h
      cases e
      exact fin'
    | again c' => exact ⟨h.1, codeAny_mono h.2 fun r s'' hr => by obtain ⟨rfl, rfl⟩ := hr; exact fin'⟩
  · exact absurd h.1 (by simp)

end
open PySem PySem.Spec PyProof.Rows L2
section
variable {prog : Program} {w : World} {A : Around} {E : Value → Shared → Prop} {s : Shared}
/-- sorted of a list or a tuple of ints -/
theorem sorted_seq {a : Addr} {T : String} {o : Obj} {vs : List Value} {ns : List Int} {n : Nat} {Q : Value → Shared → Prop} (hT : T = "list" ∨ T = "tuple") (ho : s.heap.get? a = some o) (hc : o.cls = .type T) (hd : o.data = .seq vs.toArray n)
    (hI : IntsAre vs ns) (h64 : vs.length < 64)
    (h : ∀ (h' : Heap) (p : Addr) (out : Array Value) (ns' : List Int) (e : Nat), (∀ b u, s.heap.get? b = some u → h'.get? b = some u) → s.heap.objs.size ≤ p → h'.get? p = some (seqObj "list" out e) → IntsAre out.toList ns' → ns'.Perm ns → ns'.Pairwise (· ≤ ·) → Q (.ref p) { s with heap := h' }) :
    wpAny (model prog w) A (call (.builtin "sorted") [.ref a]) Q E s := by
  refine Calls.call_function_entry kind_sorted plain_sorted entry_sorted (args_sorted1 _) ?_
  unfold Builtin.«sorted»
  refine wpAny_bind (m := checkCount "sorted" 1 1 _) (wpAny_pure ?_)
  refine wpAny_bind (collect_seq2 a hT ho hc hd (fun h1 k1 big0 => ?_) (by rw [sizeLine_eq]; simp only [List.size_toArray]; omega))
  refine wpAny_bind (wpAny_newList ?_)
  have hoL : (h1.push (seqObj "list" vs.toArray 0)).get? h1.objs.size = some (seqObj "list" vs.toArray 0) := Heap.get?_push_size _ rfl
  have big : s.heap.objs.size ≤ h1.objs.size := Nat.le_of_lt big0
  refine wpAny_bind (wpAny_holding (wpAny_call_entry slot_list_sort ⟨_, hoL, rfl⟩ entry_list_sort (list_sort_tree hoL hI h64 fun out ns' a1 a2 a3 => ⟨_, rfl, ?_⟩) (args_list_sort _)))
  obtain ⟨e, he⟩ := sortedHeap_at (out := out) hoL
  refine wpAny_pure ⟨_, rfl, h _ _ out ns' e (fun b u hb => ?_) big he a1 a2 a3⟩
  have hlt := Heap.lt_size (k1 _ _ hb)
  rw [sortedHeap_old (Nat.ne_of_lt hlt) (by rw [size_push']; exact Nat.lt_succ_of_lt hlt)]
  exact Heap.get?_push_of_some _ (k1 _ _ hb)
end
def qSorted : List V → Hp → VK → Prop := fun vs H Q => ∃ (a : Addr) (ns : List Int), vs = [.ref a] ∧ sq H a = some (ns.map V.int) ∧ ns.length < 64 ∧ ∀ (ns' : List Int) (p : Addr) (H' : Hp), ns'.Perm ns → ns'.Pairwise (· ≤ ·) → New H p (.lst (ns'.map V.int)) H' → Q (.ref p) H'
theorem sorted1 {X : Cx} : CallR X (.builtin "sorted") qSorted := by
  intro pins s σ H vs us Q I r h
  obtain ⟨a, ns, rfl, hs, h64, q⟩ := h
  rw [Vals.ref1 r]
  have fin : ∀ (its : List Value), Vals (ns.map V.int) its → ∀ (T : String) (o : Obj) (n : Nat), (T = "list" ∨ T = "tuple") → s.heap.get? a = some o → o.cls = .type T → o.data = .seq its.toArray n → wpAny (model X.prog X.w) X.A (call (.builtin "sorted") [.ref a]) (EP X pins σ Q) X.xe s := by
    intro its rv T o n hT ho hc hd
    have hi := rv.ints
    refine sorted_seq hT ho hc hd hi (by rw [hi.length]; exact h64) fun h' p out ns' e kp hp he h1 h2 h3 => ?_
    have hlen : (ns'.map V.int).length ≤ sizeLine := by rw [List.length_map, h2.length_eq]; exact small64 h64
    exact ⟨.ref p, upd H p (.lst (ns'.map V.int)), I.laid (t' := s.toks) kp hp ⟨hlen, out.toList, e, vals_of_ints h1, he⟩, rfl, q ns' p _ h2 h3 (New.mk' (I.hok.fresh hp))⟩
  rcases sq_or hs with hq | hq
  · obtain ⟨its, rv, pl, _⟩ := I.list (SqL.of hq)
    obtain ⟨o, ho, hc, n, hd⟩ := pl.isList
    exact fin its rv _ o n (.inl rfl) ho hc hd
  · obtain ⟨its, rv, pl, _⟩ := I.tuple (SqT.of hq)
    obtain ⟨o, ho, hc, n, hd⟩ := pl
    exact fin its rv _ o n (.inr rfl) ho hc hd
theorem b_sorted {p : Addr} {H : Hp} {Q : VK} : qSorted [.ref p] H Q = ∃ ns : List Int, sq H p = some (ns.map V.int) ∧ ns.length < 64 ∧ ∀ (ns' : List Int) (p : Addr) (H' : Hp), ns'.Perm ns → ns'.Pairwise (· ≤ ·) → New H p (.lst (ns'.map V.int)) H' → Q (.ref p) H' := by
  unfold qSorted; apply propext; constructor
  · rintro ⟨_, ns, h1, h⟩; cases h1; exact ⟨ns, h⟩
  · rintro ⟨ns, h⟩; exact ⟨_, ns, rfl, h⟩
/-! ### tuple * int -/
theorem tuple_mul_self (l : Addr) (items : Array Value) (n : Nat) (dd : Option Addr) (sl : Array (Option Value)) (x : Int) (u : Tok) (c0 : (decide (x < -(2 ^ 63)) || decide (x ≥ 2 ^ 63)) = false) (c1 : (items.isEmpty || x == 1) = true) :
    Meets (Builtin.«tuple.__mul__» ⟨[.ref l, .int x u], []⟩) (fun _ R s => s.heap.get? l = some { cls := .type "tuple", dict := dd, data := .seq items n, slots := sl } ∧ R (.ok (.ret (Value.ref l))) s) :=
  .of_wp fun prog w A R s h => by
    obtain ⟨hp, g, d, tk, os⟩ := s
    obtain ⟨hl, h⟩ := h
    have f1 := AutoSeq1.idx_int
    have hex : Shared.TypeIs ⟨hp, g, d, tk, os⟩ (.ref l) "tuple" := ⟨_, hl, rfl⟩
    wp_walk using AutoSeq1.wpAny_loadPart' hl, wpAny_typeOf hex
    refine wpAny_ite_false (decide_eq_false (by rw [c0]; exact Bool.false_ne_true)) ?_
    wp_walk using AutoSeq1.wpAny_loadPart' hl, wpAny_typeOf hex
    exact ⟨_, rfl, h⟩
def qRepT : R2 := fun x y H Q => match x, y with
  | .ref l, .int k => ∃ xs, H l = some (.tup xs) ∧ 1 ≤ k ∧ (xs.length : Int) * k ≤ 4000000 ∧ k ≤ 4000000 ∧ (k = 1 ∨ xs = [] → Q (.ref l) H) ∧ (∀ p H', New H p (.tup (List.replicate k.toNat xs).flatten) H' → Q (.ref p) H')
  | _, _ => False
section
variable {X : Cx}
theorem op_repT1 : OpR X (binaryOp .Mult) qRepT := by
  intro pins s σ H x y v u Q I rx ry h
  unfold qRepT at h
  split at h
  · rename_i l k
    obtain ⟨xs, hT, h1, h2, hk, qs, q⟩ := h
    cases rx
    obtain ⟨t, rfl⟩ := ry
    obtain ⟨its, r, ⟨⟨cls, dd, data, sl⟩, ho, hc, n, hd⟩, hs⟩ := I.tuple (SqT.of hT)
    simp only at hc hd
    subst hc hd
    have hle : its.length = xs.length := r.length.symm
    have hsz0 : its.toArray.size = xs.length := by rw [List.size_toArray, hle]
    have c0 : (decide (k < -(2 ^ 63)) || decide (k ≥ 2 ^ 63)) = false := by
      rw [decide_eq_false (by omega), decide_eq_false (by omega)] <;> rfl
    by_cases hz : k = 1 ∨ xs = []
    · have c1 : (its.toArray.isEmpty || k == 1) = true := by
        rcases hz with e | e
        · rw [e]; simp
        · subst e
          have : its = [] := List.eq_nil_of_length_eq_zero hle
          rw [this]; rfl
      refine wpAny_binaryOp_repeat_ref (T := "tuple") (U := "int") (by decide) ⟨_, ho, rfl⟩ (fun s' => typeIs_int s' k t) noFill_tuple_mul F.fills_int_mul F.slot_int_rmul repeat_tuple F.slot_int_index.lookup
        (call_meets F.slot_int_rmul (typeIs_int s k t) F.entry_int_rmul (F.args_int_rmul_2 _ _) (int_rmul_tuple k t l its.toArray n dd sl)
          ⟨ho, rfl, ⟨_, ho, rfl⟩, call_meets F.slot_tuple_mul ⟨_, ho, rfl⟩ F.entry_tuple_mul (F.args_tuple_mul_2 _ _) (tuple_mul_self l its.toArray n dd sl k t c0 c1) ⟨ho, ?_⟩⟩)
      exact ⟨.ref l, H, I, rfl, qs hz⟩
    · have hk2 : 2 ≤ k := by
        rcases Int.lt_or_le k 2 with z | z
        · exact absurd (.inl (by omega)) hz
        · exact z
      have hne : xs ≠ [] := fun e => hz (.inr e)
      have hi : its.toArray.isEmpty = false := by
        cases its with
        | nil => exact absurd (List.eq_nil_of_length_eq_zero hle.symm) hne
        | cons a b => rfl
      have e2 : ((its.toArray.size : Nat) : Int) * k ≤ 4000000 := by rw [hsz0]; exact h2
      have flen : (List.replicate k.toNat its).flatten.length ≤ sizeLine := by
        rw [PyProof.Rows.lm_len_rep_flat, hle, sizeLine_eq]
        have : ((k.toNat * xs.length : Nat) : Int) ≤ 4000000 := by
          rw [Int.natCast_mul, Int.mul_comm, show ((k.toNat : Nat) : Int) = k by omega]; exact h2
        omega
      have c1 : (its.toArray.isEmpty || k == 1) = false := by
        rw [hi, Bool.false_or]
        exact beq_eq_false_iff_ne.mpr (by omega)
      have c2 : (decide (k ≤ 0) || its.toArray.isEmpty) = false := by
        rw [hi, Bool.or_false]
        exact decide_eq_false (by omega)
      have c4 : Builtin.Tuple.tupleTooMany (((its.toArray.size : Nat) : Int) * k) = false := by
        unfold Builtin.Tuple.tupleTooMany
        rw [sizeLine_eq]
        exact decide_eq_false (by omega)
      refine wpAny_binaryOp_repeat_ref (T := "tuple") (U := "int") (by decide) ⟨_, ho, rfl⟩ (fun s' => typeIs_int s' k t) noFill_tuple_mul F.fills_int_mul F.slot_int_rmul repeat_tuple F.slot_int_index.lookup
        (call_meets F.slot_int_rmul (typeIs_int s k t) F.entry_int_rmul (F.args_int_rmul_2 _ _) (int_rmul_tuple k t l its.toArray n dd sl)
          ⟨ho, rfl, ⟨_, ho, rfl⟩, call_meets F.slot_tuple_mul ⟨_, ho, rfl⟩ F.entry_tuple_mul (F.args_tuple_mul_2 _ _) (tuple_mulW l its.toArray n dd sl k t c0 c1 c2 (by omega) c4 (by rw [size_rep, List.size_toArray]; exact flen)) ⟨ho, ?_⟩⟩)
      rw [size_rep]
      refine ⟨.ref s.heap.objs.size, upd H s.heap.objs.size (.tup (List.replicate k.toNat xs).flatten), I.laid (t' := s.toks) (o := .tup (List.replicate k.toNat xs).flatten) (fun b ob q => Heap.get?_push_of_some _ q) (Nat.le_refl _) ?_, rfl, q _ _ (New.mk' (I.hok.fresh (Nat.le_refl _)))⟩
      refine ⟨?_, _, r.rep k.toNat, IsTup.new _ _⟩
      rw [(r.rep k.toNat).length]
      exact flen
  · exact h.elim
end
theorem b_repT {l : Addr} {k : Int} {H : Hp} {Q : VK} : qRepT (.ref l) (.int k) H Q = ∃ xs, H l = some (.tup xs) ∧ 1 ≤ k ∧ (xs.length : Int) * k ≤ 4000000 ∧ k ≤ 4000000 ∧ (k = 1 ∨ xs = [] → Q (.ref l) H) ∧ (∀ p H', New H p (.tup (List.replicate k.toNat xs).flatten) H' → Q (.ref p) H') := rfl

/-! ## HoM -/
/-- 0, 1, .. n - 1 -/
def rng (n : Nat) : List Int := (List.range n).map fun (i : Nat) => (i : Int)
theorem rng_len (n : Nat) : (rng n).length = n := by simp [rng]
theorem mem_rng {n : Nat} {x : Int} : x ∈ rng n ↔ 0 ≤ x ∧ x < n := by
  unfold rng
  rw [List.mem_map]
  constructor
  · rintro ⟨i, h, rfl⟩; have := List.mem_range.mp h; omega
  · intro h; exact ⟨x.toNat, List.mem_range.mpr (by omega), by omega⟩
theorem rng_nodup (n : Nat) : (rng n).Nodup := by
  unfold rng
  exact List.Pairwise.map _ (fun (a b : Nat) (h : a ≠ b) (e : (a : Int) = b) => h (by omega)) List.nodup_range
theorem rgV_rng {j : Int} (h : 0 ≤ j) : rgV 0 j = (rng j.toNat).map V.int := by
  unfold rgV rng
  rw [List.map_map]
  have : (j - 0).toNat = j.toNat := by omega
  rw [this]
  refine List.map_congr_left fun i _ => ?_
  simp
theorem rng_get {n i : Nat} (h : i < n) : (rng n)[i]? = some (i : Int) := by simp [rng, h]
def unV : V → Int
  | .int i => i
  | _ => 0
theorem perm_ints {xs : List V} {L : List Int} (h : xs.Perm (L.map V.int)) : ∃ L' : List Int, xs = L'.map V.int ∧ L'.Perm L := by
  refine ⟨xs.map unV, ?_, ?_⟩
  · rw [List.map_map]
    have : xs.map (V.int ∘ unV) = xs.map id := List.map_congr_left fun x hx => by
      have := h.mem_iff.mp hx
      obtain ⟨i, _, rfl⟩ := List.mem_map.mp this
      rfl
    rw [this, List.map_id]
  · have := h.map unV
    rw [List.map_map] at this
    have e : L.map (unV ∘ V.int) = L := by
      have : L.map (unV ∘ V.int) = L.map id := List.map_congr_left fun x _ => rfl
      rw [this, List.map_id]
    rwa [e] at this
theorem append_ints {xs ys : List V} {L : List Int} (h : xs ++ ys = L.map V.int) : ∃ a b, xs = a.map V.int ∧ ys = b.map V.int ∧ L = a ++ b := by
  obtain ⟨a, b, rfl, rfl, rfl⟩ := List.map_eq_append_iff.mp h.symm
  exact ⟨a, b, rfl, rfl, rfl⟩
/-- a ring of points, each carried to the next -/
theorem ring_perm {n : Nat} {r rest ns : List Int} (hp : (r ++ rest).Perm (rng n)) (hl : ns.length = n)
    (h1 : ∀ k, k < r.length → ∃ x y, r[k]? = some x ∧ r[(k + 1) % r.length]? = some y ∧ ns[x.toNat]? = some y) (h2 : ∀ p, p < n → (p : Int) ∉ r → ns[p]? = some (p : Int)) : ns.Perm (rng n) := by
  let f : Int → Int := fun x => (ns[x.toNat]?).getD 0
  have e : ns = (rng n).map f := by
    apply List.ext_getElem?
    intro i
    by_cases hi : i < n
    · rw [List.getElem?_map, rng_get hi]
      show _ = some ((ns[((i : Nat) : Int).toNat]?).getD 0)
      rw [Int.toNat_natCast, List.getElem?_eq_getElem (by omega)]
      rfl
    · rw [List.getElem?_eq_none (by omega), List.getElem?_eq_none (by simp [rng_len]; omega)]
  have nd : (r ++ rest).Nodup := (hp.nodup_iff).mpr (rng_nodup n)
  have er : rest.map f = rest := by
    have : rest.map f = rest.map id := List.map_congr_left fun x hx => by
      have hm := mem_rng.mp (hp.mem_iff.mp (List.mem_append_right r hx))
      have hr : x ∉ r := fun z => (List.nodup_append.mp nd).2.2 _ z _ hx rfl
      have := h2 x.toNat (by omega) (by rw [show ((x.toNat : Nat) : Int) = x by omega]; exact hr)
      show (ns[x.toNat]?).getD 0 = x
      rw [this]
      show ((x.toNat : Nat) : Int) = x
      omega
    rw [this, List.map_id]
  have err : (r.map f).Perm r := by
    cases r with
    | nil => exact .refl _
    | cons a t =>
      have : (a :: t).map f = t ++ [a] := by
        apply List.ext_getElem?
        intro k
        by_cases hk : k < t.length + 1
        · obtain ⟨x, y, e1, e2, e3⟩ := h1 k hk
          rw [List.getElem?_map, e1]
          show some ((ns[x.toNat]?).getD 0) = _
          rw [e3]
          show some y = _
          rw [← e2]
          by_cases hk2 : k < t.length
          · rw [List.getElem?_append_left hk2, List.length_cons, Nat.mod_eq_of_lt (by omega)]
            simp
          · have : k = t.length := by omega
            subst this
            rw [List.length_cons, Nat.mod_self]
            simp
        · rw [List.getElem?_eq_none (by simp; omega), List.getElem?_eq_none (by simp; omega)]
      rw [this]
      exact List.perm_append_singleton a t
  rw [e]
  refine (hp.symm.map f).trans ?_
  rw [List.map_append, er]
  exact (err.append_right rest).trans hp
theorem rev_perm {n : Nat} : ((rng n).map fun k => (n : Int) - 1 - k).Perm (rng n) := by
  have : ((rng n).map fun k => (n : Int) - 1 - k) = (rng n).reverse := by
    apply List.ext_getElem?
    intro i
    by_cases hi : i < n
    · rw [List.getElem?_map, rng_get hi, List.getElem?_reverse (by rw [rng_len]; exact hi), rng_len, rng_get (by omega)]
      simp only [Option.map_some]
      congr 1
      omega
    · rw [List.getElem?_eq_none (by simp [rng_len]; omega), List.getElem?_eq_none (by simp [rng_len]; omega)]
  rw [this]
  exact List.reverse_perm _
theorem rot_perm {n s : Nat} (hs : s ≤ n) : ((rng n).map fun k => (k + (s : Int)).fmod n).Perm (rng n) := by
  have : ((rng n).map fun k => (k + (s : Int)).fmod n) = (rng n).drop s ++ (rng n).take s := by
    apply List.ext_getElem?
    intro i
    by_cases hi : i < n
    · rw [List.getElem?_map, rng_get hi]
      simp only [Option.map_some]
      have ef : (((i : Nat) : Int) + s).fmod n = (((i + s) % n : Nat) : Int) := by
        rw [Int.fmod_eq_emod_of_nonneg _ (by omega)]
        push_cast
        rfl
      rw [ef]
      by_cases hk : i + s < n
      · rw [List.getElem?_append_left (by rw [List.length_drop, rng_len]; omega), List.getElem?_drop, rng_get (by omega), Nat.mod_eq_of_lt hk]
        congr 1
        omega
      · rw [List.getElem?_append_right (by rw [List.length_drop, rng_len]; omega), List.length_drop, rng_len, List.getElem?_take]
        rw [if_pos (by omega), rng_get (by omega)]
        congr 1
        have : (i + s) % n = i + s - n := by rw [Nat.mod_eq_sub_mod (by omega), Nat.mod_eq_of_lt (by omega)]
        omega
    · rw [List.getElem?_eq_none (by simp [rng_len]; omega), List.getElem?_eq_none (by simp [rng_len]; omega)]
  rw [this]
  exact List.perm_append_comm.trans (by rw [List.take_append_drop])
theorem sub_perm {α : Type} [DecidableEq α] : ∀ {R xs : List α}, R.Nodup → (∀ a ∈ R, a ∈ xs) → xs.length ≤ R.length → xs.Perm R
  | [], xs, _, _, hl => by
    have : xs = [] := List.eq_nil_of_length_eq_zero (by simpa using hl)
    rw [this]
  | a :: R, xs, nd, h, hl => by
    have ha := h a List.mem_cons_self
    have e := List.perm_cons_erase ha
    have nd' := List.nodup_cons.mp nd
    refine e.trans (.cons a (sub_perm nd'.2 (fun b hb => ?_) ?_))
    · have : b ≠ a := fun z => nd'.1 (z ▸ hb)
      exact (List.mem_erase_of_ne this).mpr (h b (List.mem_cons_of_mem _ hb))
    · have := e.length_eq
      simp only [List.length_cons] at this hl
      omega
theorem eqvAll_ints : ∀ a b : List Int, PyData.eqvAll (a.map .int) (b.map .int) = decide (a = b)
  | [], [] => rfl
  | [], _ :: _ => by simp [PyData.eqvAll]
  | _ :: _, [] => by simp [PyData.eqvAll]
  | x :: a, y :: b => by
    simp only [List.map_cons, PyData.eqvAll, PyData.eqv, eqvAll_ints a b]
    by_cases h : x = y <;> simp [h]
theorem eqv_ints (a b : List Int) : PyData.eqv (.list (a.map .int)) (.list (b.map .int)) = decide (a = b) := by
  simp only [PyData.eqv, eqvAll_ints]
theorem eqv_intsT (a b : List Int) : PyData.eqv (.tuple (a.map .int)) (.tuple (b.map .int)) = decide (a = b) := by
  simp only [PyData.eqv, eqvAll_ints]
theorem lay_ints : ∀ a : List Int, PyData.canLayAll0 (a.map .int) = true
  | [] => rfl
  | x :: a => by simp only [List.map_cons, PyData.canLayAll0, PyData.canLay0, lay_ints a, Bool.and_self]
theorem depth_ints : ∀ a : List Int, PyData.depthAll (a.map .int) ≤ 1
  | [] => by simp [PyData.depthAll]
  | x :: a => by
    have := depth_ints a
    simp only [List.map_cons, PyData.depthAll, PyData.depth]
    omega
theorem shaped_ints (a : List Int) : SeqAt.shaped (.list (a.map .int)) = true := by
  have := depth_ints a
  unfold SeqAt.shaped
  rw [Bool.and_eq_true, decide_eq_true_eq]
  refine ⟨lay_ints a, ?_⟩
  simp only [PyData.depth]
  omega
theorem shaped_intsT (a : List Int) : SeqAt.shaped (.tuple (a.map .int)) = true := by
  have := depth_ints a
  unfold SeqAt.shaped
  rw [Bool.and_eq_true, decide_eq_true_eq]
  refine ⟨lay_ints a, ?_⟩
  simp only [PyData.depth]
  omega
theorem dpAll_ints {K : PySem.W.Frag} {H : Hp} : ∀ a : List Int, DpAll K H (a.map V.int) (a.map .int)
  | [] => .nil
  | x :: a => .cons (.int x) (dpAll_ints a)
theorem perm_sorted_eq : ∀ {a b : List Int}, a.Perm b → a.Pairwise (· ≤ ·) → b.Pairwise (· ≤ ·) → a = b := by
  intro a b h ha hb
  exact h.eq_of_pairwise (fun x y _ _ h1 h2 => Int.le_antisymm h1 h2) ha hb
theorem rng_sorted (n : Nat) : (rng n).Pairwise (· ≤ ·) := by
  unfold rng
  rw [List.pairwise_map]
  exact List.pairwise_lt_range.imp fun h => by omega
theorem dw_ints {E : List Addr} {H : Hp} : ∀ {ns : List Int} {ds : List PyData} {n : Nat}, DwAll E H (ns.map V.int) ds n → ds = ns.map .int
  | [], _, _, .nil => rfl
  | x :: ns, _, _, .cons a b => by
    cases a with
    | lf l => cases l; rw [dw_ints (ns := ns) b]; rfl
theorem dw_ints' {E : List Addr} {H : Hp} : ∀ {ns : List Int} {xs : List V} {n : Nat}, DwAll E H xs (ns.map .int) n → xs = ns.map V.int
  | [], _, _, .nil => rfl
  | x :: ns, _, _, .cons a b => by
    cases a with
    | lf l => cases l; rw [dw_ints' (ns := ns) b]; rfl
/-- is such data a move -/
def IsMoveP (d : PyData) : Prop := ∃ ns : List Int, d = .tuple (ns.map .int) ∧ ns.length ≤ 12 ∧ ns.Perm (rng ns.length)
open Classical in
noncomputable def isMoveD (d : PyData) : Bool := decide (IsMoveP d)
theorem isMove_t {d : PyData} (h : IsMoveP d) : isMoveD d = true := by unfold isMoveD; exact @decide_eq_true _ (Classical.propDecidable _) h
theorem isMove_f {d : PyData} (h : ¬ IsMoveP d) : isMoveD d = false := by unfold isMoveD; exact @decide_eq_false _ (Classical.propDecidable _) h

/-! ## HoE -/
section
variable {M : Model} {prog : Program} {w : World} {A : Around} {E : Value → Shared → Prop} {h : Heap} {g : Array GenState} {d : Drawn} {t : Nat} {os : OsState}
/-- a bound ValueError.__init__ called -/
theorem call_mw {nm q : Str} {C N : Addr} {bs bm : List Value} {hdct : Bool} {sn : List Str} {sub : List Value} {ab : Bool} {col : Option Bool} {dd : Option Addr} {k0 k1 k2 k3 k5 : Option Value} {u e t0 : Addr} {rest : List Value} {Q : Value → Shared → Prop}
    (hC : h.get? C = some (excClassObj nm q C N bs bm hdct sn sub ab col dd k0 k1 k2 k3 k5 "ValueError.__new__")) (he : h.get? e = some (PySem.HandSPX.excO C t0)) (hu : h.get? u = some (PySem.W.kxs_mw "ValueError.__init__" e)) (hz : rest.length ≤ sizeLine)
    (hq : ∀ h' t1, (∀ b o, b ≠ e → h.get? b = some o → h'.get? b = some o) → h'.get? e = some (PySem.HandSPX.excO C t1) → Q .none ⟨h', g, d, t, os⟩) :
    wpAny (model prog w) A (call (.ref u) rest) Q E ⟨h, g, d, t, os⟩ := by
  refine wpAny_call (codeAny_of_tree ?_)
  show wpAny _ A.in1 (callAny (.ref u) ⟨rest, []⟩) _ _ _
  simp only [callAny]
  refine wpAny_bind (wpAny_load hu ?_)
  simp only [show (Value.type "method-wrapper" == Value.type "method" || Value.type "method-wrapper" == Value.type "builtin_function_or_method" || Value.type "method-wrapper" == Value.type "method-wrapper") = true by decide, if_true]
  refine PySem.W.KFB.if_so (by decide) ?_
  refine wpAny_bind (PySem.W.check_bound_init F.excBase_ValueError.toExcCallFacts hC he rfl ?_)
  refine wpAny_bind (wpAny_pure (wpAny_pure ?_))
  refine ⟨plainId_quiet F.excBase_ValueError.init.plain _, codeAny_builtin F.excBase_ValueError.initEntry ?_⟩
  exact PySem.W.exc_init_tree (cls := .ref C) (t0 := t0) (dv := none) (c2 := .none) (c3 := .none) (b4 := .bool false) he hz fun h' k e' _ => hq h' _ k e'
end

section
open NdefX
/-- what the written part says of an __init__ with super() in it -/
structure SupTxt (P : Program) (K : PySem.W.Frag) (mg : Str → Option Value) (C f c cda : Addr) (name qual : Str) (params : Arguments) (body : List Stmt) (scope : Scope) (fd : FuncData) : Prop where
  lk : ∃ (oc : Value) (od : Option Addr) (dV kV doc pm ct : Value) (an : Option Addr) (osl : Array (Option Value)), fd = PySem.W.ksFn name qual params body scope dV kV doc pm an (.ref cda) ct c ∧ K.lookup f = some ⟨oc, od, .func fd, osl⟩
  hcd : PySem.W.codeIn K (.ref cda) qual = true
  hco : ∃ (ccl : Value) (cdd : Option Addr) (vs : Array Value) (ccs : Array (Option Value)) (file : Str) (tf : Tok), K.lookup cda = some ⟨ccl, cdd, .fields vs, ccs⟩ ∧ vs[2]? = some (.str file tf) ∧ ((P.main.file : Str) == file) = true
  hcell : ∃ (cl : Value) (cld : Option Addr) (csl : Array (Option Value)), K.lookup c = some ⟨cl, cld, .cell (some (.ref C)), csl⟩
  hsu : mg "super" = none
  htop : (P.main.scope.names.lookup ("super" : Str)).isSome = false
  T : OexC K C
  hm : PySem.W.ks_superIn K C C "__init__" = some (some (.builtin "ValueError.__init__"))
  hB : PySem.W.subIn K (.ref C) (.type "ValueError") = some true
  hop : PySem.W.nsIn K cStatics "thirdparty.any" = some none
  hself : PySem.W.mroIn K C (.ref C) = some true

def sNF (name qual : Str) (params : Arguments) (body : List Stmt) (scope : Scope) (c cda : Addr) : NF := ⟨name, qual, params, body, scope, [("__class__", c)], cda⟩

theorem in_base {K : PySem.W.Frag} {mg : Str → Option Value} {base : Heap} {P : Program} {w : World} {A : Around} {outer : List Env} {s : Shared} {H : Hp} (e0 : Env0 P w K mg base A outer s H) {a : Addr} {o : Obj} (e : K.lookup a = some o) : s.heap.get? a = some o ∧ H a = none :=
  e0.bs a o (e0.mod.kin _ _ e)

theorem fn_super {CX : CXT} {P : Program} {w : World} {K : PySem.W.Frag} {mg : Str → Option Value} {base : Heap} {k : Nat} {C f c cda : Addr} {name qual : Str} {params : Arguments} {body rest : List Stmt} {scope : Scope} {fd : FuncData} {N ps : List Str} {sp : Sp} {ar : Arg} {e : Expr} {p0 p1 p2 p3 p4 : Pos}
    (D : SupTxt P K mg C f c cda name qual params body scope fd) (S : NScope N ps ["__class__"] scope) (hp : (params.posonlyargs ++ params.args).head? = some ar) (har : ∃ pr, ps = ar.arg :: pr) (hnd : ps.Nodup)
    (hbo : body = .Expr (.Call (.Attribute (.Call (.Name "super" p0) [] [] p1) "__init__" p2) [e] [] p3) p4 :: rest) (hks : scope.names.lookup ("super" : Str) = some .globalImplicit)
    (hev : ∀ env : Env, eval (.Call (.Attribute (.Call (.Name "super" p0) [] [] p1) "__init__" p2) [e] [] p3) env = (do
      let ov ← attributeBase (.Call (.Name "super" p0) [] [] p1) "__init__" env (eval (.Call (.Name "super" p0) [] [] p1) env)
      standAt p2.atName
      let (f, first) ← holding [ov] (getMethod ov "__init__" (pure false))
      callWith p3 f first (backTo p3 (starEach [e] env)) [])) (hse : ∀ env : Env, starEach [e] env = (false, eval e env) :: starEach [] env) (hsw : ∀ env : Env, swapsWith (.Call (.Attribute (.Call (.Name "super" p0) [] [] p1) "__init__" p2) [e] [] p3) none p4.line env = pure false)
    (len : ∀ vs H Q E, sp vs H Q E → vs.length = ps.length)
    (hbody : ∀ (A : Around) (outer : List Env) (s : Shared) (H : Hp) (vs : List V) (ws : List (Option V)) (Q : VK) (E : XK), Room k (A.deeper (envF (sNF name qual params body scope c cda) f s.heap.objs.size)) → ws.length = 1 → sp vs H Q E →
      ∃ (x : Addr) (us : List V) (ta : TA) (t : TS), vs = .ref x :: us ∧ H x = some (exo x C none) ∧ PA (ncx CX P w K mg base N (sNF name qual params body scope c cda) f A outer s H E) [e] ta ∧ PSs (ncx CX P w K mg base N (sNF name qual params body scope c cda) f A outer s H E) rest t ∧
        ta (startF N vs ws) H fun vs1 H1 => vs1.length ≤ 1000 ∧ H1 x = some (exo x C none) ∧ t { nx := fun _ H' => Q .non H', rt := Q } (startF N vs ws) H1) :
    FnOk P w K mg base CX (k + 1) f fd ps sp := by
  refine ⟨len, fun A outer s H args us vs Q E hr e0 hb r hsp => ?_⟩
  have hl := len _ _ _ _ hsp
  obtain ⟨oc, od, dV, kV, doc, pm, ct, an, osl, rfl, lk⟩ := D.lk
  obtain ⟨ccl, cdd, fvs, ccs, file, tf, hcode, hvs, hfile⟩ := D.hco
  obtain ⟨cl, cld, csl, hcell⟩ := D.hcell
  have KX : K.In s.heap := e0.mod.kin.keeps fun b o e => (e0.bs b o e).1
  have lim : s.heap.NoLimit := e0.mod.nolimit.keeps fun b o e => (e0.bs b o e).1
  have Cc : CellsAt [("__class__", c)] ["__class__"] [none] s.heap H := by
    have hlook : ∀ (y : Str) (b : Addr), List.lookup y [(("__class__" : Str), c)] = some b → y = "__class__" ∧ b = c := fun y b z => by
      by_cases hy : y = "__class__"
      · subst hy
        simp [List.lookup] at z
        exact ⟨rfl, z.symm⟩
      · have hy' : (y == ("__class__" : Str)) = false := by simpa using hy
        simp [List.lookup, hy'] at z
    refine ⟨rfl, fun y b z => ?_, fun y z b h1 h2 => ?_, fun i y hi => ?_⟩
    · obtain ⟨rfl, rfl⟩ := hlook y b z
      exact ⟨(in_base e0 hcell).2, _, _, (in_base e0 hcell).1, rfl⟩
    · exact (hlook _ _ h1).1.trans (hlook _ _ h2).1.symm
    · cases i with
      | succ i => simp at hi
      | zero =>
        simp at hi
        subst hi
        exact ⟨c, by simp [List.lookup], fun v z => by simp at z⟩
  refine PySem.ks_codeAny_call_defAt (body := body) (binds := ps.zip us) hr.depth (KX _ _ lk) rfl lim (PySem.W.codeRec_of KX D.hcd) rfl hb S.nocell (fun y hy => S.par y.1 (List.of_mem_zip hy).1) (fun h₁ hns kp => ?_) S.co S.gen S.kind
  obtain ⟨x, us', te, ts, ev, ex, he, ht, hq⟩ := hbody A outer s H vs [none] Q E (hr.deeper _) rfl hsp
  have I : Inv (ncx CX P w K mg base N (sNF name qual params body scope c cda) f A outer s H E) [] (startF N vs [none]) H { s with heap := h₁, toks := s.toks + (ps.zip us).length } := inv_startN (F := sNF name qual params body scope c cda) S hr.hd e0 hl r Cc hns kp
  subst ev
  subst hbo
  obtain ⟨pr, hps⟩ := har
  subst hps
  cases r with
  | @cons _ u0 _ ur ra rw' =>
  obtain rfl : u0 = Value.ref x := ra
  obtain ⟨nm, q, N', bs, bm, sn, sub, ab, col, dd, k0, k1, k2, k3, k5, hC, hbm⟩ := D.T.cls
  have hcl : PySem.W.clsIn K C = some { name := nm, bases := bs, mro := .ref C :: bm, ns := N', qualname := q, hasDict := true, slotNames := sn, subclasses := sub, abstract := ab, collection := col, hasDel := false } := by unfold PySem.W.clsIn; rw [hC] <;> rfl
  obtain ⟨t1, ho⟩ := exo_at I.hok ex
  have K1 : K.In h₁ := KX.keeps kp
  have hself : (((ar.arg :: pr).zip (Value.ref x :: ur)).reverse.lookup ar.arg) = some (.ref x) := zip_look (i := 0) hnd rfl rfl
  have hCo := K1 _ _ hC
  have II : PySem.W.InstAt h₁ x { cls := .ref C, dict := none, data := .fields #[.ref t1, .none, .none, .none, .bool false, .none] } C none := ⟨ho, rfl, rfl, True.intro⟩
  show _root_.PySem.wpAt _ _ _ (execs (_ :: rest) (PySem.W.envX qual scope s.heap.objs.size f (.ref cda) [("__class__", c)])) _ _ _
  refine PySem.ks_wpAt_execs_cons (PySem.ks_wpAt_Expr_any (PySem.ks_wpAt_MethodCall (pl := pure false) ?_ (hev _)) I.quiet ?_)
  · refine PySem.ks_wpAt_super_base (env := PySem.W.envX qual scope s.heap.objs.size f (.ref cda) [("__class__", c)]) hks (S.frk _ (by simp)) (by decide) rfl (K1 _ _ lk) rfl hp rfl (K1 _ _ hcode) rfl hvs hfile D.htop ?_
    obtain ⟨mb, m1, m2⟩ := e0.mod.blt
    refine PySem.W.ks_loadName_global S.kind hks (Calls.loadGlobal_builtin (mg := mg) (mb := mb) (v := .type "super") ?_ D.hsu ?_ ((m2 "super" (by decide)).trans rfl) ⟨rfl, ?_⟩)
    · exact I.ok.glob ▸ I.mod.glob.keeps I.bk
    · exact I.ok.blt ▸ m1.keeps I.bk
    refine wpAny_loadName_free S.kind (S.frk _ (by simp)) rfl ⟨_, K1 _ _ hcell, rfl⟩ ?_
    refine wpAny_loadName_local S.kind (S.par _ (by simp)) hns hself ?_
    refine PySem.ks_wpAny_isType_cls hCo rfl ⟨rfl, ?_⟩
    refine PySem.ks_wpAny_call_super hCo rfl ho rfl (fun _ z => by cases z) (PySem.W.looks_mroIn K1 D.hself) (fun h2 e2 k2 => ?_)
    have K2 : K.In h2 := K1.keeps k2
    have I2 := I.kept (t' := s.toks + (((ar.arg :: pr).zip (Value.ref x :: ur))).length) k2
    have hne : x ≠ C := fun z => by
      have q1 := (in_base e0 hC).2
      rw [← z, ex] at q1
      cases q1
    have II2 : PySem.W.InstAt h2 x { cls := .ref C, dict := none, data := .fields #[.ref t1, .none, .none, .none, .bool false, .none] } C none := ⟨k2 _ _ ho, rfl, rfl, True.intro⟩
    have hm' : PySem.W.alongIn K "__init__" (((Value.ref C :: bm).dropWhile (· != .ref C)).drop 1) = some (some (.builtin "ValueError.__init__")) := by
      have q := D.hm
      unfold PySem.W.ks_superIn at q
      rw [hcl] at q
      exact q
    refine PySem.W.kxs_getMethod PySem.W.kxs_ValueError e2 (PySem.W.looks_opaque K2 D.hop) (l₀ := .ref C :: bm) ((PySem.W.looks_clsIn K2 hcl).andThen .now) rfl K2 hm' (II2.type.andThen (PySem.W.looks_subIn K2 D.hB)) hne (by decide) ?_
    have I3 := I2.kept (h' := h2.push (PySem.W.kxs_mw "ValueError.__init__" x)) (t' := s.toks + (((ar.arg :: pr).zip (Value.ref x :: ur))).length + 1) (fun b u q => Heap.get?_push_of_some _ q)
    have hu3 : (h2.push (PySem.W.kxs_mw "ValueError.__init__" x)).get? h2.objs.size = some (PySem.W.kxs_mw "ValueError.__init__" x) := Heap.get?_push_at rfl rfl
    have I4 := I3.pins_of (pins' := [(h2.objs.size, PySem.W.kxs_mw "ValueError.__init__" x)]) (fun p hp => by
      obtain rfl := List.mem_singleton.mp hp
      exact ⟨hu3, I2.hok.fresh (Nat.le_refl _), Nat.ne_of_gt I2.lt, I2.nofs (Nat.le_refl _), fun v z => by cases z⟩)
    show wpAny _ _ (callWith p3 (.ref h2.objs.size) [] (backTo p3 (starEach [e] _)) []) _ _ _
    rw [hse]
    refine PySem.W.kxs_callWith (i := "ValueError.__init__") (x := x) rfl (Calls.evalArgs_plain ?_)
    have hrun := he.run p3 _ _ _ H _ I4 hq
    rw [hse] at hrun
    refine wpAny_mono hrun (fun us1 s1 hh => ?_) fun _ _ z => z
    obtain ⟨vs1, H1, J1, r1, hv1, ex1, q1⟩ := hh
    obtain ⟨hp1, g1, d1, tk1, os1⟩ := s1
    have hC1 := J1.kIn _ _ hC
    obtain ⟨t2, ho1⟩ := exo_at J1.hok ex1
    have hu1 := (J1.pin (h2.objs.size, PySem.W.kxs_mw "ValueError.__init__" x) (by simp)).1
    refine ⟨hu1, ?_⟩
    have hlen : us1.length ≤ sizeLine := by
      have e1 := Paired.length r1
      rw [← e1, sizeLine_eq]
      omega
    refine call_mw hC1 ho1 hu1 hlen (fun h4 t4 k4 hx4 => ?_)
    have J4 := J1.write (t' := tk1) (x := x) (e := x) (o := exo x C none) (by rw [ex1]; exact True.intro) (.inl rfl) k4 ⟨_, hx4⟩ (exo_ok hx4)
    have eu : upd H1 x (exo x C none) = H1 := by
      funext b
      by_cases hb : b = x
      · rw [hb, upd_same, ex1]
      · rw [upd_ne hb]
    rw [eu] at J4
    have J5 := J4.pins_of (pins' := []) (fun p hp => by cases hp)
    refine PySem.wpAt_of_wpAny ?_
    refine wpAny_mono (ht.run [] _ _ H1 _ J5 q1) (fun fl s' hs => ?_) fun _ _ z => z
    cases fl with
    | ret u =>
      obtain ⟨v, σ', H', J, rv, q⟩ := hs
      exact ⟨v, H', J.os, J.bare, J.base, J.hok, rv, q⟩
    | next =>
      obtain ⟨σ', H', J, q⟩ := hs
      exact ⟨.non, H', J.os, J.bare, J.base, J.hok, rfl, q⟩
    | brk =>
      obtain ⟨_, _, _, q⟩ := hs
      exact False.elim q
    | cont =>
      obtain ⟨_, _, _, q⟩ := hs
      exact False.elim q
  · exact hsw _
end

/-! ## HoX -/
section
open HotX
variable {prog : Program} {w : World} {A : Around} {E : Value → Shared → Prop} {s : Shared}
/-- the end of a list's walk, an exception being handled -/
theorem list_end_hot {it l x1 : Addr} {i : Nat} {items : Array Value} {Q : Option Value → Shared → Prop} (hot : HotAt A x1 s.heap) (hit : s.heap.IsListIter it l i) (hl : s.heap.IsList l items) (hx : items[i]? = none) (hne : x1 ≠ it)
    (hQ : ∀ h', (∀ b o, b ≠ it → s.heap.get? b = some o → h'.get? b = some o) → Q none { s with heap := h' }) : wpAny (model prog w) A (pyNext (.ref it)) Q E s := by
  obtain ⟨o, ho, hc, hd⟩ := id hit
  obtain ⟨ol, hol, _, nl, hdl⟩ := hl
  obtain ⟨hh, o1, vs1, h1, d1, c1⟩ := hot
  unfold pyNext
  refine wpAny_bind (wpAny_attempt (wpAny_callSpecial?_slot (name := Str.ofString "__next__") hit.typeIs slot_listiter_next (wpAny_call_entry slot_listiter_next hit.typeIs entry_listiter_next ?_ (args_listiter_next _))))
  show wpAny _ _ (field (.ref it) 0 >>= _) _ _ s
  refine wpAny_bind (wpAny_field ho hd (x := .ref l) rfl ?_)
  show wpAny _ _ (if (Value.ref l == Value.none) = true then _ else _) _ _ s
  rw [if_neg (show ¬ ((Value.ref l == Value.none) = true) from Bool.false_ne_true)]
  show wpAny _ _ (field (.ref it) 1 >>= _) _ _ s
  refine wpAny_bind (wpAny_field ho hd (x := .int i 0) rfl ?_)
  show wpAny _ _ (seqItems? (.ref l) >>= _) _ _ s
  refine wpAny_bind (wpAny_seqItems hol hdl ?_)
  simp only [Int.toNat_natCast, hx]
  refine wpAny_bind (wpAny_rule (wpAny_bind (wpAny_setField ho hd (by simp) ?_)))
  show wpAny _ _ (newExc (.type "StopIteration") [] >>= _) _ _ _
  refine wpAny_bind ?_
  simp only [newExc, newTuple]
  refine wpAny_bind (wpAny_newObj_type ?_ (by size_fits))
  refine wpAny_bind (m := firstArgMember _ _) (wpAny_of_eq (a := Value.none) (by first | rfl | (simp only [firstArgMember]; rfl)) ?_)
  refine wpAny_newObj_type ?_ (by size_fits)
  have h1' : (s.heap.update it (Obj.mapFields (·.setIfInBounds 0 .none))).get? x1 = some o1 := (Heap.get?_update_other _ _ (Ne.symm hne)).trans h1
  refine raiseNew_hot ⟨hh, o1, vs1, Heap.get?_push_of_some _ (Heap.get?_push_of_some _ h1'), d1, c1⟩ (Nat.ne_of_lt (Heap.lt_size (Heap.get?_push_of_some _ h1'))) (Heap.get?_push_size _ rfl) rfl (by first | (simp; done) | (simp; omega) | (simp only [Array.size_append]; simp; omega)) ?_
  refine wpAny_bind (wpAny_isInstance (T := "StopIteration") (b := true) ⟨_, Heap.get?_update_self _ (Heap.get?_push_size _ rfl) rfl, rfl⟩ isSubtype_stop ?_)
  refine wpAny_pure (hQ _ fun b o hb e => ?_)
  have e' : (s.heap.update it (Obj.mapFields (·.setIfInBounds 0 .none))).get? b = some o := (Heap.get?_update_other _ _ (Ne.symm hb)).trans e
  rw [Heap.get?_update_other _ _ (Nat.ne_of_gt (Heap.lt_size (Heap.get?_push_of_some _ e')))]
  exact Heap.get?_push_of_some _ (Heap.get?_push_of_some _ e')
end
section
open HotX L2H
theorem turn_listH {P : Program} {w : World} {K : PySem.W.Frag} {tg : Expr} (a it : Addr) : TurnH P w K tg (Itl K a) [it] it (fun i h => h.IsListIter it a i) where
  mem := List.mem_singleton.mpr rfl
  obj := fun i h st b hb => by
    obtain rfl := List.mem_singleton.mp hb
    obtain ⟨o, e, _, d⟩ := st
    exact ⟨o, e, fun v z => by rw [d] at z; cases z⟩
  keep := fun i h h' st k => st.at fun o e => k it (List.mem_singleton.mpr rfl) o e
  item := fun X hP hw hK hc i pins s σ H E I hf st hg => by
    subst hP hw hK
    obtain ⟨xs, x, hq, hx⟩ := hg
    obtain ⟨its, rv, p, hz⟩ := I.list hq
    obtain ⟨u, hu, ru⟩ := rv.get hx
    have F := hf it (List.mem_singleton.mpr rfl)
    refine wpAny_pyNext_list_item st p.isList (x := u) (by simpa using hu) fun h' st' sb => ?_
    have I1 : Inv X pins σ H { s with heap := h' } := I.turned (t' := s.toks) (fun b o hb e => (sb.2 b hb).trans e) F.1 F.2.1 F.2.2.2.1 F.2.2.2.2.1 F.2.2.2.2.2
    obtain ⟨o, e, c, d⟩ := id st'
    exact ⟨u, rfl, go_of (s := { s with heap := h' }) e c d (by decide) ⟨x, H, I1, ru, ⟨rfl, fun ys hy => (I.list_inj hy hq) ▸ hx⟩, st', fun b hb => (hf b hb).1⟩⟩
  done := fun X hP hw hK hc i pins s σ H E I hf st hg => by
    subst hP hw hK
    obtain ⟨xs, hq, hx⟩ := hg
    obtain ⟨its, rv, p, hz⟩ := I.list hq
    have F := hf it (List.mem_singleton.mpr rfl)
    have hl := rv.length
    obtain ⟨q, ⟨hh, v1, e1, c1⟩, hq1⟩ := hc
    have P1 := (I.pin q (List.mem_append_left _ hq1)).1
    exact list_end_hot ⟨hh, q.2, v1, P1, e1, c1⟩ st p.isList (by simp; omega) (F.2.2.2.2.2 q (List.mem_append_left _ hq1)) fun h' eb => ⟨rfl, I.turned (t' := s.toks) eb F.1 F.2.1 F.2.2.2.1 F.2.2.2.2.1 F.2.2.2.2.2⟩
  self := fun _ _ _ _ _ st h => wpAny_pyIter_listiter st h
end
section
open HotX L2H
variable {X : Cx}
theorem pi_listH {tg l : Expr} {tl : TE} (hl : PE X l tl) : PIH X tg l (iList X.K tl) := by
  refine ⟨fun pins s σ H R I h => thn (hl.run pins s σ H _ I h) fun v s1 ⟨x, H1, I1, r1, a, e, ⟨xs, hq⟩, q⟩ => ?_⟩
  subst e
  cases r1
  obtain ⟨its, rv, p, hz⟩ := I1.list hq
  refine wpAny_pyIter_list p.isList ⟨s1.heap.objs.size, [s1.heap.objs.size], _, _, H1, rfl, I1.kept (t' := s1.toks) fun b o e => Heap.get?_push_of_some _ e, turn_listH a _, ⟨_, Heap.get?_push_size _ rfl, rfl, rfl⟩, fun b hb => ?_, q⟩
  obtain rfl := List.mem_singleton.mp hb
  exact I1.fpOk (Nat.le_refl _) (I1.hok.fresh (Nat.le_refl _))
/-- the block of a comprehension, the pins of what is handled kept -/
abbrev Cx.blkH (X : Cx) (s : Shared) (H : Hp) (scope : Scope) (cl : List (Str × Addr)) (C : Addr) (fp : List Addr) (p : Addr × Obj) : Cx := (X.blk s H scope (compEnvC scope cl C X.env) fp).tr [p] (fun _ _ => False)
/-- [e for y in l if c], l a list; acc i: what is kept behind i turns -/
def tLcH (K : PySem.W.Frag) (tl : TE) (g : TG) (tt : TT) (te : TE) (vs : List Nat) : TE := fun σ H Q => tl σ H fun x H1 => ∃ (a : Addr) (xs : List V), x = .ref a ∧ SqL K H1 a xs ∧ ∀ D, H1 D = none → ∃ acc : Nat → List V, acc 0 = [] ∧
  (∀ i y, xs[i]? = some y → (acc i).length < sizeLine ∧ g y (wipe σ vs) (upd H1 D (.lst (acc i))) fun σ2 H2 => wipe σ2 vs = wipe σ vs ∧ tt σ2 H2 fun b H3 => if b = true then te σ2 H3 fun z H4 => H4 = upd H1 D (.lst (acc i)) ∧ acc (i + 1) = acc i ++ [z] else H3 = upd H1 D (.lst (acc i)) ∧ acc (i + 1) = acc i) ∧
  Q (.ref D) (upd H1 D (.lst (acc xs.length)))
theorem pe_lcH {elt tg l : Expr} {ifs : List Expr} {scope : Scope} {own : List (Str × Nat)} {pos : Pos} {tl : TE} {g : TG} {tt : TT} {te : TE} (hc : HotC X) (hN : X.N.Nodup) (hl : PE X l tl) (ok : BlkOk X.N X.env.scope scope own)
    (hg : ∀ s H C cl fp p, PG (Cx.blkH X s H scope cl C fp p) tg g) (ht : ∀ s H C cl fp p, PTs (Cx.blkH X s H scope cl C fp p) ifs tt) (he : ∀ s H C cl fp p, PE (Cx.blkH X s H scope cl C fp p) elt te)
    (hs : ∀ x, foldedSetIterable l X.env x = pure x := by intro _; rfl) : PE X (.ListComp elt [⟨tg, l, ifs, 0⟩] scope pos) (tLcH X.K tl g tt te (own.map (·.2))) := by
  refine ⟨fun pins s σ H Q I h => ?_⟩
  obtain ⟨p, hot, hpn⟩ := hc
  rw [eval_ListComp]
  have clo := closure_ok (env := X.env) (scope := scope) (fun y hy e => (ok.free y hy e).elim (fun k => I.ok.has _ (.inl k)) fun k => I.ok.has _ (.inr k))
  refine wpAny_comprehension_free (use := none) rfl hs clo ok.kind (fun y hy e => (ok.uniq y hy).trans (congrArg some e)) (thn (hl.run pins s σ H _ I h) fun v s1 ⟨x, H1, I1, r1, a, xs, ex, hq, q⟩ => ?_)
  subst ex
  cases r1
  obtain ⟨its, rv, pl, hz⟩ := I1.list hq
  refine wpAny_pyIter_list pl.isList ?_
  generalize hit : s1.heap.objs.size = it
  generalize hs2 : ({ s1 with heap := s1.heap.push { cls := .type "list_iterator", data := .fields #[.ref a, .int (0 : Nat) 0] } } : Shared) = s2
  have k2 : ∀ b o, s1.heap.get? b = some o → s2.heap.get? b = some o := fun b o e => by subst hs2; exact Heap.get?_push_of_some _ e
  have st2 : s2.heap.IsListIter it a 0 := by subst hs2 hit; exact ⟨_, Heap.get?_push_size _ rfl, rfl, rfl⟩
  have I2 : Inv X pins σ H1 s2 := by subst hs2; exact I1.kept (t' := s1.toks) fun b o e => Heap.get?_push_of_some _ e
  have fit : FpOk X pins H1 it := by subst hit; exact I1.fpOk (Nat.le_refl _) (I1.hok.fresh (Nat.le_refl _))
  refine wpAny_newObj_type (newEnv_comp ?_) (by show 0 ≤ sizeLine; decide)
  generalize hD : s2.heap.objs.size = D
  have hDn : H1 D = none := I2.hok.fresh (Nat.le_of_eq hD)
  have itD : it < D := by
    obtain ⟨o, e, _⟩ := st2
    rw [← hD]
    exact Heap.lt_size e
  obtain ⟨acc, a0, step, fin⟩ := q D hDn
  generalize hs3 : ({ s2 with heap := s2.heap.push { cls := .type "list", data := .seq ([] : List Value).toArray } } : Shared) = s3
  have k3 : ∀ b o, s2.heap.get? b = some o → s3.heap.get? b = some o := fun b o e => by subst hs3; exact Heap.get?_push_of_some _ e
  have I3 : Inv X pins σ (upd H1 D (.lst (acc 0))) s3 := by
    rw [a0]
    subst hs3 hD
    exact I2.laid (t' := s2.toks) (fun b o e => Heap.get?_push_of_some _ e) (Nat.le_refl _) ⟨Nat.zero_le _, [], 0, .nil, Heap.get?_push_size _ rfl⟩
  have n3 : ∀ acc : List V, (upd H1 D (.lst acc)) it = none := fun acc => by rw [upd_ne (Nat.ne_of_lt itD)]; exact fit.1
  have fit3 : FpOk X pins (upd H1 D (.lst (acc 0))) it := ⟨n3 _, fit.2⟩
  have it3 : it < s3.heap.objs.size := by
    obtain ⟨o, e, _⟩ := st2
    exact Heap.lt_size (k3 _ _ e)
  have qs : ∀ acc : List V, SqL X.K (upd H1 D (.lst acc)) a xs := fun acc => Same.seq (fun b o e => by rw [upd_ne (ne_of_none e hDn)]; exact e) hq
  have I4 := block_start I3 ok hN (fp := [it]) (fun b hb => by obtain rfl := List.mem_singleton.mp hb; exact ⟨fit3, it3⟩)
  have P3 := I3.pin p (List.mem_append_left _ hpn)
  have mo : ∀ {o : Obj}, s3.heap.get? p.1 = some o → (pushCells (s3.heap.push { cls := .type "dict", data := .dict #[] }) scope.names).get? p.1 = some o := fun e => pushCells_keeps _ _ _ _ (Heap.get?_push_of_some _ e)
  have I5 := (I4.pins_of (pins' := [p]) (fun b hb => by
    obtain rfl := List.mem_singleton.mp hb
    exact ⟨mo P3.1, P3.2.1, Nat.ne_of_lt (Heap.lt_size P3.1), fun hm => (List.mem_cons.mp (I3.stkSub _ hm)).elim P3.2.2.1 P3.2.2.2.1, P3.2.2.2.2⟩)).toTry (fun _ _ => False)
  have pg := hg s3 (upd H1 D (.lst (acc 0))) s3.heap.objs.size (cellsFrom (s3.heap.objs.size + 1) scope.names (cloFrom X.env.cells scope.names [])) [it] p
  have pt := ht s3 (upd H1 D (.lst (acc 0))) s3.heap.objs.size (cellsFrom (s3.heap.objs.size + 1) scope.names (cloFrom X.env.cells scope.names [])) [it] p
  have pe := he s3 (upd H1 D (.lst (acc 0))) s3.heap.objs.size (cellsFrom (s3.heap.objs.size + 1) scope.names (cloFrom X.env.cells scope.names [])) [it] p
  have I5' : Inv (Cx.blkH X s3 (upd H1 D (.lst (acc 0))) scope (cellsFrom (s3.heap.objs.size + 1) scope.names (cloFrom X.env.cells scope.names [])) s3.heap.objs.size [it] p) [] (wipe σ (own.map (·.2))) (upd H1 D (.lst (acc 0))) { s3 with heap := pushCells (s3.heap.push { cls := .type "dict", data := .dict #[] }) scope.names } := I5
  generalize hB : Cx.blkH X s3 (upd H1 D (.lst (acc 0))) scope (cellsFrom (s3.heap.objs.size + 1) scope.names (cloFrom X.env.cells scope.names [])) s3.heap.objs.size [it] p = B at pg pt pe I5'
  have hotB : HotC B := by subst hB; exact ⟨p, hot, List.mem_singleton.mpr rfl⟩
  have stB : ∀ {σ' : L2.St} {H' : Hp} {s' : Shared}, Inv B [] σ' H' s' → H' it = none → ∀ b ∈ [it], FpOk B [] H' b := fun {σ' H' s'} J hn b hb => by
    obtain rfl := List.mem_singleton.mp hb
    subst hB
    exact ⟨hn, (J.ok.exf b hb).1, J.ok.exfs b hb, .inl hb, (J.ok.exf b hb).2, fun r hr => by
      obtain rfl := List.mem_singleton.mp (by simpa using hr)
      exact fit3.2.2.2.2.2 r (List.mem_append_left _ hpn)⟩
  have st4 : (pushCells (s3.heap.push { cls := .type "dict", data := .dict #[] }) scope.names).IsListIter it a 0 := st2.at fun o e => pushCells_keeps _ _ _ _ (Heap.get?_push_of_some _ (k3 _ _ e))
  have T := turn_listH (P := X.prog) (w := X.w) (K := X.K) (tg := tg) a it
  have hpr : B.prog = X.prog := by subst hB; rfl
  have hw : B.w = X.w := by subst hB; rfl
  have hK : B.K = X.K := by subst hB; rfl
  have hA : B.A = X.A := by subst hB; rfl
  have hxe : B.xe = fun _ _ => False := by subst hB; rfl
  have hE : B.env = compEnvC scope (cellsFrom (s3.heap.objs.size + 1) scope.names (cloFrom X.env.cells scope.names [])) s3.heap.objs.size X.env := by subst hB; rfl
  have loop : codeAny (model X.prog X.w) X.A (.compLoop (.ListComp elt [⟨tg, l, ifs, 0⟩] scope pos) 0 (.ref it) (.ref D) (compEnvC scope (cellsFrom (s3.heap.objs.size + 1) scope.names (cloFrom X.env.cells scope.names [])) s3.heap.objs.size X.env)) (compPost (model X.prog X.w) X.A X.xe none (EP X pins σ Q) (.ref D) s3.heap.objs.size) { s3 with heap := pushCells (s3.heap.push { cls := .type "dict", data := .dict #[] }) scope.names } := by
    refine compLoop_any (fun n s' => ∃ i, i + n = xs.length ∧ Inv B [] (wipe σ (own.map (·.2))) (upd H1 D (.lst (acc i))) s' ∧ s'.heap.IsListIter it a i) ?_ xs.length ⟨0, by omega, I5', st4⟩
    rintro n s5 ⟨i, hi, J, st5⟩
    cases hx : xs[i]? with
    | none =>
      have td := T.done B hpr hw hK hotB i [] s5 _ _ (fun _ _ => False) J (stB J (n3 _)) st5 ⟨xs, hK ▸ qs _, List.getElem?_eq_none_iff.mp hx⟩
      rw [hA] at td
      refine thnF td fun r s6 ⟨hr, J6⟩ => ?_
      subst hr
      obtain rfl : i = xs.length := by have := List.getElem?_eq_none_iff.mp hx; omega
      subst hB
      have I7 : Inv X pins σ (upd H1 D (.lst (acc xs.length))) s6 := I3.call' (ch := [it]) J6.os J6.base J6.hok J6.bare fun b hb => by
        obtain rfl := List.mem_singleton.mp hb
        exact ⟨fit3.2.2.2.1, fit3.2.1, fit3.2.2.2.2.1, fit3.2.2.2.2.2⟩
      obtain ⟨m, hn, _⟩ := J6.loc
      have hC : (upd H1 D (.lst (acc xs.length))) s3.heap.objs.size = none := J6.free
      obtain ⟨f0, f1, f2, f3, f4, f5⟩ := I3.fpOk (Nat.le_refl _) hC
      exact ⟨m, hn, fun h'' sb => ⟨.ref D, _, I7.turned (t' := s6.toks) (fun b o hb e => (sb.2 b hb).trans e) f0 f1 f3 f4 f5, rfl, fin⟩⟩
    | some y =>
      have ti := T.item B hpr hw hK hotB i [] s5 _ _ (fun _ _ => False) J (stB J (n3 _)) st5 ⟨xs, y, hK ▸ qs _, hx⟩
      rw [hA] at ti
      refine thnF ti fun r s6 ⟨u, hr, h6⟩ => ?_
      subst hr
      refine thnF h6 fun _ s7 ⟨x, H7, J7, r7, ⟨e7, y7⟩, st7, n7⟩ => ?_
      subst e7
      obtain rfl : x = y := by
        have q1 := y7 xs (hK ▸ qs _)
        rw [hx] at q1
        exact (Option.some.inj q1).symm
      have J7' := J7.pinned (stB J7 (n3 _)) (T.obj _ _ st7)
      have back : ∀ {σ' : L2.St} {s' : Shared}, wipe σ' (own.map (·.2)) = wipe σ (own.map (·.2)) → Inv B ([] ++ pinsAt [it] s7.heap) σ' (upd H1 D (.lst (acc (i + 1)))) s' → ∃ m, m < n ∧ ∃ i, i + m = xs.length ∧ Inv B [] (wipe σ (own.map (·.2))) (upd H1 D (.lst (acc i))) s' ∧ s'.heap.IsListIter it a i := fun {σ' s'} hw' J' => by
        have hlt := (List.getElem?_eq_some_iff.mp hx).1
        refine ⟨n - 1, by omega, i + 1, by omega, ?_, T.keep _ _ _ st7 fun b hb o e => (J'.pin (b, o) (List.mem_append_right _ (List.mem_append_right _ (mem_pinsAt hb e)))).1⟩
        rw [← hw']
        exact (J'.unpinned (pins := [])).weak (wipe_length _ _) fun j v e => (wipe_some e).1
      obtain ⟨hz1, st1⟩ := step i x hx
      have rg := pg.run _ s7 _ _ x u _ J7' r7 st1
      rw [hpr, hw, hA, hxe, hE] at rg
      refine thnF rg fun _ s8 ⟨σ8, H8, J8, hw8, q8⟩ => ?_
      have rt := pt.run _ s8 σ8 H8 _ J8 q8
      rw [hpr, hw, hA, hxe, hE] at rt
      refine thnF rt fun b s9 ⟨H9, J9, q9⟩ => ?_
      cases b with
      | false =>
        obtain ⟨e9, ea⟩ := q9
        subst e9
        rw [← ea] at J9
        exact back hw8 J9
      | true =>
        have re := pe.run _ s9 σ8 H9 _ J9 q9
        rw [hpr, hw, hA, hxe, hE] at re
        refine thnF re fun z s10 ⟨yv, H10, J10, r10, e10, ea⟩ => ?_
        subst e10
        have ap := app_ok (X := B) (E := fun _ _ => False) J10 (D := D) (xs := acc i) upd_same hz1 r10 (Q := fun _ s' => ∃ m, m < n ∧ ∃ i, i + m = xs.length ∧ Inv B [] (wipe σ (own.map (·.2))) (upd H1 D (.lst (acc i))) s' ∧ s'.heap.IsListIter it a i) fun s11 J11 => back hw8 (by rw [ea]; rw [upd_upd] at J11; exact J11)
        rw [hpr, hw, hA] at ap
        exact thnF ap fun _ _ z => z
  exact codeAny_compStart_list loop (T.self X.A 0 _ _ _ st4 loop)
end

/-! ## HoY -/
section
open HotX L2H
/-- what a def promises where p is handled -/
abbrev HSp := Addr → Value → Option Addr → Sp
def ClH (P : Program) (w : World) (K : PySem.W.Frag) (mg : Str → Option Value) (base : Heap) (k : Nat) (x : Str) (ps : List Str) (sp : HSp) : Prop :=
  ∃ f fd, mg x = some (.ref f) ∧ PySem.W.keepIn K (.ref f) = true ∧ (∀ (s : Shared) (us : List Value), us.length = ps.length → BindsTo s fd ⟨us, []⟩ (ps.zip us)) ∧ (∀ a c d vs H Q E, sp a c d vs H Q E → vs.length = ps.length) ∧
    ∀ (A : Around) (outer : List Env) (s : Shared) (H : Hp) (us : List Value) (vs : List V) (Q : VK) (E : XK) (p : Addr × Obj) (cls : Value) (d : Option Addr), RoomH k A → Hot1 A p → PinOk outer H s p → Zc cls d p.2 → Env0 P w K mg base A outer s H → Vals vs us → sp p.1 cls d vs H Q E →
      codeAny (model P w) A (.call (.ref f) ⟨us, []⟩) (CR CX0 outer P w H s Q E) s
variable {P : Program} {w : World} {K : PySem.W.Frag} {mg : Str → Option Value} {base : Heap}
theorem ClH.mono {j k : Nat} {x : Str} {ps : List Str} {sp : HSp} (C : ClH P w K mg base j x ps sp) (h : j ≤ k) : ClH P w K mg base k x ps sp := by
  obtain ⟨f, fd, a, b, c, l, d⟩ := C
  exact ⟨f, fd, a, b, c, l, fun A outer s H us vs Q E p cls dd hr => d A outer s H us vs Q E p cls dd (hr.mono h)⟩
abbrev cxP (P : Program) (w : World) (K : PySem.W.Frag) (mg : Str → Option Value) (base : Heap) (N : List Str) (x : Str) (sc : Scope) (f : Addr) (cdv : Value) (A : Around) (outer : List Env) (s : Shared) (H : Hp) (E : XK) (p : Addr × Obj) : Cx := cxH CX0 P w K mg base N x sc f cdv A outer s H E p
theorem clH_of {x : Str} {st : Stmt} {N ps : List Str} {k : Nat} {sp : HSp} (D : Df K mg x st) (S : FnScope N ps (defScope st))
    (hb : ∀ (kV doc pm : Value) (an : Option Addr) (cdv ct : Value) (us : List Value), us.length = ps.length → bindArgs (PySem.W.fnOf x x (defArgs st) (defBody st) (defScope st) .none kV doc pm an cdv ct) ⟨us, []⟩ = pure (ps.zip us))
    (len : ∀ a c d vs H Q E, sp a c d vs H Q E → vs.length = ps.length)
    (hbody : ∀ (f : Addr) (cdv : Value) (A : Around) (outer : List Env) (s : Shared) (H : Hp) (vs : List V) (Q : VK) (E : XK) (p : Addr × Obj) (cls : Value) (d : Option Addr), Hot1 (A.deeper (envOfC x (defScope st) s.heap.objs.size f cdv)) p → Zc cls d p.2 → HotC (cxP P w K mg base N x (defScope st) f cdv A outer s H E p) → RoomH k (A.deeper (envOfC x (defScope st) s.heap.objs.size f cdv)) → sp p.1 cls d vs H Q E →
      ∃ t, PSs (cxP P w K mg base N x (defScope st) f cdv A outer s H E p).nox (defBody st) t ∧ t { nx := fun _ H' => Q .non H', rt := Q } (L2.start N vs) H) : ClH P w K mg base (k + 1) x ps sp := by
  obtain ⟨f, fd, F, g⟩ := D
  refine ⟨f, fd, g, F.kp, F.bindsA hb, len, fun A outer s H us vs Q E p cls dd hr hot hpin hz e0 r hsp => ?_⟩
  obtain ⟨oc, od, dV, kV, doc, pm, an, cdv, ct, osl, rfl, lk, hcd, _, _⟩ := F.ex
  have hl := len _ _ _ _ _ _ _ hsp
  have kp : ∀ b o, base.get? b = some o → s.heap.get? b = some o := fun b o e => (e0.bs b o e).1
  have hul : us.length = ps.length := by rw [← r.length]; exact hl
  refine codeAny_call_function hr.depth (kp _ _ (e0.mod.kin _ _ lk)) rfl S.co S.gen rfl (PySem.W.codeRec_of (e0.mod.kin.keeps kp) hcd) ?_
  refine F.bindsA hb s us hul _ _ _ _ (wpAny_newFunctionEnv_cells S.kind (fun ⟨n, v⟩ hy => (S.par n (List.of_mem_zip hy).1).imp id fun q => ⟨q, PySem.W.cellsFrom_some _ _ _ (.inl q)⟩) fun env he s1 x => ?_)
  subst he
  refine ⟨(e0.mod.nolimit.keeps kp).keeps x.toInCall.keep, codeAny_func ?_⟩
  obtain ⟨t, ht, hq⟩ := hbody f cdv A outer s H vs Q E p cls dd hot hz ⟨p, hot, List.mem_singleton.mpr rfl⟩ (hr.deeper _) hsp
  refine wpAny_mono (ht.nox.run [] s1 (L2.start N vs) H _ (inv_startH S hpin e0 hl r x) hq) (fun fl s' hs => ?_) fun e s' hs => hs
  rcases fl with _ | _ | _ | u
  · obtain ⟨σ', H', J, q⟩ := hs
    exact ⟨.non, H', J.os, J.bare, J.base, J.hok, rfl, q⟩
  · exact hs.elim fun _ z => z.elim fun _ z => False.elim z.2
  · exact hs.elim fun _ z => z.elim fun _ z => False.elim z.2
  · obtain ⟨v, σ', H', J, rv, q⟩ := hs
    exact ⟨v, H', J.os, J.bare, J.base, J.hok, rv, q⟩
/-- x(..) in a context that bears p, which is handled -/
theorem pe_clH {X : Cx} {j k : Nat} {x : Str} {ps : List Str} {sp : HSp} {p : Addr × Obj} {q pos : Pos} {e : Expr} {es : List Expr} {t : TA} (C : ClH X.prog X.w X.K X.mg X.base j x ps sp) (hot : Hot1 X.A p) (hp : p ∈ X.pn) {cls : Value} {dd : Option Addr} (hz : Zc cls dd p.2) (hr : RoomH k X.A) (hg : Gl X x) (ha : PA X (e :: es) t) (hjk : j ≤ k := by decide)
    (hdb : (x == ("__debug__" : Str)) = false := by decide) (he : starEach (e :: es) X.env = (false, eval e X.env) :: starEach es X.env := by rfl) (hpl : (backTo pos (starEach es X.env)).any (·.1) = false := by rfl) :
    PE X (.Call (.Name x q) (e :: es) [] pos) (fun σ H Q => t σ H fun vs H1 => sp p.1 cls dd vs H1 Q E0) := by
  obtain ⟨f, fd, a, b, c, l, d⟩ := C
  refine ⟨fun pins s σ H Q I h => wpAny_Call_Name_kw (ld_glob I hg a ?_ hdb)⟩
  refine PySem.W.callWith_K (h₀ := X.base) I.ok.mod.kin b (thn (ha.run pos pins s σ H _ I h) fun us s1 ⟨vs, H1, I1, r, q⟩ => ⟨I1.kIn, ?_⟩) he hpl
  have P1 := I1.pin p (List.mem_append_left _ hp)
  show wpAny _ _ (call (.ref f) us) _ _ _
  refine wpAny_call (codeAny_mono (d X.A X.stack s1 H1 us vs Q E0 p cls dd (hr.mono hjk) hot ⟨P1.1, P1.2.1, fun hm => (List.mem_cons.mp (I1.stkSub _ hm)).elim P1.2.2.1 P1.2.2.2.1, P1.2.2.2.2⟩ hz I1.env0 r q) fun rs s' hq => ?_)
  rcases rs with er | fl
  · exact False.elim hq
  · cases fl with
    | ret u => exact I1.after hq
    | next => exact False.elim hq
    | brk => exact False.elim hq
    | cont => exact False.elim hq
end
section
variable {X : Cx} {D : Addr} {d : Option Addr} {p : Addr × Obj}
/-- the dict of the handled exception, if it has one -/
def XdAt (d : Option Addr) (H : Hp) : Prop := match d with
  | none => True
  | some dd => ∃ fs, H dd = some (.xd fs)
theorem pin_inst {pins : List (Addr × Obj)} {σ : L2.St} {H : Hp} {s : Shared} (I : Inv X pins σ H s) (hp : p ∈ X.pn) (hz : Zc (.ref D) d p.2) (hf : ∃ vs, p.2.data = .fields vs) (hx : XdAt d H) : ∃ od, PySem.W.InstAt s.heap p.1 p.2 D od := by
  have P1 := (I.pin p (List.mem_append_left _ hp)).1
  obtain ⟨vs, hd⟩ := hf
  have nc : PySem.W.notCls p.2 = true := by unfold PySem.W.notCls; rw [hd] <;> rfl
  cases d with
  | none => exact ⟨none, P1, hz.1, nc, by rw [hz.2]; trivial⟩
  | some dd =>
    obtain ⟨fs, e⟩ := hx
    obtain ⟨mA, hns, hr⟩ := (I.hok dd _ e : ObjOk X.prog X.w H s.heap dd (.xd fs))
    obtain ⟨od, ho, hl⟩ := lookIn_ns hns
    exact ⟨some od, P1, hz.1, nc, by rw [hz.2]; exact ho⟩
/-- isinstance(e, c), e handled -/
def rIsP (K : PySem.W.Frag) (D a : Addr) (d : Option Addr) : List V → Hp → VK → Prop := fun xs H Q => ∃ (c : V) (cv : Value) (b : Bool), xs = [.ref a, c] ∧ (∀ u, RelV c u → u = cv) ∧ PySem.W.kitOne K (.ref D) cv = some b ∧ XdAt d H ∧ Q (.bl b) H
theorem call_isP (C : ExcC X.K D) (hp : p ∈ X.pn) (hz : Zc (.ref D) d p.2) (hf : ∃ vs, p.2.data = .fields vs) : CallR X (.builtin "isinstance") (rIsP X.K D p.1 d) := by
  intro pins s σ H xs us Q I r h
  obtain ⟨c, cv, b, rfl, hcv, e, hx, q⟩ := h
  obtain ⟨od, J⟩ := pin_inst I hp hz hf hx
  cases r with
  | cons rx rr =>
    cases rr with
    | cons rt rr =>
      cases rr
      cases rx
      obtain rfl := hcv _ rt
      obtain ⟨cd, hc, _⟩ := PySem.W.any_some C.hd
      exact PySem.W.kia_one (PySem.W.kitx_exc (by rw [hc]; rfl) C.hg C.hk C.hs C.ha C.hn C.ht C.hm) I.kIn J e (fun z => nomatch z) fun tk => ⟨.bl b, H, I.kept (t' := tk) fun _ _ z => z, rfl, q⟩
/-- e.n, e handled -/
def tXp (a : Addr) (d : Option Addr) (f : Str) (te : TE) : TE := fun σ H Q => te σ H fun x H1 => x = .ref a ∧ ∃ (dd : Addr) (fs : List (Str × V)) (v : V), d = some dd ∧ H1 dd = some (.xd fs) ∧ fs.lookup f = some v ∧ Q v H1
theorem pe_xP {e : Expr} {te : TE} {pos : Pos} {n : Str} (T : XfC X.K D) (hno : PySem.W.findIn X.K (.ref D) n = some none) (hp : p ∈ X.pn) (hz : Zc (.ref D) d p.2) (hf : ∃ vs, p.2.data = .fields vs) (he : PE X e te) (hb : attributeBase e n X.env (eval e X.env) = eval e X.env := by rfl) :
    PE X (.Attribute e n pos) (tXp p.1 d n te) := by
  refine ⟨fun pins s σ H Q I h => attr_of hb (thn (he.run pins s σ H _ I h) fun u s1 hh => ?_)⟩
  obtain ⟨x, H1, I1, rx, rfl, dd, fs, v, rfl, ea, l, q⟩ := hh
  obtain rfl : u = Value.ref p.1 := rx
  have P1 := (I1.pin p (List.mem_append_left _ hp)).1
  obtain ⟨vs, hd⟩ := hf
  obtain ⟨mA, hns, hr⟩ := (I1.hok dd _ ea : ObjOk X.prog X.w H1 s1.heap dd (.xd fs))
  obtain ⟨od, ho, hl⟩ := lookIn_ns hns
  obtain ⟨u, hu, ru⟩ := RelO.some_of (v := v) (o := mA n) (by rw [← l]; exact hr n)
  have J : PySem.W.InstAt s1.heap p.1 p.2 D (some od) := ⟨P1, hz.1, by unfold PySem.W.notCls; rw [hd] <;> rfl, by rw [hz.2]; exact ho⟩
  exact HandSPX.exc_get I1.kIn J T.ga T.gg T.exC (PySem.W.findObj_own T.hdC hno rfl (by rw [hl, hu])) (handed_of ru) ⟨v, H1, I1.tok _, ru, q⟩
end

/-! ## HoZ -/
/-- the exception at x, its dict at d with fs in it, new since H -/
structure InS (x C d : Addr) (H H' : Hp) (fs : List (Str × V)) : Prop where
  ax : H' x = some (exo x C (some d))
  ad : H' d = some (exd d fs)
  fr : H d = none
  ne : d ≠ x
  old : ∀ b, b ≠ x → b ≠ d → H' b = H b
theorem InS.first {x C d : Addr} {H : Hp} {f : Str} {y : V} (n : H d = none) (ne : d ≠ x) : InS x C d H (upd (upd H d (exd d [(f, y)])) x (exo x C (some d))) [(f, y)] :=
  ⟨upd_same, by rw [upd_ne ne]; exact upd_same, n, ne, fun b h1 h2 => by rw [upd_ne h1, upd_ne h2]⟩
theorem InS.more {x C d : Addr} {H H' : Hp} {fs : List (Str × V)} {f : Str} {y : V} (i : InS x C d H H' fs) : InS x C d H (upd H' d (exd d ((f, y) :: fs))) ((f, y) :: fs) :=
  ⟨by rw [upd_ne (Ne.symm i.ne)]; exact i.ax, upd_same, i.fr, i.ne, fun b h1 h2 => by rw [upd_ne h2]; exact i.old b h1 h2⟩
/-- an __init__ that stores its parameters -/
def sp_ini (C : Addr) (ok : List V → Hp → Prop) (fl : List Str) : Sp := fun vs H Q _ => ∃ (x : Addr) (us : List V), vs = .ref x :: us ∧ us.length = fl.length ∧ ok us H ∧ H x = some (exo x C none) ∧
  ∀ d H', InS x C d H H' ((fl.zip us).reverse) → Q .non H'
/-- an own error class at C with such an __init__ -/
structure ErrC (P : Program) (w : World) (K : PySem.W.Frag) (mg : Str → Option Value) (base : Heap) (k : Nat) (x : Str) (C : Addr) (ok : List V → Hp → Prop) (fl : List Str) : Prop where
  g : mg x = some (.ref C)
  T : OexC K C
  ini : ∃ (fI : Addr) (fd : FuncData) (ps : List Str), PySem.W.findIn K (.ref C) "__init__" = some (some (.ref fI)) ∧ PySem.W.typeIn K (.ref fI) = some (.type "function") ∧ Binds K fd ps [] ∧ FnOk P w K mg base CX0 k fI fd ps (sp_ini C ok fl)
  xf : XfC K C
  ec : ExcC K C
  no : ∀ f ∈ fl, PySem.W.findIn K (.ref C) f = some none
  sz : fl.length ≤ 900
  okm : ∀ us H H', Same H H' → ok us H → ok us H'
section
variable {X : Cx} {C : Addr} {ok : List V → Hp → Prop} {fl : List Str} {k : Nat} {x : Str}
def tErr (C : Addr) (ok : List V → Hp → Prop) (fl : List Str) (ta : TA) : L2.St → Hp → XK → Prop := fun σ H Q => ta σ H fun vs H1 => vs.length = fl.length ∧ ok vs H1 ∧ ∀ d H2, New H1 d (.xd ((fl.zip vs).reverse)) H2 → Q (.ref C) (some d) H2
theorem pmk_err {j : Nat} {e : Expr} {es : List Expr} {ta : TA} {p pos : Pos} (D : ErrC X.prog X.w X.K X.mg X.base j x C ok fl) (hr : Room k X.A) (hg : Gl X x) (ha : PA X (e :: es) ta) (hjk : j + 1 ≤ k := by decide)
    (hdb : (x == ("__debug__" : Str)) = false := by decide) (he : starEach (e :: es) X.env = (false, eval e X.env) :: starEach es X.env := by rfl) (hpl : (backTo pos (starEach es X.env)).any (·.1) = false := by rfl) :
    L2N.PMk X (.Call (.Name x p) (e :: es) [] pos) (tErr C ok fl ta) := by
  intro pins s σ H Q I h
  have T := D.T
  obtain ⟨fI, fd, ps, iC, tI, hb, F1⟩ := D.ini
  obtain ⟨nm, q, N, bs, bm, sn, sub, ab, col, dd, k0, k1, k2, k3, k5, hC, hbm⟩ := T.cls
  refine wpAny_Call_Name_kw (ld_glob I hg D.g ?_ hdb)
  refine PySem.W.callWith_K (h₀ := X.base) I.ok.mod.kin T.kC (thn (ha.run pos pins s σ H _ I h) fun us s1 ⟨vs, H1, I1, r1, hvl, hok, q1⟩ => ⟨I1.kIn, ?_⟩) he hpl
  show wpAny _ _ (call (.ref C) us) _ _ _
  obtain ⟨hp, g, dr, tk, os⟩ := s1
  generalize hx : hp.objs.size + 1 = a
  have hsz : hp.objs.size ≤ a := by omega
  have hn : H1 a = none := I1.hok.fresh hsz
  have kk : ∀ b o, hp.get? b = some o → ((hp.push (PySem.W.kdv_tup us)).push (PySem.HandSPX.excO C hp.objs.size)).get? b = some o := fun b o e => Heap.get?_push_of_some _ (Heap.get?_push_of_some _ e)
  have hget : ((hp.push (PySem.W.kdv_tup us)).push (PySem.HandSPX.excO C hp.objs.size)).get? a = some (PySem.HandSPX.excO C hp.objs.size) := by subst hx; heap_get
  have I2 : Inv X pins σ (upd H1 a (exo a C none)) ⟨(hp.push (PySem.W.kdv_tup us)).push (PySem.HandSPX.excO C hp.objs.size), g, dr, tk, os⟩ := I1.laid (t' := tk) kk hsz (exo_ok hget)
  have r2 : Vals (V.ref a :: vs) (Value.ref a :: us) := .cons rfl r1
  have hq : sp_ini C ok fl (V.ref a :: vs) (upd H1 a (exo a C none)) (fun v H2 => v = .non ∧ ∃ dx, InS a C dx (upd H1 a (exo a C none)) H2 ((fl.zip vs).reverse)) (fun _ _ _ => False) :=
    ⟨a, vs, rfl, hvl, D.okm _ _ _ (New.mk' (o := exo a C none) hn).same hok, upd_same, fun dx H' i => ⟨rfl, dx, i⟩⟩
  have hl : (Value.ref a :: us ++ []).length = ps.length := by
    have e := r2.length
    rw [F1.len _ _ _ _ hq] at e
    rw [List.append_nil]
    exact e.symm
  have hus : us.length ≤ sizeLine := by
    have := D.sz
    rw [← Paired.length r1, sizeLine_eq]
    omega
  have b2 := hb _ (Value.ref a :: us) I2.kIn hl
  rw [List.append_nil] at b2
  refine wpAny_call (PySem.HandSPX.call_own F.excBase_ValueError (fun Y => PySem.HandSPX.refsVE_contains Y bm hbm) (I1.kIn _ _ hC) (PySem.W.looks_findIn I1.kIn iC) (fun self => PySem.W.bind_fn I1.kIn self tI) hus ?_)
  rw [hx]
  refine codeAny_mono (F1.run _ X.stack _ _ ⟨Value.ref a :: us, []⟩ (Value.ref a :: us) _ _ (fun _ _ _ => False) ((hr.mono hjk).make C us []) (I2.env0.make C us []) b2 r2 hq) fun r s' hq' => ?_
  rcases r with er | fl'
  · exact False.elim hq'
  cases fl' with
  | ret u =>
    obtain ⟨v, H2, os2, bare2, un2, hok2, rv, ev, d, ins⟩ := hq'
    subst ev
    have hd1 : H1 d = none := by
      have := ins.fr
      rwa [upd_ne ins.ne] at this
    obtain ⟨h2, g2, d2, t2, os'⟩ := s'
    obtain ⟨t0, G, J, kG, ge, hoe, na⟩ := mk_end0 (d2 := d2) (t2 := t2) I1 hsz kk un2 hok2 os2 bare2 ins.ax ins.ad hd1
    refine ⟨rv, a, _, _, ⟨G, g2, d2, t2, os'⟩, _, .ref C, some d, rfl, J, kG, ge, hoe, ⟨rfl, rfl, fun vs hv => by cases hv; rfl⟩, rfl, rfl, na, rfl, bare2, raises_own T.exC T.tyC, q1 d _ ⟨hd1, upd_same, fun b hb => ?_⟩⟩
    rw [upd_ne hb]
    by_cases hba : b = a
    · rw [hba, del_same, hn]
    · rw [del_ne hba, ins.old b hba hb, upd_ne hba]
  | next => exact False.elim hq'
  | brk => exact False.elim hq'
  | cont => exact False.elim hq'
end
/-! ### defs that raise -/
def ClX (P : Program) (w : World) (K : PySem.W.Frag) (mg : Str → Option Value) (base : Heap) (k : Nat) (x : Str) (ps : List Str) (sp : Sp) : Prop :=
  ∃ f fd, mg x = some (.ref f) ∧ PySem.W.keepIn K (.ref f) = true ∧ Binds K fd ps [] ∧ FnOk P w K mg base (L2N.CX P w) k f fd ps sp ∧ ∃ oc od osl, K.lookup f = some ⟨oc, od, .func fd, osl⟩
section
variable {P : Program} {w : World} {K : PySem.W.Frag} {mg : Str → Option Value} {base : Heap}
theorem ClX.mono {j k : Nat} {x : Str} {ps : List Str} {sp : Sp} (C : ClX P w K mg base j x ps sp) (h : j ≤ k) : ClX P w K mg base k x ps sp := by
  obtain ⟨f, fd, a, b, c, d, e⟩ := C
  exact ⟨f, fd, a, b, c, d.mono h, e⟩
theorem clX_of {x : Str} {st : Stmt} {N ps : List Str} {k : Nat} {sp : Sp} (D : Df K mg x st) (S : FnScope N ps (defScope st))
    (hb : ∀ (kV doc pm : Value) (an : Option Addr) (cdv ct : Value) (us : List Value), us.length = ps.length → bindArgs (PySem.W.fnOf x x (defArgs st) (defBody st) (defScope st) .none kV doc pm an cdv ct) ⟨us, []⟩ = pure (ps.zip us))
    (len : ∀ vs H Q E, sp vs H Q E → vs.length = ps.length)
    (hbody : ∀ (f : Addr) (cdv : Value) (A : Around) (outer : List Env) (s : Shared) (H : Hp) (vs : List V) (Q : VK) (E : XK), Room k (A.deeper (envOfC x (defScope st) s.heap.objs.size f cdv)) → L2N.Takes (cxOf (L2N.CX P w) P w K mg base N x (defScope st) f cdv A outer s H E) (fun cls d _ H => E cls d H) → sp vs H Q E →
      ∃ t, PSs (cxOf (L2N.CX P w) P w K mg base N x (defScope st) f cdv A outer s H E) (defBody st) t ∧ t { nx := fun _ H' => Q .non H', rt := Q } (start N vs) H) : ClX P w K mg base (k + 1) x ps sp := by
  obtain ⟨f, fd, F, g⟩ := D
  refine ⟨f, fd, g, F.kp, fun s us _ hl => ?_, F.ok S len fun cdv A outer s H vs Q E hr hsp => hbody f cdv A outer s H vs Q E hr (L2N.takes_of rfl rfl rfl rfl) hsp, ?_⟩
  · rw [List.append_nil] at hl ⊢
    exact F.bindsA hb s us hl
  · obtain ⟨oc, od, dV, kV, doc, pm, an, cdv, ct, osl, e, lk, _⟩ := F.ex
    exact ⟨oc, od, osl, lk⟩
end
/-- the same def, called with keywords ks behind n values -/
def ClXK (P : Program) (w : World) (K : PySem.W.Frag) (mg : Str → Option Value) (base : Heap) (k : Nat) (x : Str) (ps : List Str) (n : Nat) (ks : List Str) (sp : Sp) : Prop :=
  ∃ f fd, mg x = some (.ref f) ∧ PySem.W.keepIn K (.ref f) = true ∧ KBn K fd ps n ks (fun us ws => us ++ ws) (fun us ws => us ++ ws) ∧ FnOk P w K mg base (L2N.CX P w) k f fd ps sp
theorem vals_app {vs : List V} {us : List Value} {zs : List V} {ws : List Value} (a : Vals vs us) (b : Vals zs ws) : Vals (vs ++ zs) (us ++ ws) := by
  induction a with
  | nil => exact b
  | cons h _ ih => exact .cons h ih
theorem clXK_of {P : Program} {w : World} {K : PySem.W.Frag} {mg : Str → Option Value} {base : Heap} {k : Nat} {x : Str} {st : Stmt} {ps : List Str} {sp : Sp} {n : Nat} {ks : List Str} (D : Df K mg x st) (C : ClX P w K mg base k x ps sp)
    (hb : ∀ (kV doc pm : Value) (an : Option Addr) (cdv ct : Value) (us ws : List Value), us.length = n → ws.length = ks.length → bindArgs (PySem.W.fnOf x x (defArgs st) (defBody st) (defScope st) .none kV doc pm an cdv ct) ⟨us, ks.zip ws⟩ = pure (ps.zip (us ++ ws))) : ClXK P w K mg base k x ps n ks sp := by
  obtain ⟨f, fd, F, g⟩ := D
  obtain ⟨f2, fd2, a, b, c, d, oc2, od2, osl2, lk2⟩ := C
  obtain ⟨oc, od, dV, kV, doc, pm, an, cdv, ct, osl, rfl, lk, hcd, hD, hK⟩ := F.ex
  rw [g] at a
  cases a
  rw [lk] at lk2
  cases lk2
  rcases hD with ⟨_, rfl⟩ | ⟨e, _⟩
  · exact ⟨f, _, g, b, ⟨fun s us ws _ l1 l2 => .of_eq (hb kV doc pm an cdv ct us ws l1 l2), fun a b => vals_app a b⟩, d⟩
  · exact absurd rfl e
section
variable {X : Cx}
theorem pe_clX {j k : Nat} {x : Str} {ps : List Str} {sp : Sp} {p pos : Pos} {e : Expr} {es : List Expr} {t : TA} {W : WX} (C : ClX X.prog X.w X.K X.mg X.base j x ps sp) (tk : L2N.Takes X W) (hr : Room k X.A) (hg : Gl X x) (ha : PA X (e :: es) t) (hjk : j ≤ k := by decide)
    (hdb : (x == ("__debug__" : Str)) = false := by decide) (he : starEach (e :: es) X.env = (false, eval e X.env) :: starEach es X.env := by rfl) (hpl : (backTo pos (starEach es X.env)).any (·.1) = false := by rfl) :
    PE X (.Call (.Name x p) (e :: es) [] pos) (tCallS sp (WE W) t) := by
  obtain ⟨f, fd, a, b, c, d, _⟩ := C
  exact pe_callS d (hr.mono hjk) hg a b c (fun σ => L2N.passAt tk σ) ha hdb he hpl
theorem a_err {C : Addr} {ok : List V → Hp → Prop} {fl : List Str} {ta : TA} {σ : L2.St} {H : Hp} {Q : XK} : tErr C ok fl ta σ H Q = ta σ H fun vs H1 => vs.length = fl.length ∧ ok vs H1 ∧ ∀ d H2, New H1 d (.xd ((fl.zip vs).reverse)) H2 → Q (.ref C) (some d) H2 := rfl
theorem a_callS {sp : Sp} {E : L2.St → XK} {t : TA} {σ : L2.St} {H : Hp} {Q : VK} : tCallS sp E t σ H Q = t σ H fun vs H1 => sp vs H1 Q (E σ) := rfl
theorem a_xp {a : Addr} {d : Option Addr} {f : Str} {te : TE} {σ : L2.St} {H : Hp} {Q : VK} : tXp a d f te σ H Q = te σ H fun x H1 => x = .ref a ∧ ∃ (dd : Addr) (fs : List (Str × V)) (v : V), d = some dd ∧ H1 dd = some (.xd fs) ∧ fs.lookup f = some v ∧ Q v H1 := rfl
theorem a_isP {K : PySem.W.Frag} {D a : Addr} {d : Option Addr} {xs : List V} {H : Hp} {Q : VK} : rIsP K D a d xs H Q = ∃ (c : V) (cv : Value) (b : Bool), xs = [.ref a, c] ∧ (∀ u, RelV c u → u = cv) ∧ PySem.W.kitOne K (.ref D) cv = some b ∧ XdAt d H ∧ Q (.bl b) H := rfl
theorem takesN0 : L2N.Takes X (fun _ _ _ _ => False) := fun _ _ ⟨_, _, _, _, _, _, _, _, _, _, _, _, _, _, _, _, z⟩ => z.elim
end
section
variable {X : Cx}
theorem pe_clXK {j k : Nat} {x : Str} {ps : List Str} {sp : Sp} {n : Nat} {ks : List Str} {p pos : Pos} {e : Expr} {es : List Expr} {kws : List Keyword} {t t2 : TA} (C : ClXK X.prog X.w X.K X.mg X.base j x ps n ks sp) (hr : Room k X.A) (hg : Gl X x) (ha : PA X (e :: es) t) (hkw : PK X kws t2) (hjk : j ≤ k := by decide)
    (hall : (backToKw pos (keywordEach kws X.env)).all (·.1.isSome) = true := by rfl) (hks : (backToKw pos (keywordEach kws X.env)).filterMap (·.1) = ks := by rfl)
    (hdb : (x == ("__debug__" : Str)) = false := by decide) (he : starEach (e :: es) X.env = (false, eval e X.env) :: starEach es X.env := by rfl)
    (hpl : ((backTo pos (starEach (e :: es) X.env)).any (·.1) || (backToKw pos (keywordEach kws X.env)).any (·.1.isNone)) = false := by rfl) :
    PE X (.Call (.Name x p) (e :: es) kws pos) (fun σ H Q => t σ H fun vs H1 => t2 σ H1 fun zs H2 => vs.length = n ∧ zs.length = ks.length ∧ sp (vs ++ zs) H2 Q (fun _ _ _ => False)) := by
  obtain ⟨f, fd, a, b, c, d⟩ := C
  exact pe_callN (d.mono hjk) hr hg a b c (fun pins σ H s e s' I c => L2N.passAt (W := fun _ _ _ _ => False) takesN0 σ pins H s e s' I c) ha hkw hall hks hdb he hpl
end

/-! ## HoN -/
set_option maxHeartbeats 4000000 in
theorem meets_enum1 {v : Value} {o : Obj} {H : Heap → Prop} (B : Begins v o H) :
    Meets (Builtin.«enumerate.__new__» ⟨[.type "enumerate", v], []⟩) (fun _ R s => H s.heap ∧
      R (.ok (.ret (.ref (s.heap.push o).objs.size))) { s with heap := (s.heap.push o).push { cls := .type "enumerate", data := .fields #[.none, .bool false, .ref s.heap.objs.size, rawInt 0, .none, .none] } }) :=
  .of_wp fun prog w A R s h => by
    obtain ⟨hp, g, d, tk, os⟩ := s
    obtain ⟨h1, h⟩ := h
    have hsub := sub_enumerate
    have st : ∀ {A' : Around} {E : Value → Shared → Prop} {Q : Value → Shared → Prop}, Q (.ref hp.objs.size) ⟨hp.push o, g, d, tk, os⟩ → wpAny (model prog w) A' (pyIter v) Q E ⟨hp, g, d, tk, os⟩ := fun q => B.iter prog w _ _ ⟨hp, g, d, tk, os⟩ _ h1 q
    wp_walk using st
    refine wpAny_stack_any fun stk => wpAny_pure ?_
    split
    · rename_i c _ _ _ _ _
      cases (c == Value.type "enumerate") <;> (wp_walk using st; exact ⟨_, rfl, h⟩)
    · wp_walk using st
      exact ⟨_, rfl, h⟩
section
variable {prog : Program} {w : World} {A : Around} {E : Value → Shared → Prop} {s : Shared}
theorem enum1_begins {v : Value} {o : Obj} {H : Heap → Prop} {Q : Value → Shared → Prop} (B : Begins v o H) (h1 : H s.heap)
    (h : ∀ h', IsEnum h' (s.heap.objs.size + 1) s.heap.objs.size 0 .none → h'.get? s.heap.objs.size = some o → (∀ b o, s.heap.get? b = some o → h'.get? b = some o) → Q (.ref (s.heap.objs.size + 1)) { s with heap := h' }) :
    wpAny (model prog w) A (call (.type "enumerate") [v]) Q E s := by
  refine callType_new F.called_enumerate (by decide) (F.typeCall_enumerate_1 _) (F.newCall_enumerate_1 _) (fun obj => F.args_object_init_2 obj _) F.entry_enumerate_new (meets_enum1 B) ⟨h1, ?_⟩
  have hz : (s.heap.push o).objs.size = s.heap.objs.size + 1 := Heap.size_push ..
  have he : IsEnum ((s.heap.push o).push { cls := .type "enumerate", data := .fields #[.none, .bool false, .ref s.heap.objs.size, rawInt 0, .none, .none] }) (s.heap.objs.size + 1) s.heap.objs.size 0 .none := hz ▸ Heap.get?_push_size _ rfl
  show _ ∧ _
  rw [hz]
  exact ⟨⟨_, he, rfl⟩, h _ he (Heap.get?_push_of_some _ (Heap.get?_push_size _ B.free)) fun b o x => Heap.get?_push_of_some _ (Heap.get?_push_of_some _ x)⟩
end
/-- the tuple at a, each item in a new pair -/
def IteT (K : PySem.W.Frag) (a : Addr) (xs : List V) : It :=
  ⟨fun i H => SqT K H a xs ∧ i < xs.length, fun i H v H' => ∃ T x, v = .ref T ∧ New H T (.tup [.int (i : Nat), x]) H' ∧ xs[i]? = some x, fun i H => SqT K H a xs ∧ i = xs.length⟩
theorem turn_enumT {P : Program} {w : World} {K : PySem.W.Frag} {elts : List Expr} {kk : Nat} {tpos : Pos} (a e it : Addr) (hae : a ≠ e) (hai : a ≠ it) (hei : e ≠ it) (xs : List V) :
    Turn P w K (.Tuple elts kk tpos) (IteT K a xs) [e, it] e (fun i h => (∃ old, IsEnum h e it ((i : Nat) : Int) old) ∧ h.IsTupleIter it a i) where
  mem := List.mem_cons_self
  obj := fun i h st b hb => by
    obtain ⟨⟨old, he⟩, o, ho, hc, hd⟩ := st
    rcases List.mem_cons.mp hb with rfl | hb
    · exact ⟨_, he, fun v q => nomatch q⟩
    · obtain rfl := List.mem_singleton.mp hb
      exact ⟨o, ho, fun v q => by rw [hd] at q; cases q⟩
  keep := fun i h h' st k => ⟨st.1.imp fun old he => k e List.mem_cons_self _ he, st.2.at fun o q => k it (by simp) o q⟩
  item := fun X hP hw hK hc i pins s σ H E I hf st hg => by
    subst hP hw hK
    obtain ⟨⟨old, he⟩, hit⟩ := st
    obtain ⟨hq, hlt⟩ := hg
    obtain ⟨its, rv, p, hz⟩ := I.tuple hq
    have hl := rv.length
    have D := Draws.tuple (prog := X.prog) (w := X.w) (A := X.A.in1) (I.ok.hd hc) it a hai its.toArray
    have ia : s.heap.IsTuple a its.toArray := p
    have hel : e < s.heap.objs.size := Heap.lt_size he
    have hil : it < s.heap.objs.size := by obtain ⟨_, q, _⟩ := hit; exact Heap.lt_size q
    refine wpAny_pyNext_enum_itemD D he ⟨hit, ia⟩ (by rw [List.size_toArray]; omega) hei (by simp [hei, Ne.symm hae]) fun u h' tk hu ho hst hT hsz hk => ?_
    refine ⟨_, rfl, wpAny_letOwnedTupleGo_enum (s := { s with heap := h', toks := tk + 1 }) ho fun h'' he' sb => ?_⟩
    have hx : ∃ x, xs[i]? = some x := ⟨xs[i], List.getElem?_eq_getElem hlt⟩
    obtain ⟨x, hx⟩ := hx
    obtain ⟨u', hu', ru⟩ := rv.get hx
    obtain rfl : u' = u := by
      have q : its[i]? = some u := by simpa using hu
      rw [hu'] at q
      exact Option.some.inj q
    have hT2 : h''.get? s.heap.objs.size = some { cls := .type "tuple", data := .seq #[.int i tk, u'] } := (sb.2 _ (Nat.ne_of_gt hel)).trans hT
    have new : ObjOk X.prog X.w (upd H s.heap.objs.size (.tup [.int (i : Nat), x])) h'' s.heap.objs.size (.tup [.int (i : Nat), x]) :=
      ⟨by show 2 ≤ sizeLine; decide, [.int i tk, u'], .cons ⟨_, rfl⟩ (.cons ru .nil), ⟨_, hT2, rfl, _, rfl⟩⟩
    have I1 : Inv X pins σ (upd H s.heap.objs.size (.tup [.int (i : Nat), x])) { s with heap := h'', toks := tk + 1 } :=
      I.turnedNew (ch := [e, it]) (fun b ob hb q => (sb.2 b (fun z => hb (by simp [z]))).trans (hk b ob (fun z => hb (by simp [z])) (fun z => hb (by simp [z])) q)) hf (Nat.le_refl _) new
    refine ⟨.ref s.heap.objs.size, _, I1, rfl, ⟨_, x, rfl, .mk' (I.hok.fresh (Nat.le_refl _)), hx⟩, ⟨⟨u', ?_⟩, hst.1.at fun o q => (sb.2 it (Ne.symm hei)).trans q⟩, fun b hb => ?_⟩
    · have e1 : ((i + 1 : Nat) : Int) = (i : Int) + 1 := by omega
      rw [e1]
      exact he'
    · have hb' : b < s.heap.objs.size := by
        rcases List.mem_cons.mp hb with rfl | hb
        · exact hel
        · obtain rfl := List.mem_singleton.mp hb
          exact hil
      rw [upd_ne (Nat.ne_of_lt hb')]
      exact (hf b hb).1
  done := fun X hP hw hK hc i pins s σ H E I hf st hg => by
    subst hP hw hK
    obtain ⟨⟨old, he⟩, hit⟩ := st
    obtain ⟨hq, hle⟩ := hg
    obtain ⟨its, rv, p, hz⟩ := I.tuple hq
    have hl := rv.length
    have D := Draws.tuple (prog := X.prog) (w := X.w) (A := X.A.in1) (I.ok.hd hc) it a hai its.toArray
    have F := hf it (by simp)
    have hn : i = its.toArray.size := by rw [List.size_toArray]; omega
    refine wpAny_pyNext_enum_endD D he (hn ▸ ⟨hit, p⟩) fun h' eb => ⟨rfl, I.turned (t' := s.toks) (fun b o hb q => eb b o hb q) F.1 F.2.1 F.2.2.2.1 F.2.2.2.2.1 F.2.2.2.2.2⟩
  self := fun A i s Q E st h => wpAny_pyIter_enum st.1.choose_spec h
def iEnumT (K : PySem.W.Frag) (ta : TA) : TI := fun σ H R => ta σ H fun vs H1 => ∃ a xs, vs = [.ref a] ∧ H1 a = some (.tup xs) ∧ R (IteT K a xs) H1
theorem pi_enumT {X : Cx} {e : Expr} {ta : TA} {p pos tpos : Pos} {elts : List Expr} {kk : Nat} (hg : Gl X "enumerate") (hm : X.mg "enumerate" = none) (ha : PA X [e] ta) (hs : starEach [e] X.env = [(false, eval e X.env)] := by rfl) :
    PI X (.Tuple elts kk tpos) (.Call (.Name "enumerate" p) [e] [] pos) (iEnumT X.K ta) := by
  refine ⟨fun pins s σ H R I h => Call_ (ld_blt I hg hm boot_enumerate (PyProof.Rows.callWith_type1 (thn (ha.run pos pins s σ H _ I h) fun us s1 ⟨vs, H1, I1, r1, a, xs, ex, hq, q⟩ => ?_) hs rfl))⟩
  subst ex
  cases r1 with
  | cons r rr =>
    cases rr
    cases r
    obtain ⟨its, rv, p', hz⟩ := I1.tuple (SqT.of hq)
    have ha : a < s1.heap.objs.size := by obtain ⟨o, e, _⟩ := (show s1.heap.IsTuple a its.toArray from p'); exact Heap.lt_size e
    refine enum1_begins (begins_tuple a its.toArray) p' fun h' he hit hk => wpAny_pyIter_enum he ?_
    have I2 : Inv X pins σ H1 { s1 with heap := h' } := I1.kept (t' := s1.toks) hk
    refine ⟨s1.heap.objs.size + 1, [s1.heap.objs.size + 1, s1.heap.objs.size], _, _, H1, rfl, I2, turn_enumT a (s1.heap.objs.size + 1) s1.heap.objs.size (Nat.ne_of_lt (Nat.lt_succ_of_lt ha)) (Nat.ne_of_lt ha) (Nat.succ_ne_self _) xs, ⟨⟨.none, he⟩, ⟨_, hit, rfl, rfl⟩⟩, fun b hb => ?_, q⟩
    have hle : s1.heap.objs.size ≤ b := by
      rcases List.mem_cons.mp hb with rfl | hb
      · omega
      · obtain rfl := List.mem_singleton.mp hb
        exact Nat.le_refl _
    exact I1.fpOk hle (I1.hok.fresh hle)
section
variable {K : PySem.W.Frag} {H : Hp} {Q : VK} {σ : L2.St} {D : Ends}
def CEn (K : PySem.W.Frag) (a : Addr) (xs : List V) (g : TG) (tt : TT) (te : TE) (vs : List Nat) (σ : L2.St) (H : Hp) (Q : VK) : Prop := tLc (fun _ H R => R (IteT K a xs) H) g tt te vs σ H Q
theorem a_lcE {ta : TA} {g : TG} {tt : TT} {te : TE} {vs : List Nat} : tLc (iEnumT K ta) g tt te vs σ H Q = ta σ H fun ws H1 => ∃ a xs, ws = [.ref a] ∧ H1 a = some (.tup xs) ∧ CEn K a xs g tt te vs σ H1 Q := rfl
def FEn (K : PySem.W.Frag) (a : Addr) (xs : List V) (g : TG) (tb : TS) (D : Ends) (σ : L2.St) (H : Hp) : Prop := tFor (fun _ H R => R (IteT K a xs) H) g tb D σ H
theorem a_forE {ta : TA} {g : TG} {tb : TS} : tFor (iEnumT K ta) g tb D σ H = ta σ H fun ws H1 => ∃ a xs, ws = [.ref a] ∧ H1 a = some (.tup xs) ∧ FEn K a xs g tb D σ H1 := rfl
abbrev g2 (K : PySem.W.Frag) (i1 i2 : Nat) : TG := gTup K 2 (gCons (gName i1) (gCons (gName i2) gNil))
theorem g2_at {i1 i2 : Nat} {T : Addr} {x y : V} {R : L2.St → Hp → Prop} (h : H T = some (.tup [x, y])) (r : R ((σ.set i1 (some x)).set i2 (some y)) H) : g2 K i1 i2 (.ref T) σ H R := ⟨T, [x, y], rfl, SqT.of h, rfl, x, [y], rfl, y, [], rfl, rfl, r⟩
theorem ce_by {a : Addr} {xs : List V} {i1 i2 : Nat} {tt : TT} {te : TE} {vs : List Nat} (Pv : Addr → Nat → List V → Hp → Prop) (h0 : ∀ C H0, New H C (.lst []) H0 → Pv C 0 [] H0) (hl : ∀ C i acc H', H C = none → Pv C i acc H' → H' a = some (.tup xs))
    (hs : ∀ C i x acc H1 N T H2, H C = none → xs[i]? = some x → H1 C = some (.lst acc) → Pv C i acc H1 → (∀ acc' H5, H5 C = some (.lst acc') → Pv C (i + 1) acc' H5 → N H5) → New H1 T (.tup [.int (i : Nat), x]) H2 →
      wipe (((wipe σ vs).set i1 (some (.int (i : Nat)))).set i2 (some x)) vs = wipe σ vs ∧ tt (((wipe σ vs).set i1 (some (.int (i : Nat)))).set i2 (some x)) H2 fun b H3 => if b = true then te (((wipe σ vs).set i1 (some (.int (i : Nat)))).set i2 (some x)) H3 fun y H4 => CSt C N y H4 else N H3)
    (hd : ∀ C acc H1, H C = none → H1 C = some (.lst acc) → Pv C xs.length acc H1 → Q (.ref C) H1) : CEn K a xs (g2 K i1 i2) tt te vs σ H Q := by
  intro C hC
  refine ⟨fun i m H1 => m + i = xs.length ∧ ∃ acc, H1 C = some (.lst acc) ∧ Pv C i acc H1, ⟨xs.length, by omega, [], upd_same, h0 C _ (New.mk' hC)⟩, fun i m H1 ⟨hm, acc, ha, p⟩ => ?_⟩
  by_cases hi : i = xs.length
  · subst hi
    exact .inl ⟨⟨SqT.of (hl C _ acc H1 hC p), rfl⟩, hd C acc H1 hC ha p⟩
  · refine .inr ⟨⟨SqT.of (hl C _ acc H1 hC p), by omega⟩, fun H5 => ∃ acc', H5 C = some (.lst acc') ∧ Pv C (i + 1) acc' H5, fun H5 ⟨acc', h5, p5⟩ => ⟨m - 1, by omega, by omega, acc', h5, p5⟩, fun v H2 ⟨T, x, ev, n2, hx⟩ => ?_⟩
    subst ev
    exact g2_at n2.at_ (hs C i x acc H1 _ T H2 hC hx ha p (fun acc' H5 h5 p5 => ⟨acc', h5, p5⟩) n2)
theorem fe_by {a : Addr} {xs : List V} {i1 i2 : Nat} {tb : TS} (Pv : Nat → L2.St → Hp → Prop) (h0 : Pv 0 σ H) (hl : ∀ i σ' H', Pv i σ' H' → H' a = some (.tup xs))
    (hs : ∀ i x σ H1 (N : L2.St → Hp → Prop) T H2, (∀ σ' H', Pv (i + 1) σ' H' → N σ' H') → xs[i]? = some x → Pv i σ H1 → New H1 T (.tup [.int (i : Nat), x]) H2 → tb { D with nx := N, ct := N, bk := D.nx } ((σ.set i1 (some (.int (i : Nat)))).set i2 (some x)) H2)
    (hd : ∀ σ H, Pv xs.length σ H → D.nx σ H) : FEn K a xs (g2 K i1 i2) tb D σ H := by
  refine ⟨fun i m σ1 H1 => m + i = xs.length ∧ Pv i σ1 H1, ⟨xs.length, by omega, h0⟩, fun i m σ1 H1 ⟨hm, p⟩ => ?_⟩
  by_cases hi : i = xs.length
  · subst hi
    exact .inl ⟨⟨SqT.of (hl _ _ _ p), rfl⟩, hd _ _ p⟩
  · refine .inr ⟨⟨SqT.of (hl _ _ _ p), by omega⟩, fun σ5 H5 => Pv (i + 1) σ5 H5, fun σ5 H5 p5 => ⟨m - 1, by omega, by omega, p5⟩, fun v H2 ⟨T, x, ev, n2, hx⟩ => ?_⟩
    subst ev
    exact g2_at n2.at_ (hs i x σ1 H1 _ T H2 (fun _ _ z => z) hx p n2)
end

/-! ## HoW -/
def errNames : List Str := ["BadNumber", "NotAPoint", "NotAMove", "TooMany", "UnlikeSizes", "RepeatedPoint", "BadText", "NotMade", "NotTight", "NotFull", "NotAFailing", "NotNeighbours", "NotShorter", "SameLength", "NoSuchLength", "NotAnOrder", "NotAChain", "NotABase", "NotInside", "OrderMatters", "FullLot", "NotAWord", "NotAColumn", "NotACount", "GameOver", "NotAllowed", "NothingToUndo", "NothingToRedo", "NothingKept", "BadEdit", "UnknownName", "NotAPaper"]
/-- the classes' names stand for them; the class D is none of the others -/
structure ErN (K : PySem.W.Frag) (mg : Str → Option Value) (D : Str) : Prop where
  g : ∀ x ∈ errNames, mg x = some (.ref (He.ga K x))
  gH : mg "HeldorderError" = some (.ref (He.ga K "HeldorderError"))
  gV : mg "ValueError" = none
  k : ∀ x ∈ errNames, PySem.W.kitOne K (.ref (He.ga K D)) (.ref (He.ga K x)) = some (decide (x = D))
  kH : PySem.W.kitOne K (.ref (He.ga K D)) (.ref (He.ga K "HeldorderError")) = some true
  kV : PySem.W.kitOne K (.ref (He.ga K D)) (.type "ValueError") = some true
  ec : ExcC K (He.ga K D)
/-- isinstance(e, x), e in slot i -/
def tIsV (i : Nat) (a : Addr) (d : Option Addr) (b : Bool) : TE := fun σ H Q => σ[i]? = some (some (.ref a)) ∧ XdAt d H ∧ Q (.bl b) H
section
variable {X : Cx} {D : Str} {d : Option Addr} {p : Addr × Obj} {i : Nat} {y x : Str} {py px pp pos : Pos}
theorem pe_isV {c : V} {cv : Value} {b : Bool} (N : ErN X.K X.mg D) (hp : p ∈ X.pn) (hz : Zc (.ref (He.ga X.K D)) d p.2) (hf : ∃ vs, p.2.data = .fields vs) (hm : X.mg "isinstance" = none) (hg : Gl X "isinstance") (hy : PE X (.Name y py) (tVar i)) (hx : PE X (.Name x px) (tC c))
    (hcv : ∀ u, RelV c u → u = cv) (hk : PySem.W.kitOne X.K (.ref (He.ga X.K D)) cv = some b) : PE X (.Call (.Name "isinstance" pp) [.Name y py, .Name x px] [] pos) (tIsV i p.1 d b) := by
  have P := pe_callB (x := "isinstance") (p := pp) (pos := pos) (call_isP N.ec hp hz hf) hg hm (by decide +kernel) (pa_cons hy (pa_cons hx pa_nil))
  refine ⟨fun pins s σ H Q I h => P.run pins s σ H Q I ?_⟩
  obtain ⟨h1, h2, h3⟩ := h
  exact ⟨_, h1, ⟨c, cv, b, rfl, hcv, hk, h2, h3⟩⟩
theorem pe_isE (N : ErN X.K X.mg D) (hp : p ∈ X.pn) (hz : Zc (.ref (He.ga X.K D)) d p.2) (hf : ∃ vs, p.2.data = .fields vs) (hm : X.mg "isinstance" = none) (hg : Gl X "isinstance") (hy : PE X (.Name y py) (tVar i)) (hgx : Gl X x) (hx : x ∈ errNames := by decide) (hd : (x == ("__debug__" : Str)) = false := by decide) :
    PE X (.Call (.Name "isinstance" pp) [.Name y py, .Name x px] [] pos) (tIsV i p.1 d (decide (x = D))) :=
  pe_isV (c := .ref (He.ga X.K x)) N hp hz hf hm hg hy (pe_glob hgx (N.g x hx) (show RelV (.ref (He.ga X.K x)) _ from rfl) hd) (fun _ r => r) (N.k x hx)
theorem pe_isH (N : ErN X.K X.mg D) (hp : p ∈ X.pn) (hz : Zc (.ref (He.ga X.K D)) d p.2) (hf : ∃ vs, p.2.data = .fields vs) (hm : X.mg "isinstance" = none) (hg : Gl X "isinstance") (hy : PE X (.Name y py) (tVar i)) (hgx : Gl X "HeldorderError") :
    PE X (.Call (.Name "isinstance" pp) [.Name y py, .Name "HeldorderError" px] [] pos) (tIsV i p.1 d true) :=
  pe_isV (c := .ref (He.ga X.K "HeldorderError")) N hp hz hf hm hg hy (pe_glob hgx N.gH (show RelV (.ref (He.ga X.K "HeldorderError")) _ from rfl)) (fun _ r => r) N.kH
theorem pe_isVE (N : ErN X.K X.mg D) (hp : p ∈ X.pn) (hz : Zc (.ref (He.ga X.K D)) d p.2) (hf : ∃ vs, p.2.data = .fields vs) (hm : X.mg "isinstance" = none) (hg : Gl X "isinstance") (hy : PE X (.Name y py) (tVar i)) (hgx : Gl X "ValueError") :
    PE X (.Call (.Name "isinstance" pp) [.Name y py, .Name "ValueError" px] [] pos) (tIsV i p.1 d true) :=
  pe_isV (c := .ty "ValueError") N hp hz hf hm hg hy (pe_bltn hgx N.gV (by decide +kernel) (show RelV (.ty "ValueError") _ from rfl)) (fun _ r => r) N.kV
end
theorem a_isV {i : Nat} {a : Addr} {d : Option Addr} {b : Bool} {σ : L2.St} {H : Hp} {Q : VK} : tIsV i a d b σ H Q = (σ[i]? = some (some (.ref a)) ∧ XdAt d H ∧ Q (.bl b) H) := rfl
theorem a_lcH {K : PySem.W.Frag} {tl : TE} {g : TG} {tt : TT} {te : TE} {vs : List Nat} {σ : L2.St} {H : Hp} {Q : VK} : tLcH K tl g tt te vs σ H Q = tl σ H fun x H1 => ∃ (a : Addr) (xs : List V), x = .ref a ∧ SqL K H1 a xs ∧ ∀ D, H1 D = none → ∃ acc : Nat → List V, acc 0 = [] ∧
  (∀ i y, xs[i]? = some y → (acc i).length < sizeLine ∧ g y (wipe σ vs) (upd H1 D (.lst (acc i))) fun σ2 H2 => wipe σ2 vs = wipe σ vs ∧ tt σ2 H2 fun b H3 => if b = true then te σ2 H3 fun z H4 => H4 = upd H1 D (.lst (acc i)) ∧ acc (i + 1) = acc i ++ [z] else H3 = upd H1 D (.lst (acc i)) ∧ acc (i + 1) = acc i) ∧
  Q (.ref D) (upd H1 D (.lst (acc xs.length))) := rfl

/-! ## HoH -/
def clsFn : Stmt → Nat → Stmt
  | .ClassDef (body := b) .., i => b.getD i (.Pass ⟨0, 0, 0, 0⟩)
  | s, _ => s
section
variable {K : PySem.W.Frag} {C : Addr}
theorem andB {a b : Bool} (h : (a && b) = true) : a = true ∧ b = true := Bool.and_eq_true_iff.mp h
def oexL (K : PySem.W.Frag) (C : Addr) : Bool := match K.lookup C with
  | some ⟨.type t, _, .cls cd, sl⟩ => (match cd.mro, sl.toList with
    | .ref C' :: bm, [_, _, _, _, some (.builtin n), _] => decide (t = "type") && (decide (C' = C) && (decide (n = "ValueError.__new__") && (!cd.hasDel && (cd.hasDict && PySem.HandSPX.refsVE bm))))
    | _, _ => false)
  | _ => false
theorem oexL_ok (q : oexL K C = true) : ∃ nm qn N bs bm sn sub ab col dd k0 k1 k2 k3 k5, K.lookup C = some (excClassObj nm qn C N bs bm true sn sub ab col dd k0 k1 k2 k3 k5 "ValueError.__new__") ∧ PySem.HandSPX.refsVE bm = true := by
  unfold oexL at q
  split at q
  · rename_i t dd cd sl ho
    split at q
    · rename_i C' bm k0 k1 k2 k3 n k5 hm hs
      obtain ⟨h0, q⟩ := andB q
      obtain ⟨h1, q⟩ := andB q
      obtain ⟨h2, q⟩ := andB q
      obtain ⟨hdel, q⟩ := andB q
      obtain ⟨hdi, ht⟩ := andB q
      obtain rfl := of_decide_eq_true h0
      obtain rfl := of_decide_eq_true h1
      obtain rfl := of_decide_eq_true h2
      rw [Bool.not_eq_true'] at hdel
      obtain ⟨nm, bs, mro, ns, qn, hd, sn, sub, ab, col, del⟩ := cd
      dsimp only at hm hdel hdi
      subst hm hdel hdi
      have hsl : sl = #[k0, k1, k2, k3, some (.builtin "ValueError.__new__"), k5] := by
        obtain ⟨l⟩ := sl
        simp only at hs
        rw [hs]
      subst hsl
      exact ⟨nm, qn, ns, bs, bm, sn, sub, ab, col, dd, k0, k1, k2, k3, k5, ho, ht⟩
    · cases q
  · cases q
def oexB (K : PySem.W.Frag) (C : Addr) : Bool := oexL K C && (He.eqO (PySem.W.findIn K (.ref C) "__setattr__") (some (some (.builtin "object.__setattr__"))) && (decide (PySem.W.subIn K (.ref C) (.type "BaseException") = some true) && (decide (PySem.W.typeIn K (.ref C) = some (.type "type")) && PySem.W.keepIn K (.ref C))))
theorem oexB_ok (q : oexB K C = true) : OexC K C := by
  obtain ⟨h0, q⟩ := andB q
  obtain ⟨h1, q⟩ := andB q
  obtain ⟨h2, q⟩ := andB q
  obtain ⟨h3, h4⟩ := andB q
  exact ⟨oexL_ok h0, He.eqO_ok h1, of_decide_eq_true h2, of_decide_eq_true h3, h4⟩
def excCB (K : PySem.W.Frag) (D : Addr) : Bool := He.eqO (PySem.W.findIn K (.ref D) "__getattribute__") (some (some (.builtin "BaseException.__getattribute__"))) && (He.eqO (PySem.W.findIn K (.ref D) "__getattr__") (some none) && (decide (PySem.W.subIn K (.ref D) (.type "BaseException") = some true) && (PySem.W.hasDictIn K D && (He.eqO (PySem.W.findIn K (.ref D) "__class__") (some (some (.builtin "object.__class__"))) &&
  (He.eqO (PySem.W.specialIn K (.builtin "object.__class__") "__get__") (some (some (.builtin "getset_descriptor.__get__"))) && (decide (PySem.W.takesIn K (.builtin "object.__class__") = some true) && decide (PySem.W.mroIn K D (.type "object") = some true)))))))
theorem excCB_ok (q : excCB K C = true) : ExcC K C := by
  obtain ⟨h0, q⟩ := andB q
  obtain ⟨h1, q⟩ := andB q
  obtain ⟨h2, q⟩ := andB q
  obtain ⟨h3, q⟩ := andB q
  obtain ⟨h4, q⟩ := andB q
  obtain ⟨h5, q⟩ := andB q
  obtain ⟨h6, h7⟩ := andB q
  exact ⟨He.eqO_ok h0, He.eqO_ok h1, of_decide_eq_true h2, h3, He.eqO_ok h4, He.eqO_ok h5, of_decide_eq_true h6, of_decide_eq_true h7⟩
end
/-- an own error class's __init__, as the text has it -/
structure IniD where
  cls : Str
  qual : Str
  params : Arguments
  body : List Stmt
  scope : Scope
  flds : List Str
abbrev IniW : Type := Option (Str × Str × Arguments × FuncBody × Scope × Addr × Addr)
def iniAd (K : PySem.W.Frag) (d : IniD) : Addr := He.ma K (He.ga K d.cls) "__init__"
def iniW (K : PySem.W.Frag) (d : IniD) : IniW := match K.lookup (iniAd K d) with
  | some ⟨_, _, .func fd, _⟩ => some (fd.name, fd.qualname, fd.params, fd.body, fd.scope, fd.globals, fd.builtins)
  | _ => none
def IniD.val (d : IniD) : IniW := some ("__init__", d.qual, d.params, .stmts d.body, d.scope, mainGlobals, builtinsNs)
def isNon : Value → Bool
  | .none => true
  | _ => false
def fileB (K : PySem.W.Frag) (file : Str) : Value → Bool
  | .ref c => (match K.lookup c with
    | some ⟨_, _, .fields vs, _⟩ => (match (vs[2]? : Option Value) with
      | some (Value.str f _) => decide (f = file)
      | _ => false)
    | _ => false)
  | _ => false
def closB (K : PySem.W.Frag) (C : Addr) : List (Str × Addr) → Bool
  | [(n, c)] => decide (n = "__class__") && (match K.lookup c with
    | some ⟨_, _, .cell (some (.ref D)), _⟩ => decide (D = C)
    | _ => false)
  | _ => false
def fnB (K : PySem.W.Frag) (file : Str) (d : IniD) : Bool := match K.lookup (iniAd K d) with
  | some ⟨_, _, .func fd, _⟩ => isNon fd.defaults && (PySem.W.codeIn K fd.code d.qual && (fileB K file fd.code && closB K (He.ga K d.cls) fd.closure))
  | _ => false
/-- all that is asked of a class that is made -/
def IniD.ok (K : PySem.W.Frag) (file : Str) (d : IniD) : Bool := fnB K file d && (oexB K (He.ga K d.cls) && (xfB K (He.ga K d.cls) && (excCB K (He.ga K d.cls) && (He.eqO (PySem.W.findIn K (.ref (He.ga K d.cls)) "__init__") (some (some (.ref (iniAd K d)))) && (decide (PySem.W.typeIn K (.ref (iniAd K d)) = some (.type "function")) &&
  (He.eqO (PySem.W.ks_superIn K (He.ga K d.cls) (He.ga K d.cls) "__init__") (some (some (.builtin "ValueError.__init__"))) && (decide (PySem.W.subIn K (.ref (He.ga K d.cls)) (.type "ValueError") = some true) && (decide (PySem.W.mroIn K (He.ga K d.cls) (.ref (He.ga K d.cls)) = some true) && d.flds.all fun f => He.eqO (PySem.W.findIn K (.ref (He.ga K d.cls)) f) (some none)))))))))
/-- the names -/
def namesB (K : PySem.W.Frag) : Bool := He.eqO (PySem.W.nsIn K cStatics "thirdparty.any") (some none) && (He.eqO (PySem.W.nsIn K mainGlobals "HeldorderError") (some (some (.ref (He.ga K "HeldorderError")))) && errNames.all fun x => He.eqO (PySem.W.nsIn K mainGlobals x) (some (some (.ref (He.ga K x)))))
/-- a class told from the others -/
def kitsB (K : PySem.W.Frag) (D : Str) : Bool := decide (PySem.W.kitOne K (.ref (He.ga K D)) (.ref (He.ga K "HeldorderError")) = some true) && (decide (PySem.W.kitOne K (.ref (He.ga K D)) (.type "ValueError") = some true) && (decide (PySem.W.exmOne K (.ref (He.ga K D)) (.ref (He.ga K "HeldorderError")) = some true) && errNames.all fun x => decide (PySem.W.kitOne K (.ref (He.ga K D)) (.ref (He.ga K x)) = some (decide (x = D)))))
/-! the Hook -/
abbrev AlE : Type := He.AlD × (Bool × List IniW)
def obsI (file : Str) (di : List IniD) (ks : List Str) (K : PySem.W.Frag) : Bool × List IniW := ((namesB K && ks.all fun x => kitsB K x) && di.all fun d => d.ok K file, di.map fun d => iniW K d)
def obsE (fa : List He.Fa) (fn : List He.DefD) (file : Str) (di : List IniD) (ks : List Str) (K : PySem.W.Frag) : AlE := (He.obsD fa fn K, obsI file di ks K)
def valE (fn : List He.DefD) (di : List IniD) : AlE := (He.valD fn, (true, di.map IniD.val))
def SaysE (fa : List He.Fa) (fn : List He.DefD) (file : Str) (di : List IniD) (ks : List Str) (K : PySem.W.Frag) : Prop := obsE fa fn file di ks K = valE fn di
/-- the addresses that are looked at: the names' objects, the functions' codes, the error classes with their namespaces and __init__ -/
def nsRef (g : Addr → Option Obj) (ns : Addr) (x : Str) : List Addr := match g ns with
  | some ⟨_, _, .dict es _, _⟩ => (match es.toList.find? (·.key.isStr x) with
    | some e => He.refV e.val
    | none => [])
  | _ => []
def fnRef (g : Addr → Option Obj) (a : Addr) : List Addr := match g a with
  | some ⟨_, _, .func fd, _⟩ => a :: (He.refV fd.code ++ He.refV fd.defaults ++ He.refV fd.kwdefaults ++ fd.closure.map (·.2))
  | _ => [a]
def clsRef (g : Addr → Option Obj) (a : Addr) : List Addr := match g a with
  | some ⟨_, _, .cls cd, _⟩ => a :: cd.ns :: (nsRef g cd.ns "__init__").flatMap (fnRef g)
  | _ => [a]
def asE (g : Addr → Option Obj) (fn : List He.DefD) (ks : List Str) : List Addr := mainGlobals :: cStatics :: (fn.flatMap fun d => (nsRef g mainGlobals d.at_.1).flatMap (fnRef g)) ++ ((("HeldorderError" : Str) :: ks).flatMap fun x => (nsRef g mainGlobals x).flatMap (clsRef g)) ++ errNames.flatMap (nsRef g mainGlobals)
def obsEG (fa : List He.Fa) (fn : List He.DefD) (file : Str) (di : List IniD) (ks : List Str) (g : Addr → Option Obj) : AlE := obsE fa fn file di ks (He.frG g (asE g fn ks))
def hookE (fa : List He.Fa) (fn : List He.DefD) (file : Str) (di : List IniD) (ks : List Str) : PySem.W.Hook where
  α := AlE
  obs := fun s => obsEG fa fn file di ks s.heap.get?
  val := fun _ => valE fn di
  says := fun _ h => ∃ K : PySem.W.Frag, K.In h ∧ SaysE fa fn file di ks K
  of := fun _ _ e => ⟨_, He.frG_in, e⟩
  keeps := fun _ _ _ ⟨K, hK, c⟩ k => ⟨K, PySem.W.Frag.In.keeps hK k, c⟩
theorem obsEG_eq {fa : List He.Fa} {fn : List He.DefD} {file : Str} {di : List IniD} {ks : List Str} {g : Addr → Option Obj} {s : Shared} (h : ∀ a, g a = s.heap.get? a) : obsEG fa fn file di ks g = (hookE fa fn file di ks).obs s := by
  have e : g = s.heap.get? := funext h
  rw [e] <;> rfl
section
variable {fa : List He.Fa} {fn : List He.DefD} {file : Str} {di : List IniD} {ks : List Str} {K : PySem.W.Frag} {h : Heap} {mg : Str → Option Value}
theorem SaysE.d (c : SaysE fa fn file di ks K) : He.SaysD fa fn K := congrArg (fun z : AlE => z.1) c
theorem SaysE.b (c : SaysE fa fn file di ks K) : (namesB K && ks.all fun x => kitsB K x) = true ∧ (di.all fun d => d.ok K file) = true := andB (show ((namesB K && ks.all fun x => kitsB K x) && di.all fun d => d.ok K file) = true from congrArg (fun z : AlE => z.2.1) c)
theorem SaysE.names (c : SaysE fa fn file di ks K) : namesB K = true := (andB c.b.1).1
theorem SaysE.kit (c : SaysE fa fn file di ks K) {x : Str} (hx : x ∈ ks) : kitsB K x = true := List.all_eq_true.mp (andB c.b.1).2 x hx
theorem SaysE.gH (c : SaysE fa fn file di ks K) (X : K.In h) (G : h.Ns mainGlobals mg) : mg "HeldorderError" = some (.ref (He.ga K "HeldorderError")) := PySem.W.mg_of X G (He.eqO_ok (andB (andB c.names).2).1)
theorem SaysE.g (c : SaysE fa fn file di ks K) (X : K.In h) (G : h.Ns mainGlobals mg) (x : Str) (hx : x ∈ errNames) : mg x = some (.ref (He.ga K x)) := PySem.W.mg_of X G (He.eqO_ok (List.all_eq_true.mp (andB (andB c.names).2).2 x hx))
theorem SaysE.exm (c : SaysE fa fn file di ks K) {x : Str} (hx : x ∈ ks) : PySem.W.exmOne K (.ref (He.ga K x)) (.ref (He.ga K "HeldorderError")) = some true := of_decide_eq_true (andB (andB (andB (c.kit hx)).2).2).1
theorem SaysE.ini (c : SaysE fa fn file di ks K) (i : Nat) {d : IniD} (hd : di[i]? = some d) : iniW K d = d.val ∧ d.ok K file = true := by
  have e : di.map (fun d => iniW K d) = di.map IniD.val := congrArg (fun z : AlE => z.2.2) c
  have e2 : (di.map fun d => iniW K d)[i]? = (di.map IniD.val)[i]? := by rw [e]
  rw [List.getElem?_map, List.getElem?_map, hd] at e2
  exact ⟨Option.some.inj e2, List.all_eq_true.mp c.b.2 d (List.mem_of_getElem? hd)⟩
theorem SaysE.erN (c : SaysE fa fn file di ks K) (X : K.In h) (G : h.Ns mainGlobals mg) (hV : mg "ValueError" = none) {i : Nat} {d : IniD} (hd : di[i]? = some d) (hx : d.cls ∈ ks) : ErN K mg d.cls := by
  have k := c.kit hx
  obtain ⟨k1, k⟩ := andB k
  obtain ⟨k2, k⟩ := andB k
  obtain ⟨k3, k4⟩ := andB k
  obtain ⟨_, o⟩ := c.ini i hd
  exact ⟨c.g X G, c.gH X G, hV, fun x hx => of_decide_eq_true (List.all_eq_true.mp k4 x hx), of_decide_eq_true k1, of_decide_eq_true k2, excCB_ok (andB (andB (andB (andB o).2).2).2).1⟩
theorem sup_of {P : Program} {K : PySem.W.Frag} {mg : Str → Option Value} {file : Str} {d : IniD} (e : iniW K d = d.val) (o : d.ok K file = true) (hst : He.eqO (PySem.W.nsIn K cStatics "thirdparty.any") (some none) = true) (hfile : P.main.file = file) (htop : (P.main.scope.names.lookup ("super" : Str)).isSome = false) (hsu : mg "super" = none) {ps : List Str}
    (hb : ∀ (kV doc pm : Value) (an : Option Addr) (cdv ct : Value) (cc : Addr) (us : List Value), us.length = ps.length → bindArgs (PySem.W.ksFn "__init__" d.qual d.params d.body d.scope .none kV doc pm an cdv ct cc) ⟨us, []⟩ = pure (ps.zip us)) :
    ∃ cc cda fd, SupTxt P K mg (He.ga K d.cls) (iniAd K d) cc cda "__init__" d.qual d.params d.body d.scope fd ∧ Binds K fd ps [] ∧ PySem.W.findIn K (.ref (He.ga K d.cls)) "__init__" = some (some (.ref (iniAd K d))) ∧ PySem.W.typeIn K (.ref (iniAd K d)) = some (.type "function") ∧
      OexC K (He.ga K d.cls) ∧ XfC K (He.ga K d.cls) ∧ ExcC K (He.ga K d.cls) ∧ ∀ f ∈ d.flds, PySem.W.findIn K (.ref (He.ga K d.cls)) f = some none := by
  obtain ⟨b1, o⟩ := andB o
  obtain ⟨b2, o⟩ := andB o
  obtain ⟨b3, o⟩ := andB o
  obtain ⟨b4, o⟩ := andB o
  obtain ⟨b5, o⟩ := andB o
  obtain ⟨b6, o⟩ := andB o
  obtain ⟨b7, o⟩ := andB o
  obtain ⟨b8, o⟩ := andB o
  obtain ⟨b9, b10⟩ := andB o
  unfold fnB at b1
  unfold iniW at e
  cases q : K.lookup (iniAd K d) with
  | none =>
    rw [q] at b1
    cases b1
  | some ob =>
    obtain ⟨oc, od, dt, osl⟩ := ob
    rw [q] at b1 e
    cases dt with
    | func fd =>
      obtain ⟨n1, n2, n3, n4, n5, n6, n7, n8, n9, n10, n11, n12, n13, n14, n15⟩ := fd
      have e2 : (some (n1, n2, n3, n4, n5, n6, n15) : IniW) = some (("__init__" : Str), d.qual, d.params, FuncBody.stmts d.body, d.scope, mainGlobals, builtinsNs) := e
      simp only [Option.some.injEq, Prod.mk.injEq] at e2
      obtain ⟨h1, h2, h3, h4, h5, h6, h8⟩ := e2
      subst h1 h2 h3 h4 h5 h6 h8
      have b1' : (isNon n8 && (PySem.W.codeIn K n13 d.qual && (fileB K file n13 && closB K (He.ga K d.cls) n7))) = true := b1
      have c1 := (andB b1').1
      have c2 := (andB (andB b1').2).1
      have c3 := (andB (andB (andB b1').2).2).1
      have c4 := (andB (andB (andB b1').2).2).2
      clear b1' b1
      have e8 : n8 = .none := by
        cases n8 <;> first | rfl | cases c1
      subst e8
      have hcl : ∃ cc, n7 = [(("__class__" : Str), cc)] ∧ ∃ (cl : Value) (cld : Option Addr) (csl : Array (Option Value)), K.lookup cc = some ⟨cl, cld, .cell (some (.ref (He.ga K d.cls))), csl⟩ := by
        unfold closB at c4
        split at c4
        · rename_i n cc
          obtain ⟨a1, a2⟩ := andB c4
          obtain rfl := of_decide_eq_true a1
          split at a2
          · rename_i cl cld D csl lk
            obtain rfl := of_decide_eq_true a2
            exact ⟨cc, rfl, _, _, _, lk⟩
          · cases a2
        · cases c4
      obtain ⟨cc, rfl, hcell⟩ := hcl
      have hco : ∃ cda, n13 = .ref cda ∧ ∃ (ccl : Value) (cdd : Option Addr) (vs : Array Value) (ccs : Array (Option Value)) (file' : Str) (tf : Tok), K.lookup cda = some ⟨ccl, cdd, .fields vs, ccs⟩ ∧ vs[2]? = some (.str file' tf) ∧ ((P.main.file : Str) == file') = true := by
        unfold fileB at c3
        split at c3
        · rename_i cda
          split at c3
          · rename_i ccl cdd vs ccs lk
            split at c3
            · rename_i f tf hv
              have := of_decide_eq_true c3
              exact ⟨cda, rfl, _, _, _, _, f, tf, lk, hv, by rw [hfile, this]; exact beq_self_eq_true _⟩
            · cases c3
          · cases c3
        · cases c3
      obtain ⟨cda, rfl, hco⟩ := hco
      have hn := hst
      exact ⟨cc, cda, _, ⟨⟨oc, od, _, n9, n10, n11, n14, n12, osl, rfl, q⟩, c2, hco, hcell, hsu, htop, oexB_ok b2, He.eqO_ok b7, of_decide_eq_true b8, He.eqO_ok hn, of_decide_eq_true b9⟩, Binds.all fun us hl => hb _ _ _ _ _ _ _ us hl, He.eqO_ok b5, of_decide_eq_true b6, oexB_ok b2, xfB_ok b3, excCB_ok b4, fun f hf => He.eqO_ok (List.all_eq_true.mp b10 f hf)⟩
    | _ => cases b1
/-- the class's __init__ stands as fn_super asks; it binds its parameters -/
theorem SaysE.sup {P : Program} (c : SaysE fa fn file di ks K) (hfile : P.main.file = file) (htop : (P.main.scope.names.lookup ("super" : Str)).isSome = false) (hsu : mg "super" = none) {i : Nat} {d : IniD} (hd : di[i]? = some d) {ps : List Str}
    (hb : ∀ (kV doc pm : Value) (an : Option Addr) (cdv ct : Value) (cc : Addr) (us : List Value), us.length = ps.length → bindArgs (PySem.W.ksFn "__init__" d.qual d.params d.body d.scope .none kV doc pm an cdv ct cc) ⟨us, []⟩ = pure (ps.zip us)) :
    ∃ cc cda fd, SupTxt P K mg (He.ga K d.cls) (iniAd K d) cc cda "__init__" d.qual d.params d.body d.scope fd ∧ Binds K fd ps [] ∧ PySem.W.findIn K (.ref (He.ga K d.cls)) "__init__" = some (some (.ref (iniAd K d))) ∧ PySem.W.typeIn K (.ref (iniAd K d)) = some (.type "function") ∧
      OexC K (He.ga K d.cls) ∧ XfC K (He.ga K d.cls) ∧ ExcC K (He.ga K d.cls) ∧ ∀ f ∈ d.flds, PySem.W.findIn K (.ref (He.ga K d.cls)) f = some none := by
  obtain ⟨e, o⟩ := c.ini i hd
  exact sup_of e o (andB c.names).1 hfile htop hsu hb
end

/-! ## HoGd -/
/-- a def's promise, where no guard is under way -/
structure FnG (P : Program) (w : World) (K : PySem.W.Frag) (mg : Str → Option Value) (base : Heap) (C : CXT) (n : Nat) (f : Addr) (fd : FuncData) (ps : List Str) (sp : Sp) : Prop where
  len : ∀ xs H Q E, sp xs H Q E → xs.length = ps.length
  run : ∀ {B : Around} {st : List Env} {s : Shared} {H : Hp} {ar : Args} {us : List Value} {xs : List V} {Q : VK} {E : XK}, B.guards = some [] → Room n B → Env0 P w K mg base B st s H → BindsTo s fd ar (ps.zip us) → Vals xs us → sp xs H Q E → codeAny (model P w) B (.call (.ref f) ar) (CR C st P w H s Q E) s
theorem FnG.mono {P : Program} {w : World} {K : PySem.W.Frag} {mg : Str → Option Value} {base : Heap} {C : CXT} {j n : Nat} {f : Addr} {fd : FuncData} {ps : List Str} {sp : Sp} (F : FnG P w K mg base C j f fd ps sp) (h : j ≤ n) : FnG P w K mg base C n f fd ps sp :=
  ⟨F.len, fun hg hr e b v z => F.run hg (hr.mono h) e b v z⟩
theorem fnG_of {C : CXT} {P : Program} {w : World} {K : PySem.W.Frag} {mg : Str → Option Value} {base : Heap} {n : Nat} {x : Str} {st : Stmt} {N ps : List Str} {sp : Sp} {f : Addr} {fd : FuncData} (F : FnP K x st f fd) (S : FnScope N ps (defScope st))
    (len : ∀ xs H Q E, sp xs H Q E → xs.length = ps.length)
    (body : ∀ (cv : Value) (B : Around) (out : List Env) (s : Shared) (H : Hp) (xs : List V) (Q : VK) (E : XK), B.guards = some [] → Room n (B.deeper (envOfC x (defScope st) s.heap.objs.size f cv)) → sp xs H Q E →
      ∃ t, PSs (cxOf C P w K mg base N x (defScope st) f cv B out s H E) (defBody st) t ∧ t { nx := fun _ H' => Q .non H', rt := Q } (start N xs) H) : FnG P w K mg base C (n + 1) f fd ps sp := by
  obtain ⟨oc, od, dV, kV, doc, pm, an, cv, ct, osl, rfl, lk, hcd, _, _⟩ := F.ex
  refine ⟨len, ?_⟩
  intro B out s H ar us xs Q E hgd hr e0 hb r hsp
  have KX : K.In s.heap := e0.mod.kin.keeps fun b o e => (e0.bs b o e).1
  have nl : s.heap.NoLimit := e0.mod.nolimit.keeps fun b o e => (e0.bs b o e).1
  have kinds : ∀ y ∈ ps.zip us, (defScope st).names.lookup y.1 = some .local ∨ ((defScope st).names.lookup y.1 = some .cell ∧ ((cellsFrom (s.heap.objs.size + 1) (defScope st).names []).lookup y.1).isSome = true) := by
    rintro ⟨m, v⟩ hy
    exact (S.par m (List.of_mem_zip hy).1).imp id fun q => ⟨q, PySem.W.cellsFrom_some _ _ _ (.inl q)⟩
  refine codeAny_call_function hr.depth (KX _ _ lk) rfl S.co S.gen rfl (PySem.W.codeRec_of KX hcd) (hb _ _ _ _ (wpAny_newFunctionEnv_cells S.kind kinds ?_))
  rintro env rfl s1 nf
  refine ⟨nl.keeps nf.toInCall.keep, codeAny_func ?_⟩
  obtain ⟨t, ht, hq⟩ := body cv B out s H xs Q E hgd (hr.deeper _) hsp
  have I := inv_start (CX := C) (E := E) S hr.hd e0 (len _ _ _ _ hsp) r nf
  refine wpAny_mono (ht.run [] s1 (start N xs) H _ I hq) ?_ fun _ _ z => z
  intro fl s' hs
  cases fl with
  | next =>
    obtain ⟨_, H', J, q⟩ := hs
    exact ⟨V.non, H', J.os, J.bare, J.base, J.hok, rfl, q⟩
  | brk => obtain ⟨_, _, _, q⟩ := hs; exact False.elim q
  | cont => obtain ⟨_, _, _, q⟩ := hs; exact False.elim q
  | ret u =>
    obtain ⟨v, _, H', J, rv, q⟩ := hs
    exact ⟨v, H', J.os, J.bare, J.base, J.hok, rv, q⟩
/-- a calm def by its name -/
def ClG (P : Program) (w : World) (K : PySem.W.Frag) (mg : Str → Option Value) (base : Heap) (n : Nat) (x : Str) (ps : List Str) (sp : Sp) : Prop :=
  ∃ f fd, mg x = some (.ref f) ∧ PySem.W.keepIn K (.ref f) = true ∧ Binds K fd ps [] ∧ FnG P w K mg base CX0 n f fd ps sp
theorem clG_of {P : Program} {w : World} {K : PySem.W.Frag} {mg : Str → Option Value} {base : Heap} {x : Str} {st : Stmt} {N ps : List Str} {k : Nat} {sp : Sp} (D : Df K mg x st) (S : FnScope N ps (defScope st))
    (hb : ∀ (kV doc pm : Value) (an : Option Addr) (cdv ct : Value) (us : List Value), us.length = ps.length → bindArgs (PySem.W.fnOf x x (defArgs st) (defBody st) (defScope st) .none kV doc pm an cdv ct) ⟨us, []⟩ = pure (ps.zip us))
    (len : ∀ xs H Q E, sp xs H Q E → xs.length = ps.length)
    (body : ∀ (f : Addr) (cv : Value) (B : Around) (out : List Env) (s : Shared) (H : Hp) (xs : List V) (Q : VK) (E : XK), B.guards = some [] → Room k (B.deeper (envOfC x (defScope st) s.heap.objs.size f cv)) → sp xs H Q E →
      ∃ t, PSs (cxOf CX0 P w K mg base N x (defScope st) f cv B out s H E).nox (defBody st) t ∧ t { nx := fun _ H' => Q .non H', rt := Q } (start N xs) H) : ClG P w K mg base (k + 1) x ps sp := by
  obtain ⟨f, fd, F, g⟩ := D
  refine ⟨f, fd, g, F.kp, fun s us _ hl => ?_, fnG_of F S len fun cv B out s H xs Q E hgd hr hsp => ?_⟩
  · rw [List.append_nil] at hl ⊢
    exact F.bindsA hb s us hl
  · obtain ⟨t, h, q⟩ := body f cv B out s H xs Q E hgd hr hsp
    exact ⟨t, h.nox, q⟩
theorem fnG_ofF {P : Program} {w : World} {K : PySem.W.Frag} {mg : Str → Option Value} {base : Heap} {x : Str} {st : Stmt} {N ps : List Str} {k : Nat} {sp : Sp} {f : Addr} {fd : FuncData} (F : FnP K x st f fd) (S : FnScope N ps (defScope st))
    (len : ∀ xs H Q E, sp xs H Q E → xs.length = ps.length)
    (body : ∀ (f : Addr) (cv : Value) (B : Around) (out : List Env) (s : Shared) (H : Hp) (xs : List V) (Q : VK) (E : XK), B.guards = some [] → Room k (B.deeper (envOfC x (defScope st) s.heap.objs.size f cv)) → sp xs H Q E →
      ∃ t, PSs (cxOf CX0 P w K mg base N x (defScope st) f cv B out s H E).nox (defBody st) t ∧ t { nx := fun _ H' => Q .non H', rt := Q } (start N xs) H) : FnG P w K mg base CX0 (k + 1) f fd ps sp :=
  fnG_of F S len fun cv B out s H xs Q E hgd hr hsp => by
    obtain ⟨t, h, q⟩ := body f cv B out s H xs Q E hgd hr hsp
    exact ⟨t, h.nox, q⟩
/-- a def that stands under a further name -/
def DfA (K : PySem.W.Frag) (mg : Str → Option Value) (y x : Str) (st : Stmt) : Prop := ∃ f fd, FnP K x st f fd ∧ mg y = some (.ref f)
section
variable {P : Program} {w : World} {K : PySem.W.Frag} {mg : Str → Option Value} {base : Heap} {y x : Str} {st : Stmt} {N ps : List Str} {k : Nat} {sp : Sp}
theorem cl_ofA (D : DfA K mg y x st) (S : FnScope N ps (defScope st))
    (hb : ∀ (kV doc pm : Value) (an : Option Addr) (cdv ct : Value) (us : List Value), us.length = ps.length → bindArgs (PySem.W.fnOf x x (defArgs st) (defBody st) (defScope st) .none kV doc pm an cdv ct) ⟨us, []⟩ = pure (ps.zip us))
    (len : ∀ xs H Q E, sp xs H Q E → xs.length = ps.length)
    (body : ∀ (f : Addr) (cv : Value) (B : Around) (out : List Env) (s : Shared) (H : Hp) (xs : List V) (Q : VK) (E : XK), Room k (B.deeper (envOfC x (defScope st) s.heap.objs.size f cv)) → sp xs H Q E →
      ∃ t, PSs (cxOf CX0 P w K mg base N x (defScope st) f cv B out s H E).nox (defBody st) t ∧ t { nx := fun _ H' => Q .non H', rt := Q } (start N xs) H) : Cl P w K mg base (k + 1) y ps sp := by
  obtain ⟨f, fd, F, g⟩ := D
  exact ⟨f, fd, g, F.kp, F.bindsA hb, fn_ofF F S len body⟩
theorem clX_ofA (D : DfA K mg y x st) (S : FnScope N ps (defScope st))
    (hb : ∀ (kV doc pm : Value) (an : Option Addr) (cdv ct : Value) (us : List Value), us.length = ps.length → bindArgs (PySem.W.fnOf x x (defArgs st) (defBody st) (defScope st) .none kV doc pm an cdv ct) ⟨us, []⟩ = pure (ps.zip us))
    (len : ∀ xs H Q E, sp xs H Q E → xs.length = ps.length)
    (body : ∀ (f : Addr) (cv : Value) (B : Around) (out : List Env) (s : Shared) (H : Hp) (xs : List V) (Q : VK) (E : XK), Room k (B.deeper (envOfC x (defScope st) s.heap.objs.size f cv)) → L2N.Takes (cxOf (L2N.CX P w) P w K mg base N x (defScope st) f cv B out s H E) (fun cls d _ H => E cls d H) → sp xs H Q E →
      ∃ t, PSs (cxOf (L2N.CX P w) P w K mg base N x (defScope st) f cv B out s H E) (defBody st) t ∧ t { nx := fun _ H' => Q .non H', rt := Q } (start N xs) H) : ClX P w K mg base (k + 1) y ps sp := by
  obtain ⟨f, fd, F, g⟩ := D
  refine ⟨f, fd, g, F.kp, fun s us _ hl => ?_, F.ok S len fun cv B out s H xs Q E hr hsp => body f cv B out s H xs Q E hr (L2N.takes_of rfl rfl rfl rfl) hsp, ?_⟩
  · rw [List.append_nil] at hl ⊢
    exact F.bindsA hb s us hl
  · obtain ⟨oc, od, dV, kV, doc, pm, an, cv, ct, osl, e, lk, _⟩ := F.ex
    exact ⟨oc, od, osl, lk⟩
end
theorem _root_.L2.Room.u100 {k : Nat} {A : Around} (r : Room k A) : A.units + 100 < cLine := by have := r.un; omega
section
variable {X : Cx}
theorem pe_clG {j k : Nat} {x : Str} {ps : List Str} {sp : Sp} {p pos : Pos} {e : Expr} {es : List Expr} {t : TA} (C : ClG X.prog X.w X.K X.mg X.base j x ps sp) (hgd : X.A.guards = some []) (hr : Room k X.A) (hg : Gl X x) (ha : PA X (e :: es) t) (hjk : j ≤ k := by decide)
    (hdb : (x == ("__debug__" : Str)) = false := by decide) (he : starEach (e :: es) X.env = (false, eval e X.env) :: starEach es X.env := by rfl) (hpl : (backTo pos (starEach es X.env)).any (·.1) = false := by rfl) :
    PE X (.Call (.Name x p) (e :: es) [] pos) (tCall sp [] E0 t) := by
  obtain ⟨f, fd, a, b, c, F⟩ := C
  constructor
  intro pins s σ H Q I h
  refine wpAny_Call_Name_kw (ld_glob I hg a ?_ hdb)
  refine PySem.W.callWith_K (h₀ := X.base) I.ok.mod.kin b (thn (ha.run pos pins s σ H _ I h) ?_) he hpl
  rintro us s1 ⟨vs, H1, I1, r, q⟩
  refine ⟨I1.kIn, ?_⟩
  rw [List.append_nil] at q
  have hl : (us ++ []).length = ps.length := by rw [List.append_nil, ← r.length]; exact F.len _ _ _ _ q
  have bt := c s1 us I1.kIn hl
  rw [List.append_nil] at bt
  refine wpAny_call (codeAny_mono (F.run hgd (hr.mono hjk) I1.env0 bt r q) ?_)
  rintro (er | fl) s' z
  · exact (show False from z).elim
  cases fl with
  | ret u => exact I1.after z
  | next => exact (show False from z).elim
  | brk => exact (show False from z).elim
  | cont => exact (show False from z).elim
/-! repr -/
mutual
theorem dw_dp {K : PySem.W.Frag} {H : Hp} : ∀ {v : V} {d : PyData} {n : Nat}, Dw [] H v d n → Dp K H v d
  | _, _, _, .lf l => by cases l <;> constructor
  | _, _, _, .lst _ h a => .lst (SqL.of h) (dw_dpAll a)
  | _, _, _, .tup _ h a => .tup (SqT.of h) (dw_dpAll a)
theorem dw_dpAll {K : PySem.W.Frag} {H : Hp} : ∀ {vs : List V} {ds : List PyData} {n : Nat}, DwAll [] H vs ds n → DpAll K H vs ds
  | _, _, _, .nil => .nil
  | _, _, _, .cons a b => .cons (dw_dp a) (dw_dpAll b)
end
/-- shown in at most b signs, nested at most k deep -/
structure Shw (k b : Nat) (d : PyData) : Prop where
  sh : d.showable = true
  nd : d.hasDict = false
  dp : d.depth ≤ k
  ln : d.shown.length ≤ b
theorem Shw.mono {k b k' b' : Nat} {d : PyData} (h : Shw k b d) (hk : k ≤ k') (hb : b ≤ b') : Shw k' b' d := ⟨h.sh, h.nd, Nat.le_trans h.dp hk, Nat.le_trans h.ln hb⟩
theorem shw_all : ∀ {ds : List PyData} {k b : Nat}, (∀ d ∈ ds, Shw k b d) → PyData.showableAll ds = true ∧ PyData.hasDictAll ds = false ∧ PyData.depthAll ds ≤ k ∧ piled (PyData.shownAll ds) ≤ (b + 2) * ds.length
  | [], _, _, _ => ⟨rfl, rfl, by simp [PyData.depthAll], by simp [PyData.shownAll, piled]⟩
  | d :: ds, k, b, h => by
    obtain ⟨h1, h2, h3, h4⟩ := shw_all fun e he => h e (List.mem_cons_of_mem _ he)
    have hd := h d List.mem_cons_self
    refine ⟨by simp only [PyData.showableAll, hd.sh, h1, Bool.and_self], by simp only [PyData.hasDictAll, hd.nd, h2, Bool.or_self], by simp only [PyData.depthAll]; have := hd.dp; omega, ?_⟩
    simp only [PyData.shownAll, piled_cons, List.length_cons, Nat.mul_succ]
    have := hd.ln
    omega
theorem Shw.tup {ds : List PyData} {k b : Nat} (h : ∀ d ∈ ds, Shw k b d) : Shw (k + 1) ((b + 2) * ds.length + 10) (.tuple ds) := by
  obtain ⟨h1, h2, h3, h4⟩ := shw_all h
  refine ⟨by simp only [PyData.showable, h1], by simp only [PyData.hasDict, h2], by simp only [PyData.depth]; omega, ?_⟩
  simp only [PyData.shown]
  have := fmt_text (PyData.shownAll ds)
  omega
theorem txf_len : ∀ (ts : List Str) (k : Nat) (acc : Str), (textFrom k acc ts).length ≤ acc.length + piled ts
  | [], _, acc => by simp [textFrom, piled]
  | t :: r, k, acc => by
    have ih := txf_len r (k + 1) (acc ++ (if k > 0 then ", " else "" : String) ++ t)
    have e0 : (((if k > 0 then ", " else "" : String) : Str)).length ≤ 2 := by split <;> decide +kernel
    rw [strLen_append, strLen_append] at ih
    rw [piled_cons]
    show (textFrom (k + 1) _ r).length ≤ _
    omega
theorem Shw.lst {ds : List PyData} {k b : Nat} (h : ∀ d ∈ ds, Shw k b d) : Shw (k + 1) ((b + 2) * ds.length + 10) (.list ds) := by
  obtain ⟨h1, h2, h3, h4⟩ := shw_all h
  refine ⟨by simp only [PyData.showable, h1], by simp only [PyData.hasDict, h2], by simp only [PyData.depth]; omega, ?_⟩
  simp only [PyData.shown]
  have := txf_len (PyData.shownAll ds) 0 "["
  have e1 : ((("[" : String) : Str)).length = 1 := rfl
  have e2 : ((("]" : String) : Str)).length = 1 := rfl
  unfold listText
  rw [strLen_append]
  omega
def rRep1 (K : PySem.W.Frag) : List V → Hp → VK → Prop := fun vs H Q => ∃ (p : Addr) (d : PyData), vs = [.ref p] ∧ Dp K H (.ref p) d ∧ d.showable = true ∧ d.hasDict = false ∧ d.depth ≤ 64 ∧ d.shown.length ≤ sizeLine ∧ Q (.str d.shown) H
theorem repr1 (hgd : X.A.guards = some []) (hu : X.A.units + 100 < cLine) : CallR X (.builtin "repr") (rRep1 X.K) := by
  intro pins s σ H vs us Q I r h
  obtain ⟨p, d, rfl, hd, hs, hn, hdp, hz, q⟩ := h
  rw [Vals.ref1 r]
  obtain ⟨as, rd⟩ := Dp.reads I d (.ref p) (.ref p) hd rfl
  refine repr_of_reads' rd hs (PyData.noDict_hsm hn) hgd (by omega) (fun _ _ e => e) (fun h' u tk hk => ?_) hz
  exact ⟨.str d.shown, H, I.kept hk, ⟨_, rfl⟩, q⟩
end
theorem reprK {X : Cx} {K : PySem.W.Frag} (e : X.K = K) (hgd : X.A.guards = some []) (hu : X.A.units + 100 < cLine) : CallR X (.builtin "repr") (rRep1 K) := e ▸ repr1 hgd hu
/-! the end of a law whose promise wants that no guard is under way -/
section
variable {P : Program} {w : World} {K : PySem.W.Frag} {mg mb : Str → Option Value} {k : Nat} {fa a : Addr} {fd : FuncData} {x : Str} {sp : Sp} {s1 : Shared} {us : List Value} {ns : List Int}
/-- what a law's run must come to -/
def RunOk (s1 : Shared) (r : Result) (s' : Shared) : Prop := r = .ok (.ret (.bool true)) ∧ OldK s1.heap s'.heap ∧ s'.os = s1.os ∧ AllBare s'.gens
theorem runG_at {H : Hp} (KX : K.In s1.heap) (hns : s1.heap.Ns mainGlobals mg) (hb : s1.heap.Ns builtinsNs mb) (hbb : ∀ y : Str, y ≠ "__name__" → mb y = bootBuiltins y) (lim : s1.heap.NoLimit) (hg : s1.gens = #[])
    (ha : s1.heap.get? a = some { cls := .type "list", data := .seq us.toArray }) (hr : Room k callerA)
    (F : ∀ base : Heap, K.In base → base.Ns mainGlobals mg → FnG P w K mg base CX0 k fa fd [x] sp) (bnd : ∀ (s : Shared) (u : Value), BindsTo s fd ⟨[u], []⟩ [(x, u)])
    (only : Only H) (q : sp [.ref a] H (fun v _ => v = .bl true) fun _ _ _ => False) (ok : HOk P w H s1.heap) (hA : ∀ b, H b ≠ none → b = a) (hK : H a ≠ none → K.lookup a = none) :
    codeAny (model P w) callerA (.call (.ref fa) ⟨[.ref a], []⟩) (RunOk s1) s1 := by
  have at_a : ∀ {b : Addr} {u : HO}, H b = some u → b = a := fun {b u} e => hA b (by rw [e]; exact fun z => by cases z)
  have ns0 : ∀ {b : Addr} {m : Str → Option Value}, s1.heap.Ns b m → (hidT s1.heap H).Ns b m := by
    rintro b m ⟨o, es, ep, e, d, z⟩
    refine ⟨o, es, ep, hidT_get e ?_, d, z⟩
    cases hb : H b with
    | none => rfl
    | some u =>
      rw [at_a hb, ha] at e
      cases e
      exact nomatch (show Data.seq us.toArray _ = Data.dict es ep from d)
  have Kin : K.In (hidT s1.heap H) := fun b o e => hidT_get (KX b o e) (by
    cases hb : H b with
    | none => rfl
    | some u =>
      have eb := at_a hb
      rw [eb] at e hb
      rw [hK (by rw [hb]; exact fun z => by cases z)] at e
      cases e)
  have M : Mod K mg (hidT s1.heap H) := by
    obtain ⟨mc, h1, h2⟩ := lim
    exact ⟨Kin, ns0 hns, ⟨mb, ns0 hb, hbb⟩, mc, ns0 h1, h2⟩
  have env : Env0 P w K mg (hidT s1.heap H) callerA [] s1 H := ⟨rfl, M, fun _ _ e => of_hidT e, Nat.le_of_eq (hidT_size _ _), trivial, fun b z => absurd (show b ∈ ([] : List Addr) from z) List.not_mem_nil, ok, AllBare.of_eq hg⟩
  refine codeAny_mono ((F _ Kin (ns0 hns)).run (us := [Value.ref a]) (xs := [V.ref a]) rfl hr env (bnd s1 (.ref a)) (.cons rfl .nil) q) ?_
  rintro (er | fl) s' z
  · exact (show False from z).elim
  cases fl with
  | next => exact (show False from z).elim
  | brk => exact (show False from z).elim
  | cont => exact (show False from z).elim
  | ret u =>
    obtain ⟨v, H', os, bare, un, ok', rv, qv⟩ := z
    have qv : v = V.bl true := qv
    rw [qv] at rv
    have ru : u = Value.bool true := rv
    rw [ru]
    refine ⟨rfl, OldK.of_keep ?_, os, bare⟩
    intro b o e
    cases hb : H b with
    | none => exact un.keep b o e hb (fun z => absurd (show b ∈ ([] : List Addr) from z) List.not_mem_nil) (by simp)
    | some u2 =>
      rcases only b with z | ⟨ob, ys, z⟩
      · rw [z] at hb; cases hb
      · obtain ⟨k1, _⟩ := ok b _ z
        obtain ⟨k2, _⟩ := ok' b _ (un.frzs b ob _ z)
        rw [e] at k1
        cases k1
        exact k2
theorem runG (KX : K.In s1.heap) (hns : s1.heap.Ns mainGlobals mg) (hb : s1.heap.Ns builtinsNs mb) (hbb : ∀ y : Str, y ≠ "__name__" → mb y = bootBuiltins y) (lim : s1.heap.NoLimit) (hg : s1.gens = #[])
    (ha : s1.heap.get? a = some { cls := .type "list", data := .seq us.toArray }) (hi : IntsAre us ns) (hl : ns.length ≤ sizeLine) (hr : Room k callerA)
    (F : ∀ base : Heap, K.In base → base.Ns mainGlobals mg → FnG P w K mg base CX0 k fa fd [x] sp) (bnd : ∀ (s : Shared) (u : Value), BindsTo s fd ⟨[u], []⟩ [(x, u)])
    (hsp : ∀ H : Hp, Only H → SqL K H a (ns.map V.int) → sp [.ref a] H (fun v _ => v = .bl true) fun _ _ _ => False) : codeAny (model P w) callerA (.call (.ref fa) ⟨[.ref a], []⟩) (RunOk s1) s1 := by
  have rv := vals_ints hi
  cases hk : K.lookup a with
  | some o =>
    have e := KX a o hk
    rw [ha] at e
    cases e
    have on : Only (fun _ => none) := fun _ => .inl rfl
    exact runG_at KX hns hb hbb lim hg ha hr F bnd on (hsp _ on (.inr ⟨_, us.toArray, _, hk, rfl, rfl, rfl, by rw [List.size_toArray, hi.length]; exact hl, by simpa using rv⟩)) (fun b u z => nomatch (show (none : Option HO) = some u from z)) (fun b z => absurd rfl z) fun z => absurd rfl z
  | none =>
    let H : Hp := upd (fun _ => none) a (.frz { cls := .type "list", data := .seq us.toArray } (.lst (ns.map V.int)))
    have on : Only H := fun b => by
      by_cases e : b = a
      · exact .inr ⟨_, _, by rw [e]; exact upd_same⟩
      · exact .inl (upd_ne e)
    refine runG_at (H := H) KX hns hb hbb lim hg ha hr F bnd on (hsp H on (.inl (.inr ⟨{ cls := .type "list", data := .seq us.toArray }, upd_same⟩))) (fun b u z => ?_) (fun b z => ?_) fun _ => hk
    · by_cases e : b = a
      · have z2 : H a = some u := by rw [← e]; exact z
        have z3 : some (HO.frz { cls := .type "list", data := .seq us.toArray } (.lst (ns.map V.int))) = some u := upd_same.symm.trans z2
        cases z3
        rw [e]
        exact ⟨ha, by rw [List.length_map]; exact hl, us, _, rv, ha⟩
      · exact nomatch (show (none : Option HO) = some u from (upd_ne e).symm.trans z)
    · exact Classical.byContradiction fun e => z (upd_ne e)
end
theorem walk_ofG {l : PySem.W.OpenLaw} {n k : Nat} {q : Program} {loose : List Str} {XP : (Str → Option Value) → Heap → Prop} {YP : World → Heap → Prop} {d : DefRec} {x : Str} {CX : CXT} (hn : l.most = some n) (hn2 : n ≤ sizeLine) (hdf : d.params.defaults = []) (hr : Room k callerA)
    (F : ∀ (w : World) (mg : Str → Option Value) (fa : Addr) (h : Heap), YP w h → h.Ns mainGlobals mg → mg d.name = some (.ref fa) →
      ∃ (K : PySem.W.Frag) (fd : FuncData) (sp : Sp), K.In h ∧ (∀ (s : Shared) (u : Value), BindsTo s fd ⟨[u], []⟩ [(x, u)]) ∧
        (∀ (H : Hp) (a : Addr) (ns : List Int), ns.length ≤ n → Only H → SqL K H a (ns.map V.int) → sp [.ref a] H (fun v _ => v = .bl true) fun _ _ _ => False) ∧
        ∀ base : Heap, K.In base → base.Ns mainGlobals mg → FnG l.prog w K mg base CX0 k fa fd [x] sp)
    (_ : ∀ (H : Hp) (s : Shared) (e : Value) (s' : Shared), CX [] H s (fun _ _ _ => False) e s' → False) : PySem.W.WalkO q loose XP YP l.row.toRowW d [] (fun f vs => PySem.call f vs) := by
  refine Att.attach_call hn hdf ?_
  intro w s0 s1 mg mb fa o pm cd doc a us ns G Y ho hd hcd hm hob hin hle hgs
  obtain ⟨K, fd, sp, KX, bnd, hsp, hF⟩ := F w mg fa _ Y G.T.g hm
  exact runG KX G.T.g G.T.b G.T.builtins G.T.nolimit hgs hob hin (Nat.le_trans hle hn2) hr hF bnd fun H on hS => hsp H a ns hle on hS

/-! ## HoDt -/
section
variable {X : Cx}
/-- {t: v}, t a tuple -/
def tDisp1 (tk tv : TE) : TE := fun σ H Q => ∀ p H0, New H p (.dT []) H0 → tk σ H0 fun x H1 => tv σ H1 fun y H2 => ∃ (b : Addr) (ks : List Key), x = .ref b ∧ H2 p = some (.dT []) ∧ H2 b = some (.tup (ks.map kV)) ∧ ∀ H3, Put H2 p (.dT [(ks, y)]) H3 → Q (.ref p) H3
theorem pe_disp1 {k v : Expr} {pos : Pos} {tk tv : TE} (hu : X.A.units + 2 < cLine) (hk : PE X k tk) (hv : PE X v tv) : PE X (.Dict [some k] [v] pos) (tDisp1 tk tv) := by
  constructor
  intro pins s σ H Q I q
  have hn := I.hok.fresh (Nat.le_refl s.heap.objs.size)
  have I1 := I.laid (a := s.heap.objs.size) (o := .dT []) (h' := s.heap.push { cls := .type "dict", data := .dict #[] }) (t' := s.toks) (fun _ _ q => Heap.get?_push_of_some _ q) (Nat.le_refl _) (dt_empty s.heap I.big)
  have hup : (tupleKind (mixKind X.prog X.w)).room X.A := by show X.A.units < cLine; omega
  have e0 := zip_pairTrees [some k] [v] X.env pos rfl rfl
  rw [arm_eval_Dict, e0, dictDisplay_pairs _ (by simp [pairTrees]) (by simp [pairTrees])]
  refine wpAny_bind (wpAny_standAt (wpAny_bind (wpAny_subDictH (knd := tupleKind (mixKind X.prog X.w)) (Q := fun d s' => wpAny (model X.prog X.w) X.A (pure (Value.ref d)) (EP X pins σ Q) X.xe s') hup (by simp [pairTrees]) ?_)))
  refine pairTrees_cons_walk (thn (hk.run pins _ σ _ _ I1 (q _ _ (New.mk' hn))) ?_)
  rintro u s1 ⟨x, H1, I2, rx, q1⟩
  refine thn (hv.run pins s1 σ H1 _ I2 q1) ?_
  rintro z s2 ⟨y, H2, I3, ry, b, ks, rfl, e1, e2, q2⟩
  cases rx
  refine pairTrees_nil_walk ?_
  obtain ⟨z0, hd, xs0, r0, dd⟩ := dt_of I3.hok e1
  cases r0
  refine ⟨[(ks, b, z)], ⟨rfl, rfl, key_of I3.hok e2, trivial⟩, dd, fun h' tk dk hs => wpAny_pure ?_⟩
  have he : ∃ q, h'.get? s.heap.objs.size = some q := let ⟨q, _, _, hq, _⟩ := dk; ⟨q, hq⟩
  refine ⟨.ref s.heap.objs.size, upd H2 s.heap.objs.size (.dT [(ks, y)]), ?_, rfl, q2 _ Put.mk'⟩
  refine d_write I3 (by rw [e1]; exact True.intro) hs he ?_
  have hbn : b ≠ s.heap.objs.size := fun e => by rw [e, e1] at e2; cases e2
  have kt : KT (upd H2 s.heap.objs.size (.dT [(ks, y)])) [(ks, y)] [(ks, b, z)] := .cons ⟨rfl, by rw [upd_ne hbn]; exact e2, ry⟩ .nil
  obtain ⟨o, es, ep, h1, h2, h3, h4, h5, h6⟩ := dk
  exact ⟨by show 1 ≤ _; rw [sizeLine_eq]; omega, hd, [(ks, b, z)], kt, o, es, ep, h1, h2, h3, h4, h6⟩
end
/-! sorted -/
noncomputable def leT : List Int → List Int → Bool := PySem.W.dataLe false fun ns => PyData.tuple (ns.map PyData.int)
noncomputable def srt (L : List (List Int)) : List (List Int) := L.mergeSort leT
theorem srt_perm (L : List (List Int)) : (srt L).Perm L := List.mergeSort_perm L _
theorem srt_len (L : List (List Int)) : (srt L).length = L.length := (srt_perm L).length_eq
theorem mem_srt {L : List (List Int)} {x : List Int} : x ∈ srt L ↔ x ∈ L := (srt_perm L).mem_iff
theorem srt_one {L : List (List Int)} (h : L.length ≤ 1) : srt L = L := by
  match L, h with
  | [], _ => exact List.mergeSort_nil
  | [a], _ => exact List.mergeSort_singleton a
def rSortedM (K : PySem.W.Frag) : List V → Hp → VK → Prop := fun vs H Q => ∃ (a : Addr) (bs : List (Addr × List Int)), vs = [V.ref a] ∧ SqL K H a (bs.map fun b => V.ref b.1) ∧ (∀ b ∈ bs, H b.1 = some (.tup (b.2.map V.int))) ∧ ((∀ b ∈ bs, b.2 ≠ []) ∨ bs.length ≤ 1) ∧
  ∀ (bs' : List (Addr × List Int)) (p : Addr) (H' : Hp), bs'.Perm bs → bs'.map (·.2) = srt (bs.map (·.2)) → New H p (.lst (bs'.map fun b => V.ref b.1)) H' → Q (.ref p) H'
theorem each_of {R : Value → Addr × List Int → Prop} : ∀ {bs : List (Addr × List Int)}, (∀ b ∈ bs, R (.ref b.1) b) → PySem.W.EachIs R (bs.map fun b => Value.ref b.1) bs
  | [], _ => .nil
  | b :: r, h => .cons (h b List.mem_cons_self) (each_of fun c hc => h c (List.mem_cons_of_mem _ hc))
theorem of_each : ∀ {out : List Value} {bs : List (Addr × List Int)}, PySem.W.EachIs (fun v b => v = Value.ref b.1) out bs → out = bs.map fun b => Value.ref b.1
  | _, _, .nil => rfl
  | _, _, .cons h t => by rw [h, of_each t]; rfl
theorem vals_pair : ∀ bs : List (Addr × List Int), Vals (bs.map fun b => V.ref b.1) (bs.map fun b => Value.ref b.1)
  | [] => .nil
  | _ :: r => .cons rfl (vals_pair r)
theorem vals_pairI {its : List Value} : ∀ {bs : List (Addr × List Int)}, Vals (bs.map fun b => V.ref b.1) its → its = bs.map fun b => Value.ref b.1 := by
  intro bs
  induction bs generalizing its with
  | nil => intro h; cases h; rfl
  | cons b r ih =>
    intro h
    cases h with
    | cons a t => rw [ih t]; cases a; rfl
section
variable {X : Cx}
theorem sortedM (hu : X.A.units + 64 < cLine) : CallR X (.builtin "sorted") (rSortedM X.K) := by
  intro pins s σ H vs us Q I r h
  obtain ⟨a, bs, rfl, hs, hb, hn, q⟩ := h
  obtain ⟨its, rv, hl, hz⟩ := I.list hs
  rw [Vals.ref1 r]
  have ei := vals_pairI rv
  rw [List.length_map] at hz
  have fin : ∀ bs' : List (Addr × List Int), bs'.Perm bs → bs'.map (·.2) = srt (bs.map (·.2)) → ∀ out : List Value, out = bs'.map (fun b => Value.ref b.1) →
      EP X pins σ Q (.ref (s.heap.objs.size + 1)) { s with heap := PyProof.Rows.sortedAll s.heap its out.toArray } := by
    rintro bs' hp he out rfl
    obtain ⟨ep, he'⟩ := PyProof.Rows.sortedAll_at s.heap its (bs'.map (fun b => Value.ref b.1)).toArray
    refine ⟨.ref _, upd H (s.heap.objs.size + 1) (.lst (bs'.map fun b => V.ref b.1)), I.laid (t' := s.toks) (fun _ _ => PyProof.Rows.sortedAll_old) (Nat.le_succ _) ⟨by rw [List.length_map, hp.length_eq]; exact hz, _, ep, vals_pair _, he'⟩, rfl, q _ _ _ hp he (New.mk' (I.hok.fresh (Nat.le_succ _)))⟩
  rcases hn with hn | hn
  · have rd : ∀ b ∈ bs, ∃ as, Reads s.heap (.ref b.1) (.tuple (b.2.map .int)) as := fun b hm => Dp.reads I _ _ _ (Dp.tup (SqT.of (hb b hm)) (dpAll_ints b.2)) rfl
    refine PySem.W.sorted_data (enc := fun b => PyData.tuple (b.2.map .int)) (R := fun v b => v = Value.ref b.1) (bs := bs) hl.isList (by rw [ei]; exact each_of fun b _ => rfl) (by rw [ei]; exact each_of rd) (PySem.W.AllAlike.of fun b b' => ?_) ?_ hz (fun b hm => ?_) fun out ho eo => ?_
    · show PySem.W.alike (.tuple _) (.tuple _) = true
      simp only [PySem.W.alike, PySem.W.alike_ints]
    · refine .inl fun d hd => ?_
      obtain ⟨b, hm, rfl⟩ := List.mem_map.mp hd
      have := hn b hm
      cases e : b.2 with
      | nil => exact absurd e this
      | cons x r => exact ⟨.int x, r.map .int, rfl⟩
    · have := depth_ints b.2
      show _ + PyData.depth (.tuple _) < _
      simp only [PyData.depth]
      omega
    · refine fin _ (List.mergeSort_perm _ _) ?_ out (of_each eo)
      exact List.map_mergeSort fun _ _ _ _ => rfl
  · refine Srt.sorted_any hl.isList (by rw [ei, List.length_map]; exact hz) (fun h2 => by rw [ei, List.length_map] at h2; omega) fun out hp => ?_
    refine fin bs (.refl _) (srt_one (by rw [List.length_map]; exact hn)).symm out ?_
    rw [ei] at hp
    match bs, hn, hp with
    | [], _, hp => exact List.perm_nil.mp hp
    | [b], _, hp => exact List.perm_singleton.mp hp
end

/-! ## HoC -/
/-! the rounds of a move, as plain mathematics -/
/-- the image of a point -/
def im (ns : List Int) (p : Int) : Int := (ns[p.toNat]?).getD 0
structure Mv (ns : List Int) : Prop where
  perm : ns.Perm (rng ns.length)
theorem Mv.at {ns : List Int} (m : Mv ns) {p : Int} (h : 0 ≤ p ∧ p < ns.length) : ns[p.toNat]? = some (im ns p) ∧ 0 ≤ im ns p ∧ im ns p < ns.length := by
  have hl : p.toNat < ns.length := by omega
  have e : ns[p.toNat]? = some (ns[p.toNat]) := List.getElem?_eq_getElem hl
  have q : im ns p = ns[p.toNat] := by unfold im; rw [e]; rfl
  rw [q]
  exact ⟨e, mem_rng.mp (m.perm.mem_iff.mp (List.getElem_mem hl))⟩
theorem Mv.inj {ns : List Int} (m : Mv ns) {p q : Int} (hp : 0 ≤ p ∧ p < ns.length) (hq : 0 ≤ q ∧ q < ns.length) (h : im ns p = im ns q) : p = q := by
  have nd : ns.Nodup := m.perm.nodup_iff.mpr (rng_nodup _)
  have a := (m.at hp).1
  have b := (m.at hq).1
  rw [h] at a
  have := (List.getElem?_inj (by omega) nd).mp (a.trans b.symm)
  omega
/-- one part of a round that is being walked: x0, .., x(k-1), the next one is pt -/
structure Walk (ns : List Int) (fl cyc : List Int) (start pt : Int) : Prop where
  nd : (fl ++ cyc).Nodup
  mv : ∀ p ∈ fl ++ cyc, (0 ≤ p ∧ p < ns.length) ∧ im ns p ≠ p
  cl : ∀ p ∈ fl, im ns p ∈ fl
  cb : ∀ p : Int, 0 ≤ p → p < ns.length → im ns p ∈ fl → p ∈ fl
  st : (0 ≤ start ∧ start < ns.length) ∧ im ns start ≠ start ∧ start ∉ fl
  hd : cyc = [] ∨ cyc.head? = some start
  lk : ∀ k x y, cyc[k]? = some x → cyc[k + 1]? = some y → im ns x = y
  pt0 : cyc = [] → pt = start
  pt1 : ∀ x, cyc.getLast? = some x → pt = im ns x
  ptr : 0 ≤ pt ∧ pt < ns.length
theorem Walk.start {ns fl : List Int} {s : Int} (nd : fl.Nodup) (mv : ∀ p ∈ fl, (0 ≤ p ∧ p < ns.length) ∧ im ns p ≠ p) (cl : ∀ p ∈ fl, im ns p ∈ fl) (cb : ∀ p : Int, 0 ≤ p → p < ns.length → im ns p ∈ fl → p ∈ fl) (st : (0 ≤ s ∧ s < ns.length) ∧ im ns s ≠ s ∧ s ∉ fl) : Walk ns fl [] s s :=
  ⟨by simpa using nd, by simpa using mv, cl, cb, st, .inl rfl, fun k x y h => by simp at h, fun _ => rfl, fun x h => by simp at h, st.1⟩
/-- the walk is not over: the point is taken in -/
theorem Walk.step {ns fl cyc : List Int} {s pt : Int} (m : Mv ns) (w : Walk ns fl cyc s pt) (h : pt ∉ fl ++ cyc) : Walk ns fl (cyc ++ [pt]) s (im ns pt) := by
  have hpt := m.at w.ptr
  have hmv : im ns pt ≠ pt := by
    rcases w.hd with e | e
    · have := w.pt0 e
      rw [this]
      exact w.st.2.1
    · intro z
      cases hl : cyc.getLast? with
      | none => rw [List.getLast?_eq_none_iff.mp hl] at e; cases e
      | some x =>
        have e1 := w.pt1 x hl
        have hx := List.mem_of_getLast? hl
        have hxm := (w.mv x (List.mem_append_right _ hx)).1
        have : x = pt := m.inj hxm w.ptr (by rw [z]; exact e1.symm)
        exact h (this ▸ List.mem_append_right _ hx)
  refine ⟨?_, ?_, w.cl, w.cb, w.st, ?_, ?_, fun e => by simp at e, fun x hx => ?_, hpt.2⟩
  · rw [← List.append_assoc, List.nodup_append]
    exact ⟨w.nd, by simp, fun y hy z hz => by rw [List.mem_singleton.mp hz]; intro e; exact h (e ▸ hy)⟩
  · intro p hp
    rw [← List.append_assoc] at hp
    rcases List.mem_append.mp hp with q | q
    · exact w.mv p q
    · rw [List.mem_singleton.mp q]
      exact ⟨w.ptr, hmv⟩
  · right
    rcases w.hd with e | e
    · rw [e]
      simp [w.pt0 e]
    · rw [List.head?_append, e]
      rfl
  · intro k x y h1 h2
    by_cases hk : k + 1 < cyc.length
    · rw [List.getElem?_append_left hk] at h2
      rw [List.getElem?_append_left (by omega)] at h1
      exact w.lk k x y h1 h2
    · have hk1 : k + 1 = cyc.length := by
        have := (List.getElem?_eq_some_iff.mp h2).1
        rw [List.length_append] at this
        simp at this
        omega
      rw [List.getElem?_append_right (by omega)] at h2
      have : k + 1 - cyc.length = 0 := by omega
      rw [this] at h2
      have ey : pt = y := by simpa using h2
      rw [List.getElem?_append_left (by omega)] at h1
      have hl : cyc.getLast? = some x := by rw [List.getLast?_eq_getElem?]; rw [← h1]; congr 1; omega
      rw [← ey]
      exact (w.pt1 x hl).symm
  · rw [List.getLast?_append] at hx
    have : x = pt := by simpa using hx.symm
    rw [this]
/-- the walk is over: the round closes -/
theorem Walk.over {ns fl cyc : List Int} {s pt : Int} (m : Mv ns) (w : Walk ns fl cyc s pt) (h : pt ∈ fl ++ cyc) : cyc.head? = some s ∧ pt = s ∧ 2 ≤ cyc.length := by
  have hne : cyc ≠ [] := fun e => by
    have := w.pt0 e
    rw [e, List.append_nil, this] at h
    exact w.st.2.2 h
  have hh : cyc.head? = some s := w.hd.resolve_left hne
  obtain ⟨x, hl⟩ : ∃ x, cyc.getLast? = some x := ⟨_, List.getLast?_eq_some_getLast hne⟩
  have ex := w.pt1 x hl
  have hx := List.mem_of_getLast? hl
  have hxm := (w.mv x (List.mem_append_right _ hx)).1
  have ndc := (List.nodup_append.mp w.nd).2.1
  have dis := (List.nodup_append.mp w.nd).2.2
  have hpc : pt ∈ cyc := by
    rcases List.mem_append.mp h with q | q
    · exact absurd rfl (dis x (w.cb x hxm.1 hxm.2 (ex ▸ q)) x hx)
    · exact q
  have hlast : cyc[cyc.length - 1]? = some x := by rw [← hl, List.getLast?_eq_getElem?]
  have hlen : 0 < cyc.length := List.length_pos_iff.mpr hne
  obtain ⟨j, hj⟩ := List.mem_iff_getElem?.mp hpc
  have hjl := (List.getElem?_eq_some_iff.mp hj).1
  have hj0 : j = 0 := by
    rcases Nat.eq_zero_or_pos j with z | z
    · exact z
    · have hy : cyc[j - 1]? = some cyc[j - 1] := List.getElem?_eq_getElem (by omega)
      have e1 := w.lk (j - 1) _ pt hy (by rw [show j - 1 + 1 = j by omega]; exact hj)
      have hym := (w.mv _ (List.mem_append_right _ (List.mem_of_getElem? hy))).1
      have e2 : cyc[j - 1] = x := m.inj hym hxm (e1.trans ex)
      have := (List.getElem?_inj (by omega) ndc).mp ((hy.trans (congrArg some e2)).trans hlast.symm)
      omega
  subst hj0
  have es : pt = s := by
    rw [List.head?_eq_getElem?] at hh
    rw [hj] at hh
    exact Option.some.inj hh
  refine ⟨hh, es, ?_⟩
  rcases Nat.lt_or_ge cyc.length 2 with z | z
  · have h1 : cyc.length - 1 = 0 := by omega
    rw [h1, hj] at hlast
    have := Option.some.inj hlast
    rw [← this] at ex
    exact absurd ex.symm (w.mv pt (List.mem_append_right _ hpc)).2
  · exact z
/-- in a closed round each one's image is the next, the last one's the first -/
theorem Walk.ring {ns fl cyc : List Int} {s pt : Int} (m : Mv ns) (w : Walk ns fl cyc s pt) (h : pt ∈ fl ++ cyc) : ∀ k x, cyc[k]? = some x → cyc[(k + 1) % cyc.length]? = some (im ns x) := by
  obtain ⟨hh, es, h2⟩ := w.over m h
  intro k x hx
  have hk := (List.getElem?_eq_some_iff.mp hx).1
  by_cases hl : k + 1 < cyc.length
  · rw [Nat.mod_eq_of_lt hl]
    have hy : cyc[k + 1]? = some cyc[k + 1] := List.getElem?_eq_getElem hl
    rw [hy, w.lk k x _ hx hy]
  · have e : k + 1 = cyc.length := by omega
    rw [e, Nat.mod_self, ← List.head?_eq_getElem?, hh]
    have hlast : cyc.getLast? = some x := by rw [List.getLast?_eq_getElem?, ← hx]; congr 1; omega
    rw [← w.pt1 x hlast, es]
theorem Walk.closed {ns fl cyc : List Int} {s pt : Int} (m : Mv ns) (w : Walk ns fl cyc s pt) (h : pt ∈ fl ++ cyc) :
    (∀ p ∈ fl ++ cyc, im ns p ∈ fl ++ cyc) ∧ ∀ p : Int, 0 ≤ p → p < ns.length → im ns p ∈ fl ++ cyc → p ∈ fl ++ cyc := by
  obtain ⟨hh, es, h2⟩ := w.over m h
  have rg := w.ring m h
  refine ⟨fun p hp => ?_, fun p h0 h1 hp => ?_⟩
  · rcases List.mem_append.mp hp with q | q
    · exact List.mem_append_left _ (w.cl p q)
    · obtain ⟨k, hk⟩ := List.mem_iff_getElem?.mp q
      exact List.mem_append_right _ (List.mem_of_getElem? (rg k p hk))
  · rcases List.mem_append.mp hp with q | q
    · exact List.mem_append_left _ (w.cb p h0 h1 q)
    · obtain ⟨k, hk⟩ := List.mem_iff_getElem?.mp q
      have hkl := (List.getElem?_eq_some_iff.mp hk).1
      -- the one before k
      have hb : ∃ j x, cyc[j]? = some x ∧ (j + 1) % cyc.length = k := by
        rcases Nat.eq_zero_or_pos k with z | z
        · exact ⟨cyc.length - 1, _, List.getElem?_eq_getElem (by omega), by rw [show cyc.length - 1 + 1 = cyc.length by omega, Nat.mod_self, z]⟩
        · exact ⟨k - 1, _, List.getElem?_eq_getElem (by omega), by rw [show k - 1 + 1 = k by omega, Nat.mod_eq_of_lt hkl]⟩
      obtain ⟨j, x, hx, hjk⟩ := hb
      have e := rg j x hx
      rw [hjk, hk] at e
      have hxm := (w.mv x (List.mem_append_right _ (List.mem_of_getElem? hx))).1
      have : p = x := m.inj ⟨h0, h1⟩ hxm (Option.some.inj e)
      rw [this]
      exact List.mem_append_right _ (List.mem_of_getElem? hx)
/-- a whole round, its least point first -/
structure Ring (ns : List Int) (c : List Int) : Prop where
  two : 2 ≤ c.length
  least : ∀ y ∈ c, c.headD 0 ≤ y
  ring : ∀ k x, c[k]? = some x → c[(k + 1) % c.length]? = some (im ns x)
/-- the rounds found ahead of the start i -/
structure Outer (ns : List Int) (cs : List (List Int)) (i : Int) : Prop where
  nd : cs.flatten.Nodup
  mv : ∀ p ∈ cs.flatten, (0 ≤ p ∧ p < ns.length) ∧ im ns p ≠ p
  cl : ∀ p ∈ cs.flatten, im ns p ∈ cs.flatten
  cb : ∀ p : Int, 0 ≤ p → p < ns.length → im ns p ∈ cs.flatten → p ∈ cs.flatten
  below : ∀ p : Int, 0 ≤ p → p < i → p < ns.length → im ns p ≠ p → p ∈ cs.flatten
  rows : ∀ c ∈ cs, Ring ns c
  asc : (cs.map fun c => c.headD 0).Pairwise (· < ·)
  low : ∀ c ∈ cs, c.headD 0 < i
theorem Outer.start {ns : List Int} : Outer ns [] 0 := ⟨by simp, by simp, by simp, by simp, fun p h0 h1 => by omega, by simp, by simp, by simp⟩
theorem Outer.skip {ns : List Int} {cs : List (List Int)} {i : Int} (o : Outer ns cs i) (h : i ∈ cs.flatten ∨ im ns i = i) : Outer ns cs (i + 1) :=
  ⟨o.nd, o.mv, o.cl, o.cb, fun p h0 h1 h2 h3 => by
    by_cases e : p = i
    · subst e
      exact h.resolve_right h3
    · exact o.below p h0 (by omega) h2 h3, o.rows, o.asc, fun c hc => by have := o.low c hc; omega⟩
theorem Outer.add {ns : List Int} {cs : List (List Int)} {i pt : Int} {cyc : List Int} (m : Mv ns) (o : Outer ns cs i) (w : Walk ns cs.flatten cyc i pt) (h : pt ∈ cs.flatten ++ cyc) : Outer ns (cs ++ [cyc]) (i + 1) := by
  obtain ⟨hh, es, h2⟩ := w.over m h
  obtain ⟨c1, c2⟩ := w.closed m h
  have ef : (cs ++ [cyc]).flatten = cs.flatten ++ cyc := by simp
  have hhd : cyc.headD 0 = i := by rw [List.headD_eq_head?_getD, hh]; rfl
  have hi : i ∈ cyc := List.mem_of_mem_head? (by rw [hh]; rfl)
  have dis := (List.nodup_append.mp w.nd).2.2
  refine ⟨by rw [ef]; exact w.nd, by rw [ef]; exact w.mv, by rw [ef]; exact c1, by rw [ef]; exact c2, fun p h0 h1 h2 h3 => ?_, fun c hc => ?_, ?_, fun c hc => ?_⟩
  · rw [ef]
    by_cases e : p = i
    · subst e
      exact List.mem_append_right _ hi
    · exact List.mem_append_left _ (o.below p h0 (by omega) h2 h3)
  · rcases List.mem_append.mp hc with q | q
    · exact o.rows c q
    · rw [List.mem_singleton.mp q]
      refine ⟨h2, fun y hy => ?_, w.ring m h⟩
      rw [hhd]
      have hym := w.mv y (List.mem_append_right _ hy)
      rcases Int.lt_or_le y i with z | z
      · exact absurd rfl (dis y (o.below y hym.1.1 z hym.1.2 hym.2) y hy)
      · exact z
  · rw [List.map_append, List.pairwise_append]
    refine ⟨o.asc, by simp, fun x hx y hy => ?_⟩
    obtain ⟨c, hc, rfl⟩ := List.mem_map.mp hx
    have ey : y = i := (List.mem_singleton.mp hy).trans hhd
    rw [ey]
    exact o.low c hc
  · rcases List.mem_append.mp hc with q | q
    · have := o.low c q
      omega
    · rw [List.mem_singleton.mp q, hhd]
      omega

/-! ## HoMl -/
theorem leT_eq : leT = fun a b => decide (a ≤ b) := by
  funext p q
  show (!PySem.W.dataLt (.tuple (q.map .int)) (.tuple (p.map .int))) = _
  rw [PySem.W.dataLt_tuple]
  show (!PySem.W.rowLt (q.map .int) (p.map .int)) = _
  rw [PySem.W.dataLt_ints]
  by_cases h : q < p
  · have h' : ¬ p ≤ q := fun r => List.not_lt.mpr r h
    simp [h, h']
  · have h' : p ≤ q := List.not_lt.mp h
    simp [h, h']
theorem srt_eq (L : List (List Int)) : srt L = L.mergeSort (fun a b => decide (a ≤ b)) := by unfold srt; rw [leT_eq]
theorem srt_asc (L : List (List Int)) : (srt L).Pairwise (· ≤ ·) := by
  rw [srt_eq]
  have := List.pairwise_mergeSort (le := fun a b : List Int => decide (a ≤ b)) (fun a b c h1 h2 => by
    simp only [decide_eq_true_eq] at *
    exact List.le_trans h1 h2) (fun a b => by
    simp only [Bool.or_eq_true, decide_eq_true_eq]
    exact List.le_total a b) L
  exact this.imp fun h => of_decide_eq_true h
theorem asc_uniq {A B : List (List Int)} (p : A.Perm B) (a : A.Pairwise (· ≤ ·)) (b : B.Pairwise (· ≤ ·)) : A = B :=
  p.eq_of_pairwise (fun x y _ _ h1 h2 => List.le_antisymm h1 h2) a b
theorem srt_congr {A B : List (List Int)} (p : A.Perm B) : srt A = srt B := asc_uniq ((srt_perm A).trans (p.trans (srt_perm B).symm)) (srt_asc A) (srt_asc B)
theorem srt_same {A B : List (List Int)} (a : A.Nodup) (b : B.Nodup) (h : ∀ x, x ∈ A ↔ x ∈ B) : srt A = srt B := srt_congr ((List.perm_ext_iff_of_nodup a b).mpr h)
/-- first, then second -/
def jn (a b : List Int) : List Int := a.map (im b)
theorem jn_len (a b : List Int) : (jn a b).length = a.length := by simp [jn]
theorem mvP {n : Nat} {a : List Int} (h : a.Perm (rng n)) : Mv a := ⟨by have e := h.length_eq; rw [rng_len] at e; rw [e]; exact h⟩
theorem lenP {n : Nat} {a : List Int} (h : a.Perm (rng n)) : a.length = n := by rw [h.length_eq, rng_len]
theorem inP {n : Nat} {a : List Int} (h : a.Perm (rng n)) {x : Int} (hx : x ∈ a) : 0 ≤ x ∧ x < n := mem_rng.mp (h.mem_iff.mp hx)
theorem map_im {n : Nat} {b : List Int} (h : b.length = n) : (rng n).map (im b) = b := by
  apply List.ext_getElem?
  intro i
  by_cases hi : i < n
  · rw [List.getElem?_map, rng_get hi]
    show some (im b (i : Int)) = _
    unfold im
    rw [Int.toNat_natCast, List.getElem?_eq_getElem (by omega)]
    rfl
  · rw [List.getElem?_eq_none (by simp [rng_len]; omega), List.getElem?_eq_none (by omega)]
theorem jn_perm {n : Nat} {a b : List Int} (ha : a.Perm (rng n)) (hb : b.Perm (rng n)) : (jn a b).Perm (rng n) := by
  have := ha.map (im b)
  rw [map_im (lenP hb)] at this
  exact this.trans hb
theorem im_jn {n : Nat} {a b : List Int} (ha : a.Perm (rng n)) {x : Int} (hx : 0 ≤ x ∧ x < n) : im (jn a b) x = im b (im a x) := by
  have h := (mvP ha).at (p := x) (by rw [lenP ha]; exact hx)
  unfold jn
  show ((a.map (im b))[x.toNat]?).getD 0 = _
  rw [List.getElem?_map, h.1]
  rfl
theorem jn_assoc {n : Nat} {a b c : List Int} (ha : a.Perm (rng n)) (hb : b.Perm (rng n)) : jn (jn a b) c = jn a (jn b c) := by
  show (a.map (im b)).map (im c) = a.map (im (jn b c))
  rw [List.map_map]
  exact List.map_congr_left fun x hx => (im_jn hb (inP ha hx)).symm
theorem jn_still {n : Nat} {a : List Int} (ha : a.Perm (rng n)) : jn a (rng n) = a := by
  unfold jn
  have : a.map (im (rng n)) = a.map id := List.map_congr_left fun x hx => by
    have h := inP ha hx
    unfold im
    rw [rng_get (show x.toNat < n by omega)]
    show ((x.toNat : Nat) : Int) = x
    omega
  rw [this, List.map_id]
theorem still_jn {n : Nat} {b : List Int} (hb : b.length = n) : jn (rng n) b = b := map_im hb
/-- what the told moves T make -/
inductive Gen (n : Nat) (T : List (List Int)) : List Int → Prop
  | still : Gen n T (rng n)
  | step {x m : List Int} : Gen n T x → m ∈ T → Gen n T (jn x m)
def OnN (n : Nat) (T : List (List Int)) : Prop := ∀ m ∈ T, m.Perm (rng n)
theorem Gen.perm {n : Nat} {T : List (List Int)} (o : OnN n T) {x : List Int} (h : Gen n T x) : x.Perm (rng n) := by
  induction h with
  | still => exact .refl _
  | step _ hm ih => exact jn_perm ih (o _ hm)
theorem Gen.told {n : Nat} {T : List (List Int)} (o : OnN n T) {m : List Int} (h : m ∈ T) : Gen n T m := by
  have := Gen.step (n := n) (T := T) .still h
  rwa [still_jn (lenP (o m h))] at this
theorem Gen.mul {n : Nat} {T : List (List Int)} (o : OnN n T) {x y : List Int} (hx : Gen n T x) (hy : Gen n T y) : Gen n T (jn x y) := by
  induction hy with
  | still => rw [jn_still (hx.perm o)]; exact hx
  | step hy hm ih =>
    rw [← jn_assoc (hx.perm o) (hy.perm o)]
    exact .step ih hm
theorem Gen.sub {n : Nat} {T T' : List (List Int)} (o : OnN n T') (h : ∀ m ∈ T, Gen n T' m) {x : List Int} (hx : Gen n T x) : Gen n T' x := by
  induction hx with
  | still => exact .still
  | step _ hm ih => exact ih.mul o (h _ hm)
theorem Gen.mono {n : Nat} {T T' : List (List Int)} (h : ∀ m ∈ T, m ∈ T') {x : List Int} (hx : Gen n T x) : Gen n T' x := by
  induction hx with
  | still => exact .still
  | step _ hm ih => exact .step ih (h _ hm)
/-- told moves more that are made already -/
theorem Gen.more {n : Nat} {T T' : List (List Int)} (o : OnN n T) (h : ∀ m ∈ T, m ∈ T') (h' : ∀ m ∈ T', Gen n T m) {x : List Int} : Gen n T' x ↔ Gen n T x :=
  ⟨fun hx => hx.sub o h', fun hx => hx.mono h⟩
/-- M is the list of all that T makes, ascending -/
structure Made (n : Nat) (T M : List (List Int)) : Prop where
  asc : M.Pairwise (· ≤ ·)
  nd : M.Nodup
  mem : ∀ x, x ∈ M ↔ Gen n T x
theorem Made.uniq {n : Nat} {T M M' : List (List Int)} (a : Made n T M) (b : Made n T M') : M = M' :=
  asc_uniq ((List.perm_ext_iff_of_nodup a.nd b.nd).mpr fun x => (a.mem x).trans (b.mem x).symm) a.asc b.asc
theorem Made.more {n : Nat} {T T' M : List (List Int)} (a : Made n T M) (o : OnN n T) (h : ∀ m ∈ T, m ∈ T') (h' : ∀ m ∈ T', m ∈ M) : Made n T' M :=
  ⟨a.asc, a.nd, fun x => (a.mem x).trans (Gen.more o h fun m hm => (a.mem m).mp (h' m hm)).symm⟩
theorem Made.srt {n : Nat} {T Q : List (List Int)} (nd : Q.Nodup) (h : ∀ x, x ∈ Q ↔ Gen n T x) : Made n T (srt Q) :=
  ⟨srt_asc Q, (srt_perm Q).nodup_iff.mpr nd, fun x => mem_srt.trans (h x)⟩
theorem Made.none {n : Nat} : Made n [] [rng n] := ⟨List.pairwise_singleton _ _, by simp, fun x => by
  rw [List.mem_singleton]
  constructor
  · rintro rfl; exact .still
  · intro h
    cases h with
    | still => rfl
    | step _ hm => cases hm⟩
/-- the queue of those met so far: those ahead of `at` are done, of the one at `at` the first j -/
structure Bfs (n : Nat) (T Q : List (List Int)) (a j : Nat) : Prop where
  nd : Q.Nodup
  st : rng n ∈ Q
  gen : ∀ x ∈ Q, Gen n T x
  done : ∀ i x m, i < a → Q[i]? = some x → m ∈ T → jn x m ∈ Q
  part : ∀ x m, Q[a]? = some x → m ∈ T.take j → jn x m ∈ Q
theorem Bfs.start {n : Nat} {T : List (List Int)} : Bfs n T [rng n] 0 0 :=
  ⟨by simp, by simp, fun x hx => by rw [List.mem_singleton.mp hx]; exact .still, fun _ _ _ h => by omega, fun _ _ _ h => by simp at h⟩
theorem Bfs.next {n : Nat} {T Q : List (List Int)} {a : Nat} (b : Bfs n T Q a T.length) : Bfs n T Q (a + 1) 0 :=
  ⟨b.nd, b.st, b.gen, fun i x m hi hx hm => by
    rcases Nat.lt_or_ge i a with h | h
    · exact b.done i x m h hx hm
    · obtain rfl : i = a := by omega
      exact b.part x m hx (by rw [List.take_length]; exact hm), fun _ _ _ h => by simp at h⟩
theorem Bfs.seen {n : Nat} {T Q : List (List Int)} {a j : Nat} {x m : List Int} (b : Bfs n T Q a j) (hx : Q[a]? = some x) (hm : T[j]? = some m) (h : jn x m ∈ Q) : Bfs n T Q a (j + 1) :=
  ⟨b.nd, b.st, b.gen, b.done, fun y z hy hz => by
    rw [List.take_add_one, hm] at hz
    rcases List.mem_append.mp hz with hz | hz
    · exact b.part y z hy hz
    · rw [hx] at hy
      cases hy
      rw [List.mem_singleton.mp hz]
      exact h⟩
theorem Bfs.add {n : Nat} {T Q : List (List Int)} {a j : Nat} {x m : List Int} (b : Bfs n T Q a j) (hx : Q[a]? = some x) (hm : T[j]? = some m) (h : jn x m ∉ Q) : Bfs n T (Q ++ [jn x m]) a (j + 1) := by
  have ha : a < Q.length := (List.getElem?_eq_some_iff.mp hx).1
  refine ⟨?_, List.mem_append_left _ b.st, fun y hy => ?_, fun i y z hi hy hz => ?_, fun y z hy hz => ?_⟩
  · rw [List.nodup_append]
    exact ⟨b.nd, by simp, fun y hy z hz e => h (by rw [List.mem_singleton.mp hz] at e; rw [← e]; exact hy)⟩
  · rcases List.mem_append.mp hy with hy | hy
    · exact b.gen y hy
    · rw [List.mem_singleton.mp hy]
      exact .step (b.gen x (List.mem_of_getElem? hx)) (List.mem_of_getElem? hm)
  · rw [List.getElem?_append_left (by omega)] at hy
    exact List.mem_append_left _ (b.done i y z hi hy hz)
  · rw [List.getElem?_append_left ha] at hy
    rw [List.take_add_one, hm] at hz
    rcases List.mem_append.mp hz with hz | hz
    · exact List.mem_append_left _ (b.part y z hy hz)
    · rw [hx] at hy
      cases hy
      rw [List.mem_singleton.mp hz]
      exact List.mem_append_right _ (by simp)
theorem Bfs.fin {n : Nat} {T Q : List (List Int)} {a : Nat} (b : Bfs n T Q a 0) (h : Q.length ≤ a) (x : List Int) : x ∈ Q ↔ Gen n T x := by
  constructor
  · exact b.gen x
  · intro hx
    induction hx with
    | still => exact b.st
    | step hx hm ih =>
      obtain ⟨i, hi⟩ := List.getElem?_of_mem ih
      exact b.done i _ _ (by have := (List.getElem?_eq_some_iff.mp hi).1; omega) hi hm
theorem Bfs.made {n : Nat} {T Q : List (List Int)} {a : Nat} (b : Bfs n T Q a 0) (h : Q.length ≤ a) : Made n T (srt Q) := .srt b.nd (b.fin h)
/-- T makes more than k moves -/
def Over (n : Nat) (T : List (List Int)) (k : Nat) : Prop := ∃ Q : List (List Int), Q.Nodup ∧ (∀ x ∈ Q, Gen n T x) ∧ k < Q.length
theorem Bfs.over {n : Nat} {T Q : List (List Int)} {a j k : Nat} {x m : List Int} (b : Bfs n T Q a j) (hx : Q[a]? = some x) (hm : T[j]? = some m) (h : jn x m ∉ Q) (hk : k ≤ Q.length) : Over n T k := by
  have b' := b.add hx hm h
  exact ⟨_, b'.nd, b'.gen, by simp; omega⟩
theorem sub_len {α : Type} [DecidableEq α] : ∀ {A B : List α}, A.Nodup → (∀ x ∈ A, x ∈ B) → A.length ≤ B.length
  | [], _, _, _ => Nat.zero_le _
  | a :: A, B, nd, h => by
    have nd' := List.nodup_cons.mp nd
    have e := List.perm_cons_erase (h a List.mem_cons_self)
    have := sub_len (A := A) (B := B.erase a) nd'.2 fun x hx => (List.mem_erase_of_ne (fun z => nd'.1 (by rw [← z]; exact hx))).mpr (h x (List.mem_cons_of_mem _ hx))
    have hl := e.length_eq
    simp only [List.length_cons] at *
    omega
theorem Over.not {n : Nat} {T M : List (List Int)} {k : Nat} (o : Over n T k) (m : Made n T M) (h : M.length ≤ k) : False := by
  obtain ⟨Q, nd, hg, hl⟩ := o
  have := sub_len nd fun x hx => (m.mem x).mpr (hg x hx)
  omega
/-! lists of tuples in the heap -/
abbrev TLs (H : Hp) : List Addr → List (List Int) → Prop := Paired fun (a : Addr) (ns : List Int) => H a = some (.tup (ns.map V.int))
theorem TLs.kp {H H' : Hp} {ws : List Addr} {L : List (List Int)} (h : TLs H ws L) (k : ∀ (a : Addr) (ns : List Int), H a = some (.tup (ns.map V.int)) → H' a = some (.tup (ns.map V.int))) : TLs H' ws L := Paired.mapP h k
theorem TLs.same {H H' : Hp} {ws : List Addr} {L : List (List Int)} (h : TLs H ws L) (s : Same H H') : TLs H' ws L := h.kp fun _ _ e => s _ _ e
theorem TLs.ge {s l : Addr} {H H' : Hp} {ws : List Addr} {L : List (List Int)} (h : TLs H ws L) (st : Sto s l H) (g : Ge s l H H') : TLs H' ws L := h.kp fun _ _ e => g.k (st.ne' e (by intros; simp)) e
theorem TLs.put {H H' : Hp} {p : Addr} {o : HO} {ys : List V} {ws : List Addr} {L : List (List Int)} (h : TLs H ws L) (pt : Put H p o H') (hp : H p = some (.lst ys)) : TLs H' ws L := h.kp fun a _ e => pt.k (fun z => by rw [z, hp] at e; cases e) e
theorem TLs.len {H : Hp} {ws : List Addr} {L : List (List Int)} (h : TLs H ws L) : ws.length = L.length := Paired.length h
theorem TLs.snoc {H : Hp} {ws : List Addr} {L : List (List Int)} {a : Addr} {ns : List Int} (h : TLs H ws L) (e : H a = some (.tup (ns.map V.int))) : TLs H (ws ++ [a]) (L ++ [ns]) := Paired.snoc h e
theorem TLs.get {H : Hp} {i : Nat} {v : V} : ∀ {ws : List Addr} {L : List (List Int)}, TLs H ws L → (ws.map V.ref)[i]? = some v → ∃ (a : Addr) (ns : List Int), v = .ref a ∧ ws[i]? = some a ∧ L[i]? = some ns ∧ H a = some (.tup (ns.map V.int)) := by
  intro ws L h
  induction h generalizing i with
  | nil => intro e; simp at e
  | @cons a ns ws L h t ih =>
    intro e
    cases i with
    | zero =>
      simp only [List.map_cons, List.getElem?_cons_zero, Option.some.injEq] at e
      exact ⟨a, ns, e.symm, rfl, rfl, h⟩
    | succ i =>
      simp only [List.map_cons, List.getElem?_cons_succ] at e
      obtain ⟨b, ms, h1, h2, h3, h4⟩ := ih e
      exact ⟨b, ms, h1, by simpa using h2, by simpa using h3, h4⟩
theorem TLs.at {H : Hp} {i : Nat} {ns : List Int} {ws : List Addr} {L : List (List Int)} (h : TLs H ws L) (e : L[i]? = some ns) : ∃ a, (ws.map V.ref)[i]? = some (.ref a) ∧ H a = some (.tup (ns.map V.int)) := by
  have hi : i < (ws.map V.ref).length := by rw [List.length_map, h.len]; exact (List.getElem?_eq_some_iff.mp e).1
  obtain ⟨a, ms, h1, h2, h3, h4⟩ := h.get (List.getElem?_eq_getElem hi)
  rw [e] at h3
  cases h3
  exact ⟨a, by rw [List.getElem?_map, h2]; rfl, h4⟩
theorem TLs.mem {H : Hp} {v : V} {ws : List Addr} {L : List (List Int)} (h : TLs H ws L) (e : v ∈ ws.map V.ref) : ∃ (a : Addr) (ns : List Int), v = .ref a ∧ ns ∈ L ∧ H a = some (.tup (ns.map V.int)) := by
  obtain ⟨i, hi⟩ := List.getElem?_of_mem e
  obtain ⟨a, ns, h1, _, h3, h4⟩ := h.get hi
  exact ⟨a, ns, h1, List.mem_of_getElem? h3, h4⟩
/-- any list of values that are such tuples -/
theorem TLs.of {H : Hp} {P : List Int → Prop} : ∀ {vs : List V}, (∀ v ∈ vs, ∃ (a : Addr) (ns : List Int), v = .ref a ∧ P ns ∧ H a = some (.tup (ns.map V.int))) → ∃ ws L, vs = ws.map V.ref ∧ TLs H ws L ∧ ∀ ns ∈ L, P ns
  | [], _ => ⟨[], [], rfl, .nil, by simp⟩
  | v :: vs, h => by
    obtain ⟨a, ns, rfl, hp, e⟩ := h v List.mem_cons_self
    obtain ⟨ws, L, rfl, h1, h2⟩ := TLs.of fun u hu => h u (List.mem_cons_of_mem _ hu)
    exact ⟨a :: ws, ns :: L, rfl, .cons e h1, fun m hm => by
      rcases List.mem_cons.mp hm with rfl | hm
      · exact hp
      · exact h2 m hm⟩
theorem TLs.app {H : Hp} {ws us : List Addr} {L M : List (List Int)} (a : TLs H ws L) (b : TLs H us M) : TLs H (ws ++ us) (L ++ M) := by
  induction a with
  | nil => exact b
  | cons h _ ih => exact .cons h ih
theorem TLs.pairs {H : Hp} {ws : List Addr} {L : List (List Int)} (h : TLs H ws L) : ∃ bs : List (Addr × List Int), bs.map (·.1) = ws ∧ bs.map (·.2) = L ∧ ∀ b ∈ bs, H b.1 = some (.tup (b.2.map V.int)) := by
  induction h with
  | nil => exact ⟨[], rfl, rfl, by simp⟩
  | @cons a ns ws L h t ih =>
    obtain ⟨bs, e1, e2, e3⟩ := ih
    exact ⟨(a, ns) :: bs, by simp [e1], by simp [e2], fun b hb => by
      rcases List.mem_cons.mp hb with rfl | hb
      · exact h
      · exact e3 b hb⟩
theorem TLs.ofPairs {H : Hp} : ∀ {bs : List (Addr × List Int)}, (∀ b ∈ bs, H b.1 = some (.tup (b.2.map V.int))) → TLs H (bs.map (·.1)) (bs.map (·.2))
  | [], _ => .nil
  | b :: bs, h => .cons (h b List.mem_cons_self) (TLs.ofPairs fun c hc => h c (List.mem_cons_of_mem _ hc))
/-- a dict of tuples seen -/
def keyI (ns : List Int) : List Key := ns.map Sum.inl
theorem keyI_kV (ns : List Int) : (keyI ns).map kV = ns.map V.int := by unfold keyI; rw [List.map_map]; rfl
theorem keyI_inj {a b : List Int} (h : keyI a = keyI b) : a = b := by
  have e : (keyI a).map kV = (keyI b).map kV := by rw [h]
  rw [keyI_kV, keyI_kV] at e
  exact List.map_inj_right (fun x y h => by cases h; rfl) |>.mp e
def tabT (Q : List (List Int)) : List (List Key × V) := Q.map fun x => (keyI x, V.bl true)
theorem tabT_val (Q : List (List Int)) (x : List Int) : (valV (tabT Q) (keyI x)).isSome = decide (x ∈ Q) := by
  rw [← valV_any]
  unfold tabT
  rw [List.any_map]
  rw [Bool.eq_iff_iff, List.any_eq_true, decide_eq_true_eq]
  constructor
  · rintro ⟨y, hy, h⟩
    rw [← keyI_inj (of_decide_eq_true h)]
    exact hy
  · exact fun h => ⟨x, h, by simp⟩
theorem tabT_put {Q : List (List Int)} {x : List Int} (h : x ∉ Q) : putK (tabT Q) (keyI x) (V.bl true) = tabT (Q ++ [x]) := by
  rw [putK_new]
  · simp [tabT]
  · have := tabT_val Q x
    rw [decide_eq_false h] at this
    cases e : valV (tabT Q) (keyI x) with
    | none => rfl
    | some v => rw [e] at this; cases this

/-! ## HoAd -/
theorem hu2 {A : Around} {k : Nat} (hr : Room k A) : A.units + 2 < cLine := by have := hr.units; omega
section
variable {σ : L2.St} {H : Hp} {Q : VK}
theorem a_dnotin {ty td : TE} : tDNotIn ty td σ H Q = ty σ H fun y H1 => td σ H1 fun x H2 => ∃ a o, x = .ref a ∧ DGet H2 a y o ∧ Q (.bl (!o.isSome)) H2 := rfl
theorem a_din {ty td : TE} : tDIn ty td σ H Q = ty σ H fun y H1 => td σ H1 fun x H2 => ∃ a o, x = .ref a ∧ DGet H2 a y o ∧ Q (.bl o.isSome) H2 := rfl
theorem b_setD {o i v : V} {Q : Hp → Prop} : rSetD o i v H Q = ∃ a H', o = .ref a ∧ DPut H a i v H' ∧ Q H' := rfl
theorem a_disp1 {tk tv : TE} : tDisp1 tk tv σ H Q = ∀ p H0, New H p (.dT []) H0 → tk σ H0 fun x H1 => tv σ H1 fun y H2 => ∃ (b : Addr) (ks : List Key), x = .ref b ∧ H2 p = some (.dT []) ∧ H2 b = some (.tup (ks.map kV)) ∧ ∀ H3, Put H2 p (.dT [(ks, y)]) H3 → Q (.ref p) H3 := rfl
theorem b_sortedM {K : PySem.W.Frag} {a : Addr} : rSortedM K [.ref a] H Q = ∃ bs : List (Addr × List Int), SqL K H a (bs.map fun b => V.ref b.1) ∧ (∀ b ∈ bs, H b.1 = some (.tup (b.2.map V.int))) ∧ ((∀ b ∈ bs, b.2 ≠ []) ∨ bs.length ≤ 1) ∧
  ∀ (bs' : List (Addr × List Int)) (p : Addr) (H' : Hp), bs'.Perm bs → bs'.map (·.2) = srt (bs.map (·.2)) → New H p (.lst (bs'.map fun b => V.ref b.1)) H' → Q (.ref p) H' := by
  unfold rSortedM; apply propext; constructor
  · rintro ⟨_, bs, h1, h⟩; cases h1; exact ⟨bs, h⟩
  · rintro ⟨bs, h⟩; exact ⟨a, bs, rfl, h⟩
end
theorem keep_old {H H5 H' : Hp} {a : Addr} {xs : List V} (h : sq H a = some xs) (s5 : Same H H5) (s : Same H H') (o : HO) (ho : H5 a = some o) : H' a = some o := by
  rcases sq_or h with e | e
  · rw [s5 _ _ e] at ho; rw [← ho]; exact s _ _ e
  · rw [s5 _ _ e] at ho; rw [← ho]; exact s _ _ e
theorem Sto.neR {s l t : Addr} {H : Hp} {ws : List Addr} (st : Sto s l H) (h : H t = some (.lst (ws.map V.ref))) : t ≠ s := st.ne' h (by
  intro m i1 i2 i3 i4 i5 i6 e
  have e2 := HO.lst.inj e
  match ws, e2 with
  | [], e => cases e
  | [_], e => cases e
  | _ :: _ :: _, e => simp at e)
theorem Sto.ex {s l : Addr} {H : Hp} (st : Sto s l H) : H s ≠ none := by
  obtain ⟨ns, i1, i2, i3, i4, i5, i6, hs, _⟩ := st
  rw [hs]
  exact fun e => by cases e
theorem Sto.neI {s l t : Addr} {H : Hp} {zs : List Int} (st : Sto s l H) (h : H t = some (.lst (zs.map V.int))) : t ≠ s := st.ne' h (by
  intro m i1 i2 i3 i4 i5 i6 e
  have e2 := HO.lst.inj e
  match zs, e2 with
  | [], e => cases e
  | _ :: _, e => simp at e)
/-- a sorted list of tuples -/
theorem sortM_ok {K : PySem.W.Frag} {H : Hp} {Q : VK} {q : Addr} {ws : List Addr} {L : List (List Int)} (hq : H q = some (.lst (ws.map V.ref))) (h : TLs H ws L) (hn : (∀ x ∈ L, x ≠ []) ∨ L.length ≤ 1)
    (k : ∀ us p H', New H p (.lst (us.map V.ref)) H' → TLs H' us (srt L) → Q (.ref p) H') : rSortedM K [.ref q] H Q := by
  obtain ⟨bs, e1, e2, e3⟩ := h.pairs
  have em : ∀ cs : List (Addr × List Int), (cs.map fun b => V.ref b.1) = (cs.map (·.1)).map V.ref := fun cs => by rw [List.map_map]; rfl
  rw [b_sortedM]
  refine ⟨bs, .of (by rw [em, e1]; exact hq), e3, ?_, fun bs' p H' hp he n => ?_⟩
  · rcases hn with hn | hn
    · exact .inl fun b hb => hn b.2 (by rw [← e2]; exact List.mem_map.mpr ⟨b, hb, rfl⟩)
    · exact .inr (by rw [← e2, List.length_map] at hn; exact hn)
  · refine k (bs'.map (·.1)) p H' (by rw [← em]; exact n) ?_
    rw [← e2, ← he]
    exact TLs.ofPairs fun b hb => n.k (e3 b (hp.mem_iff.mp hb))
section
variable {X : Cx} {K : PySem.W.Frag}
theorem pi_sqK {tg l : Expr} {tl : TE} (e : X.K = K) (hl : PE X l tl) : PI X tg l (iSq K tl) := e ▸ pi_sq hl
theorem allK (e : X.K = K) (hc : X.calm = true) : CallR X (.builtin "all") (rAll K) := e ▸ cr_all hc
theorem anyK (e : X.K = K) (hc : X.calm = true) : CallR X (.builtin "any") (rAny K) := e ▸ cr_any hc
theorem sumK (e : X.K = K) (hc : X.calm = true) : CallR X (.builtin "sum") (rSum K) := e ▸ cr_sum hc
end
theorem op_in_seqK {X : Cx} {K : PySem.W.Frag} (h : X.K = K) : OpR X (compareOp .In) (rIn K false) := h ▸ op_in_seq
theorem op_notIn_seqK {X : Cx} {K : PySem.W.Frag} (h : X.K = K) : OpR X (compareOp .NotIn) (rIn K true) := h ▸ op_notIn_seq

/-! ## HoWo -/
abbrev wC (K : PySem.W.Frag) : Addr := He.ga K "World"
def wFl : List Str := ["point_count", "told_moves", "made_table", "made_moves"]
/-- the class, as the text has it -/
structure WCls (K : PySem.W.Frag) (mg : Str → Option Value) : Prop where
  g : mg "World" = some (.ref (wC K))
  c : Cls K (wC K)
  no : ∀ f ∈ wFl, NoAttr K (wC K) f
  mkr : Mk K (wC K) (He.ma K (wC K) "__init__")
  ha : PySem.W.findIn K (.ref (wC K)) "__class__" = some (some (.builtin "object.__class__"))
  hn : PySem.W.specialIn K (.builtin "object.__class__") "__get__" = some (some (.builtin "getset_descriptor.__get__"))
  ht : PySem.W.takesIn K (.builtin "object.__class__") = some true
  hm : PySem.W.mroIn K (wC K) (.type "object") = some true
  kit : PySem.W.kitOne K (.ref (wC K)) (.ref (wC K)) = some true
  ne : PySem.W.findIn K (.ref (wC K)) "__ne__" = some (some (.builtin "object.__ne__"))
  kt : ((PySem.W.clsIn K (wC K)).isSome && PySem.W.typeIn K (.ref (wC K)) == some (.type "type")) = true
/-- __init__, with one default -/
def WIni (K : PySem.W.Frag) (st : Stmt) : Prop := ∃ (T0 : Addr) (fd : FuncData), FunD K "__init__" "World.__init__" (defArgs st) (defBody st) (defScope st) [.ref T0] [] (He.ma K (wC K) "__init__") fd
def PrD (K : PySem.W.Frag) (x q : Str) (st : Stmt) : Prop := ∃ g fd, PropOf K (wC K) x (He.ma K (wC K) x) g ∧ FunD K x q (defArgs st) (defBody st) (defScope st) [] [] g fd
def MtD (K : PySem.W.Frag) (x q : Str) (st : Stmt) : Prop := ∃ fd, PySem.W.findIn K (.ref (wC K)) x = some (some (.ref (He.ma K (wC K) x))) ∧ PySem.W.isFn K (.ref (He.ma K (wC K) x)) = true ∧ FunD K x q (defArgs st) (defBody st) (defScope st) [] [] (He.ma K (wC K) x) fd
/-- World(..) -/
def MkC (P : Program) (w : World) (K : PySem.W.Frag) (mg : Str → Option Value) (base : Heap) (k : Nat) (x : Str) (ps : List Str) (sp : Sp) : Prop :=
  ∃ (C fI : Addr) (fd : FuncData) (spi : Sp), mg x = some (.ref C) ∧ Mk K C fI ∧ Binds K fd (("self" : Str) :: ps) [] ∧ FnOk P w K mg base (L2N.CX P w) k fI fd (("self" : Str) :: ps) spi ∧
    ∀ vs H Q E a dx, H a = none → H dx = none → dx ≠ a → sp vs H Q E → spi (.ref a :: vs) (upd (upd H dx (.own a)) a (.ins C dx [])) (fun v H2 => v = .non ∧ Q (.ref a) H2) E
/-- a property -/
def PrC (P : Program) (w : World) (K : PySem.W.Frag) (mg : Str → Option Value) (base : Heap) (k : Nat) (x : Str) (ps : List Str) (sp : Sp) : Prop :=
  ∃ g fd, Cls K (wC K) ∧ PropOf K (wC K) x (He.ma K (wC K) x) g ∧ Binds K fd ps [] ∧ FnOk P w K mg base CX0 k g fd ps sp
/-- a special method -/
def MtC (P : Program) (w : World) (K : PySem.W.Frag) (mg : Str → Option Value) (base : Heap) (k : Nat) (x : Str) (ps : List Str) (sp : Sp) : Prop :=
  ∃ f fd, PySem.W.findIn K (.ref (wC K)) x = some (some (.ref f)) ∧ PySem.W.isFn K (.ref f) = true ∧ Binds K fd ps [] ∧ FnOk P w K mg base CX0 k f fd ps sp
section
variable {P : Program} {w : World} {K : PySem.W.Frag} {mg : Str → Option Value} {base : Heap} {x q : Str} {st : Stmt} {N ps : List Str} {k : Nat} {sp spi : Sp}
theorem mkC_of (W : WCls K mg) (D : WIni K st) (S : FnScope N (("self" : Str) :: ps) (defScope st))
    (hb : ∀ (T : Addr) (kV doc pm : Value) (an : Option Addr) (cdv ct : Value) (us its : List Value), us.length = ps.length + 1 → its.length = 1 →
      ∃ kk, bindArgs (PySem.W.fnOf "__init__" "World.__init__" (defArgs st) (defBody st) (defScope st) (.ref T) kV doc pm an cdv ct) ⟨us, []⟩ = seqItems? (.ref T) >>= kk ∧ kk (some its.toArray) = pure ((("self" : Str) :: ps).zip (us ++ its.drop 1)))
    (len : ∀ vs H Q E, spi vs H Q E → vs.length = ps.length + 1)
    (himp : ∀ vs H Q E a dx, H a = none → H dx = none → dx ≠ a → sp vs H Q E → spi (.ref a :: vs) (upd (upd H dx (.own a)) a (.ins (wC K) dx [])) (fun v H2 => v = .non ∧ Q (.ref a) H2) E)
    (body : ∀ (f : Addr) (cdv : Value) (A : Around) (outer : List Env) (s : Shared) (H : Hp) (vs : List V) (Q : VK) (E : XK), Room k (A.deeper (envOfC "World.__init__" (defScope st) s.heap.objs.size f cdv)) → L2N.Takes (cxOf (L2N.CX P w) P w K mg base N "World.__init__" (defScope st) f cdv A outer s H E) (fun cls d _ H => E cls d H) → spi vs H Q E →
      ∃ t, PSs (cxOf (L2N.CX P w) P w K mg base N "World.__init__" (defScope st) f cdv A outer s H E) (defBody st) t ∧ t { nx := fun _ H' => Q .non H', rt := Q } (start N vs) H) : MkC P w K mg base (k + 1) "World" ps sp := by
  obtain ⟨T0, fd, F⟩ := D
  obtain ⟨ds, rd, hB⟩ := F.binds1 (ps := ("self" : Str) :: ps) (ps.length + 1) 1 (by simp) (by simp) (fun T kV doc pm an cdv ct us its h1 h2 => hb T kV doc pm an cdv ct us its h1 (by simpa using h2))
  have e : ds = [] := by
    have := rd.length
    exact List.length_eq_zero_iff.mp (by simpa using this.symm)
  subst e
  exact ⟨wC K, _, fd, spi, W.g, W.mkr, hB, F.ok S (fun vs H Q E h => len vs H Q E h) fun cdv A outer s H vs Q E hr hsp => body _ cdv A outer s H vs Q E hr (L2N.takes_of rfl rfl rfl rfl) hsp, himp⟩
theorem fn_ofD {f : Addr} {fd : FuncData} (F : FunD K x q (defArgs st) (defBody st) (defScope st) [] [] f fd) (S : FnScope N ps (defScope st)) (len : ∀ xs H Q E, sp xs H Q E → xs.length = ps.length)
    (body : ∀ (f : Addr) (cv : Value) (B : Around) (out : List Env) (s : Shared) (H : Hp) (xs : List V) (Q : VK) (E : XK), Room k (B.deeper (envOfC q (defScope st) s.heap.objs.size f cv)) → sp xs H Q E →
      ∃ t, PSs (cxOf CX0 P w K mg base N q (defScope st) f cv B out s H E).nox (defBody st) t ∧ t { nx := fun _ H' => Q .non H', rt := Q } (start N xs) H) : FnOk P w K mg base CX0 (k + 1) f fd ps sp :=
  F.ok S len fun cv B out s H xs Q E hr hsp => by
    obtain ⟨t, h, q⟩ := body f cv B out s H xs Q E hr hsp
    exact ⟨t, h.nox, q⟩
theorem prC_of (W : WCls K mg) (D : PrD K x q st) (S : FnScope N ps (defScope st))
    (hb : ∀ (kV doc pm : Value) (an : Option Addr) (cdv ct : Value) (us : List Value), us.length = ps.length → bindArgs (PySem.W.fnOf x q (defArgs st) (defBody st) (defScope st) .none kV doc pm an cdv ct) ⟨us, []⟩ = pure (ps.zip us))
    (len : ∀ xs H Q E, sp xs H Q E → xs.length = ps.length)
    (body : ∀ (f : Addr) (cv : Value) (B : Around) (out : List Env) (s : Shared) (H : Hp) (xs : List V) (Q : VK) (E : XK), Room k (B.deeper (envOfC q (defScope st) s.heap.objs.size f cv)) → sp xs H Q E →
      ∃ t, PSs (cxOf CX0 P w K mg base N q (defScope st) f cv B out s H E).nox (defBody st) t ∧ t { nx := fun _ H' => Q .non H', rt := Q } (start N xs) H) : PrC P w K mg base (k + 1) x ps sp := by
  obtain ⟨g, fd, p, F⟩ := D
  refine ⟨g, fd, W.c, p, fun s us _ hl => ?_, fn_ofD F S len body⟩
  rw [List.append_nil] at hl ⊢
  exact F.bindsA hb s us hl
theorem mtC_of (D : MtD K x q st) (S : FnScope N ps (defScope st))
    (hb : ∀ (kV doc pm : Value) (an : Option Addr) (cdv ct : Value) (us : List Value), us.length = ps.length → bindArgs (PySem.W.fnOf x q (defArgs st) (defBody st) (defScope st) .none kV doc pm an cdv ct) ⟨us, []⟩ = pure (ps.zip us))
    (len : ∀ xs H Q E, sp xs H Q E → xs.length = ps.length)
    (body : ∀ (f : Addr) (cv : Value) (B : Around) (out : List Env) (s : Shared) (H : Hp) (xs : List V) (Q : VK) (E : XK), Room k (B.deeper (envOfC q (defScope st) s.heap.objs.size f cv)) → sp xs H Q E →
      ∃ t, PSs (cxOf CX0 P w K mg base N q (defScope st) f cv B out s H E).nox (defBody st) t ∧ t { nx := fun _ H' => Q .non H', rt := Q } (start N xs) H) : MtC P w K mg base (k + 1) x ps sp := by
  obtain ⟨fd, p1, p2, F⟩ := D
  refine ⟨_, fd, p1, p2, fun s us _ hl => ?_, fn_ofD F S len body⟩
  rw [List.append_nil] at hl ⊢
  exact F.bindsA hb s us hl
end
section
variable {X : Cx} {W : WX}
theorem run_makeS {CX : CXT} {k : Nat} {f C : Addr} {fd : FuncData} {ps : List Str} {sp : Sp} {E : XK} {pins : List (Addr × Obj)} {σ : L2.St} {H : Hp} {s : Shared} {Q : VK} {us : List Value} {vs : List V} (M : Mk X.K C f) (F : FnOk X.prog X.w X.K X.mg X.base CX k f fd ps sp) (hr : Room (k + 1) X.A) (hb : Binds X.K fd ps [])
    (hx : PassesAt CX X σ E) (I : Inv X pins σ H s) (r : Vals vs us)
    (h : ∀ x dx, H x = none → H dx = none → dx ≠ x → sp (.ref x :: vs) (upd (upd H dx (.own x)) x (.ins C dx [])) (fun v H2 => v = .non ∧ Q (.ref x) H2) E) :
    wpAny (model X.prog X.w) X.A (call (.ref C) us) (EP X pins σ Q) X.xe s := by
  have hq := h (s.heap.objs.size + 1) s.heap.objs.size (I.hok.fresh (Nat.le_succ _)) (I.hok.fresh (Nat.le_refl _)) (Nat.ne_of_lt (Nat.lt_succ_self _))
  have I2 := Inv.made (C := C) I
  have r2 : Vals (V.ref (s.heap.objs.size + 1) :: vs) (Value.ref (s.heap.objs.size + 1) :: us) := .cons rfl r
  have hl : (Value.ref (s.heap.objs.size + 1) :: us).length = ps.length := by
    have e := r2.length
    rw [F.len _ _ _ _ hq] at e
    exact e.symm
  have b := hb _ (Value.ref (s.heap.objs.size + 1) :: us) I2.kIn (by rw [List.append_nil]; exact hl)
  rw [List.append_nil] at b
  refine wpAny_call (make_map (f := f) I.kIn M.makes M.init (beq_iff_eq.mp M.fn) (codeAny_mono (F.run _ X.stack _ _ ⟨Value.ref (s.heap.objs.size + 1) :: us, []⟩ (Value.ref (s.heap.objs.size + 1) :: us) _ _ E (hr.make C us [])
    (I2.env0.make C us []) b r2 hq) fun r s' hq' => ?_))
  cases r with
  | error e => exact hx pins _ _ e s' I2 hq'
  | ok fl =>
    cases fl with
    | ret u =>
      obtain ⟨v, H', I3, rv, ev, q3⟩ := I2.after hq'
      subst ev
      exact ⟨rv, ⟨V.ref (s.heap.objs.size + 1), H', I3, rfl, q3⟩⟩
    | next => exact False.elim hq'
    | brk => exact False.elim hq'
    | cont => exact False.elim hq'
theorem pe_mkC {j k : Nat} {x : Str} {ps : List Str} {sp : Sp} {p pos : Pos} {e : Expr} {es : List Expr} {t : TA} (C : MkC X.prog X.w X.K X.mg X.base j x ps sp) (tk : L2N.Takes X W) (hr : Room k X.A) (hg : Gl X x) (ha : PA X (e :: es) t) (hjk : j + 1 ≤ k := by decide)
    (hdb : (x == ("__debug__" : Str)) = false := by decide) (he : starEach (e :: es) X.env = (false, eval e X.env) :: starEach es X.env := by rfl) (hpl : (backTo pos (starEach es X.env)).any (·.1) = false := by rfl) :
    PE X (.Call (.Name x p) (e :: es) [] pos) (tCallS sp (WE W) t) := by
  obtain ⟨C, fI, fd, spi, hm, M, hb, F, himp⟩ := C
  refine ⟨fun pins s σ H Q I h => ?_⟩
  refine wpAny_Call_Name_kw (ld_glob I hg hm ?_ hdb)
  refine PySem.W.callWith_K (h₀ := X.base) I.ok.mod.kin M.kp (thn (ha.run pos pins s σ H _ I h) fun us s1 ⟨vs, H1, I1, r, q⟩ => ⟨I1.kIn, ?_⟩) he hpl
  exact run_makeS M F (hr.mono hjk) hb (L2N.passAt tk σ) I1 r fun a dx h1 h2 h3 => himp _ _ _ _ a dx h1 h2 h3 q
theorem pe_prC {j k : Nat} {x : Str} {sp : Sp} {pos : Pos} {e : Expr} {ta : TE} (C : PrC X.prog X.w X.K X.mg X.base j x ["self"] sp) (hr : Room k X.A) (he : PE X e ta) (hjk : j + 1 ≤ k := by decide)
    (hab : attributeBase e x X.env (eval e X.env) = eval e X.env := by rfl) : PE X (.Attribute e x pos) (tProp (wC X.K) sp [] E0 ta) := by
  obtain ⟨g, fd, c, p, hb, F⟩ := C
  exact pe_prop he c p F (hr.mono hjk) hb .nil pass0 hab
/-- len(o) -/
def rLenW (K : PySem.W.Frag) (sp : Sp) : List V → Hp → VK → Prop := fun xs H Q => ∃ a dx fs, xs = [.ref a] ∧ H a = some (.ins (wC K) dx fs) ∧ sp [.ref a] H (fun v H' => ∃ n : Int, v = .int n ∧ 0 ≤ n ∧ n < 2 ^ 63 ∧ Q (.int n) H') E0
theorem len_W {j k : Nat} {sp : Sp} (C : MtC X.prog X.w X.K X.mg X.base j "__len__" ["self"] sp) (hr : Room k X.A) (hjk : j + 1 ≤ k := by decide) : CallR X (.builtin "len") (rLenW X.K sp) := by
  obtain ⟨f, fd, hs, hf, hb, F⟩ := C
  intro pins s σ H xs us Q I r h
  obtain ⟨a, dx, fs, rfl, ha, hq⟩ := h
  obtain ⟨u, rfl, ru⟩ := r.one
  cases ru
  obtain ⟨mA, J, _⟩ := ins_get I.hok ha
  obtain ⟨od, J, _⟩ := J.look
  refine Calls.call_function_entry kind_len plain_len entry_len (args_len1 _) ?_
  unfold Builtin.«len»
  refine wpAny_bind (m := oneArg "len" _) (wpAny_pure ?_)
  have e0 : Env0 X.prog X.w X.K X.mg X.base X.A.in1 X.stack s H := I.env0.in1
  have hl := F.len _ _ _ _ hq
  have b := hb s [.ref a] I.kIn (by rw [List.append_nil]; exact hl)
  rw [List.append_nil] at b
  refine wpAny_bind (m := callSpecial? (.ref a) (Str.ofString "__len__")) (PySem.W.special_fn (name := "__len__") (args := []) I.kIn J hs (beq_iff_eq.mp hf) (wpAny_call (codeAny_mono (F.run X.A.in1 X.stack s H ⟨[.ref a], []⟩ [.ref a] [.ref a] _ E0 (hr.mono hjk).in1 e0 b (.cons rfl .nil) hq) fun rr s' hq' => ?_)))
  cases rr with
  | error e => exact pass0 pins σ H s e s' I hq'
  | ok fl =>
    cases fl with
    | next => exact False.elim hq'
    | brk => exact False.elim hq'
    | cont => exact False.elim hq'
    | ret u =>
      obtain ⟨v, H', I', rv, n, ev, h0, h1, q⟩ := I.after hq'
      subst ev
      obtain ⟨t, rfl⟩ := rv
      refine wpAny_bind (wpAny_holding (wpAny_pure ?_))
      refine wpAny_bind (wpAny_letGo ?_)
      show wpAny _ _ (if n < 0 then _ else _) _ _ _
      rw [if_neg (by omega)]
      show wpAny _ _ (if n ≥ 2 ^ 63 then _ else _) _ _ _
      rw [if_neg (by omega)]
      exact wpAny_bind (wpAny_mkInt (wpAny_pure ⟨_, rfl, ⟨.int n, H', I'.tok _, ⟨_, rfl⟩, q⟩⟩))
/-- o == o' -/
def rEqW (K : PySem.W.Frag) (sp : Sp) : R2 := fun x y H Q => ∃ a b dx dy fs gs, x = .ref a ∧ y = .ref b ∧ H a = some (.ins (wC K) dx fs) ∧ H b = some (.ins (wC K) dy gs) ∧ sp [.ref a, .ref b] H (fun v H' => ∃ r, v = .bl r ∧ Q (.bl r) H') E0
theorem op_eqW {j k : Nat} {sp : Sp} (C : MtC X.prog X.w X.K X.mg X.base j "__eq__" ["self", "other"] sp) (hr : Room k X.A) (hjk : j ≤ k := by decide) : OpR X (compareOp .Eq) (rEqW X.K sp) := by
  obtain ⟨f, fd, hs, hf, hb, F⟩ := C
  intro pins s σ H x y v u Q I rx ry h
  obtain ⟨a, b, dx, dy, fs, gs, rfl, rfl, ha, hb', hq⟩ := h
  cases rx
  cases ry
  obtain ⟨mA, J, _⟩ := ins_get I.hok ha
  obtain ⟨mB, J', _⟩ := ins_get I.hok hb'
  obtain ⟨od, J, _⟩ := J.look
  obtain ⟨od', J', _⟩ := J'.look
  obtain ⟨m, hF⟩ := I.fr
  show wpAny (model X.prog X.w) X.A (richCompare .Eq (.ref a) (.ref b)) (EP X pins σ Q) X.xe s
  refine PySem.W.cmp_K (op := .Eq) (tb := .ref (wC X.K)) hr.units0 hF I.ok.mod.kin J J'.type (by simp [PySem.W.notFirst]) hs hf ?_
  have hl := F.len _ _ _ _ hq
  have bb := hb s [.ref a, .ref b] I.kIn (by rw [List.append_nil]; exact hl)
  rw [List.append_nil] at bb
  refine wpAny_call (codeAny_mono (F.run X.A X.stack s H ⟨[.ref a, .ref b], []⟩ [.ref a, .ref b] [.ref a, .ref b] _ E0 (hr.mono hjk) I.env0 bb (.cons rfl (.cons rfl .nil)) hq) fun r s' hq' => ?_)
  cases r with
  | error e => exact pass0 pins σ H s e s' I hq'
  | ok fl =>
    cases fl with
    | ret u =>
      obtain ⟨z, H', I', rz, r, ez, q⟩ := I.after hq'
      subst ez
      cases rz
      exact ⟨.bl r, H', I', rfl, q⟩
    | next => exact False.elim hq'
    | brk => exact False.elim hq'
    | cont => exact False.elim hq'
/-- isinstance(o, World) -/
def rIsW (K : PySem.W.Frag) : List V → Hp → VK → Prop := fun xs H Q => ∃ a dx fs, xs = [.ref a, .ref (wC K)] ∧ H a = some (.ins (wC K) dx fs) ∧ Q (.bl true) H
theorem is_W {mg : Str → Option Value} (C : WCls X.K mg) : CallR X (.builtin "isinstance") (rIsW X.K) := by
  intro pins s σ H xs us Q I r h
  obtain ⟨a, dx, fs, rfl, ha, q⟩ := h
  obtain ⟨u1, u2, rfl⟩ : ∃ u1 u2, us = [u1, u2] := match us, r with | [a, b], _ => ⟨a, b, rfl⟩
  obtain ⟨r1, r2⟩ : RelV (.ref a) u1 ∧ RelV (.ref (wC X.K)) u2 := by
    cases r with
    | cons h1 t => cases t with
      | cons h2 _ => exact ⟨h1, h2⟩
  cases r2
  exact isinst_ok I r1 (.ins ha C.c C.ha C.hn C.ht C.hm) C.kit fun tk => ⟨.bl true, H, I.tok _, rfl, q⟩
end
theorem a_fld {K : PySem.W.Frag} {ta : TE} {f : Str} {σ : L2.St} {H : Hp} {Q : VK} : tFld K ta f σ H Q = ta σ H fun x H1 => ∃ a C dx fs v, x = .ref a ∧ H1 a = some (.ins C dx fs) ∧ Cls K C ∧ NoAttr K C f ∧ fs.lookup f = some v ∧ Q v H1 := rfl
theorem a_sfld {K : PySem.W.Frag} {ta tv : TE} {f : Str} {D : Ends} {σ : L2.St} {H : Hp} : sFld K ta tv f D σ H = tv σ H fun y H1 => ta σ H1 fun x H2 => ∃ a C dx fs, x = .ref a ∧ H2 a = some (.ins C dx fs) ∧ Cls K C ∧ NoAttr K C f ∧ fs.length < 1000 ∧ D.nx σ (upd H2 a (.ins C dx (putF f y fs))) := rfl
theorem a_prop {C : Addr} {sp : Sp} {dvs : List V} {E : XK} {ta : TE} {σ : L2.St} {H : Hp} {Q : VK} : tProp C sp dvs E ta σ H Q = ta σ H fun x H1 => ∃ a dx fs, x = .ref a ∧ H1 a = some (.ins C dx fs) ∧ sp (.ref a :: dvs) H1 Q E := rfl
theorem b_lenW {K : PySem.W.Frag} {sp : Sp} {a : Addr} {H : Hp} {Q : VK} : rLenW K sp [.ref a] H Q = ∃ dx fs, H a = some (.ins (wC K) dx fs) ∧ sp [.ref a] H (fun v H' => ∃ n : Int, v = .int n ∧ 0 ≤ n ∧ n < 2 ^ 63 ∧ Q (.int n) H') E0 := by
  unfold rLenW; apply propext; constructor
  · rintro ⟨a', dx, fs, e, h, q⟩; cases e; exact ⟨dx, fs, h, q⟩
  · rintro ⟨dx, fs, h, q⟩; exact ⟨a, dx, fs, rfl, h, q⟩
theorem b_eqW {K : PySem.W.Frag} {sp : Sp} {a b : Addr} {H : Hp} {Q : VK} : rEqW K sp (.ref a) (.ref b) H Q = ∃ dx dy fs gs, H a = some (.ins (wC K) dx fs) ∧ H b = some (.ins (wC K) dy gs) ∧ sp [.ref a, .ref b] H (fun v H' => ∃ r, v = .bl r ∧ Q (.bl r) H') E0 := by
  unfold rEqW; apply propext; constructor
  · rintro ⟨a', b', dx, dy, fs, gs, e, e', h, h', q⟩; cases e; cases e'; exact ⟨dx, dy, fs, gs, h, h', q⟩
  · rintro ⟨dx, dy, fs, gs, h, h', q⟩; exact ⟨a, b, dx, dy, fs, gs, rfl, rfl, h, h', q⟩
theorem b_isW {K : PySem.W.Frag} {a : Addr} {H : Hp} {Q : VK} : rIsW K [.ref a, .ref (wC K)] H Q = ∃ dx fs, H a = some (.ins (wC K) dx fs) ∧ Q (.bl true) H := by
  unfold rIsW; apply propext; constructor
  · rintro ⟨a', dx, fs, e, h, q⟩; cases e; exact ⟨dx, fs, h, q⟩
  · rintro ⟨dx, fs, h, q⟩; exact ⟨a, dx, fs, rfl, h, q⟩
/-- a world in the heap: the object x, its list q of made moves; n points, T told, M made -/
structure Wd (K : PySem.W.Frag) (H : Hp) (x q : Addr) (n : Nat) (T M : List (List Int)) : Prop where
  ins : ∃ (dx t d : Addr) (us ts : List Addr) (Qs : List (List Int)), H x = some (.ins (wC K) dx [("point_count", .int n), ("told_moves", .ref t), ("made_table", .ref d), ("made_moves", .ref q)]) ∧ H dx = some (.own x) ∧ H t = some (.tup (ts.map V.ref)) ∧ TLs H ts T ∧
    H d = some (.dT (tabT Qs)) ∧ (∀ y, y ∈ Qs ↔ y ∈ M) ∧ H q = some (.lst (us.map V.ref)) ∧ TLs H us M
  n12 : n ≤ 12
  t8 : T.length ≤ 8
  on : OnN n T
  md : Made n T M
  m400 : M.length ≤ 400
theorem Wd.kp {K : PySem.W.Frag} {H H' : Hp} {x q : Addr} {n : Nat} {T M : List (List Int)} (h : Wd K H x q n T M) (k : ∀ a o, H a = some o → a = q ∨ (∀ ys, o ≠ .lst ys) → H' a = some o) : Wd K H' x q n T M := by
  obtain ⟨dx, t, d, us, ts, Qs, h1, h2, h3, h4, h5, h6, h7, h8⟩ := h.ins
  exact ⟨⟨dx, t, d, us, ts, Qs, k _ _ h1 (.inr fun _ e => nomatch e), k _ _ h2 (.inr fun _ e => nomatch e), k _ _ h3 (.inr fun _ e => nomatch e), h4.kp fun a ns e => k _ _ e (.inr fun _ z => nomatch z), k _ _ h5 (.inr fun _ e => nomatch e), h6, k _ _ h7 (.inl rfl), h8.kp fun a ns e => k _ _ e (.inr fun _ z => nomatch z)⟩, h.n12, h.t8, h.on, h.md, h.m400⟩
theorem Wd.same {K : PySem.W.Frag} {H H' : Hp} {x q : Addr} {n : Nat} {T M : List (List Int)} (h : Wd K H x q n T M) (s : Same H H') : Wd K H' x q n T M := h.kp fun a o e _ => s a o e
theorem Wd.put {K : PySem.W.Frag} {H H' : Hp} {x q p : Addr} {o : HO} {ys : List V} {n : Nat} {T M : List (List Int)} (h : Wd K H x q n T M) (pt : Put H p o H') (hp : H p = some (.lst ys)) (hq : p ≠ q) : Wd K H' x q n T M := h.kp fun a u e c => pt.k (fun z => by
  subst z
  rcases c with c | c
  · exact hq c
  · rw [hp] at e
    cases e
    exact c _ rfl) e
theorem Wd.at {K : PySem.W.Frag} {H : Hp} {x q : Addr} {n : Nat} {T M : List (List Int)} (h : Wd K H x q n T M) : ∃ dx fs, H x = some (.ins (wC K) dx fs) := by
  obtain ⟨dx, t, d, us, ts, Qs, h1, _⟩ := h.ins
  exact ⟨_, _, h1⟩
theorem Wd.lst {K : PySem.W.Frag} {H : Hp} {x q : Addr} {n : Nat} {T M : List (List Int)} (h : Wd K H x q n T M) : ∃ us, H q = some (.lst (us.map V.ref)) ∧ TLs H us M := by
  obtain ⟨dx, t, d, us, ts, Qs, h1, h2, h3, h4, h5, h6, h7, h8⟩ := h.ins
  exact ⟨us, h7, h8⟩
theorem fldW {K : PySem.W.Frag} {mg : Str → Option Value} {H : Hp} {Q : VK} {f : Str} {a dx : Addr} {fs : List (Str × V)} {v : V} (WC : WCls K mg) (h : H a = some (.ins (wC K) dx fs)) (hf : f ∈ wFl) (hl : fs.lookup f = some v) (k : Q v H) :
    ∃ C dx' fs', H a = some (.ins C dx' fs') ∧ Cls K C ∧ NoAttr K C f ∧ ∃ v, fs'.lookup f = some v ∧ Q v H := ⟨_, dx, fs, h, WC.c, WC.no f hf, v, hl, k⟩
theorem _root_.L2.Room.u65 {k : Nat} {A : Around} (r : Room k A) : A.units + 65 < cLine := by have := r.u100; omega
theorem cutV_take (xs : List V) (k : Nat) : cutV xs none (some (k : Int)) = xs.take k := by
  unfold cutV
  rw [HT.sIx_none, HT.sIx_nat, List.drop_zero, Nat.sub_zero]
  rcases Nat.le_total k xs.length with h | h
  · rw [Nat.min_eq_left h]
  · rw [Nat.min_eq_right h, List.take_of_length_le h, List.take_of_length_le (Nat.le_refl _)]
def rNotTF : R2 := fun x y H Q => ∃ b, y = .bl b ∧ Q (.bl (!decide (x = .bl b))) H
theorem op_notTF {X : Cx} : OpR X (compareOp .IsNot) rNotTF := by
  intro pins s σ H x y v u Q I rx ry h
  obtain ⟨b, rfl, q⟩ := h
  cases (show u = Value.bool b from ry)
  obtain ⟨h1, h2⟩ := is_plain_bl (b := b) rx
  exact wpAny_isNot_plain h1 (by rw [h2]; exact ⟨.bl _, H, I, rfl, q⟩)
theorem b_notTF {x : V} {b : Bool} {H : Hp} {Q : VK} : rNotTF x (.bl b) H Q = Q (.bl (!decide (x = .bl b))) H := by
  unfold rNotTF; apply propext; constructor
  · rintro ⟨i, h1, h⟩; cases h1; exact h
  · intro h; exact ⟨b, rfl, h⟩
/-! iter(o), and what goes over it -/
structure FnI (P : Program) (w : World) (K : PySem.W.Frag) (mg : Str → Option Value) (base : Heap) (k : Nat) (f : Addr) (fd : FuncData) (ps : List Str) (sp : Nat → Sp) : Prop where
  len : ∀ n xs H Q E, sp n xs H Q E → xs.length = ps.length
  run : ∀ {n : Nat} {B : Around} {st : List Env} {s : Shared} {H : Hp} {ar : Args} {us : List Value} {xs : List V} {Q : VK} {E : XK}, n ≤ s.heap.objs.size → Room k B → Env0 P w K mg base B st s H → BindsTo s fd ar (ps.zip us) → Vals xs us → sp n xs H Q E → codeAny (model P w) B (.call (.ref f) ar) (CR CX0 st P w H s Q E) s
theorem fnI_of {P : Program} {w : World} {K : PySem.W.Frag} {mg : Str → Option Value} {base : Heap} {k : Nat} {x q : Str} {st : Stmt} {N ps : List Str} {sp : Nat → Sp} {f : Addr} {fd : FuncData} (F : FunD K x q (defArgs st) (defBody st) (defScope st) [] [] f fd) (S : FnScope N ps (defScope st))
    (len : ∀ n xs H Q E, sp n xs H Q E → xs.length = ps.length)
    (body : ∀ (n : Nat) (f : Addr) (cv : Value) (B : Around) (out : List Env) (s : Shared) (H : Hp) (xs : List V) (Q : VK) (E : XK), n ≤ s.heap.objs.size → Room k (B.deeper (envOfC q (defScope st) s.heap.objs.size f cv)) → sp n xs H Q E →
      ∃ t, PSs (cxOf CX0 P w K mg base N q (defScope st) f cv B out s H E).nox (defBody st) t ∧ t { nx := fun _ H' => Q .non H', rt := Q } (start N xs) H) : FnI P w K mg base (k + 1) f fd ps sp := by
  obtain ⟨oc, od, dV, kV, doc, pm, an, cv, ct, osl, rfl, lk, hcd, _, _⟩ := F.ex
  refine ⟨len, ?_⟩
  intro n B out s H ar us xs Q E hsz hr e0 hb r hsp
  have KX : K.In s.heap := e0.mod.kin.keeps fun b o e => (e0.bs b o e).1
  have nl : s.heap.NoLimit := e0.mod.nolimit.keeps fun b o e => (e0.bs b o e).1
  have kinds : ∀ y ∈ ps.zip us, (defScope st).names.lookup y.1 = some .local ∨ ((defScope st).names.lookup y.1 = some .cell ∧ ((cellsFrom (s.heap.objs.size + 1) (defScope st).names []).lookup y.1).isSome = true) := by
    rintro ⟨m, v⟩ hy
    exact (S.par m (List.of_mem_zip hy).1).imp id fun q => ⟨q, PySem.W.cellsFrom_some _ _ _ (.inl q)⟩
  refine codeAny_call_function hr.depth (KX _ _ lk) rfl S.co S.gen rfl (PySem.W.codeRec_of KX hcd) (hb _ _ _ _ (wpAny_newFunctionEnv_cells S.kind kinds ?_))
  rintro env rfl s1 nf
  refine ⟨nl.keeps nf.toInCall.keep, codeAny_func ?_⟩
  obtain ⟨t, ht0, hq⟩ := body n f cv B out s H xs Q E hsz (hr.deeper _) hsp
  have ht := ht0.nox
  have I := inv_start (CX := CX0) (E := E) S hr.hd e0 (len _ _ _ _ _ hsp) r nf
  refine wpAny_mono (ht.run [] s1 (start N xs) H _ I hq) ?_ fun _ _ z => z
  intro fl s' hs
  cases fl with
  | next =>
    obtain ⟨_, H', J, q⟩ := hs
    exact ⟨V.non, H', J.os, J.bare, J.base, J.hok, rfl, q⟩
  | brk => obtain ⟨_, _, _, q⟩ := hs; exact False.elim q
  | cont => obtain ⟨_, _, _, q⟩ := hs; exact False.elim q
  | ret u =>
    obtain ⟨v, _, H', J, rv, q⟩ := hs
    exact ⟨v, H', J.os, J.bare, J.base, J.hok, rv, q⟩
def MtI (P : Program) (w : World) (K : PySem.W.Frag) (mg : Str → Option Value) (base : Heap) (k : Nat) (x : Str) (ps : List Str) (sp : Nat → Sp) : Prop :=
  ∃ f fd, PySem.W.findIn K (.ref (wC K)) x = some (some (.ref f)) ∧ PySem.W.isFn K (.ref f) = true ∧ Binds K fd ps [] ∧ FnI P w K mg base k f fd ps sp
theorem mtI_of {P : Program} {w : World} {K : PySem.W.Frag} {mg : Str → Option Value} {base : Heap} {x q : Str} {st : Stmt} {N ps : List Str} {k : Nat} {sp : Nat → Sp} (D : MtD K x q st) (S : FnScope N ps (defScope st))
    (hb : ∀ (kV doc pm : Value) (an : Option Addr) (cdv ct : Value) (us : List Value), us.length = ps.length → bindArgs (PySem.W.fnOf x q (defArgs st) (defBody st) (defScope st) .none kV doc pm an cdv ct) ⟨us, []⟩ = pure (ps.zip us))
    (len : ∀ n xs H Q E, sp n xs H Q E → xs.length = ps.length)
    (body : ∀ (n : Nat) (f : Addr) (cv : Value) (B : Around) (out : List Env) (s : Shared) (H : Hp) (xs : List V) (Q : VK) (E : XK), n ≤ s.heap.objs.size → Room k (B.deeper (envOfC q (defScope st) s.heap.objs.size f cv)) → sp n xs H Q E →
      ∃ t, PSs (cxOf CX0 P w K mg base N q (defScope st) f cv B out s H E).nox (defBody st) t ∧ t { nx := fun _ H' => Q .non H', rt := Q } (start N xs) H) : MtI P w K mg base (k + 1) x ps sp := by
  obtain ⟨fd, p1, p2, F⟩ := D
  refine ⟨_, fd, p1, p2, fun s us _ hl => ?_, fnI_of F S len body⟩
  rw [List.append_nil] at hl ⊢
  exact F.bindsA hb s us hl
def iW (K : PySem.W.Frag) (sp : Nat → Sp) (te : TE) : TI := fun σ H R => te σ H fun x H1 => ∃ a dx fs, x = .ref a ∧ H1 a = some (.ins (wC K) dx fs) ∧ ∀ n, sp n [.ref a] H1 (fun v H2 => ∃ it q, v = .ref it ∧ H1 it = none ∧ n ≤ it ∧ H2 = upd H1 it (ItO q it 0) ∧ R (Itl K q) H1) E0
theorem pi_w {X : Cx} {j k : Nat} {sp : Nat → Sp} {tg e : Expr} {te : TE} (C : MtI X.prog X.w X.K X.mg X.base j "__iter__" ["self"] sp) (hr : Room k X.A) (he : PE X e te) (hjk : j ≤ k := by decide) : PI X tg e (iW X.K sp te) := by
  obtain ⟨f, fd, hs, hf, hb, F⟩ := C
  refine ⟨fun pins s σ H R I h => ?_⟩
  refine thn (he.run pins s σ H _ I h) fun u s1 ⟨x, H1, I1, rx, a, dx, fs, ex, ea, hsp⟩ => ?_
  subst ex
  obtain rfl : u = Value.ref a := rx
  obtain ⟨mA, J, _⟩ := ins_get I1.hok ea
  obtain ⟨od, J, _⟩ := J.look
  obtain ⟨m, hF⟩ := I1.fr
  refine PySem.W.owit_iter hF I1.ok.mod.kin J hs hf ?_
  have hq := hsp s1.heap.objs.size
  have hl := F.len _ _ _ _ _ hq
  have b := hb s1 [.ref a] I1.kIn (by rw [List.append_nil]; exact hl)
  rw [List.append_nil] at b
  refine wpAny_call (codeAny_mono (F.run (Nat.le_refl _) (hr.mono hjk) I1.env0 b (show Vals [V.ref a] [Value.ref a] from .cons rfl .nil) hq) fun r s' hq' => ?_)
  cases r with
  | error e => exact (show False from hq').elim
  | ok fl =>
    cases fl with
    | next => exact (show False from hq').elim
    | brk => exact (show False from hq').elim
    | cont => exact (show False from hq').elim
    | ret u =>
      obtain ⟨v, H', I', rv, it, q, ev, hit, hn, eH, hR⟩ := I1.after hq'
      subst ev eH
      cases rv
      have hx : upd H1 it (ItO q it 0) it = some (ItO q it 0) := upd_same
      have eo := itO_get I' hx
      have hT : s'.TypeIs (.ref it) "list_iterator" := ⟨_, eo, rfl⟩
      have hd : ItX.dropH (upd H1 it (ItO q it 0)) it = H1 := ItX.dropH_upd hit
      have I2 := ItX.inv_drop I' (φ := fun h => h.get? it = some (GNX.itObj q 0)) hx
      have fp := ItX.inv_fp I' hx (Nat.le_trans I1.sz hn)
      rw [hd] at I2 fp
      show wpAny _ _ (specialOf (.ref it) "__next__") _ _ _
      refine wpAny_specialOf (name := Str.ofString "__next__") hT slot_listiter_next.lookup ?_
      refine ⟨it, [it], _, _, H1, rfl, I2, turn_list q it, ⟨_, eo, rfl, rfl⟩, fun b hb => ?_, hR⟩
      have e : b = it := by simpa using hb
      rw [e]
      exact fp
theorem a_lcW {K : PySem.W.Frag} {sp : Nat → Sp} {ta : TE} {g : TG} {tt : TT} {te : TE} {vs : List Nat} {σ : L2.St} {H : Hp} {Q : VK} : tLc (iW K sp ta) g tt te vs σ H Q = ta σ H fun x H1 => ∃ a dx fs, x = .ref a ∧ H1 a = some (.ins (wC K) dx fs) ∧ ∀ n, sp n [.ref a] H1 (fun v H2 => ∃ it q, v = .ref it ∧ H1 it = none ∧ n ≤ it ∧ H2 = upd H1 it (ItO q it 0) ∧ tLc (fun _ H R => R (Itl K q) H) g tt te vs σ H1 Q) E0 := rfl
def sp_witer (K : PySem.W.Frag) : Nat → Sp := fun m vs H Q _ => ∃ (x q : Addr) (n : Nat) (T M : List (List Int)), vs = [.ref x] ∧ Wd K H x q n T M ∧ ∀ it, H it = none → m ≤ it → Q (.ref it) (upd H it (ItO q it 0))
/-- a comprehension over a world: over the list of its made moves -/
theorem Wd.lc {K : PySem.W.Frag} {H : Hp} {x q : Addr} {n : Nat} {T M : List (List Int)} {g : TG} {tt : TT} {te : TE} {vs : List Nat} {σ : L2.St} {Q : VK} (h : Wd K H x q n T M) (k : CSq K q g tt te vs σ H Q) :
    ∃ dx fs, H x = some (.ins (wC K) dx fs) ∧ ∀ m, sp_witer K m [.ref x] H (fun v H2 => ∃ it q', v = .ref it ∧ H it = none ∧ m ≤ it ∧ H2 = upd H it (ItO q' it 0) ∧ tLc (fun _ H R => R (Itl K q') H) g tt te vs σ H Q) E0 := by
  obtain ⟨dx, fs, hx⟩ := h.at
  obtain ⟨us, hq, _⟩ := h.lst
  refine ⟨dx, fs, hx, fun m => ⟨x, q, n, T, M, rfl, h, fun it hit hm => ⟨it, q, rfl, hit, hm, rfl, ?_⟩⟩⟩
  obtain ⟨xs, k | k⟩ := k
  · exact k.2
  · rw [hq] at k
    exact nomatch k.1
theorem Wd.lc' {K : PySem.W.Frag} {H : Hp} {x q : Addr} {n : Nat} {T M : List (List Int)} {g : TG} {tt : TT} {te : TE} {vs : List Nat} {σ : L2.St} {Q : VK} (h : Wd K H x q n T M) (k : CSq K q g tt te vs σ H Q) :
    ∃ dx fs, H x = some (.ins (wC K) dx fs) ∧ ∀ m, sp_witer K m [.ref x] H (fun v H2 => ∃ it, v = .ref it ∧ H it = none ∧ m ≤ it ∧ ∃ q', H2 = upd H it (ItO q' it 0) ∧ tLc (fun _ H R => R (Itl K q') H) g tt te vs σ H Q) E0 := by
  obtain ⟨dx, fs, hx, k⟩ := h.lc k
  refine ⟨dx, fs, hx, fun m => ?_⟩
  obtain ⟨x, q, n, T, M, e, w, kk⟩ := k m
  refine ⟨x, q, n, T, M, e, w, fun it h1 h2 => ?_⟩
  obtain ⟨it', q', e1, e2, e3, e4, e5⟩ := kk it h1 h2
  exact ⟨it', e1, e2, e3, q', e4, e5⟩

/-! ## HoHw -/
/-- a method of World: 0 __init__ with one default, 1 a property, 2 another -/
structure MtT where
  kind : Nat
  name : Str
  qual : Str
  params : Arguments
  body : List Stmt
  scope : Scope
def getAd (K : PySem.W.Frag) (p : Addr) : Addr := match PySem.W.recIn K p "property" with
  | some (.ref g :: _) => g
  | _ => 0
def mtAd (K : PySem.W.Frag) (d : MtT) : Addr := match d.kind with
  | 1 => getAd K (He.ma K (wC K) d.name)
  | _ => He.ma K (wC K) d.name
abbrev MtW : Type := Option (Str × Str × Arguments × FuncBody × Scope × Addr × List (Str × Addr) × Addr)
def mtW (K : PySem.W.Frag) (d : MtT) : MtW := match K.lookup (mtAd K d) with
  | some ⟨_, _, .func fd, _⟩ => some (fd.name, fd.qualname, fd.params, fd.body, fd.scope, fd.globals, fd.closure, fd.builtins)
  | _ => none
def MtT.val (d : MtT) : MtW := some (d.name, d.qual, d.params, .stmts d.body, d.scope, mainGlobals, [], builtinsNs)
def df1 (K : PySem.W.Frag) (dV : Value) : Bool := match dV with
  | .ref T => (match K.lookup T with
    | some ⟨_, _, .seq its _, _⟩ => (match its.toList with
      | [.ref _] => true
      | _ => false)
    | _ => false)
  | _ => false
def dfB (K : PySem.W.Frag) (k : Nat) (dV : Value) : Bool := match k with
  | 0 => df1 K dV
  | _ => isNon dV
def mtF (K : PySem.W.Frag) (d : MtT) : Bool := (match K.lookup (mtAd K d) with
  | some ⟨_, _, .func fd, _⟩ => PySem.W.codeIn K fd.code d.qual && dfB K d.kind fd.defaults
  | _ => false) && PySem.W.keepIn K (.ref (mtAd K d))
def mtP (K : PySem.W.Frag) (d : MtT) : Bool := match d.kind with
  | 0 => true
  | 1 => He.eqO (PySem.W.findIn K (.ref (wC K)) d.name) (some (some (.ref (He.ma K (wC K) d.name)))) && (He.eqO (PySem.W.specialIn K (.ref (He.ma K (wC K) d.name)) "__get__") (some (some (.builtin "property.__get__"))) && (decide (PySem.W.takesIn K (.ref (He.ma K (wC K) d.name)) = some true) && (match PySem.W.recIn K (He.ma K (wC K) d.name) "property" with
    | some (.ref _ :: _) => true
    | _ => false)))
  | _ => He.eqO (PySem.W.findIn K (.ref (wC K)) d.name) (some (some (.ref (He.ma K (wC K) d.name)))) && PySem.W.isFn K (.ref (He.ma K (wC K) d.name))
def MtT.ok (K : PySem.W.Frag) (d : MtT) : Bool := mtF K d && mtP K d
/-- the class -/
def wB (K : PySem.W.Frag) : Bool := (He.Fa.glo "World").ok K && ((He.Fa.cls "World").ok K && ((He.Fa.mkr "World").ok K && ((wFl.all fun f => He.eqO (PySem.W.findIn K (.ref (wC K)) f) (some none)) && (He.eqO (PySem.W.findIn K (.ref (wC K)) "__class__") (some (some (.builtin "object.__class__"))) &&
  (He.eqO (PySem.W.specialIn K (.builtin "object.__class__") "__get__") (some (some (.builtin "getset_descriptor.__get__"))) && (decide (PySem.W.takesIn K (.builtin "object.__class__") = some true) && (decide (PySem.W.mroIn K (wC K) (.type "object") = some true) && (decide (PySem.W.kitOne K (.ref (wC K)) (.ref (wC K)) = some true) && (He.eqO (PySem.W.findIn K (.ref (wC K)) "__ne__") (some (some (.builtin "object.__ne__"))) && ((PySem.W.clsIn K (wC K)).isSome && PySem.W.typeIn K (.ref (wC K)) == some (.type "type")))))))))))
theorem wB_ok {K : PySem.W.Frag} {h : Heap} {mg : Str → Option Value} (X : K.In h) (G : h.Ns mainGlobals mg) (c : wB K = true) : WCls K mg := by
  obtain ⟨c1, c⟩ := andB c
  obtain ⟨c2, c⟩ := andB c
  obtain ⟨c3, c⟩ := andB c
  obtain ⟨c4, c⟩ := andB c
  obtain ⟨c5, c⟩ := andB c
  obtain ⟨c6, c⟩ := andB c
  obtain ⟨c7, c⟩ := andB c
  obtain ⟨c8, c⟩ := andB c
  obtain ⟨c9, c⟩ := andB c
  obtain ⟨c10, c11⟩ := andB c
  exact ⟨He.glo_ok X G c1, He.cls_ok c2, fun f hf => He.eqO_ok (List.all_eq_true.mp c4 f hf), He.mkr_ok c3, He.eqO_ok c5, He.eqO_ok c6, of_decide_eq_true c7, of_decide_eq_true c8, of_decide_eq_true c9, He.eqO_ok c10, c11⟩
section
variable {K : PySem.W.Frag} {d : MtT}
theorem mt_fun (e : mtW K d = d.val) (b : mtF K d = true) : ∃ (oc : Value) (od : Option Addr) (dV kV doc pm : Value) (an : Option Addr) (cdv ct : Value) (osl : Array (Option Value)),
    K.lookup (mtAd K d) = some ⟨oc, od, .func (PySem.W.fnOf d.name d.qual d.params d.body d.scope dV kV doc pm an cdv ct), osl⟩ ∧ PySem.W.codeIn K cdv d.qual = true ∧ dfB K d.kind dV = true ∧ PySem.W.keepIn K (.ref (mtAd K d)) = true := by
  obtain ⟨b1, b2⟩ := andB b
  unfold mtW at e
  cases q : K.lookup (mtAd K d) with
  | none =>
    rw [q] at b1
    cases b1
  | some o =>
    obtain ⟨oc, od, dt, osl⟩ := o
    rw [q] at b1 e
    cases dt with
    | func fd =>
      obtain ⟨n1, n2, n3, n4, n5, n6, n7, n8, n9, n10, n11, n12, n13, n14, n15⟩ := fd
      have e2 : (some (n1, n2, n3, n4, n5, n6, n7, n15) : MtW) = some (d.name, d.qual, d.params, .stmts d.body, d.scope, mainGlobals, [], builtinsNs) := e
      simp only [Option.some.injEq, Prod.mk.injEq] at e2
      obtain ⟨h1, h2, h3, h4, h5, h6, h7, h8⟩ := e2
      subst h1 h2 h3 h4 h5 h6 h7 h8
      have b1' : (PySem.W.codeIn K n13 d.qual && dfB K d.kind n8) = true := b1
      obtain ⟨c1, c2⟩ := andB b1'
      exact ⟨oc, od, n8, n9, n10, n11, n12, n13, n14, osl, rfl, c1, c2, b2⟩
    | _ => cases b1
theorem mt_ini (e : mtW K d = d.val) (o : d.ok K = true) (hk : d.kind = 0) (hn : d.name = "__init__") : ∃ (T0 : Addr) (fd : FuncData), FunD K "__init__" d.qual d.params d.body d.scope [.ref T0] [] (He.ma K (wC K) "__init__") fd := by
  obtain ⟨dk, dn, dq, dp, db, dsc⟩ := d
  dsimp only at hk hn
  subst hk hn
  obtain ⟨oc, od, dV, kV, doc, pm, an, cdv, ct, osl, lk, hc, hd, kp⟩ := mt_fun e (andB o).1
  replace hd : df1 K dV = true := hd
  unfold df1 at hd
  split at hd
  · rename_i T
    split at hd
    · rename_i c dd its n sl lT
      split at hd
      · rename_i T0 hT
        refine ⟨T0, _, ⟨⟨oc, od, .ref T, kV, doc, pm, an, cdv, ct, osl, rfl, ?_, hc, .inr ⟨by simp, T, _, [.ref T0], n, rfl, lT, ?_, .cons rfl .nil⟩, .inl rfl⟩, kp⟩⟩
        · exact lk
        · rw [← hT, Array.toArray_toList]
      · cases hd
    · cases hd
  · cases hd
theorem mt_prop (e : mtW K d = d.val) (o : d.ok K = true) (hk : d.kind = 1) : ∃ g fd, PropOf K (wC K) d.name (He.ma K (wC K) d.name) g ∧ FunD K d.name d.qual d.params d.body d.scope [] [] g fd := by
  obtain ⟨dk, dn, dq, dp, db, dsc⟩ := d
  dsimp only at hk
  subst hk
  obtain ⟨oc, od, dV, kV, doc, pm, an, cdv, ct, osl, lk, hc, hd, kp⟩ := mt_fun e (andB o).1
  have hp := (andB o).2
  unfold mtP at hp
  dsimp only at hp
  obtain ⟨p1, hp⟩ := andB hp
  obtain ⟨p2, hp⟩ := andB hp
  obtain ⟨p3, p4⟩ := andB hp
  have hd : isNon dV = true := hd
  have e8 : dV = .none := by
    cases dV <;> first | rfl | cases hd
  subst e8
  have hr : ∃ rest, PySem.W.recIn K (He.ma K (wC K) dn) "property" = some (.ref (getAd K (He.ma K (wC K) dn)) :: rest) := by
    unfold getAd
    split at p4
    · rename_i g rest hr
      rw [hr]
      exact ⟨rest, rfl⟩
    · cases p4
  exact ⟨_, _, ⟨He.eqO_ok p1, He.eqO_ok p2, of_decide_eq_true p3, hr⟩, ⟨⟨oc, od, .none, kV, doc, pm, an, cdv, ct, osl, rfl, lk, hc, .inl ⟨rfl, rfl⟩, .inl rfl⟩, kp⟩⟩
theorem mt_meth (e : mtW K d = d.val) (o : d.ok K = true) (hk : d.kind = 2) : ∃ fd, PySem.W.findIn K (.ref (wC K)) d.name = some (some (.ref (He.ma K (wC K) d.name))) ∧ PySem.W.isFn K (.ref (He.ma K (wC K) d.name)) = true ∧ FunD K d.name d.qual d.params d.body d.scope [] [] (He.ma K (wC K) d.name) fd := by
  obtain ⟨dk, dn, dq, dp, db, dsc⟩ := d
  dsimp only at hk
  subst hk
  obtain ⟨oc, od, dV, kV, doc, pm, an, cdv, ct, osl, lk, hc, hd, kp⟩ := mt_fun e (andB o).1
  have hp := (andB o).2
  unfold mtP at hp
  dsimp only at hp
  obtain ⟨p1, p2⟩ := andB hp
  have hd : isNon dV = true := hd
  have e8 : dV = .none := by
    cases dV <;> first | rfl | cases hd
  subst e8
  exact ⟨_, He.eqO_ok p1, p2, ⟨⟨oc, od, .none, kV, doc, pm, an, cdv, ct, osl, rfl, lk, hc, .inl ⟨rfl, rfl⟩, .inl rfl⟩, kp⟩⟩
end
/-! the Hook -/
abbrev AlW : Type := He.AlD × (Bool × (List IniW × List MtW))
def namesW (en : List Str) (K : PySem.W.Frag) : Bool := He.eqO (PySem.W.nsIn K cStatics "thirdparty.any") (some none) && (He.eqO (PySem.W.nsIn K mainGlobals "HeldorderError") (some (some (.ref (He.ga K "HeldorderError")))) && en.all fun x => He.eqO (PySem.W.nsIn K mainGlobals x) (some (some (.ref (He.ga K x)))))
def obsW (fa : List He.Fa) (fn : List He.DefD) (file : Str) (di : List IniD) (ks en : List Str) (mt : List MtT) (K : PySem.W.Frag) : AlW :=
  (He.obsD fa fn K, ((((namesW en K && ks.all fun x => kitsB K x) && di.all fun d => d.ok K file) && (wB K && mt.all fun d => d.ok K)), (di.map fun d => iniW K d, mt.map fun d => mtW K d)))
def valW (fn : List He.DefD) (di : List IniD) (mt : List MtT) : AlW := (He.valD fn, (true, (di.map IniD.val, mt.map MtT.val)))
def SaysW (fa : List He.Fa) (fn : List He.DefD) (file : Str) (di : List IniD) (ks en : List Str) (mt : List MtT) (K : PySem.W.Frag) : Prop := obsW fa fn file di ks en mt K = valW fn di mt
def propRef (g : Addr → Option Obj) (a : Addr) : List Addr := match g a with
  | some ⟨_, _, .fields vs, _⟩ => a :: (match vs.toList with
    | .ref b :: _ => fnRef g b
    | _ => [])
  | _ => fnRef g a
def asW (g : Addr → Option Obj) (mt : List MtT) : List Addr := (nsRef g mainGlobals "World").flatMap fun a => match g a with
  | some ⟨_, _, .cls cd, _⟩ => a :: cd.ns :: mt.flatMap fun d => (nsRef g cd.ns d.name).flatMap (propRef g)
  | _ => [a]
def asEW (g : Addr → Option Obj) (fn : List He.DefD) (ks en : List Str) (mt : List MtT) : List Addr := (mainGlobals :: cStatics :: (fn.flatMap fun d => (nsRef g mainGlobals d.at_.1).flatMap (fnRef g)) ++ ((("HeldorderError" : Str) :: en).flatMap fun x => (nsRef g mainGlobals x).flatMap (clsRef g)) ++ (if ks.isEmpty then [] else errNames.flatMap (nsRef g mainGlobals))) ++ asW g mt
def obsWG (fa : List He.Fa) (fn : List He.DefD) (file : Str) (di : List IniD) (ks en : List Str) (mt : List MtT) (g : Addr → Option Obj) : AlW := obsW fa fn file di ks en mt (He.frG g (asEW g fn ks en mt))
def hookW (fa : List He.Fa) (fn : List He.DefD) (file : Str) (di : List IniD) (ks en : List Str) (mt : List MtT) : PySem.W.Hook where
  α := AlW
  obs := fun s => obsWG fa fn file di ks en mt s.heap.get?
  val := fun _ => valW fn di mt
  says := fun _ h => ∃ K : PySem.W.Frag, K.In h ∧ SaysW fa fn file di ks en mt K
  of := fun _ _ e => ⟨_, He.frG_in, e⟩
  keeps := fun _ _ _ ⟨K, hK, c⟩ k => ⟨K, PySem.W.Frag.In.keeps hK k, c⟩
theorem obsWG_eq {fa : List He.Fa} {fn : List He.DefD} {file : Str} {di : List IniD} {ks en : List Str} {mt : List MtT} {g : Addr → Option Obj} {s : Shared} (h : ∀ a, g a = s.heap.get? a) : obsWG fa fn file di ks en mt g = (hookW fa fn file di ks en mt).obs s := by
  have e : g = s.heap.get? := funext h
  rw [e] <;> rfl
section
variable {fa : List He.Fa} {fn : List He.DefD} {file : Str} {di : List IniD} {ks en : List Str} {mt : List MtT} {K : PySem.W.Frag} {h : Heap} {mg : Str → Option Value}
theorem SaysW.d (c : SaysW fa fn file di ks en mt K) : He.SaysD fa fn K := congrArg (fun z : AlW => z.1) c
theorem SaysW.b (c : SaysW fa fn file di ks en mt K) : ((namesW en K && ks.all fun x => kitsB K x) && di.all fun d => d.ok K file) = true ∧ (wB K && mt.all fun d => d.ok K) = true := andB (show ((((namesW en K && ks.all fun x => kitsB K x) && di.all fun d => d.ok K file) && (wB K && mt.all fun d => d.ok K))) = true from congrArg (fun z : AlW => z.2.1) c)
theorem SaysW.names (c : SaysW fa fn file di ks en mt K) : namesW en K = true := (andB (andB c.b.1).1).1
theorem SaysW.kit (c : SaysW fa fn file di ks en mt K) {x : Str} (hx : x ∈ ks) : kitsB K x = true := List.all_eq_true.mp (andB (andB c.b.1).1).2 x hx
theorem SaysW.gH (c : SaysW fa fn file di ks en mt K) (X : K.In h) (G : h.Ns mainGlobals mg) : mg "HeldorderError" = some (.ref (He.ga K "HeldorderError")) := PySem.W.mg_of X G (He.eqO_ok (andB (andB c.names).2).1)
theorem SaysW.g (c : SaysW fa fn file di ks en mt K) (X : K.In h) (G : h.Ns mainGlobals mg) (x : Str) (hx : x ∈ en) : mg x = some (.ref (He.ga K x)) := PySem.W.mg_of X G (He.eqO_ok (List.all_eq_true.mp (andB (andB c.names).2).2 x hx))
theorem SaysW.exm (c : SaysW fa fn file di ks en mt K) {x : Str} (hx : x ∈ ks) : PySem.W.exmOne K (.ref (He.ga K x)) (.ref (He.ga K "HeldorderError")) = some true := of_decide_eq_true (andB (andB (andB (c.kit hx)).2).2).1
theorem SaysW.ini (c : SaysW fa fn file di ks en mt K) (i : Nat) {d : IniD} (hd : di[i]? = some d) : iniW K d = d.val ∧ d.ok K file = true := by
  have e : di.map (fun d => iniW K d) = di.map IniD.val := congrArg (fun z : AlW => z.2.2.1) c
  have e2 : (di.map fun d => iniW K d)[i]? = (di.map IniD.val)[i]? := by rw [e]
  rw [List.getElem?_map, List.getElem?_map, hd] at e2
  exact ⟨Option.some.inj e2, List.all_eq_true.mp (andB c.b.1).2 d (List.mem_of_getElem? hd)⟩
theorem SaysW.meth (c : SaysW fa fn file di ks en mt K) (i : Nat) {d : MtT} (hd : mt[i]? = some d) : mtW K d = d.val ∧ d.ok K = true := by
  have e : mt.map (fun d => mtW K d) = mt.map MtT.val := congrArg (fun z : AlW => z.2.2.2) c
  have e2 : (mt.map fun d => mtW K d)[i]? = (mt.map MtT.val)[i]? := by rw [e]
  rw [List.getElem?_map, List.getElem?_map, hd] at e2
  exact ⟨Option.some.inj e2, List.all_eq_true.mp (andB c.b.2).2 d (List.mem_of_getElem? hd)⟩
theorem SaysW.wcls (c : SaysW fa fn file di ks en mt K) (X : K.In h) (G : h.Ns mainGlobals mg) : WCls K mg := wB_ok X G (andB c.b.2).1
theorem SaysW.erN (c : SaysW fa fn file di ks en mt K) (X : K.In h) (G : h.Ns mainGlobals mg) (hV : mg "ValueError" = none) (hen : ∀ x ∈ errNames, x ∈ en) {i : Nat} {d : IniD} (hd : di[i]? = some d) (hx : d.cls ∈ ks) : ErN K mg d.cls := by
  have k := c.kit hx
  obtain ⟨k1, k⟩ := andB k
  obtain ⟨k2, k⟩ := andB k
  obtain ⟨k3, k4⟩ := andB k
  obtain ⟨_, o⟩ := c.ini i hd
  exact ⟨fun x h => c.g X G x (hen x h), c.gH X G, hV, fun x hx => of_decide_eq_true (List.all_eq_true.mp k4 x hx), of_decide_eq_true k1, of_decide_eq_true k2, excCB_ok (andB (andB (andB (andB o).2).2).2).1⟩
theorem SaysW.sup {P : Program} (c : SaysW fa fn file di ks en mt K) (hfile : P.main.file = file) (htop : (P.main.scope.names.lookup ("super" : Str)).isSome = false) (hsu : mg "super" = none) {i : Nat} {d : IniD} (hd : di[i]? = some d) {ps : List Str}
    (hb : ∀ (kV doc pm : Value) (an : Option Addr) (cdv ct : Value) (cc : Addr) (us : List Value), us.length = ps.length → bindArgs (PySem.W.ksFn "__init__" d.qual d.params d.body d.scope .none kV doc pm an cdv ct cc) ⟨us, []⟩ = pure (ps.zip us)) :
    ∃ cc cda fd, SupTxt P K mg (He.ga K d.cls) (iniAd K d) cc cda "__init__" d.qual d.params d.body d.scope fd ∧ Binds K fd ps [] ∧ PySem.W.findIn K (.ref (He.ga K d.cls)) "__init__" = some (some (.ref (iniAd K d))) ∧ PySem.W.typeIn K (.ref (iniAd K d)) = some (.type "function") ∧
      OexC K (He.ga K d.cls) ∧ XfC K (He.ga K d.cls) ∧ ExcC K (He.ga K d.cls) ∧ ∀ f ∈ d.flds, PySem.W.findIn K (.ref (He.ga K d.cls)) f = some none := by
  obtain ⟨e, o⟩ := c.ini i hd
  exact sup_of e o (andB c.names).1 hfile htop hsu hb
end

/-! ## T1 -/
def topS (i : Nat) : Stmt := PySem.Challenge.pw_heldorder_k10_world_as_collection.main.body.getD i (.Pass ⟨0, 0, 0, 0⟩)
local macro_rules | `(tactic| walk_at "wp") => `(tactic| (try simp only [a_var, a_c, a_op, a_un, a_test, a_b, a_and, a_or, a_not, a_andV, a_orV, a_notV, a_if, a_next, a_seq, a_break, a_cont, a_drop, a_ret, a_retN, a_ifS, a_asg, a_name, a_sub, a_nil, a_cons, a_tup, a_lst, a_call, a_cb, a_bm0, a_bm, a_sl, a_nopart, a_part, a_aug, b_rI, b_rI0, b_rU, b_eq, b_ne, b_isTF, b_int, b_intb, b_list, b_tuple, b_ix, b_len, b_setL, b_app, b_pop, b_popAt, b_sl, b_rep, b_cat, b_lstRg, b_tupRg, b_rg1, b_rg2, a_forR, a_forR2, a_forS, b_fsq, a_lcR, a_lcR2, a_lcS, b_csq, wipe_nil, wipe_cons, a_yes, wh_i, wh_s, wh_b, wh_r, wh_n, Bool.not_eq_true, eq_self, not_true_eq_false, not_false_eq_true, b_isi, kb_all, ty_non, ty_bl, ty_int, ty_str, a_m1, b_ixS, b_slS, List.cons.injEq, and_assoc, exists_and_left, cxK, List.getElem?_cons_zero, List.getElem?_cons_succ, List.set_cons_zero, List.set_cons_succ, Option.some.injEq, exists_eq_left', exists_eq_left, V.bl.injEq, V.int.injEq, V.ref.injEq, V.str.injEq, HO.lst.injEq, HO.tup.injEq, decide_eq_true_eq, true_and, and_true, L2.start, List.map_cons, List.map_nil, List.length_cons, List.length_nil, Nat.zero_add, Nat.reduceAdd, Nat.reduceSub, List.replicate_succ, List.replicate_zero, List.cons_append, List.nil_append, if_true, if_false, Bool.false_eq_true, Bool.not_true, Bool.not_false, decide_not, Bool.not_eq_true', decide_eq_false_iff_not, scal_ii, scal_bb, scal_ss, scal_is, scal_si, reduceCtorEq, Bool.true_eq_false, decide_false, decide_true, if_pos, ne_eq, Int.reduceNeg, atI_0, atI_1, atI_2, atI_3, atI_4, atI_5, atI_6, ixN_7, b_ins, a_revL, b_isT, V.ty.injEq, Bool.true_or, Bool.or_true, Bool.false_or, Bool.or_false, Bool.or_self, b_sorted, b_repT]))
local macro_rules | `(tactic| walk_at "wps") => `(tactic| (try simp only [a_var, a_c, a_op, a_un, a_test, a_b, a_and, a_or, a_not, a_andV, a_orV, a_notV, a_if, a_next, a_seq, a_break, a_cont, a_drop, a_ret, a_retN, a_ifS, a_asg, a_name, a_sub, a_nil, a_cons, a_tup, a_lst, a_call, a_cb, a_bm0, a_bm, a_sl, a_nopart, a_part, a_aug, b_rI, b_rI0, b_rU, b_eq, b_ne, b_isTF, b_int, b_intb, b_list, b_tuple, b_ix, b_len, b_setL, b_app, b_pop, b_popAt, b_sl, b_rep, b_cat, b_lstRg, b_tupRg, b_rg1, b_rg2, a_forR, a_forR2, a_forS, b_fsq, a_lcR, a_lcR2, a_lcS, b_csq, wipe_nil, wipe_cons, a_yes, wh_i, wh_s, wh_b, wh_r, wh_n, Bool.not_eq_true, eq_self, not_true_eq_false, not_false_eq_true, b_isi, kb_all, ty_non, ty_bl, ty_int, ty_str, a_m1, b_ixS, b_slS, List.cons.injEq, and_assoc, exists_and_left, cxK, List.getElem?_cons_zero, List.getElem?_cons_succ, List.set_cons_zero, List.set_cons_succ, Option.some.injEq, exists_eq_left', exists_eq_left, V.bl.injEq, V.int.injEq, V.ref.injEq, V.str.injEq, HO.lst.injEq, HO.tup.injEq, decide_eq_true_eq, true_and, and_true, L2.start, List.map_cons, List.map_nil, List.length_cons, List.length_nil, Nat.zero_add, Nat.reduceAdd, Nat.reduceSub, List.replicate_succ, List.replicate_zero, List.cons_append, List.nil_append, if_true, if_false, Bool.false_eq_true, Bool.not_true, Bool.not_false, decide_not, Bool.not_eq_true', decide_eq_false_iff_not, scal_ii, scal_bb, scal_ss, scal_is, scal_si, reduceCtorEq, Bool.true_eq_false, decide_false, decide_true, if_pos, ne_eq, Int.reduceNeg, atI_0, atI_1, atI_2, atI_3, atI_4, atI_5, atI_6, ixN_7, b_ins, a_revL, b_isT, V.ty.injEq, Bool.true_or, Bool.or_true, Bool.false_or, Bool.or_false, Bool.or_self, b_sorted, b_repT, *]))
local macro_rules | `(tactic| walk_at "wq") => `(tactic| (try simp only [a_var, a_c, a_op, a_un, a_test, a_b, a_and, a_or, a_not, a_andV, a_orV, a_notV, a_if, a_next, a_break, a_cont, a_drop, a_ret, a_retN, a_ifS, a_asg, a_name, a_sub, a_nil, a_cons, a_tup, a_lst, a_call, a_cb, a_bm0, a_bm, a_sl, a_nopart, a_part, a_aug, b_rI, b_rI0, b_rU, b_eq, b_ne, b_isTF, b_int, b_intb, b_list, b_tuple, b_ix, b_len, b_setL, b_app, b_pop, b_popAt, b_sl, b_rep, b_cat, b_lstRg, b_tupRg, b_rg1, b_rg2, a_forR, a_forR2, a_forS, b_fsq, a_lcR, a_lcR2, a_lcS, b_csq, wipe_nil, wipe_cons, a_yes, wh_i, wh_s, wh_b, wh_r, wh_n, Bool.not_eq_true, eq_self, not_true_eq_false, not_false_eq_true, b_isi, kb_all, ty_non, ty_bl, ty_int, ty_str, a_m1, b_ixS, b_slS, List.cons.injEq, and_assoc, exists_and_left, cxK, List.getElem?_cons_zero, List.getElem?_cons_succ, List.set_cons_zero, List.set_cons_succ, Option.some.injEq, exists_eq_left', exists_eq_left, V.bl.injEq, V.int.injEq, V.ref.injEq, V.str.injEq, HO.lst.injEq, HO.tup.injEq, decide_eq_true_eq, true_and, and_true, L2.start, List.map_cons, List.map_nil, List.length_cons, List.length_nil, Nat.zero_add, Nat.reduceAdd, Nat.reduceSub, List.replicate_succ, List.replicate_zero, List.cons_append, List.nil_append, if_true, if_false, Bool.false_eq_true, Bool.not_true, Bool.not_false, decide_not, Bool.not_eq_true', decide_eq_false_iff_not, scal_ii, scal_bb, scal_ss, scal_is, scal_si, reduceCtorEq, Bool.true_eq_false, decide_false, decide_true, if_pos, ne_eq, Int.reduceNeg, atI_0, atI_1, atI_2, atI_3, atI_4, atI_5, atI_6, ixN_7, b_ins, a_revL, b_isT, V.ty.injEq, Bool.true_or, Bool.or_true, Bool.false_or, Bool.or_false, Bool.or_self, b_sorted, b_repT, *]))
local macro_rules | `(tactic| walk_at "wn") => `(tactic| (try simp only [a_var, a_c, a_op, a_un, a_test, a_b, a_and, a_or, a_not, a_andV, a_orV, a_notV, a_if, a_next, a_break, a_cont, a_drop, a_ret, a_retN, a_ifS, a_asg, a_name, a_sub, a_nil, a_cons, a_tup, a_lst, a_call, a_cb, a_bm0, a_bm, a_sl, a_nopart, a_part, a_aug, b_rI, b_rI0, b_rU, b_eq, b_ne, b_isTF, b_int, b_intb, b_list, b_tuple, b_ix, b_len, b_setL, b_app, b_pop, b_popAt, b_sl, b_rep, b_cat, b_lstRg, b_tupRg, b_rg1, b_rg2, a_forR, a_forR2, a_forS, b_fsq, a_lcR, a_lcR2, a_lcS, b_csq, wipe_nil, wipe_cons, a_yes, wh_i, wh_s, wh_b, wh_r, wh_n, Bool.not_eq_true, eq_self, not_true_eq_false, not_false_eq_true, b_isi, kb_all, ty_non, ty_bl, ty_int, ty_str, a_m1, b_ixS, b_slS, List.cons.injEq, and_assoc, exists_and_left, cxK, List.getElem?_cons_zero, List.getElem?_cons_succ, List.set_cons_zero, List.set_cons_succ, Option.some.injEq, exists_eq_left', exists_eq_left, V.bl.injEq, V.int.injEq, V.ref.injEq, V.str.injEq, HO.lst.injEq, HO.tup.injEq, decide_eq_true_eq, true_and, and_true, L2.start, List.map_cons, List.map_nil, List.length_cons, List.length_nil, Nat.zero_add, Nat.reduceAdd, Nat.reduceSub, List.replicate_succ, List.replicate_zero, List.cons_append, List.nil_append, if_true, if_false, Bool.false_eq_true, Bool.not_true, Bool.not_false, decide_not, Bool.not_eq_true', decide_eq_false_iff_not, scal_ii, scal_bb, scal_ss, scal_is, scal_si, reduceCtorEq, Bool.true_eq_false, decide_false, decide_true, if_pos, ne_eq, Int.reduceNeg, atI_0, atI_1, atI_2, atI_3, atI_4, atI_5, atI_6, ixN_7, b_ins, a_revL, b_isT, V.ty.injEq, Bool.true_or, Bool.or_true, Bool.false_or, Bool.or_false, Bool.or_self, b_sorted, b_repT]))
local macro_rules | `(tactic| walk_at "sq") => `(tactic| ((try dsimp only); rw [a_seq]; walk_at "wq"))

section
variable {P : Program} {w : World} {K : PySem.W.Frag} {mg : Str → Option Value} {base : Heap}

def sp_mixed : Sp := fun vs H Q _ => ∃ a b : Int, vs = [.int a, .int b] ∧ ∀ r, Q (.int r) H
abbrev st_law_mixed : Stmt := topS 27
theorem sc_law_mixed : FnScope ["seed", "turn", "first", "second"] ["seed", "turn"] (defScope st_law_mixed) := ⟨rfl, rfl, rfl, by decide +kernel, rfl, by decide +kernel, by decide +kernel⟩
theorem ok_law_mixed (D : Df K mg "_law_mixed" st_law_mixed) (T : NoB mg)  : Cl P w K mg base 1 "_law_mixed" ["seed", "turn"] sp_mixed := by
  refine cl_of D sc_law_mixed (fun _ _ _ _ _ _ us hl => match us, hl with | [_, _], _ => rfl) (fun vs H Q E h => ?_) (fun f cdv A outer sh H vs Q E hr h => ?_)
  · obtain ⟨_, _, rfl, _⟩ := h; rfl
  obtain ⟨a, b, rfl, k⟩ := h
  refine ⟨_, (pss_cons (ps_set (i := 2) sc_law_mixed.nd rfl (Or.inl rfl) (pe_op op_modN (pe_callTy int1 (by rfl) T.no_int (by decide +kernel) (pa_cons (pe_op op_add (pe_op op_add (pe_op op_mul (pv 0) pe_int) (pe_op op_mul (pv 1) pe_int)) pe_int) pa_nil)) pe_int))
    (pss_cons (ps_set (i := 3) sc_law_mixed.nd rfl (Or.inl rfl) (pe_op op_modN (pe_callTy int1 (by rfl) T.no_int (by decide +kernel) (pa_cons (pe_op op_add (pe_op op_add (pe_op op_mul (pv 2) (pv 2)) (pe_op op_mul (pv 0) pe_int)) (pv 1)) pa_nil)) pe_int))
    (pss_one (ps_ret (pe_op op_modN (pe_callTy int1 (by rfl) T.no_int (by decide +kernel) (pa_cons (pe_op op_add (pe_op op_mul (pv 3) (pv 3)) (pv 2)) pa_nil)) pe_int))))), ?_⟩
  walk_at "wp"
  exact ⟨cm_lit (by decide), cm_lit (by decide), by decide, cm_fm (by decide) (by decide), cm_lit (by decide), by decide, cm_fm (by decide) (by decide), by decide, k _⟩

def sp_take : Sp := fun vs H Q _ => ∃ (s l : Addr) (n : Int), vs = [.ref s, .int n] ∧ n < 2 ^ 62 ∧ Sto s l H ∧ ∀ r H', Ge s l H H' → 0 ≤ r → (2 ≤ n → r < n) → (n < 2 → r = 0) → Q (.int r) H'

abbrev st_law_take : Stmt := topS 28
theorem sc_law_take : FnScope ["store", "many", "cell", "digit"] ["store", "many"] (defScope st_law_take) := ⟨rfl, rfl, rfl, by decide +kernel, rfl, by decide +kernel, by decide +kernel⟩
theorem ok_law_take (D : Df K mg "_law_take" st_law_take) (T : NoB mg) (C_law_mixed : Cl P w K mg base 1 "_law_mixed" ["seed", "turn"] sp_mixed) : Cl P w K mg base 2 "_law_take" ["store", "many"] sp_take := by
  refine cl_of D sc_law_take (fun _ _ _ _ _ _ us hl => match us, hl with | [_, _], _ => rfl) (fun vs H Q E h => ?_) (fun f cdv A outer sh H vs Q E hr h => ?_)
  · obtain ⟨_, _, _, rfl, _⟩ := h; rfl
  obtain ⟨a, l, n, rfl, hn, ⟨ns, i1, i2, i3, i4, i5, i6, hs, hl, ne, h1⟩, k⟩ := h
  refine ⟨_, (pss_cons (ps_if (pt_cmpR op_lt (pv 1) pe_int (nomark _)) (pss_one (ps_ret pe_int)) pss_nil)
    (pss_cons (ps_if (PW.pt (pw_and (pt_cmpR op_lt (pe_ix ix1 (pv 0) pe_int (fun _ _ => rfl)) pe_int (nomark _)) (pw_and (pt_cmpR op_eq (pe_ix ix1 (pv 0) pe_int (fun _ _ => rfl)) pe_int (nomark _)) (pw_and1 (pt_cmpR op_lt (pe_ix ix1 (pv 0) pe_int (fun _ _ => rfl)) (pe_callB len1 (by rfl) T.no_len (by decide +kernel) (pa_cons (pe_ix ix1 (pv 0) pe_int (fun _ _ => rfl)) pa_nil)) (nomark _)))))) (pss_cons (ps_set (i := 2) sc_law_take.nd rfl (Or.inl rfl) (pe_ix ix1 (pe_ix ix1 (pv 0) pe_int (fun _ _ => rfl)) (pe_ix ix1 (pv 0) pe_int (fun _ _ => rfl)) (fun _ _ => rfl)))
    (pss_cons (ps_asg (pe_op op_add (pe_ix ix1 (pv 0) pe_int (fun _ _ => rfl)) pe_int) (pg_sub (pv 0) pe_int set_list))
    (pss_cons (ps_asg (pe_op op_modN (pe_callTy int1 (by rfl) T.no_int (by decide +kernel) (pa_cons (pe_op op_add (pe_op op_add (pe_op op_mul (pe_ix ix1 (pv 0) pe_int (fun _ _ => rfl)) pe_int) (pe_op op_modN (pe_callTy int1 (by rfl) T.no_int (by decide +kernel) (pa_cons (pv 2) pa_nil)) pe_int)) pe_int) pa_nil)) pe_int) (pg_sub (pv 0) pe_int set_list))
    (pss_one (ps_if (pt_cmpR op_ge (pv 2) (pe_op op_pow pe_int pe_int) (nomark _)) (pss_one (ps_asg (pv 2) (pg_sub (pv 0) pe_int set_list))) (pss_cons (ps_asg pe_int (pg_sub (pv 0) pe_int set_list))
    (pss_one (ps_asg (pe_op op_modN (pe_callTy int1 (by rfl) T.no_int (by decide +kernel) (pa_cons (pv 2) pa_nil)) pe_int) (pg_sub (pv 0) pe_int set_list))))))))) pss_nil)
    (pss_cons (ps_if (pt_cmpR op_ge (pe_ix ix1 (pv 0) pe_int (fun _ _ => rfl)) pe_int (nomark _)) (pss_cons (ps_set (i := 3) sc_law_take.nd rfl (Or.inl rfl) (pe_op op_modN (pe_callTy int1 (by rfl) T.no_int (by decide +kernel) (pa_cons (pe_ix ix1 (pv 0) pe_int (fun _ _ => rfl)) pa_nil)) (pv 1)))
    (pss_cons (ps_asg (pe_op op_fdivW (pe_ix ix1 (pv 0) pe_int (fun _ _ => rfl)) (pv 1)) (pg_sub (pv 0) pe_int set_list))
    (pss_one (ps_ret (pv 3))))) pss_nil)
    (pss_cons (ps_asg (pe_op op_add (pe_ix ix1 (pv 0) pe_int (fun _ _ => rfl)) pe_int) (pg_sub (pv 0) pe_int set_list))
    (pss_cons (ps_if (pt_cmpR op_gt (pe_ix ix1 (pv 0) pe_int (fun _ _ => rfl)) pe_int (nomark _)) (pss_cons (ps_asg (pe_op op_sub (pe_ix ix1 (pv 0) pe_int (fun _ _ => rfl)) pe_int) (pg_sub (pv 0) pe_int set_list))
    (pss_one (ps_ret (pe_op op_modN (pe_callTy int1 (by rfl) T.no_int (by decide +kernel) (pa_cons (pe_cl C_law_mixed hr (by rfl) (pa_cons (pe_ix ix1 (pv 0) pe_int (fun _ _ => rfl)) (pa_cons (pe_ix ix1 (pv 0) pe_int (fun _ _ => rfl)) pa_nil))) pa_nil)) (pv 1))))) pss_nil)
    (pss_one (ps_ret (pe_op op_modN (pe_callTy int1 (by rfl) T.no_int (by decide +kernel) (pa_cons (pe_cl C_law_mixed hr (by rfl) (pa_cons (pe_ix ix1 (pv 0) pe_int (fun _ _ => rfl)) (pa_cons (pe_ix ix1 (pv 0) pe_int (fun _ _ => rfl)) pa_nil))) pa_nil)) (pv 1))))))))), ?_⟩
  have hq := sq_l hs
  have hql := sq_l hl
  rw [a_seq]
  walk_at "wq"
  split
  · exact k 0 H ⟨Kp.refl, _, _, _, _, _, _, _, hs, hl, ne, h1⟩ (Int.le_refl _) (by omega) (fun _ => rfl)
  refine seq_join (fun σ H' => ∃ (v : Option V) (i1 i2 i3 i4 i5 i6 : Int), σ = [some (.ref a), some (.int n), v, none] ∧ Kp a H H' ∧ H' l = some (.lst (ns.map V.int)) ∧ 0 ≤ i1 ∧ H' a = some (.lst [.ref l, .int i1, .int i2, .int i3, .int i4, .int i5, .int i6])) (fun N hN => ?_) ?_
  · have out : N [some (V.ref a), some (V.int n), none, none] H := hN _ _ ⟨none, _, _, _, _, _, _, rfl, Kp.refl, hl, h1, hs⟩
    walk_at "wps"
    split
    · split
      · split
        · rename_i g1 g2 g3
          have g4 : i1.toNat < ns.length := by rw [List.length_map] at g3; omega
          refine ⟨.int ns[i1.toNat], atI_of h1 (by simp [g4]), fun H3 n3 => ?_⟩
          have hs3 := n3.at_
          have hq3 := sq_l n3.at_
          have hl3 := n3.k ne hl
          clear out
          walk_at "wps"
          refine ⟨cm_lit (by decide), by decide, by decide, fun H4 n4 => ?_⟩
          have hs4 := n4.at_
          have hl4 := n4.k ne hl3
          walk_at "wps"
          refine ⟨⟨by decide, by decide, by decide⟩, ?_⟩
          split
          · refine fun H5 n5 => hN _ _ ⟨_, _, _, _, _, _, _, rfl, ((Kp.put n3).trans (Kp.put n4)).trans (Kp.put n5), n5.k ne hl4, by omega, n5.at_⟩
          · refine fun H5 n5 => ?_
            have hs5 := n5.at_
            have hl5 := n5.k ne hl4
            walk_at "wps"
            refine ⟨by decide, fun H6 n6 => ?_⟩
            exact hN _ _ ⟨_, _, _, _, _, _, _, rfl, (((Kp.put n3).trans (Kp.put n4)).trans (Kp.put n5)).trans (Kp.put n6), n6.k ne hl5, by omega, n6.at_⟩
        · trivial
      · trivial
    · trivial
  · clear hs hq hql hl h1 i1 i2 i3 i4 i5 i6
    rintro _ H1 ⟨v, i1, i2, i3, i4, i5, i6, rfl, kp, hl, h1, hs⟩
    have hq := sq_l hs
    rw [a_seq]
    walk_at "wq"
    have hn2 : 0 < n := by omega
    split
    · rw [a_seq]
      walk_at "wps"
      refine ⟨by omega, ⟨hn2, ?_⟩, fun H2 n2 => ?_⟩
      · exact Nat.lt_trans (PySem.Flt.log2_lt_of (n := n.natAbs) (k := 62) (by decide) (by omega)) (by decide)
      · exact k _ H2 ⟨kp.trans (Kp.put n2), Sto.put hl ne n2 h1⟩ (fm_bound hn2).1 (fun _ => (fm_bound hn2).2) (fun z => by omega)
    · rw [a_seq]
      walk_at "wq"
      intro H2 n2
      try dsimp only
      have hs2 := n2.at_
      have hq2 := sq_l n2.at_
      have hl2 := n2.k ne hl
      rw [a_seq]
      walk_at "wq"
      split
      · rw [a_seq]
        walk_at "wq"
        intro H3 n3
        try dsimp only
        have hs3 := n3.at_
        have hq3 := sq_l n3.at_
        have hl3 := n3.k ne hl2
        walk_at "wq"
        refine ⟨_, _, rfl, fun r => ?_⟩
        walk_at "wq"
        exact ⟨by omega, k _ _ ⟨(kp.trans (Kp.put n2)).trans (Kp.put n3), _, _, _, _, _, _, _, hs3, hl3, ne, h1⟩ (fm_bound hn2).1 (fun _ => (fm_bound hn2).2) (fun z => by omega)⟩
      · refine ⟨_, _, rfl, fun r => ?_⟩
        walk_at "wq"
        exact ⟨by omega, k _ _ ⟨kp.trans (Kp.put n2), _, _, _, _, _, _, _, hs2, hl2, ne, h1⟩ (fm_bound hn2).1 (fun _ => (fm_bound hn2).2) (fun z => by omega)⟩
end

/-! ## HR -/
/-! ### the head -/
def d_shown : He.DefD := ⟨("shown", none), "shown", "shown", defArgs (topS 4), defBody (topS 4), defScope (topS 4), [], []⟩
def d_is_whole_moves : He.DefD := ⟨("is_whole_moves", none), "is_whole", "is_whole", defArgs (topS 10), defBody (topS 10), defScope (topS 10), [], []⟩
def d_is_move : He.DefD := ⟨("is_move", none), "is_move", "is_move", defArgs (topS 12), defBody (topS 12), defScope (topS 12), [], []⟩
def d_check_number : He.DefD := ⟨("check_number", none), "check_number", "check_number", defArgs (topS 13), defBody (topS 13), defScope (topS 13), [], []⟩
def d_check_points : He.DefD := ⟨("check_points", none), "check_points", "check_points", defArgs (topS 14), defBody (topS 14), defScope (topS 14), [], []⟩
def d_still_move : He.DefD := ⟨("still_move", none), "still_move", "still_move", defArgs (topS 15), defBody (topS 15), defScope (topS 15), [], []⟩
def d_is_whole_worlds : He.DefD := ⟨("is_whole_worlds", none), "is_whole", "is_whole", defArgs (topS 17), defBody (topS 17), defScope (topS 17), [], []⟩
def d_is_move_on : He.DefD := ⟨("is_move_on", none), "is_move_on", "is_move_on", defArgs (topS 19), defBody (topS 19), defScope (topS 19), [], []⟩
def d_need_points : He.DefD := ⟨("need_points", none), "need_points", "need_points", defArgs (topS 20), defBody (topS 20), defScope (topS 20), [], []⟩
def d_need_moves : He.DefD := ⟨("need_moves", none), "need_moves", "need_moves", defArgs (topS 21), defBody (topS 21), defScope (topS 21), [], []⟩
def d_moved_row : He.DefD := ⟨("moved_row", none), "moved_row", "moved_row", defArgs (topS 22), defBody (topS 22), defScope (topS 22), [], []⟩
def d_generated : He.DefD := ⟨("generated", none), "generated", "generated", defArgs (topS 23), defBody (topS 23), defScope (topS 23), [], []⟩
def d_law_store : He.DefD := ⟨("_law_store", none), "_law_store", "_law_store", defArgs (topS 26), defBody (topS 26), defScope (topS 26), [], []⟩
def d_law_mixed : He.DefD := ⟨("_law_mixed", none), "_law_mixed", "_law_mixed", defArgs (topS 27), defBody (topS 27), defScope (topS 27), [], []⟩
def d_law_take : He.DefD := ⟨("_law_take", none), "_law_take", "_law_take", defArgs (topS 28), defBody (topS 28), defScope (topS 28), [], []⟩
def d_law_pick : He.DefD := ⟨("_law_pick", none), "_law_pick", "_law_pick", defArgs (topS 29), defBody (topS 29), defScope (topS 29), [], []⟩
def d_law_place : He.DefD := ⟨("_law_place", none), "_law_place", "_law_place", defArgs (topS 30), defBody (topS 30), defScope (topS 30), [], []⟩
def d_law_drawn : He.DefD := ⟨("_law_drawn", none), "_law_drawn", "_law_drawn", defArgs (topS 31), defBody (topS 31), defScope (topS 31), [], []⟩
def d_law_either : He.DefD := ⟨("_law_either", none), "_law_either", "_law_either", defArgs (topS 32), defBody (topS 32), defScope (topS 32), [], []⟩
def d_law_whole : He.DefD := ⟨("_law_whole", none), "_law_whole", "_law_whole", defArgs (topS 33), defBody (topS 33), defScope (topS 33), [], []⟩
def d_law_sign : He.DefD := ⟨("_law_sign", none), "_law_sign", "_law_sign", defArgs (topS 34), defBody (topS 34), defScope (topS 34), [], []⟩
def d_law_text : He.DefD := ⟨("_law_text", none), "_law_text", "_law_text", defArgs (topS 35), defBody (topS 35), defScope (topS 35), [], []⟩
def d_law_leaf : He.DefD := ⟨("_law_leaf", none), "_law_leaf", "_law_leaf", defArgs (topS 36), defBody (topS 36), defScope (topS 36), [], []⟩
def d_law_value : He.DefD := ⟨("_law_value", none), "_law_value", "_law_value", defArgs (topS 37), defBody (topS 37), defScope (topS 37), [], []⟩
def d_law_is_whole : He.DefD := ⟨("_law_is_whole", none), "_law_is_whole", "_law_is_whole", defArgs (topS 38), defBody (topS 38), defScope (topS 38), [], []⟩
def d_law_same : He.DefD := ⟨("_law_same", none), "_law_same", "_law_same", defArgs (topS 39), defBody (topS 39), defScope (topS 39), [], []⟩
def d_law_frozen : He.DefD := ⟨("_law_frozen", none), "_law_frozen", "_law_frozen", defArgs (topS 40), defBody (topS 40), defScope (topS 40), [], []⟩
def d_law_after : He.DefD := ⟨("_law_after", none), "_law_after", "_law_after", defArgs (topS 41), defBody (topS 41), defScope (topS 41), [], []⟩
def d_law_renamed : He.DefD := ⟨("_law_renamed", none), "_law_renamed", "_law_renamed", defArgs (topS 42), defBody (topS 42), defScope (topS 42), [], []⟩
def d_law_move : He.DefD := ⟨("_law_move", none), "_law_move", "_law_move", defArgs (topS 43), defBody (topS 43), defScope (topS 43), [], []⟩
def d_law_move_fits : He.DefD := ⟨("_law_move_fits", none), "_law_move_fits", "_law_move_fits", defArgs (topS 44), defBody (topS 44), defScope (topS 44), [], []⟩
def d_law_group : He.DefD := ⟨("_law_group", none), "_law_group", "_law_group", defArgs (topS 45), defBody (topS 45), defScope (topS 45), [], []⟩
def d_law_cut : He.DefD := ⟨("_law_cut", none), "_law_cut", "_law_cut", defArgs (topS 46), defBody (topS 46), defScope (topS 46), [], []⟩
def d_law_block_moves : He.DefD := ⟨("_law_block_moves", none), "_law_block_moves", "_law_block_moves", defArgs (topS 47), defBody (topS 47), defScope (topS 47), [], []⟩
def d_law_some_world : He.DefD := ⟨("_law_some_world", none), "_law_some_world", "_law_some_world", defArgs (topS 48), defBody (topS 48), defScope (topS 48), [], []⟩
def d_law_walks : He.DefD := ⟨("_law_walks", none), "_law_walks", "_law_walks", defArgs (topS 49), defBody (topS 49), defScope (topS 49), [], []⟩
def d_law_member : He.DefD := ⟨("_law_member", none), "_law_member", "_law_member", defArgs (topS 50), defBody (topS 50), defScope (topS 50), [], []⟩
def d_law_asked : He.DefD := ⟨("_law_asked", none), "_law_asked", "_law_asked", defArgs (topS 51), defBody (topS 51), defScope (topS 51), [], []⟩
def d_law_beside : He.DefD := ⟨("_law_beside", none), "_law_beside", "_law_beside", defArgs (topS 52), defBody (topS 52), defScope (topS 52), [], []⟩
def d_law_alike : He.DefD := ⟨("_law_alike", none), "_law_alike", "_law_alike", defArgs (topS 53), defBody (topS 53), defScope (topS 53), [], []⟩
def d_law : He.DefD := ⟨("law", none), "law", "law", defArgs (topS 54), defBody (topS 54), defScope (topS 54), [], []⟩
def di_BadNumber : IniD := ⟨"BadNumber", "BadNumber.__init__", defArgs (clsFn (topS 6) 0), defBody (clsFn (topS 6) 0), defScope (clsFn (topS 6) 0), ["value", "low", "high"]⟩
def di_NotAMove : IniD := ⟨"NotAMove", "NotAMove.__init__", defArgs (clsFn (topS 7) 0), defBody (clsFn (topS 7) 0), defScope (clsFn (topS 7) 0), ["index"]⟩
def di_TooMany : IniD := ⟨"TooMany", "TooMany.__init__", defArgs (clsFn (topS 8) 0), defBody (clsFn (topS 8) 0), defScope (clsFn (topS 8) 0), ["what", "limit"]⟩
def hfn : List He.DefD := [d_shown, d_is_whole_moves, d_is_move, d_check_number, d_check_points, d_still_move, d_is_whole_worlds, d_is_move_on, d_need_points, d_need_moves, d_moved_row, d_generated, d_law_store, d_law_mixed, d_law_take, d_law_pick, d_law_place, d_law_drawn, d_law_either, d_law_whole, d_law_sign, d_law_text, d_law_leaf, d_law_value, d_law_is_whole, d_law_same, d_law_frozen, d_law_after, d_law_renamed, d_law_move, d_law_move_fits, d_law_group, d_law_cut, d_law_block_moves, d_law_some_world, d_law_walks, d_law_member, d_law_asked, d_law_beside, d_law_alike, d_law]
def hdi : List IniD := [di_BadNumber, di_NotAMove, di_TooMany]
def dm_World___init__ : MtT := ⟨0, "__init__", "World.__init__", defArgs (clsFn (topS 24) 0), defBody (clsFn (topS 24) 0), defScope (clsFn (topS 24) 0)⟩
def dm_World_points : MtT := ⟨1, "points", "World.points", defArgs (clsFn (topS 24) 1), defBody (clsFn (topS 24) 1), defScope (clsFn (topS 24) 1)⟩
def dm_World_told : MtT := ⟨1, "told", "World.told", defArgs (clsFn (topS 24) 2), defBody (clsFn (topS 24) 2), defScope (clsFn (topS 24) 2)⟩
def dm_World_made : MtT := ⟨1, "made", "World.made", defArgs (clsFn (topS 24) 3), defBody (clsFn (topS 24) 3), defScope (clsFn (topS 24) 3)⟩
def dm_World___len__ : MtT := ⟨2, "__len__", "World.__len__", defArgs (clsFn (topS 24) 4), defBody (clsFn (topS 24) 4), defScope (clsFn (topS 24) 4)⟩
def dm_World___iter__ : MtT := ⟨2, "__iter__", "World.__iter__", defArgs (clsFn (topS 24) 5), defBody (clsFn (topS 24) 5), defScope (clsFn (topS 24) 5)⟩
def dm_World___contains__ : MtT := ⟨2, "__contains__", "World.__contains__", defArgs (clsFn (topS 24) 6), defBody (clsFn (topS 24) 6), defScope (clsFn (topS 24) 6)⟩
def dm_World___eq__ : MtT := ⟨2, "__eq__", "World.__eq__", defArgs (clsFn (topS 24) 7), defBody (clsFn (topS 24) 7), defScope (clsFn (topS 24) 7)⟩
def hmt : List MtT := [dm_World___init__, dm_World_points, dm_World_told, dm_World_made, dm_World___len__, dm_World___iter__, dm_World___contains__, dm_World___eq__]
def hen : List Str := ["BadNumber", "NotAMove", "TooMany"]
def hks : List Str := []
def hfa : List He.Fa := [.glo "shown", .glo "is_whole_moves", .glo "is_move", .glo "check_number", .glo "check_points", .glo "still_move", .glo "is_whole_worlds", .glo "is_move_on", .glo "need_points", .glo "need_moves", .glo "moved_row", .glo "generated", .glo "_law_store", .glo "_law_mixed", .glo "_law_take", .glo "_law_pick", .glo "_law_place", .glo "_law_drawn", .glo "_law_either", .glo "_law_whole", .glo "_law_sign", .glo "_law_text", .glo "_law_leaf", .glo "_law_value", .glo "_law_is_whole", .glo "_law_same", .glo "_law_frozen", .glo "_law_after", .glo "_law_renamed", .glo "_law_move", .glo "_law_move_fits", .glo "_law_group", .glo "_law_cut", .glo "_law_block_moves", .glo "_law_some_world", .glo "_law_walks", .glo "_law_member", .glo "_law_asked", .glo "_law_beside", .glo "_law_alike", .glo "law", .free "len", .free "int", .free "bool", .free "str", .free "range", .free "isinstance", .free "tuple", .free "list", .free "min", .free "max", .free "sorted", .free "enumerate", .free "sum", .free "any", .free "all", .free "zip", .free "reversed", .free "super", .free "set", .free "dict", .free "ValueError", .free "abs", .free "repr", .free "iter", .int "MOST_POINTS" 12, .int "MOST_TOLD" 8, .int "MOST_MADE" 400]
abbrev hR : PySem.W.OpenRow := PySem.W.OpenLaw.row PySem.Challenge.rw_heldorder_k10_world_as_collection
abbrev hfile : Str := "/claim/cut.py"
abbrev hhk : PySem.W.Hook := hookW hfa hfn hfile hdi hks hen hmt
def hob (s : PySem.W.SharedT) : AlW := obsWG hfa hfn hfile hdi hks hen hmt (HandSHeadRun.getT s)
theorem hob_eq (s : PySem.W.SharedT) : hob s = hhk.obs s.abs := obsWG_eq (HandSHeadRun.getT_eq s)
def hloose : List Str := (["MOST_POINTS", "MOST_TOLD", "MOST_MADE", "shown", "HeldorderError", "BadNumber", "NotAMove", "TooMany", "is_whole", "is_whole_moves", "is_move", "check_number", "check_points", "still_move", "is_whole_worlds", "is_move_on", "need_points", "need_moves", "moved_row", "generated", "World", "_law_store", "_law_mixed", "_law_take", "_law_pick", "_law_place", "_law_drawn", "_law_either", "_law_whole", "_law_sign"] : List Str) ++ (["_law_text", "_law_leaf", "_law_value", "_law_is_whole", "_law_same", "_law_frozen", "_law_after", "_law_renamed", "_law_move", "_law_move_fits", "_law_group", "_law_cut", "_law_block_moves", "_law_some_world", "_law_walks", "_law_member", "_law_asked", "_law_beside", "_law_alike"] : List Str)
open PySem.W PySem.Calls PyProof.Rows HandSHeadRun in
theorem hrunA (w : World) (os : OsState) : (endF (stepQ (denQ tabQ) hR.prog w) 30000 hR.prog w os).map (fun s => (looksF hR.prog (boot_heap w.params) s.abs, seenQ (PySem.W.view hR.prog [54]) hloose (importedModules hR.prog.main.body) (fun s => xlAt (PySem.W.view hR.prog [54]) [] s && recOk hR.toRowW.records s) s.abs)) = some (true, openGood (PySem.W.view hR.prog [54]) hloose) := by kernel_rfl
open PySem.W PySem.Calls PyProof.Rows HandSHeadRun in
theorem hrunB (w : World) (os : OsState) : (endF (stepQ (denQ tabQ) hR.prog w) 30000 hR.prog w os).map (fun s => (hob s).1) = some (hhk.val w).1 := by kernel_rfl
open PySem.W PySem.Calls PyProof.Rows HandSHeadRun in
theorem hrunC (w : World) (os : OsState) : (endF (stepQ (denQ tabQ) hR.prog w) 30000 hR.prog w os).map (fun s => (hob s).2.1) = some (hhk.val w).2.1 := by kernel_rfl
open PySem.W PySem.Calls PyProof.Rows HandSHeadRun in
theorem hrunD (w : World) (os : OsState) : (endF (stepQ (denQ tabQ) hR.prog w) 30000 hR.prog w os).map (fun s => (hob s).2.2) = some (hhk.val w).2.2 := by kernel_rfl
theorem opt4 {α β γ δ ε : Type} {x : Option α} {f : α → β} {g : α → γ × (δ × ε)} {a : β} {b : γ} {c : δ} {d : ε} (h1 : x.map f = some a) (h2 : x.map (fun s => (g s).1) = some b) (h3 : x.map (fun s => (g s).2.1) = some c) (h4 : x.map (fun s => (g s).2.2) = some d) : x.map (fun s => (f s, g s)) = some (a, (b, (c, d))) := by
  cases x with
  | none => cases h1
  | some s =>
    have e1 := Option.some.inj h1
    have e2 := Option.some.inj h2
    have e3 := Option.some.inj h3
    have e4 := Option.some.inj h4
    show some (f s, g s) = _
    subst e1 e2 e3 e4
    rfl
theorem opt3 {α β γ δ : Type} {x : Option α} {f : α → β} {g : α → γ} {h : α → δ} {a : β} {b : γ} {c : δ} (k : x.map (fun s => ((f s, g s), h s)) = some ((a, b), c)) : x.map (fun s => (f s, g s, h s)) = some (a, b, c) := by
  cases x with
  | none => cases k
  | some s =>
    have e := Option.some.inj k
    show some (f s, g s, h s) = _
    simp only [Prod.mk.injEq] at e
    obtain ⟨⟨rfl, rfl⟩, rfl⟩ := e
    rfl
theorem hrun (w : World) : HandSHeadRun.RunEq hR (PySem.W.view hR.prog [54]) hhk hob 30000 hloose w := fun os => opt3 (opt4 (g := hob) (hrunA w os) (hrunB w os) (hrunC w os) (hrunD w os))

/-! ## T2 -/

theorem perm_erase {α : Type} : ∀ {xs : List α} {i : Nat} (h : i < xs.length), xs.Perm (xs[i] :: xs.eraseIdx i)
  | _ :: _, 0, _ => .refl _
  | a :: r, i + 1, h => by
    have e := perm_erase (xs := r) (i := i) (by simpa using h)
    exact (List.Perm.cons a e).trans (.swap ..)
section
variable {P : Program} {w : World} {K : PySem.W.Frag} {mg : Str → Option Value} {base : Heap}
/-! pick -/
def sp_pick : Sp := fun vs H Q _ => ∃ (s l p : Addr) (xs : List V), vs = [.ref s, .ref p] ∧ Sto s l H ∧ p ≠ s ∧ sq H p = some xs ∧ xs ≠ [] ∧ xs.length < 2 ^ 62 ∧ ∀ x H', Ge s l H H' → x ∈ xs → Q x H'
abbrev st_law_pick : Stmt := topS 29
theorem sc_law_pick : FnScope ["store", "things"] ["store", "things"] (defScope st_law_pick) := ⟨rfl, rfl, rfl, by decide +kernel, rfl, by decide +kernel, by decide +kernel⟩
theorem ok_law_pick (D : Df K mg "_law_pick" st_law_pick) (T : NoB mg) (C_law_take : Cl P w K mg base 2 "_law_take" ["store", "many"] sp_take) : Cl P w K mg base 3 "_law_pick" ["store", "things"] sp_pick := by
  refine cl_of D sc_law_pick (fun _ _ _ _ _ _ us hl => match us, hl with | [_, _], _ => rfl) (fun vs H Q E h => ?_) (fun f cdv A outer sh H vs Q E hr h => ?_)
  · obtain ⟨_, _, _, _, rfl, _⟩ := h; rfl
  obtain ⟨s, l, p, xs, rfl, st, ne, hq, hne, hl, k⟩ := h
  refine ⟨_, (pss_one (ps_ret (pe_ix ix1 (pv 1) (pe_cl C_law_take hr (by rfl) (pa_cons (pv 0) (pa_cons (pe_callB len1 (by rfl) T.no_len (by decide +kernel) (pa_cons (pv 1) pa_nil)) pa_nil))) (fun _ _ => rfl)))), ?_⟩
  walk_at "wps"
  refine ⟨s, l, _, rfl, by omega, st, fun r H1 g r0 r1 r2 => ?_⟩
  have hq1 := g.kp.sq ne hq
  walk_at "wps"
  have hp : 0 < xs.length := List.length_pos_iff.mpr hne
  have hr : r.toNat < xs.length := by
    by_cases z : xs.length < 2
    · rw [r2 (by omega)]; exact hp
    · have := r1 (by omega); omega
  exact ⟨xs[r.toNat], atI_of r0 (by simp [hr]), k _ _ g (List.getElem_mem hr)⟩
/-! place -/
def sp_place : Sp := fun vs H Q _ => ∃ (s l : Addr) (n : Int), vs = [.ref s, .int n] ∧ Sto s l H ∧ 1 ≤ n ∧ n < 2 ^ 62 ∧ ∀ r H', Ge s l H H' → 0 ≤ r → r < n → Q (.int r) H'
abbrev st_law_place : Stmt := topS 30
theorem sc_law_place : FnScope ["store", "size", "pick"] ["store", "size"] (defScope st_law_place) := ⟨rfl, rfl, rfl, by decide +kernel, rfl, by decide +kernel, by decide +kernel⟩
theorem ok_law_place (D : Df K mg "_law_place" st_law_place) (T : NoB mg) (C_law_take : Cl P w K mg base 2 "_law_take" ["store", "many"] sp_take) : Cl P w K mg base 3 "_law_place" ["store", "size"] sp_place := by
  refine cl_of D sc_law_place (fun _ _ _ _ _ _ us hl => match us, hl with | [_, _], _ => rfl) (fun vs H Q E h => ?_) (fun f cdv A outer sh H vs Q E hr h => ?_)
  · obtain ⟨_, _, _, rfl, _⟩ := h; rfl
  obtain ⟨s, l, n, rfl, st, hn1, hn2, k⟩ := h
  refine ⟨_, (pss_cons (ps_set (i := 2) sc_law_place.nd rfl (Or.inl rfl) (pe_cl C_law_take hr (by rfl) (pa_cons (pv 0) (pa_cons pe_int pa_nil))))
    (pss_cons (ps_if (pt_cmpR op_eq (pv 2) pe_int (nomark _)) (pss_one (ps_ret pe_int)) pss_nil)
    (pss_cons (ps_if (pt_cmpR op_eq (pv 2) pe_int (nomark _)) (pss_one (ps_ret (pe_op op_sub (pv 1) pe_int))) pss_nil)
    (pss_one (ps_ret (pe_cl C_law_take hr (by rfl) (pa_cons (pv 0) (pa_cons (pv 1) pa_nil)))))))), ?_⟩
  walk_at "wps"
  refine ⟨s, l, _, rfl, by decide, st, fun r H1 g r0 r1 r2 => ?_⟩
  walk_at "wps"
  split
  · exact k _ _ g (by omega) (by omega)
  · split
    · exact k _ _ g (by omega) (by omega)
    · refine ⟨s, l, _, rfl, hn2, g.st, fun r' H2 g2 q0 q1 q2 => k _ _ (g.trans g2) q0 ?_⟩
      by_cases z : n < 2
      · rw [q2 z]; omega
      · exact q1 (by omega)
/-! drawn -/
def sp_drawn : Sp := fun vs H Q _ => ∃ (s l p : Addr) (xs : List V) (n : Int), vs = [.ref s, .ref p, .int n] ∧ Sto s l H ∧ sq H p = some xs ∧ xs.length ≤ 1000 ∧ -(2 ^ 62) ≤ n ∧
  ∀ q H' ys rest, Ge s l H H' → H q = none → H' q = some (.lst ys) → (ys ++ rest).Perm xs → ys.length = (if (xs.length : Int) < n then (xs.length : Int) else n).toNat → Q (.ref q) H'
abbrev st_law_drawn : Stmt := topS 31
theorem sc_law_drawn : FnScope ["store", "things", "many", "pool", "found", "k", "at"] ["store", "things", "many"] (defScope st_law_drawn) := ⟨rfl, rfl, rfl, by decide +kernel, rfl, by decide +kernel, by decide +kernel⟩
theorem ok_law_drawn (D : Df K mg "_law_drawn" st_law_drawn) (T : NoB mg) (C_law_take : Cl P w K mg base 2 "_law_take" ["store", "many"] sp_take) : Cl P w K mg base 3 "_law_drawn" ["store", "things", "many"] sp_drawn := by
  refine cl_of D sc_law_drawn (fun _ _ _ _ _ _ us hl => match us, hl with | [_, _, _], _ => rfl) (fun vs H Q E h => ?_) (fun f cdv A outer sh H vs Q E hr h => ?_)
  · obtain ⟨_, _, _, _, _, rfl, _⟩ := h; rfl
  obtain ⟨s, l, p, xs, n, rfl, st, hq, hx, hn0, k⟩ := h
  refine ⟨_, (pss_cons (ps_set (i := 3) sc_law_drawn.nd rfl (Or.inl rfl) (pe_callTy lst1 (by rfl) T.no_list (by decide +kernel) (pa_cons (pv 1) pa_nil)))
    (pss_cons (ps_set (i := 4) sc_law_drawn.nd rfl (Or.inl rfl) (pe_lst pa_nil))
    (pss_cons (ps_for PassesOwn.never rfl (pi_range1 (by rfl) T.no_range (pa_cons (pe_callB (call_min2 rfl) (by rfl) T.no_min (by decide +kernel) (pa_cons (pv 2) (pa_cons (pe_callB len1 (by rfl) T.no_len (by decide +kernel) (pa_cons (pv 3) pa_nil)) pa_nil))) pa_nil)) (pg_name (i := 5) sc_law_drawn.nd rfl (Or.inl rfl)) (pss_cons (ps_set (i := 6) sc_law_drawn.nd rfl (Or.inl rfl) (pe_cl C_law_take hr (by rfl) (pa_cons (pv 0) (pa_cons (pe_callB len1 (by rfl) T.no_len (by decide +kernel) (pa_cons (pv 3) pa_nil)) pa_nil))))
    (pss_one (ps_expr (pe_bm PySem.F.plainAttrs_list PySem.F.slot_list_append PySem.F.type_list_append mt_append (pv 4) (pa_cons (pe_bm PySem.F.plainAttrs_list PySem.F.slot_list_pop PySem.F.type_list_pop mt_popAt (pv 3) (pa_cons (pv 6) pa_nil)) pa_nil))))))
    (pss_one (ps_ret (pv 4)))))), ?_⟩
  walk_at "wps"
  intro po H1 n1
  have g1 := (Ge.refl st).new n1
  refine ⟨Nat.zero_le _, fun fo H2 n2 => ?_⟩
  have g2 := g1.new n2
  have hpo2 := n2.k n1.at_
  have hq2 := sq_l hpo2
  walk_at "wps"
  refine ⟨by split <;> omega, by split <;> omega, ?_⟩
  refine fr_by (fun i σ H' => Ge s l H H' ∧ ∃ pl fd v v', σ = [some (.ref s), some (.ref p), some (.int n), some (.ref po), some (.ref fo), v, v'] ∧ H' po = some (.lst pl) ∧ H' fo = some (.lst fd) ∧ fd.length = i ∧ (fd ++ pl).Perm xs)
    ⟨g2, xs, [], none, none, rfl, hpo2, n2.at_, rfl, .refl _⟩ ?_ ?_
  · rintro i _ H3 N hN hi ⟨g3, pl, fd, v, v', rfl, h1, h2, h3, h4⟩
    have hq3 := sq_l h1
    have hl3 := h4.length_eq
    rw [List.length_append] at hl3
    walk_at "wps"
    refine ⟨s, l, _, rfl, by omega, g3.st, fun r H4 g4 r0 r1 r2 => ?_⟩
    have e1 := g4.at st n1.fr h1
    have e2 := g4.at st (g1.fr n2.fr) h2
    have g5 := g3.trans g4
    have hr : r.toNat < pl.length := by
      by_cases z : pl.length < 2
      · rw [r2 (by omega)]; have : i < xs.length := by split at hi <;> omega
        show 0 < _; omega
      · have := r1 (by omega); omega
    have nef : fo ≠ po := n2.ne n1.at_ |>.symm
    walk_at "wps"
    refine ⟨tyl e2, tyl e1, by omega, by omega, _, seqIndex_of r0 (by omega), pl[r.toNat], by simp [hr], fun H5 n5 => ?_⟩
    have f2 := n5.k nef e2
    walk_at "wps"
    refine ⟨by rw [sizeLine_eq]; omega, fun H6 n6 => ?_⟩
    refine hN _ _ ⟨(g5.put st n1.fr n5).put st (g1.fr n2.fr) n6, _, _, _, _, rfl, n6.k nef.symm n5.at_, n6.at_, by simp [h3], ?_⟩
    refine .trans ?_ h4
    rw [List.append_assoc]
    refine List.Perm.append_left _ ?_
    exact (perm_erase hr).symm
  · rintro _ H3 ⟨g3, pl, fd, v, v', rfl, h1, h2, h3, h4⟩
    walk_at "wps"
    exact k fo H3 fd pl g3 (g1.fr n2.fr) h2 h4 h3
end

/-! ## T3 -/

theorem szl {n : Nat} (h : n ≤ 16777216) : n ≤ sizeLine := by rw [sizeLine_eq]; exact h
theorem szl' {n : Nat} (h : n < 16777216) : n < sizeLine := by rw [sizeLine_eq]; exact h
section
variable {P : Program} {w : World} {K : PySem.W.Frag} {mg : Str → Option Value} {base : Heap}
/-! either -/
def sp_either : Sp := fun vs H Q _ => ∃ (s l p : Addr) (xs : List V), vs = [.ref s, .ref p] ∧ Sto s l H ∧ p ≠ s ∧ H p = some (.lst xs) ∧ ∀ q H', Ge s l H H' → H q = none → (H' q = some (.tup xs) ∨ H' q = some (.lst xs)) → Q (.ref q) H'
abbrev st_law_either : Stmt := topS 32
theorem sc_law_either : FnScope ["store", "entries"] ["store", "entries"] (defScope st_law_either) := ⟨rfl, rfl, rfl, by decide +kernel, rfl, by decide +kernel, by decide +kernel⟩
theorem ok_law_either (D : Df K mg "_law_either" st_law_either) (T : NoB mg) (C_law_take : Cl P w K mg base 2 "_law_take" ["store", "many"] sp_take) : Cl P w K mg base 3 "_law_either" ["store", "entries"] sp_either := by
  refine cl_of D sc_law_either (fun _ _ _ _ _ _ us hl => match us, hl with | [_, _], _ => rfl) (fun vs H Q E h => ?_) (fun f cdv A outer sh H vs Q E hr h => ?_)
  · obtain ⟨_, _, _, _, rfl, _⟩ := h; rfl
  obtain ⟨s, l, p, xs, rfl, st, ne, hp, k⟩ := h
  refine ⟨_, (pss_cons (ps_if (pt_cmpR op_eq (pe_cl C_law_take hr (by rfl) (pa_cons (pv 0) (pa_cons pe_int pa_nil))) pe_int (nomark _)) (pss_one (ps_ret (pe_callTy tup1 (by rfl) T.no_tuple (by decide +kernel) (pa_cons (pv 1) pa_nil)))) pss_nil)
    (pss_one (ps_ret (pe_callTy lst1 (by rfl) T.no_list (by decide +kernel) (pa_cons (pv 1) pa_nil))))), ?_⟩
  walk_at "wps"
  refine ⟨s, l, _, rfl, by decide, st, fun r H1 g r0 r1 r2 => ?_⟩
  have hp1 := g.k ne hp
  have hq1 := sq_l hp1
  walk_at "wps"
  split
  · exact fun q H2 n2 => k q H2 (g.new n2) (g.fr n2.fr) (.inl n2.at_)
  · exact fun q H2 n2 => k q H2 (g.new n2) (g.fr n2.fr) (.inr n2.at_)
/-! whole -/
def sp_whole : Sp := fun vs H Q _ => ∃ (s l : Addr), vs = [.ref s] ∧ Sto s l H ∧ ∀ r H', Ge s l H H' → -(10 ^ 30) < r → r < 10 ^ 30 → Q (.int r) H'
abbrev st_law_whole : Stmt := topS 33
theorem sc_law_whole : FnScope ["store", "pick", "edges", "number", "k"] ["store"] (defScope st_law_whole) := ⟨rfl, rfl, rfl, by decide +kernel, rfl, by decide +kernel, by decide +kernel⟩
theorem ok_law_whole (D : Df K mg "_law_whole" st_law_whole) (T : NoB mg) (C_law_pick : Cl P w K mg base 3 "_law_pick" ["store", "things"] sp_pick) (C_law_take : Cl P w K mg base 2 "_law_take" ["store", "many"] sp_take) : Cl P w K mg base 4 "_law_whole" ["store"] sp_whole := by
  refine cl_of D sc_law_whole (fun _ _ _ _ _ _ us hl => match us, hl with | [_], _ => rfl) (fun vs H Q E h => ?_) (fun f cdv A outer sh H vs Q E hr h => ?_)
  · obtain ⟨_, _, rfl, _⟩ := h; rfl
  obtain ⟨s, l, rfl, st, k⟩ := h
  refine ⟨_, (pss_cons (ps_set (i := 1) sc_law_whole.nd rfl (Or.inl rfl) (pe_cl C_law_take hr (by rfl) (pa_cons (pv 0) (pa_cons pe_int pa_nil))))
    (pss_cons (ps_if (pt_cmpR op_lt (pv 1) pe_int (nomark _)) (pss_one (ps_ret (pe_op op_sub (pe_cl C_law_take hr (by rfl) (pa_cons (pv 0) (pa_cons pe_int pa_nil))) pe_int))) pss_nil)
    (pss_cons (ps_if (pt_cmpR op_eq (pv 1) pe_int (nomark _)) (pss_cons (ps_set (i := 2) sc_law_whole.nd rfl (Or.inl rfl) (pe_lst (pa_cons (pe_un un_neg pe_int) (pa_cons pe_int (pa_cons pe_int (pa_cons pe_int (pa_cons pe_int (pa_cons pe_int (pa_cons pe_int (pa_cons pe_int (pa_cons pe_int (pa_cons pe_int (pa_cons pe_int (pa_cons pe_int (pa_cons pe_int (pa_cons pe_int (pa_cons pe_int (pa_cons pe_int (pa_cons pe_int (pa_cons pe_int (pa_cons pe_int (pa_cons pe_int pa_nil))))))))))))))))))))))
    (pss_cons (ps_set (i := 2) sc_law_whole.nd rfl (Or.inl rfl) (pe_op op_cat (pv 2) (pe_lst (pa_cons (pe_un un_neg pe_int) (pa_cons (pe_un un_neg pe_int) (pa_cons pe_int (pa_cons pe_int (pa_cons pe_int (pa_cons pe_int pa_nil)))))))))
    (pss_one (ps_ret (pe_cl C_law_pick hr (by rfl) (pa_cons (pv 0) (pa_cons (pv 2) pa_nil))))))) pss_nil)
    (pss_cons (ps_if (pt_cmpR op_eq (pv 1) pe_int (nomark _)) (pss_one (ps_ret (pe_op op_sub (pe_cl C_law_take hr (by rfl) (pa_cons (pv 0) (pa_cons pe_int pa_nil))) pe_int))) pss_nil)
    (pss_cons (ps_set (i := 3) sc_law_whole.nd rfl (Or.inl rfl) pe_int)
    (pss_cons (ps_for PassesOwn.never rfl (pi_range1 (by rfl) T.no_range (pa_cons pe_int pa_nil)) (pg_name (i := 4) sc_law_whole.nd rfl (Or.inl rfl)) (pss_one (ps_set (i := 3) sc_law_whole.nd rfl (Or.inl rfl) (pe_op op_add (pe_op op_mul (pv 3) pe_int) (pe_cl C_law_take hr (by rfl) (pa_cons (pv 0) (pa_cons pe_int pa_nil)))))))
    (pss_cons (ps_if (pt_cmpR op_eq (pv 1) pe_int (nomark _)) (pss_one (ps_ret (pe_un un_neg (pv 3)))) pss_nil)
    (pss_one (ps_ret (pv 3)))))))))), ?_⟩
  rw [a_seq]
  walk_at "wq"
  refine ⟨s, l, _, rfl, by decide, st, fun r H1 g r0 r1 r2 => ?_⟩
  walk_at "wps"
  split
  · refine ⟨s, l, _, rfl, by decide, g.st, fun r H2 g2 q0 q1 q2 => ?_⟩
    walk_at "wps"
    have := q1 (by decide)
    exact k _ _ (g.trans g2) (by omega) (by omega)
  · split
    · refine ⟨szl (by decide), fun p H2 n2 => ?_⟩
      walk_at "wps"
      refine ⟨szl (by decide), fun p3 H3 n3 => ?_⟩
      have e3 := n3.k n2.at_
      have f3 := n3.at_
      walk_at "wps"
      refine ⟨szl (by decide), fun p4 H4 n4 => ?_⟩
      have g4 := ((g.new n2).new n3).new n4
      have e4 := sq_l n4.at_
      walk_at "wps"
      refine ⟨s, l, p4, _, rfl, g4.st, (g4.st.ne' n4.at_ (by simp)), e4, by simp, by decide, fun x H5 g5 hx => ?_⟩
      simp only [List.mem_cons, List.not_mem_nil, or_false] at hx
      rcases hx with h | h | h | h | h | h | h | h | h | h | h | h | h | h | h | h | h | h | h | h | h | h | h | h | h | h <;> (rw [h]; exact k _ _ (g4.trans g5) (by decide) (by decide))
    · split
      · refine ⟨s, l, _, rfl, by decide, g.st, fun r H2 g2 q0 q1 q2 => ?_⟩
        walk_at "wps"
        have := q1 (by decide)
        exact k _ _ (g.trans g2) (by omega) (by omega)
      · refine ⟨by decide, by decide, ?_⟩
        refine fr_by (fun i σ H' => Ge s l H H' ∧ ∃ num v, σ = [some (.ref s), some (.int r), none, some (.int num), v] ∧ 0 ≤ num ∧ num < 1000000 ^ i) ⟨g, 0, none, rfl, by decide, by decide⟩ ?_ ?_
        · rintro i _ H3 N hN hi ⟨g3, num, v, rfl, h1, h2⟩
          walk_at "wps"
          refine ⟨cm_lit (by decide), s, l, _, rfl, by decide, g3.st, fun r' H4 g4 q0 q1 q2 => ?_⟩
          walk_at "wps"
          have := q1 (by decide)
          refine hN _ _ ⟨g3.trans g4, _, _, rfl, by omega, ?_⟩
          rw [Int.pow_succ]
          omega
        · rintro _ H3 ⟨g3, num, v, rfl, h1, h2⟩
          walk_at "wps"
          have h2 : num < 1000000 ^ 5 := h2
          split
          · exact k _ _ g3 (by omega) (by omega)
          · exact k _ _ g3 (by omega) (by omega)
/-! sign -/
def sp_sign : Sp := fun vs H Q _ => ∃ (s l : Addr), vs = [.ref s] ∧ Sto s l H ∧ ∀ z H', Ge s l H H' → z.length = 1 → Vis z → Q (.str z) H'
theorem signs_all : ((PySem.Str.ofString " !\"#$&'()*+,-./0123456789:;<=>?@ABCDEFGHIJKLMNOPQRSTUVWXYZ[\\]^_`" ++ PySem.Str.ofString "abcdefghijklmnopqrstuvwxyz{|}~\n" : Str).cps.toList.all fun c => decide (c = 10 ∨ (32 ≤ c ∧ c < 127))) = true := by decide +kernel
abbrev st_law_sign : Stmt := topS 34
theorem sc_law_sign : FnScope ["store", "signs"] ["store"] (defScope st_law_sign) := ⟨rfl, rfl, rfl, by decide +kernel, rfl, by decide +kernel, by decide +kernel⟩
theorem ok_law_sign (D : Df K mg "_law_sign" st_law_sign) (T : NoB mg) (C_law_take : Cl P w K mg base 2 "_law_take" ["store", "many"] sp_take) : Cl P w K mg base 3 "_law_sign" ["store"] sp_sign := by
  refine cl_of D sc_law_sign (fun _ _ _ _ _ _ us hl => match us, hl with | [_], _ => rfl) (fun vs H Q E h => ?_) (fun f cdv A outer sh H vs Q E hr h => ?_)
  · obtain ⟨_, _, rfl, _⟩ := h; rfl
  obtain ⟨s, l, rfl, st, k⟩ := h
  refine ⟨_, (pss_cons (ps_set (i := 1) sc_law_sign.nd rfl (Or.inl rfl) pe_str)
    (pss_cons (ps_set (i := 1) sc_law_sign.nd rfl (Or.inl rfl) (pe_op op_add_str (pv 1) pe_str))
    (pss_one (ps_ret (pe_ix ix_str (pv 1) (pe_cl C_law_take hr (by rfl) (pa_cons (pv 0) (pa_cons (pe_callB call_len_str (by rfl) T.no_len (by decide +kernel) (pa_cons (pv 1) pa_nil)) pa_nil))) (fun _ _ => rfl)))))), ?_⟩
  walk_at "wps"
  have e := signs_all
  have e2 : 0 < (PySem.Str.ofString " !\"#$&'()*+,-./0123456789:;<=>?@ABCDEFGHIJKLMNOPQRSTUVWXYZ[\\]^_`" ++ PySem.Str.ofString "abcdefghijklmnopqrstuvwxyz{|}~\n" : Str).length ∧ (PySem.Str.ofString " !\"#$&'()*+,-./0123456789:;<=>?@ABCDEFGHIJKLMNOPQRSTUVWXYZ[\\]^_`" ++ PySem.Str.ofString "abcdefghijklmnopqrstuvwxyz{|}~\n" : Str).length < 1000 := by decide +kernel
  refine ⟨szl (by decide +kernel), ?_⟩
  generalize (PySem.Str.ofString " !\"#$&'()*+,-./0123456789:;<=>?@ABCDEFGHIJKLMNOPQRSTUVWXYZ[\\]^_`" ++ PySem.Str.ofString "abcdefghijklmnopqrstuvwxyz{|}~\n" : Str) = z at e e2
  refine ⟨szl (by omega), s, l, _, rfl, by omega, st, fun r H1 g r0 r1 r2 => ?_⟩
  walk_at "wps"
  have hr : r.toNat < z.cps.toList.length := by
    rw [len_tl]
    by_cases q : z.length < 2
    · rw [r2 (by omega)]; exact e2.1
    · have := r1 (by omega); omega
  refine ⟨szl (by omega), z.cps.toList[r.toNat], atI_of r0 (by simp [hr]), k _ _ g rfl fun c hc => ?_⟩
  have hm : c ∈ z.cps.toList := by
    have q : c = z.cps.toList[r.toNat] := by simpa using hc
    rw [q]; exact List.getElem_mem hr
  exact of_decide_eq_true (List.all_eq_true.mp e c hm)
/-! text -/
def sp_text : Sp := fun vs H Q _ => ∃ (s l : Addr) (n : Int), vs = [.ref s, .int n] ∧ Sto s l H ∧ 0 ≤ n ∧ n ≤ 1000 ∧ ∀ z H', Ge s l H H' → (z.length : Int) ≤ n → Vis z → Q (.str z) H'
abbrev st_law_text : Stmt := topS 35
theorem sc_law_text : FnScope ["store", "most", "size", "k"] ["store", "most"] (defScope st_law_text) := ⟨rfl, rfl, rfl, by decide +kernel, rfl, by decide +kernel, by decide +kernel⟩
theorem ok_law_text (D : Df K mg "_law_text" st_law_text) (T : NoB mg) (C_law_place : Cl P w K mg base 3 "_law_place" ["store", "size"] sp_place) (C_law_sign : Cl P w K mg base 3 "_law_sign" ["store"] sp_sign) : Cl P w K mg base 4 "_law_text" ["store", "most"] sp_text := by
  refine cl_of D sc_law_text (fun _ _ _ _ _ _ us hl => match us, hl with | [_, _], _ => rfl) (fun vs H Q E h => ?_) (fun f cdv A outer sh H vs Q E hr h => ?_)
  · obtain ⟨_, _, _, rfl, _⟩ := h; rfl
  obtain ⟨s, l, n, rfl, st, hn1, hn2, k⟩ := h
  refine ⟨_, (pss_cons (ps_set (i := 2) sc_law_text.nd rfl (Or.inl rfl) (pe_cl C_law_place hr (by rfl) (pa_cons (pv 0) (pa_cons (pe_op op_add (pv 1) pe_int) pa_nil))))
    (pss_one (ps_ret (pe_join pe_str (pe_lc (own := [("k", 3)]) (g := gName 3) (tt := tYes) rfl sc_law_text.nd (pi_range1 (by rfl) T.no_range (pa_cons (pv 2) pa_nil)) (blkOk_by (own := [("k", 3)]) (N := ["store", "most", "size", "k"]) (sc := defScope st_law_text) (by decide +kernel)) (fun _ _ _ _ _ => (pg_name (i := 3) sc_law_text.nd rfl (Or.inl rfl))) (fun _ _ _ _ _ => pts_nil) (fun _ _ _ _ _ => (pe_cl C_law_sign hr (by rfl) (pa_cons (pv 0) pa_nil)))))))), ?_⟩
  walk_at "wps"
  refine ⟨s, l, _, rfl, st, by omega, by omega, fun r H1 g r0 r1 => ?_⟩
  walk_at "wps"
  refine ⟨⟨_, rfl⟩, by omega, by omega, ?_⟩
  refine cr_by (fun C i acc H' => H1 C = none ∧ Ge s l H H' ∧ acc.length = i ∧ ∃ ys : List Str, acc = ys.map V.str ∧ ∀ y ∈ ys, y.length = 1 ∧ Vis y) (fun C H0 n0 => ⟨n0.fr, g.new n0, rfl, [], rfl, by simp⟩) ?_ ?_
  · rintro C i acc H2 N hC hi ha ⟨hC', g2, hl, ys, rfl, hy⟩ hN
    walk_at "wps"
    refine ⟨s, l, rfl, g2.st, fun z H3 g3 z1 z2 => ?_⟩
    have e := g3.at g.st hC ha
    have e3 := g2.trans g3
    refine cst e (szl' (by rw [hl]; omega)) fun H5 n5 => hN _ _ n5.at_ ⟨hC, e3.put st (g.fr hC) n5, by simp [hl], ys ++ [z], by simp, fun y hm => ?_⟩
    rcases List.mem_append.mp hm with q | q
    · exact hy y q
    · rw [List.mem_singleton.mp q]; exact ⟨z1, z2⟩
  · rintro C acc H2 hC ha ⟨hC', g2, hl, ys, rfl, hy⟩
    rw [List.length_map] at hl
    have hsum : (ys.map (·.length)).sum = ys.length := by
      clear hl ha
      induction ys with
      | nil => rfl
      | cons a r ih =>
        have e1 := (hy a List.mem_cons_self).1
        have e2 := ih fun y hm => hy y (List.mem_cons_of_mem _ hm)
        simp only [List.map_cons, List.sum_cons, List.length_cons, e1, e2]
        omega
    have hz : (("" : Str).length) = 0 := by decide +kernel
    walk_at "wps"
    refine ⟨ys, .inl (SqL.of ha), ?_, ?_⟩
    · rw [hsum, hl]
      omega
    · have ej := join_tl ys
      refine k _ _ g2 ?_ ?_
      · rw [← len_tl]
        have : ((ys.map fun z => z.cps.toList).flatten).length = ys.length := by
          rw [List.length_flatten, List.map_map]
          have : (List.length ∘ fun z : Str => z.cps.toList) = fun z : Str => z.length := by funext z; exact len_tl z
          rw [this]; exact hsum
        rw [show (Txt.join (Str.ofString "") ys).cps.toList = _ from ej, this]
        omega
      · intro c hc
        rw [show (Txt.join (Str.ofString "") ys).cps.toList = _ from ej] at hc
        obtain ⟨L, h1, h2⟩ := List.mem_flatten.mp hc
        obtain ⟨y, h3, rfl⟩ := List.mem_map.mp h1
        exact (hy y h3).2 c h2
/-! leaf -/
def sp_leaf : Sp := fun vs H Q _ => ∃ (s l : Addr), vs = [.ref s] ∧ Sto s l H ∧ ∀ v d n H', Ge s l H H' → Lf v d n → n ≤ 7 → (∀ i, v = .int i → -(10 ^ 30) < i ∧ i < 10 ^ 30) → Q v H'
abbrev st_law_leaf : Stmt := topS 36
theorem sc_law_leaf : FnScope ["store", "pick"] ["store"] (defScope st_law_leaf) := ⟨rfl, rfl, rfl, by decide +kernel, rfl, by decide +kernel, by decide +kernel⟩
theorem ok_law_leaf (D : Df K mg "_law_leaf" st_law_leaf) (T : NoB mg) (C_law_take : Cl P w K mg base 2 "_law_take" ["store", "many"] sp_take) (C_law_text : Cl P w K mg base 4 "_law_text" ["store", "most"] sp_text) (C_law_whole : Cl P w K mg base 4 "_law_whole" ["store"] sp_whole) : Cl P w K mg base 5 "_law_leaf" ["store"] sp_leaf := by
  refine cl_of D sc_law_leaf (fun _ _ _ _ _ _ us hl => match us, hl with | [_], _ => rfl) (fun vs H Q E h => ?_) (fun f cdv A outer sh H vs Q E hr h => ?_)
  · obtain ⟨_, _, rfl, _⟩ := h; rfl
  obtain ⟨s, l, rfl, st, k⟩ := h
  refine ⟨_, (pss_cons (ps_set (i := 1) sc_law_leaf.nd rfl (Or.inl rfl) (pe_cl C_law_take hr (by rfl) (pa_cons (pv 0) (pa_cons pe_int pa_nil))))
    (pss_cons (ps_if (pt_cmpR op_eq (pv 1) pe_int (nomark _)) (pss_one (ps_ret pe_non)) pss_nil)
    (pss_cons (ps_if (pt_cmpR op_eq (pv 1) pe_int (nomark _)) (pss_one (ps_ret pe_bl)) pss_nil)
    (pss_cons (ps_if (pt_cmpR op_eq (pv 1) pe_int (nomark _)) (pss_one (ps_ret pe_bl)) pss_nil)
    (pss_cons (ps_if (pt_cmpR op_eq (pv 1) pe_int (nomark _)) (pss_one (ps_ret (pe_cl C_law_text hr (by rfl) (pa_cons (pv 0) (pa_cons pe_int pa_nil))))) pss_nil)
    (pss_cons (ps_if (pt_cmpR op_eq (pv 1) pe_int (nomark _)) (pss_one (ps_ret (pe_callTy call_str_int (by rfl) T.no_str (by decide +kernel) (pa_cons (pe_cl C_law_take hr (by rfl) (pa_cons (pv 0) (pa_cons pe_int pa_nil))) pa_nil)))) pss_nil)
    (pss_one (ps_ret (pe_cl C_law_whole hr (by rfl) (pa_cons (pv 0) pa_nil)))))))))), ?_⟩
  rw [a_seq]
  walk_at "wq"
  refine ⟨s, l, _, rfl, by decide, st, fun r H1 g r0 r1 r2 => ?_⟩
  have := r1 (by decide)
  walk_at "wps"
  split
  · exact k _ _ _ _ g .non (by decide) (by simp)
  split
  · exact k _ _ _ _ g (.bl _) (by decide) (by simp)
  split
  · exact k _ _ _ _ g (.bl _) (by decide) (by simp)
  split
  · exact ⟨s, l, _, rfl, g.st, by decide, by decide, fun z H2 g2 z1 z2 => k _ _ _ _ (g.trans g2) (.str z) (by omega) (by simp)⟩
  split
  · refine ⟨s, l, _, rfl, by decide, g.st, fun r' H2 g2 q0 q1 q2 => ?_⟩
    have := q1 (by decide)
    walk_at "wps"
    have hs : r'.natAbs.log2 < 1920 := Nat.lt_trans (PySem.Flt.log2_lt_of (n := r'.natAbs) (k := 62) (by decide) (by omega)) (by decide)
    refine ⟨hs, k _ _ _ _ (g.trans g2) (.str _) ?_ (by simp)⟩
    have : ∀ m : Nat, m < 13 → (toString (m : Int) : Str).length + 1 ≤ 7 := by decide +kernel
    have q := this r'.toNat (by omega)
    rw [show ((r'.toNat : Nat) : Int) = r' by omega] at q
    exact q
  · exact ⟨s, l, rfl, g.st, fun r' H2 g2 q0 q1 => k _ _ _ _ (g.trans g2) (.int _) (by decide) (fun i e => by cases e; exact ⟨q0, q1⟩)⟩
end

/-! ## T4 -/

theorem Lf.db {v : V} {d : PyData} {n b : Nat} {E : List Addr} {H : Hp} (h : Lf v d n) (hn : n ≤ b) : Db E H b v := ⟨d, n, .lf h, hn⟩
section
variable {P : Program} {w : World} {K : PySem.W.Frag} {mg : Str → Option Value} {base : Heap}
/-! value -/
def sp_value : Sp := fun vs H Q _ => ∃ (s l : Addr) (E : List Addr) (deep : Int), vs = [.ref s, .int deep] ∧ Sto s l H ∧ Lv E H ∧ s ∈ E ∧ -(2 ^ 60) < deep ∧ deep ≤ 50 ∧ ∀ v H', Ge s l H H' → Db E H' 150 v → Q v H'
abbrev st_law_value : Stmt := topS 37
theorem sc_law_value : FnScope ["store", "deep", "pick", "entries", "k", "size", "value", "j"] ["store", "deep"] (defScope st_law_value) := ⟨rfl, rfl, rfl, by decide +kernel, rfl, by decide +kernel, by decide +kernel⟩
theorem ok_law_value (D : Df K mg "_law_value" st_law_value) (T : NoB mg) (C_law_either : Cl P w K mg base 3 "_law_either" ["store", "entries"] sp_either) (C_law_leaf : Cl P w K mg base 5 "_law_leaf" ["store"] sp_leaf) (C_law_take : Cl P w K mg base 2 "_law_take" ["store", "many"] sp_take) : Cl P w K mg base 6 "_law_value" ["store", "deep"] sp_value := by
  refine cl_of D sc_law_value (fun _ _ _ _ _ _ us hl => match us, hl with | [_, _], _ => rfl) (fun vs H Q E h => ?_) (fun f cdv A outer sh H vs Q E hr h => ?_)
  · obtain ⟨_, _, _, _, rfl, _⟩ := h; rfl
  obtain ⟨s, l, E, deep, rfl, st, lv, hsE, hd0, hd1, k⟩ := h
  refine ⟨_, (pss_cons (ps_set (i := 2) sc_law_value.nd rfl (Or.inl rfl) (pe_cl C_law_take hr (by rfl) (pa_cons (pv 0) (pa_cons pe_int pa_nil))))
    (pss_cons (ps_if (PW.pt (pw_or (pt_cmpR op_lt (pv 1) pe_int (nomark _)) (pw_or1 (pt_cmpR op_eq (pv 2) pe_int (nomark _))))) (pss_one (ps_ret (pe_cl C_law_leaf hr (by rfl) (pa_cons (pv 0) pa_nil)))) pss_nil)
    (pss_cons (ps_set (i := 3) sc_law_value.nd rfl (Or.inl rfl) (pe_lst pa_nil))
    (pss_cons (ps_for PassesOwn.never rfl (pi_range1 (by rfl) T.no_range (pa_cons (pe_cl C_law_take hr (by rfl) (pa_cons (pv 0) (pa_cons pe_int pa_nil))) pa_nil)) (pg_name (i := 4) sc_law_value.nd rfl (Or.inl rfl)) (pss_one (ps_if (PW.pt (pw_and (pt_cmpR op_gt (pv 1) pe_int (nomark _)) (pw_and1 (pt_cmpR op_eq (pe_cl C_law_take hr (by rfl) (pa_cons (pv 0) (pa_cons pe_int pa_nil))) pe_int (nomark _))))) (pss_cons (ps_set (i := 5) sc_law_value.nd rfl (Or.inl rfl) (pe_cl C_law_take hr (by rfl) (pa_cons (pv 0) (pa_cons pe_int pa_nil))))
    (pss_one (ps_expr (pe_bm PySem.F.plainAttrs_list PySem.F.slot_list_append PySem.F.type_list_append mt_append (pv 3) (pa_cons (pe_cl C_law_either hr (by rfl) (pa_cons (pv 0) (pa_cons (pe_lc (own := [("j", 7)]) (g := gName 7) (tt := tYes) rfl sc_law_value.nd (pi_range1 (by rfl) T.no_range (pa_cons (pv 5) pa_nil)) (blkOk_by (own := [("j", 7)]) (N := ["store", "deep", "pick", "entries", "k", "size", "value", "j"]) (sc := defScope st_law_value) (by decide +kernel)) (fun _ _ _ _ _ => (pg_name (i := 7) sc_law_value.nd rfl (Or.inl rfl))) (fun _ _ _ _ _ => pts_nil) (fun _ _ _ _ _ => (pe_cl C_law_leaf hr (by rfl) (pa_cons (pv 0) pa_nil)))) pa_nil))) pa_nil))))) (pss_one (ps_expr (pe_bm PySem.F.plainAttrs_list PySem.F.slot_list_append PySem.F.type_list_append mt_append (pv 3) (pa_cons (pe_cl C_law_leaf hr (by rfl) (pa_cons (pv 0) pa_nil)) pa_nil)))))))
    (pss_cons (ps_set (i := 6) sc_law_value.nd rfl (Or.inl rfl) (pe_cl C_law_either hr (by rfl) (pa_cons (pv 0) (pa_cons (pv 3) pa_nil))))
    (pss_cons (ps_if (pt_cmpR op_eq (pv 2) pe_int (nomark _)) (pss_one (ps_for PassesOwn.never rfl (pi_range1 (by rfl) T.no_range (pa_cons (pe_cl C_law_take hr (by rfl) (pa_cons (pv 0) (pa_cons (pe_op op_sub (pv 1) pe_int) pa_nil))) pa_nil)) (pg_name (i := 4) sc_law_value.nd rfl (Or.inl rfl)) (pss_one (ps_set (i := 6) sc_law_value.nd rfl (Or.inl rfl) (pe_cl C_law_either hr (by rfl) (pa_cons (pv 0) (pa_cons (pe_lst (pa_cons (pv 6) pa_nil)) pa_nil))))))) pss_nil)
    (pss_one (ps_ret (pv 6))))))))), ?_⟩
  walk_at "sq"
  refine ⟨s, l, _, rfl, by decide, st, fun pk H1 g1 r0 r1 r2 => ?_⟩
  walk_at "wq"
  have leaf : ∀ (Q : VK) (H1 : Hp), (∀ v H', Ge s l H1 H' → (∃ d n, Lf v d n ∧ n ≤ 7) → Q v H') → Sto s l H1 → sp_leaf [.ref s] H1 Q E0 := fun Q H1 q st1 => ⟨s, l, rfl, st1, fun v d n H' g h1 h2 _ => q v H' g ⟨d, n, h1, h2⟩⟩
  have leaf1 : sp_leaf [.ref s] H1 Q E0 := leaf _ _ (fun v H' g ⟨d, n, h1, h2⟩ => k v H' (g1.trans g) (h1.db (by omega))) g1.st
  walk_at "sq"
  split
  · trivial
  split
  · trivial
  walk_at "sq"
  refine ⟨szl (by decide), fun po H2 n2 => ?_⟩
  have g2 := g1.new n2
  have hpo := g1.fr n2.fr
  have lv2 := (lv.ge g2).cons n2.at_
  have hpE : po ∉ E := lv.out hpo
  walk_at "sq"
  refine ⟨s, l, _, rfl, by decide, g2.st, fun m H3 g3 m0 m1 m2 => ?_⟩
  have hm := m1 (by decide)
  have g3' := g2.trans g3
  walk_at "wq"
  refine ⟨by omega, by omega, ?_⟩
  refine fr_by (fun i σ H' => Ge s l H H' ∧ ∃ xs v4 v5, σ = [some (.ref s), some (.int deep), some (.int pk), some (.ref po), v4, v5, none, none] ∧ H' po = some (.lst xs) ∧ xs.length = i ∧ ∀ x ∈ xs, Db (po :: E) H' 22 x)
    ⟨g3', [], _, _, rfl, g3.at g1.st n2.fr n2.at_, rfl, by simp⟩ ?_ ?_
  · rintro i _ H4 N hN hi ⟨g4, xs, v4, v5, rfl, e4, hl, hx⟩
    have lv4 : Lv (po :: E) H4 := (lv.ge g4).cons e4
    have leafs : ∀ (v5 : Option V) (H4' : Hp), Ge s l H4 H4' → sp_leaf [.ref s] H4' (fun v H5 => ∃ ys, H5 po = some (.lst ys) ∧ ys.length < sizeLine ∧ Wr H5 po (.lst (ys ++ [v])) fun H6 => N [some (.ref s), some (.int deep), some (.int pk), some (.ref po), some (.int (0 + (i : Int))), v5, none, none] H6) E0 := by
      intro v5 H4' g44
      refine leaf _ _ (fun v H5 g5 ⟨d, n, h1, h2⟩ => ?_) g44.st
      have e5 := (g44.trans g5).at st hpo e4
      refine ⟨xs, e5, szl' (by omega), fun H6 n6 => ?_⟩
      have g5' := g44.trans g5
      refine hN _ _ ⟨(g4.trans g5').put st hpo n6, _, _, _, rfl, n6.at_, by simp [hl], all_app (fun x hm => ((hx x hm).ge g5' (by simp [hsE])).put n6 (by simp)) (h1.db (by omega))⟩
    walk_at "wq"
    split
    · refine ⟨s, l, _, rfl, by decide, g4.st, fun c H5 g5 c0 c1 c2 => ?_⟩
      walk_at "wq"
      split
      · walk_at "sq"
        refine ⟨s, l, _, rfl, by decide, g5.st, fun z H6 g6 z0 z1 z2 => ?_⟩
        have hz := z1 (by decide)
        have g46 := g5.trans g6
        have e6 := g46.at st hpo e4
        walk_at "wq"
        refine ⟨tyl e6, by omega, by omega, ?_⟩
        refine cr_by (fun C j acc H' => Ge s l H6 H' ∧ acc.length = j ∧ ∀ x ∈ acc, ∃ d n, Lf x d n ∧ n ≤ 7) (fun C H0 n0 => ⟨(Ge.refl g6.st).new n0, rfl, by simp⟩) ?_ ?_
        · rintro C j acc H7 N' hC hj ha ⟨g7, hl7, h7⟩ hN'
          walk_at "wq"
          refine leaf _ _ (fun v H8 g8 hv => ?_) g7.st
          have e8 := g8.at g6.st hC ha
          exact cst e8 (szl' (by omega)) fun H9 n9 => hN' _ _ n9.at_ ⟨(g7.trans g8).put g6.st hC n9, by simp [hl7], all_app h7 hv⟩
        · rintro C acc H7 hC ha ⟨g7, hl7, h7⟩
          walk_at "wq"
          refine ⟨s, l, C, acc, rfl, g7.st, (g6.st.ne hC).1, ha, fun q H8 g8 q0 q1 => ?_⟩
          have g48 := (g46.trans g7).trans g8
          have e8 := g48.at st hpo e4
          refine ⟨xs, e8, szl' (by omega), fun H9 n9 => ?_⟩
          have lv7 := lv4.ge (g46.trans g7)
          have hq : Db (po :: E) H8 22 (.ref q) := by
            have := Db.seq (E := po :: E) (H := H8) (b := 7) (xs := acc) (p := q) (fun x hx => by obtain ⟨d, n, h1, h2⟩ := h7 x hx; exact h1.db h2) (lv7.out q0) q1
            exact this.le (by omega)
          refine hN _ _ ⟨(g4.trans g48).put st hpo n9, _, _, _, rfl, n9.at_, by simp [hl], all_app (fun x hm => ((hx x hm).ge g48 (by simp [hsE])).put n9 (by simp)) (hq.put n9 (by simp))⟩
      · walk_at "wq"
        first | exact ⟨tyl (g5.at st hpo e4), leafs _ _ g5⟩ | exact tyl (g5.at st hpo e4)
    · walk_at "wq"
      first | exact ⟨tyl e4, leafs _ _ (Ge.refl g4.st)⟩ | exact tyl e4
  · rintro _ H4 ⟨g4, xs, v4, v5, rfl, e4, hl, hx⟩
    walk_at "sq"
    refine ⟨s, l, po, xs, rfl, g4.st, (st.ne hpo).1, e4, fun q H5 g5 q0 q1 => ?_⟩
    have g45 := g4.trans g5
    have lv4 := lv.ge g4
    have hq : Db E H5 89 (.ref q) := by
      have := Db.seq (E := E) (H := H5) (b := 22) (xs := xs) (p := q) (fun x hm => ((hx x hm).ge g5 (by simp [hsE])).sub (fun a z => by simp [z])) (lv4.out q0) q1
      exact this.le (by omega)
    walk_at "sq"
    split
    · refine ⟨s, l, _, rfl, by omega, g5.st, fun c H6 g6 c0 c1 c2 => ?_⟩
      walk_at "wq"
      have hc : c ≤ 50 := by
        by_cases z : deep - 1 < 2
        · rw [c2 z]; decide
        · have := c1 (by omega); omega
      refine ⟨by omega, by omega, ?_⟩
      have g46 := g45.trans g6
      refine fr_by (fun i σ H' => Ge s l H H' ∧ ∃ vp v4 v, σ = [some (.ref s), some (.int deep), some (.int vp), some (.ref po), v4, v5, some v, none] ∧ Db E H' (89 + i) v)
        ⟨g46, _, _, _, rfl, hq.ge g6 hsE⟩ ?_ ?_
      · rintro i _ H7 N hN hi ⟨g7, vp, v4, v, rfl, hv⟩
        walk_at "wq"
        refine ⟨szl (by decide), fun p8 H8 n8 => ?_⟩
        walk_at "wq"
        have g8 := g7.new n8
        refine ⟨s, l, p8, [v], rfl, g8.st, (g7.st.ne n8.fr).1, n8.at_, fun q H9 g9 q0 q1 => ?_⟩
        refine hN _ _ ⟨g8.trans g9, _, _, _, rfl, ?_⟩
        have := Db.seq (E := E) (H := H9) (b := 89 + i) (xs := [v]) (p := q) (fun x hx => by rw [List.mem_singleton.mp hx]; exact (hv.same n8.same).ge g9 hsE) ((lv.ge g8).out q0) q1
        exact this.le (by simp only [List.length_singleton]; omega)
      · rintro _ H7 ⟨g7, vp, v4, v, rfl, hv⟩
        walk_at "wq"
        exact k _ _ g7 (hv.le (by omega))
    · walk_at "wq"
      exact k _ _ g45 (hq.le (by omega))
end

/-! ## T5 -/

section
variable {P : Program} {w : World} {K : PySem.W.Frag} {mg : Str → Option Value} {base : Heap}
/-! is_whole -/
def sp_isw : Sp := fun vs H Q _ => ∃ (v : V) (d : PyData) (n : Nat) (E : List Addr), vs = [v] ∧ Dw E H v d n ∧ Q (.bl (isWh v)) H
abbrev st_law_is_whole : Stmt := topS 38
theorem sc_law_is_whole : FnScope ["value"] ["value"] (defScope st_law_is_whole) := ⟨rfl, rfl, rfl, by decide +kernel, rfl, by decide +kernel, by decide +kernel⟩
theorem ok_law_is_whole (D : Df K mg "_law_is_whole" st_law_is_whole) (T : NoB mg)  : Cl P w K mg base 1 "_law_is_whole" ["value"] sp_isw := by
  refine cl_of D sc_law_is_whole (fun _ _ _ _ _ _ us hl => match us, hl with | [_], _ => rfl) (fun vs H Q E h => ?_) (fun f cdv A outer sh H vs Q E hr h => ?_)
  · obtain ⟨_, _, _, _, rfl, _⟩ := h; rfl
  obtain ⟨v, d, n, E, rfl, hv, k⟩ := h
  refine ⟨_, (pss_one (ps_ret (pe_and (pe_callB isi1 (by rfl) T.no_isinstance (by decide +kernel) (pa_cons (pv 0) (pa_cons (pe_bltn (by rfl) T.no_int (by decide +kernel) (show RelV (.ty "int") _ from rfl)) pa_nil))) (pe_one (pe_not (pe_callB isi1 (by rfl) T.no_isinstance (by decide +kernel) (pa_cons (pv 0) (pa_cons (pe_bltn (by rfl) T.no_bool (by decide +kernel) (show RelV (.ty "bool") _ from rfl)) pa_nil)))))))), ?_⟩
  cases hv with
  | lf l => cases l <;> (walk_at "wps"; exact k)
  | lst ne h a =>
    have ht := ty_l h
    walk_at "wps"
    exact k
  | tup ne h a =>
    have ht := ty_t h
    walk_at "wps"
    exact k
/-! same -/
inductive Its (H H' : Hp) : List V → Nat → Prop
  | nil : Its H H' [] 0
  | snoc {xs : List V} {m n k : Nat} {t : Addr} {a b : V} {d : PyData} : Its H H' xs m → H' t = some (.tup [a, b]) → Dw [] H a d n → Dw [] H b d k → Its H H' (xs ++ [.ref t]) (m + n)
theorem Its.len {H H' : Hp} {xs : List V} {m : Nat} (h : Its H H' xs m) : xs.length ≤ m := by
  induction h with
  | nil => exact Nat.le_refl _
  | snoc h e a b ih => have := a.pos; rw [List.length_append, List.length_singleton]; omega
theorem Its.keep {H H1 H2 : Hp} {xs : List V} {m : Nat} (h : Its H H1 xs m) (k : ∀ t ys, H1 t = some (.tup ys) → H2 t = some (.tup ys)) : Its H H2 xs m := by
  induction h with
  | nil => exact .nil
  | snoc h e a b ih => exact .snoc ih (k _ _ e) a b
def sp_same : Sp := fun vs H Q _ => ∃ (x y : V) (d : PyData) (n m : Nat), vs = [x, y] ∧ Dw [] H x d n ∧ Dw [] H y d m ∧ n ≤ 4000000 ∧ ∀ H', Same H H' → Q (.bl true) H'
abbrev st_law_same : Stmt := topS 39
theorem sc_law_same : FnScope ["actual", "due", "left", "pair", "one", "two", "k"] ["actual", "due"] (defScope st_law_same) := ⟨rfl, rfl, rfl, by decide +kernel, rfl, by decide +kernel, by decide +kernel⟩
theorem ok_law_same (D : Df K mg "_law_same" st_law_same) (T : NoB mg) (C_law_is_whole : Cl P w K mg base 1 "_law_is_whole" ["value"] sp_isw) : Cl P w K mg base 2 "_law_same" ["actual", "due"] sp_same := by
  refine cl_of D sc_law_same (fun _ _ _ _ _ _ us hl => match us, hl with | [_, _], _ => rfl) (fun vs H Q E h => ?_) (fun f cdv A outer sh H vs Q E hr h => ?_)
  · obtain ⟨_, _, _, _, _, rfl, _⟩ := h; rfl
  obtain ⟨x, y, d, n, m, rfl, hx, hy, hn, k⟩ := h
  refine ⟨_, (pss_cons (ps_set (i := 2) sc_law_same.nd rfl (Or.inl rfl) (pe_lst (pa_cons (pe_tup (pa_cons (pv 0) (pa_cons (pv 1) pa_nil))) pa_nil)))
    (pss_cons (ps_while PassesOwn.never (pt_cmpR op_gt (pe_callB len1 (by rfl) T.no_len (by decide +kernel) (pa_cons (pv 2) pa_nil)) pe_int (nomark _)) (pss_cons (ps_set (i := 3) sc_law_same.nd rfl (Or.inl rfl) (pe_bm0 PySem.F.plainAttrs_list PySem.F.slot_list_pop PySem.F.type_list_pop mt_pop (pv 2)))
    (pss_cons (ps_set (i := 4) sc_law_same.nd rfl (Or.inl rfl) (pe_ix ix1 (pv 3) pe_int (fun _ _ => rfl)))
    (pss_cons (ps_set (i := 5) sc_law_same.nd rfl (Or.inl rfl) (pe_ix ix1 (pv 3) pe_int (fun _ _ => rfl)))
    (pss_one (ps_if (PW.pt (pw_or (pt_cmpR op_isN (pv 5) pe_non (nomark _)) (pw_or (pt_cmpR op_isTF (pv 5) pe_bl (nomark _)) (pw_or1 (pt_cmpR op_isTF (pv 5) pe_bl (nomark _)))))) (pss_one (ps_if (pt_not (PW.pt (pw_or (PW.pt (pw_and (pt_cmpR op_isN (pv 5) pe_non (nomark _)) (pw_and1 (pt_cmpR op_isN (pv 4) pe_non (nomark _))))) (pw_or (PW.pt (pw_and (pt_cmpR op_isTF (pv 5) pe_bl (nomark _)) (pw_and1 (pt_cmpR op_isTF (pv 4) pe_bl (nomark _))))) (pw_or1 (PW.pt (pw_and (pt_cmpR op_isTF (pv 5) pe_bl (nomark _)) (pw_and1 (pt_cmpR op_isTF (pv 4) pe_bl (nomark _)))))))))) (pss_one (ps_ret pe_bl)) pss_nil)) (pss_one (ps_if (pt_val (pe_callB isi1 (by rfl) T.no_isinstance (by decide +kernel) (pa_cons (pv 5) (pa_cons (pe_bltn (by rfl) T.no_int (by decide +kernel) (show RelV (.ty "int") _ from rfl)) pa_nil)))) (pss_one (ps_if (PW.pt (pw_or (pt_not (pt_val (pe_cl C_law_is_whole hr (by rfl) (pa_cons (pv 4) pa_nil)))) (pw_or1 (pt_cmpR op_ne (pv 4) (pv 5) (nomark _))))) (pss_one (ps_ret pe_bl)) pss_nil)) (pss_one (ps_if (pt_val (pe_callB isi1 (by rfl) T.no_isinstance (by decide +kernel) (pa_cons (pv 5) (pa_cons (pe_bltn (by rfl) T.no_str (by decide +kernel) (show RelV (.ty "str") _ from rfl)) pa_nil)))) (pss_one (ps_if (PW.pt (pw_or (pt_not (pt_val (pe_callB isi1 (by rfl) T.no_isinstance (by decide +kernel) (pa_cons (pv 4) (pa_cons (pe_bltn (by rfl) T.no_str (by decide +kernel) (show RelV (.ty "str") _ from rfl)) pa_nil))))) (pw_or1 (pt_cmpR op_ne (pv 4) (pv 5) (nomark _))))) (pss_one (ps_ret pe_bl)) pss_nil)) (pss_cons (ps_if (PW.pt (pw_and (pt_val (pe_callB isi1 (by rfl) T.no_isinstance (by decide +kernel) (pa_cons (pv 5) (pa_cons (pe_bltn (by rfl) T.no_tuple (by decide +kernel) (show RelV (.ty "tuple") _ from rfl)) pa_nil)))) (pw_and1 (pt_not (pt_val (pe_callB isi1 (by rfl) T.no_isinstance (by decide +kernel) (pa_cons (pv 4) (pa_cons (pe_bltn (by rfl) T.no_tuple (by decide +kernel) (show RelV (.ty "tuple") _ from rfl)) pa_nil)))))))) (pss_one (ps_ret pe_bl)) pss_nil)
    (pss_cons (ps_if (PW.pt (pw_and (pt_val (pe_callB isi1 (by rfl) T.no_isinstance (by decide +kernel) (pa_cons (pv 5) (pa_cons (pe_bltn (by rfl) T.no_list (by decide +kernel) (show RelV (.ty "list") _ from rfl)) pa_nil)))) (pw_and1 (pt_not (pt_val (pe_callB isi1 (by rfl) T.no_isinstance (by decide +kernel) (pa_cons (pv 4) (pa_cons (pe_bltn (by rfl) T.no_list (by decide +kernel) (show RelV (.ty "list") _ from rfl)) pa_nil)))))))) (pss_one (ps_ret pe_bl)) pss_nil)
    (pss_cons (ps_if (pt_cmpR op_ne (pe_callB len1 (by rfl) T.no_len (by decide +kernel) (pa_cons (pv 4) pa_nil)) (pe_callB len1 (by rfl) T.no_len (by decide +kernel) (pa_cons (pv 5) pa_nil)) (nomark _)) (pss_one (ps_ret pe_bl)) pss_nil)
    (pss_one (ps_for PassesOwn.never rfl (pi_range1 (by rfl) T.no_range (pa_cons (pe_callB len1 (by rfl) T.no_len (by decide +kernel) (pa_cons (pv 5) pa_nil)) pa_nil)) (pg_name (i := 6) sc_law_same.nd rfl (Or.inl rfl)) (pss_one (ps_expr (pe_bm PySem.F.plainAttrs_list PySem.F.slot_list_append PySem.F.type_list_append mt_append (pv 2) (pa_cons (pe_tup (pa_cons (pe_ix ix1 (pv 4) (pv 6) (fun _ _ => rfl)) (pa_cons (pe_ix ix1 (pv 5) (pv 6) (fun _ _ => rfl)) pa_nil))) pa_nil)))))))))))))))))))
    (pss_one (ps_ret pe_bl)))), ?_⟩
  walk_at "sq"
  refine ⟨szl (by decide), fun t0 H1 n1 => ?_⟩
  walk_at "wq"
  refine ⟨szl (by decide), fun L H2 n2 => ?_⟩
  have s2 : Same H H2 := n1.same.trans n2.same
  have hL : H L = none := n1.same.free n2.fr
  walk_at "sq"
  refine wh_by (fun m σ H' => m ≤ 4000000 ∧ Same H H' ∧ ∃ xs v3 v4 v5 v6, σ = [some x, some y, some (.ref L), v3, v4, v5, v6] ∧ H' L = some (.lst xs) ∧ Its H H' xs m) n
    ⟨hn, s2, [.ref t0], _, _, _, _, rfl, n2.at_, by have := Its.snoc (H := H) (H' := H2) .nil (n2.k n1.at_) hx hy; simpa using this⟩ ?_
  rintro m _ H3 N R hN hR ⟨hm, s3, xs, v3, v4, v5, v6, rfl, e3, it⟩
  have hq := sq_l e3
  walk_at "wq"
  refine hR _ _ (wst (fun hb => ?_) (fun hb => ?_))
  · have hb : 0 < xs.length := by simpa using hb
    cases it with
    | nil => exact absurd hb (by simp)
    | @snoc xs m n' k' t a b d it et wa wb =>
      have htL : t ≠ L := ne_of et e3 (by intro z; cases z)
      walk_at "sq"
      refine ⟨tyl e3, .ref t, by simp, fun H4 n4 => ?_⟩
      have n4' : Put H3 L (.lst xs) H4 := by
        have e := List.dropLast_concat (l₁ := xs) (b := V.ref t)
        rw [e] at n4; exact n4
      clear n4
      have e4 := n4'.at_
      have et4 := n4'.k htL et
      have hq4 := sq_t et4
      have s4 : Same H H4 := fun b o e => n4'.k (ne_of_none e hL) (s3 _ _ e)
      have it4 : Its H H4 xs m := it.keep fun t ys e => n4'.k (ne_of e e3 (by intro z; cases z)) e
      walk_at "sq"
      walk_at "sq"
      have fin : N [some x, some y, some (.ref L), some (.ref t), some a, some b, v6] H4 := hN m _ _ (by have := wa.pos; omega) ⟨by omega, s4, xs, _, _, _, _, rfl, e4, it4⟩
      have loop : ∀ (ap bp : Addr) (as bs : List V) (ds : List PyData) (n1 k1 : Nat), sq H ap = some as → sq H bp = some bs → DwAll [] H as ds n1 → DwAll [] H bs ds k1 → n1 + 1 = n' → as.length = bs.length → FRg 0 bs.length (gName 6) (tDrop
            (tBM K "list" rAppend (tVar 2)
              (tCons (tTup (tCons (tOp rIx1 (tVar 4) (tVar 6)) (tCons (tOp rIx1 (tVar 5) (tVar 6)) tNil))) tNil)))
          { nx := N, rt := Q, bk := tRet (tC (V.bl true)) { nx := fun x H' => Q V.non H', rt := Q }, ct := N }
          [some x, some y, some (V.ref L), some (V.ref t), some (V.ref ap), some (V.ref bp), v6] H4 := by
        intro ap bp as bs ds n1 k1 qa qb da db hn1 hl
        refine fr_by (fun i σ H' => Same H H' ∧ ∃ ys v6 w r r', σ = [some x, some y, some (V.ref L), some (V.ref t), some (V.ref ap), some (V.ref bp), v6] ∧ H' L = some (.lst ys) ∧ Its H H' ys (m + w) ∧ DwAll [] H (as.drop i) (ds.drop i) r ∧ DwAll [] H (bs.drop i) (ds.drop i) r' ∧ w + r = n1)
          ⟨s4, xs, v6, 0, n1, k1, rfl, e4, it4, da, db, by omega⟩ ?_ ?_
        · rintro i _ H5 N' hN' hi ⟨s5, ys, v6, w, r, r', rfl, e5, it5, d5, d5', hw⟩
          have qa5 := same_sq s5 qa
          have qb5 := same_sq s5 qb
          have hia : i < as.length := by omega
          rw [List.drop_eq_getElem_cons hia] at d5
          rw [List.drop_eq_getElem_cons hi] at d5'
          generalize hd : ds.drop i = dd at d5 d5'
          cases d5 with
          | @cons _ _ d0 ds0 c1 c2 p1 p2 =>
            cases d5' with
            | @cons _ _ _ _ c3 c4 p3 p4 =>
              have hd1 : ds.drop (i + 1) = ds0 := by rw [← List.drop_drop, hd] <;> rfl
              walk_at "wq"
              refine ⟨tyl e5, as[i], atI_of (by omega) (by simp [hia]), bs[i], atI_of (by omega) (by simp [hi]), szl (by decide), fun t6 H6 n6 => ?_⟩
              have e6 := n6.k e5
              walk_at "wq"
              have hlen := it5.len
              refine ⟨szl' (by omega), fun H7 n7 => ?_⟩
              have ht6 : t6 ≠ L := (n6.ne e5).symm
              refine hN' _ _ ⟨n7.same (s5.trans n6.same) hL, _, _, w + c1, c2, c4, rfl, n7.at_, ?_, by rw [hd1]; exact p2, by rw [hd1]; exact p4, by omega⟩
              have it7 : Its H H7 ys (m + w) := it5.keep fun t ys e => n7.k (ne_of (n6.k e) e6 (by intro z; cases z)) (n6.k e)
              have := Its.snoc it7 (n7.k ht6 n6.at_) p1 p3
              rw [← Nat.add_assoc]
              exact this
        · rintro _ H5 ⟨s5, ys, v6, w, r, r', rfl, e5, it5, d5, d5', hw⟩
          exact hN (m + w) _ _ (by omega) ⟨by omega, s5, ys, _, _, _, _, rfl, e5, it5⟩
      cases wb with
      | lf l =>
        cases l with
        | non => cases wa with | lf l' => cases l'; walk_at "wps"; first | done | exact fin
        | bl c => cases wa with | lf l' => cases l'; cases c <;> walk_at "wps" <;> first | done | exact fin
        | int c =>
          cases wa with
          | lf l' =>
            cases l'
            walk_at "wps"
            refine ⟨.int c, .int c, 1, [], rfl, .lf (.int c), ?_⟩
            walk_at "wps"
        | str c => cases wa with | lf l' => cases l'; walk_at "wps"; first | done | exact fin
      | @lst bp bs ds k'' bne eb db =>
        cases wa with
        | lf l' => cases l'
        | @lst ap as _ n'' ane ea da =>
          have eb4 := s4 _ _ eb
          have ea4 := s4 _ _ ea
          have tb := ty_l eb4
          have ta := ty_l ea4
          have qb := sq_l eb4
          have qa := sq_l ea4
          walk_at "wps"
          have hl := da.len.1.trans db.len.1.symm
          have hl2 := da.len.2
          rw [if_neg (by omega)]
          exact ⟨by omega, by omega, loop ap bp as bs ds _ _ (sq_l ea) (sq_l eb) da db rfl hl⟩
      | @tup bp bs ds k'' bne eb db =>
        cases wa with
        | lf l' => cases l'
        | @tup ap as _ n'' ane ea da =>
          have eb4 := s4 _ _ eb
          have ea4 := s4 _ _ ea
          have tb := ty_t eb4
          have ta := ty_t ea4
          have qb := sq_t eb4
          have qa := sq_t ea4
          walk_at "wps"
          have hl := da.len.1.trans db.len.1.symm
          have hl2 := da.len.2
          rw [if_neg (by omega)]
          exact ⟨by omega, by omega, loop ap bp as bs ds _ _ (sq_t ea) (sq_t eb) da db rfl hl⟩
  · (walk_at "wq") <;> exact k _ s3
/-! frozen -/
def frz : Nat → PyData → PyData
  | n + 1, .list xs => .tuple [.str "list", .tuple (xs.map (frz n))]
  | n + 1, .tuple xs => .tuple [.str "tuple", .tuple (xs.map (frz n))]
  | _, d => d
def sp_frozen (N : Nat) : Sp := fun vs H Q _ => ∃ (v : V) (deep : Int) (E : List Addr) (d : PyData) (n : Nat), vs = [v, .int deep] ∧ 0 ≤ deep ∧ deep < N ∧ Lv E H ∧ Dw E H v d n ∧ n ≤ 1000000 ∧ ∀ u m H', Same H H' → Dw E H' u (frz deep.toNat d) m → m ≤ 8 * n → Q u H'
abbrev st_law_frozen : Stmt := topS 40
theorem sc_law_frozen : FnScope ["value", "deep", "part"] ["value", "deep"] (defScope st_law_frozen) := ⟨rfl, rfl, rfl, by decide +kernel, rfl, by decide +kernel, by decide +kernel⟩
theorem ok_law_frozen (D : Df K mg "_law_frozen" st_law_frozen) (T : NoB mg)  {n : Nat} (C_law_frozen : Cl P w K mg base n "_law_frozen" ["value", "deep"] (sp_frozen n)): Cl P w K mg base (n+1) "_law_frozen" ["value", "deep"] (sp_frozen (n+1)) := by
  refine cl_of D sc_law_frozen (fun _ _ _ _ _ _ us hl => match us, hl with | [_, _], _ => rfl) (fun vs H Q E h => ?_) (fun f cdv A outer sh H vs Q E hr h => ?_)
  · obtain ⟨_, _, _, _, _, rfl, _⟩ := h; rfl
  obtain ⟨v, deep, E, d, n', rfl, h0, h1, lv, hd, hn, k⟩ := h
  refine ⟨_, (pss_cons (ps_if (PW.pt (pw_and (pt_cmpR op_gt (pv 1) pe_int (nomark _)) (pw_and1 (pt_val (pe_callB isi1 (by rfl) T.no_isinstance (by decide +kernel) (pa_cons (pv 0) (pa_cons (pe_bltn (by rfl) T.no_list (by decide +kernel) (show RelV (.ty "list") _ from rfl)) pa_nil))))))) (pss_one (ps_ret (pe_tup (pa_cons pe_str (pa_cons (pe_callTy tup1 (by rfl) T.no_tuple (by decide +kernel) (pa_cons (pe_lc (own := [("part", 2)]) (g := gName 2) (tt := tYes) rfl sc_law_frozen.nd (pi_sq (pv 0)) (blkOk_by (own := [("part", 2)]) (N := ["value", "deep", "part"]) (sc := defScope st_law_frozen) (by decide +kernel)) (fun _ _ _ _ _ => (pg_name (i := 2) sc_law_frozen.nd rfl (Or.inl rfl))) (fun _ _ _ _ _ => pts_nil) (fun _ _ _ _ _ => (pe_cl C_law_frozen hr (by rfl) (pa_cons (pv 2) (pa_cons (pe_op op_sub (pv 1) pe_int) pa_nil)) (Nat.le_refl _)))) pa_nil)) pa_nil))))) pss_nil)
    (pss_cons (ps_if (PW.pt (pw_and (pt_cmpR op_gt (pv 1) pe_int (nomark _)) (pw_and1 (pt_val (pe_callB isi1 (by rfl) T.no_isinstance (by decide +kernel) (pa_cons (pv 0) (pa_cons (pe_bltn (by rfl) T.no_tuple (by decide +kernel) (show RelV (.ty "tuple") _ from rfl)) pa_nil))))))) (pss_one (ps_ret (pe_tup (pa_cons pe_str (pa_cons (pe_callTy tup1 (by rfl) T.no_tuple (by decide +kernel) (pa_cons (pe_lc (own := [("part", 2)]) (g := gName 2) (tt := tYes) rfl sc_law_frozen.nd (pi_sq (pv 0)) (blkOk_by (own := [("part", 2)]) (N := ["value", "deep", "part"]) (sc := defScope st_law_frozen) (by decide +kernel)) (fun _ _ _ _ _ => (pg_name (i := 2) sc_law_frozen.nd rfl (Or.inl rfl))) (fun _ _ _ _ _ => pts_nil) (fun _ _ _ _ _ => (pe_cl C_law_frozen hr (by rfl) (pa_cons (pv 2) (pa_cons (pe_op op_sub (pv 1) pe_int) pa_nil)) (Nat.le_refl _)))) pa_nil)) pa_nil))))) pss_nil)
    (pss_one (ps_ret (pv 0))))), ?_⟩
  have comp : ∀ (p : Addr) (xs : List V) (ds : List PyData) (m : Nat) (R : VK), 0 < deep → m ≤ 1000000 → sq H p = some xs → DwAll E H xs ds m →
      (∀ C acc H1 m', H C = none → Same H H1 → H1 C = some (.lst acc) → DwAll (C :: E) H1 acc (ds.map (frz (deep.toNat - 1))) m' → m' ≤ 8 * m → R (.ref C) H1) →
      CSq K p (gName 2) tYes (tCall (sp_frozen n) [] E0 (tCons (tVar 2) (tCons (tOp (rI0 fun i j => V.int (i - j)) (tVar 1) (tC (V.int 1))) tNil))) [2] [some (V.ref p), some (V.int deep), none] H R := by
    intro p xs ds m R hpos hm hq hd hR
    refine cs_by hq (fun C i acc H' => Same H H' ∧ ∃ m' r w, DwAll (C :: E) H' acc ((ds.take i).map (frz (deep.toNat - 1))) m' ∧ DwAll E H (xs.drop i) (ds.drop i) r ∧ m' ≤ 8 * w ∧ w + r = m)
      (fun C H0 n0 => ⟨n0.same, 0, m, 0, .nil, hd, by omega, by omega⟩) (fun C i acc H' _ ⟨s', _⟩ o e => s' _ _ e) ?_ ?_
    · rintro C i x acc H1 N hC hi ha ⟨s1, m', r, w, d1, d2, hw, hr⟩ hN
      have hlt : i < xs.length := (List.getElem?_eq_some_iff.mp hi).1
      have hx : xs[i] = x := (List.getElem?_eq_some_iff.mp hi).2
      rw [List.drop_eq_getElem_cons hlt, hx] at d2
      generalize hdd : ds.drop i = dd at d2
      cases d2 with
      | @cons _ _ d0 ds0 c1 c2 p1 p2 =>
        have hd1 : ds.drop (i + 1) = ds0 := by rw [← List.drop_drop, hdd] <;> rfl
        have hd2 : ds.take (i + 1) = ds.take i ++ [d0] := by rw [List.take_add, hdd] <;> rfl
        have lvC : Lv (C :: E) H1 := (lv.same s1).cons ha
        walk_at "wq"
        refine ⟨x, deep - 1, C :: E, d0, c1, rfl, by omega, by omega, lvC, (p1.fresh hC).same s1, by omega, fun u mu H2 s2 hu hmu => ?_⟩
        refine cst (s2 _ _ ha) (szl' (by have := d1.len.2; omega)) fun H3 n3 => hN _ _ n3.at_ ⟨n3.same (s1.trans s2) hC, m' + mu, c2, w + c1, ?_, by rw [hd1]; exact p2, by omega, by omega⟩
        rw [hd2, List.map_append]
        have hk : (deep - 1).toNat = deep.toNat - 1 := by omega
        rw [hk] at hu
        exact ((d1.same s2).put n3 (by simp)).app (.one (hu.put n3 (by simp)))
    · rintro C acc H1 hC ha ⟨s1, m', r, w, d1, d2, hw, hr⟩
      have hl := hd.len.1
      have e : ds.take xs.length = ds := by rw [hl]; exact List.take_length
      rw [e] at d1
      exact hR C acc H1 m' hC s1 ha d1 (by omega)
  have last : ∀ (tag : Str) (ds : List PyData) (m : Nat), tag.length ≤ 5 → m + 1 = n' → frz deep.toNat d = .tuple [.str tag, .tuple (ds.map (frz (deep.toNat - 1)))] → ∀ (C : Addr) (acc : List V) (H1 : Hp) (m' : Nat), H C = none → Same H H1 → H1 C = some (.lst acc) → DwAll (C :: E) H1 acc (ds.map (frz (deep.toNat - 1))) m' → m' ≤ 8 * m →
      Nw H1 (HO.tup acc) fun q H2 => Nw H2 (.tup [.str tag, .ref q]) fun p H' => Q (V.ref p) H' := by
    intro tag ds m ht hm hf C acc H1 m' hC s1 ha d1 hm' q H2 n2 p H3 n3
    have hlv2 := (lv.same s1).same n2.same
    have dq : Dw E H2 (.ref q) (.tuple (ds.map (frz (deep.toNat - 1)))) (m' + 1) := .tup ((lv.same s1).out n2.fr) n2.at_ ((d1.sub fun a z => by simp [z]).same n2.same)
    refine k _ (tag.length + 1 + (m' + 1 + 0) + 1) _ ((s1.trans n2.same).trans n3.same) ?_ (by omega)
    rw [hf]
    exact .tup (hlv2.out n3.fr) n3.at_ (.cons (.lf (.str tag)) (.cons (dq.same n3.same) .nil))
  cases hd with
  | lf l =>
    have e : frz deep.toNat d = d := by cases l <;> (cases deep.toNat <;> rfl)
    have fin : Q v H := k v _ H (Same.refl _) (by rw [e]; exact .lf l) (by have := l.pos; omega)
    cases l <;> (walk_at "wps"; (try (split <;> trivial)))
  | @lst a xs ds m ne h da =>
    have ht := ty_l h
    have fin : deep = 0 → Q (.ref a) H := fun z => k _ _ H (Same.refl _) (by rw [z]; exact .lst ne h da) (by omega)
    walk_at "wps"
    split
    · rename_i hp
      refine comp a xs ds m _ hp (by omega) (sq_l h) da fun C acc H1 m' hC s1 ha d1 hm' => ?_
      have hk : deep.toNat = deep.toNat - 1 + 1 := by omega
      have L := last "list" ds m (by decide +kernel) rfl (by rw [hk]; rfl) C acc H1 m' hC s1 ha d1 hm'
      walk_at "wn"
      refine ⟨acc, ha, fun q H2 n2 => ⟨szl (by decide), ?_⟩⟩
      exact L q H2 n2
    · exact fin (by omega)
  | @tup a xs ds m ne h da =>
    have ht := ty_t h
    have fin : deep = 0 → Q (.ref a) H := fun z => k _ _ H (Same.refl _) (by rw [z]; exact .tup ne h da) (by omega)
    walk_at "wps"
    split
    · rename_i hp
      refine comp a xs ds m _ hp (by omega) (sq_t h) da fun C acc H1 m' hC s1 ha d1 hm' => ?_
      have hk : deep.toNat = deep.toNat - 1 + 1 := by omega
      have L := last "tuple" ds m (by decide +kernel) rfl (by rw [hk]; rfl) C acc H1 m' hC s1 ha d1 hm'
      walk_at "wn"
      refine ⟨acc, ha, fun q H2 n2 => ⟨szl (by decide), ?_⟩⟩
      exact L q H2 n2
    · exact fin (by omega)
theorem frozen_all (D : Df K mg "_law_frozen" st_law_frozen) (T : NoB mg) : ∀ n, Cl P w K mg base n "_law_frozen" ["value", "deep"] (sp_frozen n)
  | 0 => cl_false D (fun _ _ _ _ _ _ us hl => match us, hl with | [_, _], _ => rfl) 0 fun vs H Q E h => by
    obtain ⟨v, deep, E, d, n, _, h0, h1, _⟩ := h
    omega
  | n + 1 => ok_law_frozen D T (frozen_all D T n)

end

/-! ## T6 -/

section
variable {P : Program} {w : World} {K : PySem.W.Frag} {mg : Str → Option Value} {base : Heap}
/-! move -/
def sp_move : Sp := fun vs H Q _ => ∃ (s l : Addr) (n : Int), vs = [.ref s, .int n] ∧ Sto s l H ∧ 0 ≤ n ∧ n ≤ 40 ∧ ∀ (q : Addr) (ns : List Int) H', Ge s l H H' → H q = none → H' q = some (.tup (ns.map V.int)) → ns.Perm (rng n.toNat) → Q (.ref q) H'
abbrev st_law_move : Stmt := topS 43
theorem sc_law_move : FnScope ["store", "points", "pick", "image", "size", "ring_row", "k", "shift"] ["store", "points"] (defScope st_law_move) := ⟨rfl, rfl, rfl, by decide +kernel, rfl, by decide +kernel, by decide +kernel⟩
theorem ok_law_move (D : Df K mg "_law_move" st_law_move) (T : NoB mg) (C_law_drawn : Cl P w K mg base 3 "_law_drawn" ["store", "things", "many"] sp_drawn) (C_law_take : Cl P w K mg base 2 "_law_take" ["store", "many"] sp_take) : Cl P w K mg base 4 "_law_move" ["store", "points"] sp_move := by
  refine cl_of D sc_law_move (fun _ _ _ _ _ _ us hl => match us, hl with | [_, _], _ => rfl) (fun vs H Q E h => ?_) (fun f cdv A outer sh H vs Q E hr h => ?_)
  · obtain ⟨_, _, _, rfl, _⟩ := h; rfl
  obtain ⟨s, l, n, rfl, st, hn0, hn1, k⟩ := h
  refine ⟨_, (pss_cons (ps_set (i := 2) sc_law_move.nd rfl (Or.inl rfl) (pe_cl C_law_take hr (by rfl) (pa_cons (pv 0) (pa_cons pe_int pa_nil))))
    (pss_cons (ps_set (i := 3) sc_law_move.nd rfl (Or.inl rfl) (pe_listRg rfl (by rfl) T.no_list (prg_1 (by rfl) T.no_range (pv 1))))
    (pss_cons (ps_if (PW.pt (pw_or (pt_cmpR op_eq (pv 2) pe_int (nomark _)) (pw_or1 (pt_cmpR op_lt (pv 1) pe_int (nomark _))))) (pss_one (ps_ret (pe_callTy tup1 (by rfl) T.no_tuple (by decide +kernel) (pa_cons (pv 3) pa_nil)))) pss_nil)
    (pss_cons (ps_if (pt_cmpR op_lt (pv 2) pe_int (nomark _)) (pss_cons (ps_set (i := 4) sc_law_move.nd rfl (Or.inl rfl) pe_int)
    (pss_cons (ps_if (pt_cmpR op_gt (pv 2) pe_int (nomark _)) (pss_one (ps_set (i := 4) sc_law_move.nd rfl (Or.inl rfl) (pe_op op_add pe_int (pe_cl C_law_take hr (by rfl) (pa_cons (pv 0) (pa_cons (pe_op op_sub (pv 1) pe_int) pa_nil)))))) pss_nil)
    (pss_cons (ps_set (i := 5) sc_law_move.nd rfl (Or.inl rfl) (pe_cl C_law_drawn hr (by rfl) (pa_cons (pv 0) (pa_cons (pv 3) (pa_cons (pv 4) pa_nil)))))
    (pss_cons (ps_for PassesOwn.never rfl (pi_range1 (by rfl) T.no_range (pa_cons (pv 4) pa_nil)) (pg_name (i := 6) sc_law_move.nd rfl (Or.inl rfl)) (pss_one (ps_asg (pe_ix ix1 (pv 5) (pe_op op_modN (pe_callTy int1 (by rfl) T.no_int (by decide +kernel) (pa_cons (pe_op op_add (pv 6) pe_int) pa_nil)) (pv 4)) (fun _ _ => rfl)) (pg_sub (pv 3) (pe_ix ix1 (pv 5) (pv 6) (fun _ _ => rfl)) set_list))))
    (pss_one (ps_ret (pe_callTy tup1 (by rfl) T.no_tuple (by decide +kernel) (pa_cons (pv 3) pa_nil)))))))) pss_nil)
    (pss_cons (ps_if (pt_cmpR op_eq (pv 2) pe_int (nomark _)) (pss_cons (ps_set (i := 7) sc_law_move.nd rfl (Or.inr rfl) (pe_op op_add pe_int (pe_cl C_law_take hr (by rfl) (pa_cons (pv 0) (pa_cons (pe_op op_sub (pv 1) pe_int) pa_nil)))))
    (pss_one (ps_ret (pe_callTy tup1 (by rfl) T.no_tuple (by decide +kernel) (pa_cons (pe_lc (own := [("k", 6)]) (g := gName 6) (tt := tYes) rfl sc_law_move.nd (pi_range1 (by rfl) T.no_range (pa_cons (pv 1) pa_nil)) (blkOk_by (own := [("k", 6)]) (N := ["store", "points", "pick", "image", "size", "ring_row", "k", "shift"]) (sc := defScope st_law_move) (by decide +kernel)) (fun _ _ _ _ _ => (pg_name (i := 6) sc_law_move.nd rfl (Or.inl rfl))) (fun _ _ _ _ _ => pts_nil) (fun _ _ _ _ _ => (pe_op op_modN (pe_callTy int1 (by rfl) T.no_int (by decide +kernel) (pa_cons (pe_op op_add (pv 6) (pv 7)) pa_nil)) (pv 1)))) pa_nil))))) pss_nil)
    (pss_cons (ps_if (pt_cmpR op_eq (pv 2) pe_int (nomark _)) (pss_one (ps_ret (pe_callTy tup1 (by rfl) T.no_tuple (by decide +kernel) (pa_cons (pe_lc (own := [("k", 6)]) (g := gName 6) (tt := tYes) rfl sc_law_move.nd (pi_range1 (by rfl) T.no_range (pa_cons (pv 1) pa_nil)) (blkOk_by (own := [("k", 6)]) (N := ["store", "points", "pick", "image", "size", "ring_row", "k", "shift"]) (sc := defScope st_law_move) (by decide +kernel)) (fun _ _ _ _ _ => (pg_name (i := 6) sc_law_move.nd rfl (Or.inl rfl))) (fun _ _ _ _ _ => pts_nil) (fun _ _ _ _ _ => (pe_op op_sub (pe_op op_sub (pv 1) pe_int) (pv 6)))) pa_nil)))) pss_nil)
    (pss_one (ps_ret (pe_callTy tup1 (by rfl) T.no_tuple (by decide +kernel) (pa_cons (pe_cl C_law_drawn hr (by rfl) (pa_cons (pv 0) (pa_cons (pv 3) (pa_cons (pv 1) pa_nil)))) pa_nil)))))))))), ?_⟩
  walk_at "sq"
  refine ⟨s, l, _, rfl, by decide, st, fun pk H1 g1 r0 r1 r2 => ?_⟩
  have := r1 (by decide)
  walk_at "sq"
  refine ⟨.of_le (by decide) (by omega) (by decide) hn0, fun im H2 n2 => ?_⟩
  have g2 := g1.new n2
  have him := g1.fr n2.fr
  have e2 := n2.at_
  rw [rgV_rng hn0] at e2
  have q2 := sq_l e2
  have idt : ∀ q H3, New H2 q (.tup ((rng n.toNat).map V.int)) H3 → Q (.ref q) H3 := fun q H3 n3 => k q _ H3 (g2.new n3) (g2.fr n3.fr) n3.at_ (.refl _)
  walk_at "sq"
  split
  · exact fun q H3 n3 => idt q H3 n3
  split
  · exact fun q H3 n3 => idt q H3 n3
  rename_i hp0 hp1
  walk_at "sq"
  split
  · walk_at "sq"
    have hn2 : 2 ≤ n := by omega
    refine seq_join (fun σ H' => ∃ sz, σ = [some (.ref s), some (.int n), some (.int pk), some (.ref im), some (.int sz), none, none, none] ∧ Ge s l H2 H' ∧ 2 ≤ sz ∧ sz ≤ n) (fun N hN => ?_) ?_
    · walk_at "wq"
      split
      · refine ⟨s, l, _, rfl, by omega, g2.st, fun r H3 g3 q0 q1 q2 => ?_⟩
        walk_at "wn"
        refine hN _ _ ⟨_, rfl, g3, by omega, ?_⟩
        by_cases z : n - 1 < 2
        · rw [q2 z]; omega
        · have := q1 (by omega); omega
      · exact hN _ _ ⟨2, rfl, Ge.refl g2.st, by omega, hn2⟩
    · rintro _ H3 ⟨sz, rfl, g23, hz1, hz2⟩
      have g3 := g2.trans g23
      have e3 := g23.at st him e2
      have q3 := sq_l e3
      walk_at "sq"
      refine ⟨s, l, im, _, sz, rfl, g3.st, q3, by rw [List.length_map, rng_len]; omega, by omega, fun qr H4 ys rest g34 hqr e4 hp hl => ?_⟩
      have g4 := g3.trans g34
      have ei4 := g34.at st him e3
      have hqr0 := g3.fr hqr
      have hne : im ≠ qr := ne_of_none e3 hqr
      obtain ⟨L, h1, h2⟩ := perm_ints hp
      obtain ⟨r, rst, rfl, rfl, rfl⟩ := append_ints h1
      have hrl : r.length = sz.toNat := by
        rw [List.length_map] at hl
        rw [List.length_map, rng_len] at hl
        rw [hl]; split <;> omega
      have hnd : r.Nodup := (List.nodup_append.mp ((h2.nodup_iff).mpr (rng_nodup _))).1
      have hmem : ∀ x ∈ r, 0 ≤ x ∧ x < n := fun x hx => by
        have := mem_rng.mp (h2.mem_iff.mp (List.mem_append_left _ hx)); omega
      walk_at "sq"
      refine ⟨by omega, by omega, ?_⟩
      refine fr_by (fun i σ H' => Ge s l H H' ∧ ∃ v6 ns, σ = [some (.ref s), some (.int n), some (.int pk), some (.ref im), some (.int sz), some (.ref qr), v6, none] ∧ H' im = some (.lst (ns.map V.int)) ∧ H' qr = some (.lst (r.map V.int)) ∧ ns.length = n.toNat ∧
          (∀ k, k < i → ∃ x y, r[k]? = some x ∧ r[(k + 1) % r.length]? = some y ∧ ns[x.toNat]? = some y) ∧ (∀ p : Nat, p < n.toNat → (p : Int) ∉ r.take i → ns[p]? = some (p : Int)))
        ⟨g4, none, rng n.toNat, rfl, ei4, e4, rng_len _, fun k h => absurd h (Nat.not_lt_zero _), fun p hp _ => rng_get hp⟩ ?_ ?_
      · rintro i _ H5 N hN hi ⟨g5, v6, ns, rfl, e5, f5, hl5, h5, h5'⟩
        have qf5 := sq_l f5
        have hir : i < r.length := by omega
        have hjr : (i + 1) % r.length < r.length := Nat.mod_lt _ (by omega)
        have ej : ((0 : Int) + (i : Int) + 1).fmod sz = (((i + 1) % r.length : Nat) : Int) := by
          rw [Int.fmod_eq_emod_of_nonneg _ (by omega), hrl]
          have : ((sz.toNat : Nat) : Int) = sz := by omega
          push_cast
          rw [this]
          congr 1
          omega
        have hx := hmem r[i] (List.getElem_mem hir)
        walk_at "wq"
        refine ⟨by omega, .int r[(i + 1) % r.length], atI_of (by omega) ?_, .int r[i], atI_of (by omega) ?_, ?_⟩
        · rw [← hrl, Int.toNat_natCast, List.getElem?_map, List.getElem?_eq_getElem hjr]
          rfl
        · simp [hir]
        walk_at "wq"
        refine ⟨r[i].toNat, ixN_of hx.1 (by rw [List.length_map, hl5]; omega), fun H6 n6 => ?_⟩
        refine hN _ _ ⟨g5.put st him n6, _, ns.set r[i].toNat r[(i + 1) % r.length], rfl, ?_, n6.k hne.symm f5, by rw [List.length_set, hl5], fun k hk => ?_, fun p hp hm => ?_⟩
        · rw [n6.at_, List.map_set]
          simp only [hrl]
        · by_cases hki : k = i
          · subst hki
            exact ⟨r[k], r[(k + 1) % r.length], by simp [hir], by simp [hjr], by rw [List.getElem?_set_self (by rw [hl5]; omega)]⟩
          · obtain ⟨x, y, a1, a2, a3⟩ := h5 k (by omega)
            refine ⟨x, y, a1, a2, ?_⟩
            have hk2 : k < r.length := (List.getElem?_eq_some_iff.mp a1).1
            have hxx : r[k] = x := (List.getElem?_eq_some_iff.mp a1).2
            have hx2 := hmem x (List.mem_of_getElem? a1)
            have : r[i] ≠ x := by
              rw [← hxx]
              intro e
              exact hki ((List.getElem?_inj hk2 hnd).mp (by rw [List.getElem?_eq_getElem hk2, List.getElem?_eq_getElem hir, e]))
            rw [List.getElem?_set_ne (by omega)]
            exact a3
        · rw [List.take_succ, List.mem_append, not_or] at hm
          have : r[i] ≠ (p : Int) := fun e => hm.2 (by simp [hir, e])
          rw [List.getElem?_set_ne (by omega)]
          exact h5' p hp hm.1
      · rintro _ H5 ⟨g5, v6, ns, rfl, e5, f5, hl5, h5, h5'⟩
        walk_at "wq"
        refine fun q H6 n6 => k q ns H6 (g5.new n6) (g5.fr n6.fr) n6.at_ (ring_perm h2 hl5 (fun k hk => h5 k (by omega)) fun p hp hm => h5' p hp ?_)
        rw [List.take_of_length_le (by omega)]
        exact hm
  have hn2 : 2 ≤ n := by omega
  walk_at "sq"
  split
  · walk_at "sq"
    refine ⟨s, l, _, rfl, by omega, g2.st, fun r H3 g3 q0 q1 q2 => ?_⟩
    have hr : r < n := by
      by_cases z : n - 1 < 2
      · rw [q2 z]; omega
      · have := q1 (by omega); omega
    have g3' := g2.trans g3
    walk_at "wq"
    refine ⟨by omega, by omega, ?_⟩
    refine cr_by (fun C i acc H' => Ge s l H H' ∧ acc = (((rng n.toNat).take i).map fun k => (k + (1 + r)).fmod n).map V.int) (fun C H0 n0 => ⟨g3'.new n0, by simp⟩) ?_ ?_
    · rintro C i acc H4 N hC hi ha ⟨g4, rfl⟩ hN
      walk_at "wq"
      refine ⟨by omega, cst ha (szl' (by simp; omega)) fun H5 n5 => hN _ _ n5.at_ ⟨g4.put st (g3'.fr hC) n5, ?_⟩⟩
      rw [List.take_succ, rng_get hi]
      simp
    · rintro C acc H4 hC ha ⟨g4, rfl⟩
      rw [List.take_of_length_le (by rw [rng_len]; omega)] at ha
      walk_at "wq"
      refine fun q H5 n5 => k q _ H5 (g4.new n5) (g4.fr n5.fr) n5.at_ ?_
      have := rot_perm (n := n.toNat) (s := (1 + r).toNat) (by omega)
      rw [show (((1 + r).toNat : Nat) : Int) = 1 + r by omega, show ((n.toNat : Nat) : Int) = n by omega] at this
      exact this
  walk_at "sq"
  split
  · walk_at "wq"
    refine ⟨by omega, by omega, ?_⟩
    refine cr_by (fun C i acc H' => Ge s l H H' ∧ acc = (((rng n.toNat).take i).map fun k => n - 1 - k).map V.int) (fun C H0 n0 => ⟨g2.new n0, by simp⟩) ?_ ?_
    · rintro C i acc H4 N hC hi ha ⟨g4, rfl⟩ hN
      walk_at "wq"
      refine cst ha (szl' (by simp; omega)) fun H5 n5 => hN _ _ n5.at_ ⟨g4.put st (g2.fr hC) n5, ?_⟩
      rw [List.take_succ, rng_get hi]
      simp
    · rintro C acc H4 hC ha ⟨g4, rfl⟩
      rw [List.take_of_length_le (by rw [rng_len]; omega)] at ha
      walk_at "wq"
      refine fun q H5 n5 => k q _ H5 (g4.new n5) (g4.fr n5.fr) n5.at_ ?_
      have := rev_perm (n := n.toNat)
      rw [show ((n.toNat : Nat) : Int) = n by omega] at this
      exact this
  · walk_at "wq"
    refine ⟨s, l, im, _, n, rfl, g2.st, q2, by rw [List.length_map, rng_len]; omega, by omega, fun qr H4 ys rest g34 hqr e4 hp hl => ?_⟩
    walk_at "wq"
    refine fun q H5 n5 => ?_
    have g4 := g2.trans g34
    obtain ⟨L, h1, h2⟩ := perm_ints hp
    obtain ⟨r, rst, rfl, rfl, rfl⟩ := append_ints h1
    have hll := h2.length_eq
    rw [List.length_append, rng_len] at hll
    have hrl : rst = [] := by
      rw [List.length_map, List.length_map, rng_len] at hl
      have : r.length = n.toNat := by rw [hl]; split <;> omega
      exact List.eq_nil_of_length_eq_zero (by omega)
    rw [hrl, List.append_nil] at h2
    exact k q r H5 (g4.new n5) (g4.fr n5.fr) n5.at_ h2
end

/-! ## T7 -/

theorem Db.tup1 {E : List Addr} {H : Hp} {b : Nat} {v : V} {p : Addr} (h : Db E H b v) (hp : p ∉ E) (hq : H p = some (.tup [v])) : Db E H (b + 1) (.ref p) := by
  have := Db.seq (E := E) (H := H) (b := b) (xs := [v]) (p := p) (fun x hx => by rw [List.mem_singleton.mp hx]; exact h) hp (.inl hq)
  simpa using this
theorem Db.int {E : List Addr} {H : Hp} {b : Nat} (i : Int) (h : 1 ≤ b) : Db E H b (.int i) := ⟨_, 1, .lf (.int i), h⟩
theorem Db.bl {E : List Addr} {H : Hp} {b : Nat} (i : Bool) (h : 1 ≤ b) : Db E H b (.bl i) := ⟨_, 1, .lf (.bl i), h⟩
theorem Db.non {E : List Addr} {H : Hp} {b : Nat} (h : 1 ≤ b) : Db E H b .non := ⟨_, 1, .lf .non, h⟩
theorem Db.str {E : List Addr} {H : Hp} {b : Nat} {z : Str} (h : z.length + 1 ≤ b) : Db E H b (.str z) := ⟨_, _, .lf (.str z), h⟩
section
variable {P : Program} {w : World} {K : PySem.W.Frag} {mg : Str → Option Value} {base : Heap}
/-! pick of a text -/
def sp_pickS : Sp := fun vs H Q _ => ∃ (s l : Addr) (z : Str), vs = [.ref s, .str z] ∧ Sto s l H ∧ 0 < z.length ∧ z.length ≤ 1000 ∧ ∀ c H', Ge s l H H' → c ∈ z.cps.toList → Q (.str ⟨#[c]⟩) H'
theorem ok_law_pickS (D : Df K mg "_law_pick" st_law_pick) (T : NoB mg) (C_law_take : Cl P w K mg base 2 "_law_take" ["store", "many"] sp_take) : Cl P w K mg base 3 "_law_pick" ["store", "things"] sp_pickS := by
  refine cl_of D sc_law_pick (fun _ _ _ _ _ _ us hl => match us, hl with | [_, _], _ => rfl) (fun vs H Q E h => ?_) (fun f cdv A outer sh H vs Q E hr h => ?_)
  · obtain ⟨_, _, _, rfl, _⟩ := h; rfl
  obtain ⟨s, l, z, rfl, st, hz0, hz1, k⟩ := h
  refine ⟨_, (pss_one (ps_ret (pe_ix ix_str (pv 1) (pe_cl C_law_take hr (by rfl) (pa_cons (pv 0) (pa_cons (pe_callB call_len_str (by rfl) T.no_len (by decide +kernel) (pa_cons (pv 1) pa_nil)) pa_nil))) (fun _ _ => rfl)))), ?_⟩
  walk_at "wps"
  refine ⟨szl (by omega), s, l, _, rfl, by omega, st, fun r H1 g r0 r1 r2 => ?_⟩
  walk_at "wps"
  have hr : r.toNat < z.cps.toList.length := by
    rw [len_tl]
    by_cases q : z.length < 2
    · rw [r2 (by omega)]; exact hz0
    · have := r1 (by omega); omega
  exact ⟨szl (by omega), z.cps.toList[r.toNat], atI_of r0 (by simp [hr]), k _ _ g (List.getElem_mem hr)⟩
/-! bad_move -/
def sp_bad_move : Sp := fun vs H Q _ => ∃ (s l m : Addr) (E : List Addr) (n : Nat) (ns : List Int), vs = [.ref s, .ref m] ∧ Sto s l H ∧ Lv E H ∧ s ∈ E ∧ m ≠ s ∧ H m = some (.tup (ns.map V.int)) ∧ ns.Perm (rng n) ∧ n ≤ 40 ∧ ∀ v H', Ge s l H H' → Db E H' 60 v → Q v H'
end

/-! ## T8 -/

/-- a list of data of at most so much weight -/
def Dl (E : List Addr) (H : Hp) (b : Nat) (xs : List V) : Prop := ∃ ds n, DwAll E H xs ds n ∧ n ≤ b
section
variable {s l p : Addr} {E E' : List Addr} {H H1 : Hp} {o : HO} {b b' c : Nat} {xs ys : List V} {v : V}
theorem DwAll.sublist : ∀ {xs ys : List V} {ds : List PyData} {n : Nat}, ys.Sublist xs → DwAll E H xs ds n → Dl E H n ys
  | _, _, _, _, .slnil, h => by cases h; exact ⟨[], 0, .nil, by omega⟩
  | _, _, _, _, .cons x s, h => by
    cases h with
    | cons a r =>
      obtain ⟨ds, m, h1, h2⟩ := DwAll.sublist s r
      exact ⟨ds, m, h1, by omega⟩
  | _, _, _, _, .cons₂ x s, h => by
    cases h with
    | cons a r =>
      obtain ⟨ds, m, h1, h2⟩ := DwAll.sublist s r
      exact ⟨_, _, .cons a h1, by omega⟩
theorem Dl.sl (h : Dl E H b xs) (s : ys.Sublist xs) : Dl E H b ys := by
  obtain ⟨ds, n, h1, h2⟩ := h
  obtain ⟨es, m, h3, h4⟩ := h1.sublist s
  exact ⟨es, m, h3, by omega⟩
theorem Dl.le (h : Dl E H b xs) (hb : b ≤ b') : Dl E H b' xs := by
  obtain ⟨ds, n, h1, h2⟩ := h
  exact ⟨ds, n, h1, by omega⟩
theorem Dl.app (h : Dl E H b xs) (h' : Dl E H c ys) : Dl E H (b + c) (xs ++ ys) := by
  obtain ⟨ds, n, h1, h2⟩ := h
  obtain ⟨es, m, h3, h4⟩ := h'
  exact ⟨_, _, h1.app h3, by omega⟩
theorem Dl.one (h : Db E H b v) : Dl E H b [v] := by
  obtain ⟨d, n, h1, h2⟩ := h
  exact ⟨_, _, .one h1, by omega⟩
theorem Dl.nil : Dl E H b [] := ⟨[], 0, .nil, by omega⟩
theorem Dl.len (h : Dl E H b xs) : xs.length ≤ b := by
  obtain ⟨d, n, h1, h2⟩ := h
  exact Nat.le_trans h1.len.2 h2
theorem Dl.rev (h : Dl E H b xs) : Dl E H b xs.reverse := by
  obtain ⟨ds, n, h1, h2⟩ := h
  suffices ∀ {xs : List V} {ds : List PyData} {n : Nat}, DwAll E H xs ds n → Dl E H n xs.reverse from (this h1).le h2
  intro xs ds n h
  clear h1 h2
  induction xs generalizing ds n with
  | nil => exact .nil
  | cons x r ih =>
    cases h with
    | @cons _ _ d _ a b w q =>
      rw [List.reverse_cons]
      have := (ih q).app (Dl.one ⟨d, a, w, Nat.le_refl _⟩)
      exact this.le (by omega)
theorem Dl.ge (h : Dl E H b xs) (g : Ge s l H H1) (hs : s ∈ E) : Dl E H1 b xs := by
  obtain ⟨ds, n, h1, h2⟩ := h
  exact ⟨ds, n, h1.ge g hs, h2⟩
theorem Dl.same (h : Dl E H b xs) (g : Same H H1) : Dl E H1 b xs := by
  obtain ⟨ds, n, h1, h2⟩ := h
  exact ⟨ds, n, h1.same g, h2⟩
theorem Dl.put (h : Dl E H b xs) (g : Put H p o H1) (hp : p ∈ E) : Dl E H1 b xs := by
  obtain ⟨ds, n, h1, h2⟩ := h
  exact ⟨ds, n, h1.put g hp, h2⟩
theorem Dl.fresh (h : Dl E H b xs) (hp : H p = none) : Dl (p :: E) H b xs := by
  obtain ⟨ds, n, h1, h2⟩ := h
  exact ⟨ds, n, h1.fresh hp, h2⟩
theorem Dl.sub (h : Dl E H b xs) (k : ∀ a, a ∈ E' → a ∈ E) : Dl E' H b xs := by
  obtain ⟨ds, n, h1, h2⟩ := h
  exact ⟨ds, n, h1.sub k, h2⟩
theorem Db.fresh (h : Db E H b v) (hp : H p = none) : Db (p :: E) H b v := by
  obtain ⟨ds, n, h1, h2⟩ := h
  exact ⟨ds, n, h1.fresh hp, h2⟩
theorem Dl.db (h : Dl E H b xs) (hp : p ∉ E) (hq : H p = some (.tup xs) ∨ H p = some (.lst xs)) : Db E H (b + 1) (.ref p) := by
  obtain ⟨ds, n, h1, h2⟩ := h
  rcases hq with q | q
  · exact ⟨_, _, .tup hp q h1, by omega⟩
  · exact ⟨_, _, .lst hp q h1, by omega⟩
theorem Dl.mem (h : Dl E H b xs) (hv : v ∈ xs) : Db E H b v := by
  obtain ⟨ds, n, h1, h2⟩ := h
  obtain ⟨e, m, _, h3, h4⟩ := h1.mem hv
  exact ⟨e, m, h3, by omega⟩
theorem Dl.set (h : Dl E H b xs) (hv : Db E H c v) (i : Nat) : Dl E H (b + c) (xs.set i v) := by
  by_cases hi : i < xs.length
  · rw [List.set_eq_take_append_cons_drop, if_pos hi]
    obtain ⟨ds, n, h1, h2⟩ := h
    have e : xs = xs.take i ++ xs.drop i := (List.take_append_drop i xs).symm
    suffices ∀ {as bs : List V} {ds : List PyData} {n : Nat}, DwAll E H (as ++ bs) ds n → ∃ a b, Dl E H a as ∧ Dl E H b bs ∧ a + b ≤ n by
      rw [e] at h1
      obtain ⟨a, b', q1, q2, q3⟩ := this h1
      have z : (xs.drop (i + 1)).Sublist (xs.drop i) := by rw [← List.drop_drop]; exact List.drop_sublist _ _
      have := q1.app ((Dl.one hv).app (q2.sl z))
      exact this.le (by omega)
    intro as bs ds n h
    clear h1 h2 e
    induction as generalizing ds n with
    | nil => exact ⟨0, n, .nil, ⟨ds, n, h, Nat.le_refl _⟩, by omega⟩
    | cons x r ih =>
      cases h with
      | @cons _ _ d _ a b w q =>
        obtain ⟨a', b', q1, q2, q3⟩ := ih q
        exact ⟨a + a', b', (Dl.one ⟨d, a, w, Nat.le_refl _⟩).app q1, q2, by omega⟩
  · rw [List.set_eq_of_length_le (by omega)]
    exact h.le (by omega)
theorem cutV_sub (xs : List V) (lo hi : Option Int) : (cutV xs lo hi).Sublist xs := (List.take_sublist _ _).trans (List.drop_sublist _ _)
/-- what data is -/
theorem Db.cases (h : Db E H b v) : (∃ d n, Lf v d n ∧ n ≤ b) ∨ ∃ a xs, v = .ref a ∧ a ∉ E ∧ (H a = some (.tup xs) ∨ H a = some (.lst xs)) ∧ Dl E H (b - 1) xs ∧ 1 ≤ b := by
  obtain ⟨d, n, h, hn⟩ := h
  cases h with
  | lf l => exact .inl ⟨d, n, l, hn⟩
  | lst ne e a => exact .inr ⟨_, _, rfl, ne, .inr e, ⟨_, _, a, by omega⟩, by omega⟩
  | tup ne e a => exact .inr ⟨_, _, rfl, ne, .inl e, ⟨_, _, a, by omega⟩, by omega⟩
end
section
variable {P : Program} {w : World} {K : PySem.W.Frag} {mg : Str → Option Value} {base : Heap}
/-! bent_text -/
def sp_bent_text : Sp := fun vs H Q _ => ∃ (s l : Addr) (t : Str), vs = [.ref s, .str t] ∧ Sto s l H ∧ t.length ≤ 1000000 ∧ ∀ z H', Ge s l H H' → z.length ≤ 4 * t.length + 2 → (Vis t → Vis z) → Q (.str z) H'
theorem one_vis {c : Nat} {z : Str} (h : c ∈ z.cps.toList) (v : Vis z) : Vis ⟨#[c]⟩ := fun x hx => by
  have : x = c := by simpa using hx
  rw [this]; exact v c h
theorem picked_vis : ((PySem.Str.ofString "() 0123456789-+,\nae" : Str).cps.toList.all fun c => decide (c = 10 ∨ (32 ≤ c ∧ c < 127))) = true ∧ 0 < (PySem.Str.ofString "() 0123456789-+,\nae" : Str).length ∧ (PySem.Str.ofString "() 0123456789-+,\nae" : Str).length ≤ 1000 := by decide +kernel
/-! bent_leaf -/
def sp_bent_leaf : Sp := fun vs H Q _ => ∃ (s l : Addr) (E : List Addr) (v : V) (d : PyData) (n : Nat), vs = [.ref s, v] ∧ Sto s l H ∧ Lv E H ∧ s ∈ E ∧ Lf v d n ∧ n ≤ 1000000 ∧ ∀ u H', Ge s l H H' → Db E H' (4 * n + 40) u → Q u H'
end

/-! ## T9 -/

theorem seq_ty {s l a : Addr} {H : Hp} {xs : List V} (hs : a ≠ s) (h : H a = some (.tup xs) ∨ H a = some (.lst xs)) : ∃ t r, kitB t "tuple" = some r ∧ kitB t "list" = some (!r) ∧ ∀ H', Ge s l H H' → tyN H' (.ref a) = some t := by
  rcases h with h | h
  · exact ⟨"tuple", true, by decide +kernel, by decide +kernel, fun H' g => ty_t (g.k hs h)⟩
  · exact ⟨"list", false, by decide +kernel, by decide +kernel, fun H' g => ty_l (g.k hs h)⟩
theorem sq_of {a : Addr} {H : Hp} {xs : List V} (h : H a = some (.tup xs) ∨ H a = some (.lst xs)) : sq H a = some xs := by
  rcases h with h | h
  · exact sq_t h
  · exact sq_l h
theorem or_ge {s l a : Addr} {H H' : Hp} {xs : List V} (hs : a ≠ s) (g : Ge s l H H') (h : H a = some (.tup xs) ∨ H a = some (.lst xs)) : H' a = some (.tup xs) ∨ H' a = some (.lst xs) := by
  rcases h with h | h
  · exact .inl (g.k hs h)
  · exact .inr (g.k hs h)
section
variable {P : Program} {w : World} {K : PySem.W.Frag} {mg : Str → Option Value} {base : Heap}
/-! bent_part -/
def sp_bent_part : Sp := fun vs H Q _ => ∃ (s l a : Addr) (E : List Addr) (xs : List V) (n : Nat), vs = [.ref s, .ref a] ∧ Sto s l H ∧ Lv E H ∧ s ∈ E ∧ a ∉ E ∧ (H a = some (.tup xs) ∨ H a = some (.lst xs)) ∧ Dl E H n xs ∧ n ≤ 1000000 ∧ ∀ u H', Ge s l H H' → Db E H' (4 * n + 8) u → Q u H'
/-! bent -/
/-- the way down: at each step a seq and a place in it -/
def PathOk (E : List Addr) (H : Hp) (n : Nat) (x : V) : Prop := ∃ t h xs, ∃ i : Nat, x = .ref t ∧ H t = some (.tup [.ref h, .int i]) ∧ h ∉ E ∧ (H h = some (.tup xs) ∨ H h = some (.lst xs)) ∧ Dl E H n xs ∧ i < xs.length
theorem PathOk.keep {E : List Addr} {H H' : Hp} {n : Nat} {x : V} (p : PathOk E H n x) (k : ∀ a xs, H a = some (.tup xs) → H' a = some (.tup xs)) (k2 : ∀ a o, a ∉ E → H a = some o → H' a = some o) : PathOk E H' n x := by
  obtain ⟨t, h, xs, i, rfl, e, hE, q, d, hi⟩ := p
  obtain ⟨ds, m, h1, h2⟩ := d
  refine ⟨t, h, xs, i, rfl, k _ _ e, hE, ?_, ⟨ds, m, h1.kp k2, h2⟩, hi⟩
  rcases q with q | q
  · exact .inl (k2 _ _ hE q)
  · exact .inr (k2 _ _ hE q)
theorem PathOk.ge {E : List Addr} {H H' : Hp} {n : Nat} {x : V} {s l : Addr} (p : PathOk E H n x) (st : Sto s l H) (g : Ge s l H H') (hs : s ∈ E) : PathOk E H' n x := by
  obtain ⟨ns, i1, i2, i3, i4, i5, i6, h1, _⟩ := st
  exact p.keep (fun a xs e => g.k (ne_of e h1 (by intro z; cases z)) e) fun a o ha e => g.k (fun z => ha (z ▸ hs)) e
theorem PathOk.same {E : List Addr} {H H' : Hp} {n : Nat} {x : V} (p : PathOk E H n x) (g : Same H H') : PathOk E H' n x := p.keep (fun a xs e => g _ _ e) fun a o _ e => g _ _ e
theorem PathOk.put {E : List Addr} {H H' : Hp} {n : Nat} {x : V} {q : Addr} {ys : List V} {o : HO} (p : PathOk E H n x) (hq : H q = some (.lst ys)) (g : Put H q o H') (hs : q ∈ E) : PathOk E H' n x :=
  p.keep (fun a xs e => g.k (ne_of e hq (by intro z; cases z)) e) fun a o ha e => g.k (fun z => ha (z ▸ hs)) e
def sp_bent : Sp := fun vs H Q _ => ∃ (s l : Addr) (E : List Addr) (v : V) (n : Nat), vs = [.ref s, v] ∧ Sto s l H ∧ Lv E H ∧ s ∈ E ∧ Db E H n v ∧ n ≤ 100000 ∧ ∀ u H', Ge s l H H' → Db E H' (9 * n + 50) u → Q u H'
/-! judged -/
def sp_judged : Sp := fun vs H Q _ => ∃ (s l : Addr) (E : List Addr) (v : V) (n : Nat), vs = [.ref s, v] ∧ Sto s l H ∧ Lv E H ∧ s ∈ E ∧ Db E H n v ∧ n ≤ 1000 ∧ ∀ u H', Ge s l H H' → Db E H' (81 * n + 500) u → Q u H'
end

/-! ## T10 -/

section
variable {P : Program} {w : World} {K : PySem.W.Frag} {mg : Str → Option Value} {base : Heap}
/-! the program's is_whole -/
abbrev stis_whole_moves : Stmt := topS 10
theorem scis_whole_moves : FnScope ["value"] ["value"] (defScope stis_whole_moves) := ⟨rfl, rfl, rfl, by decide +kernel, rfl, by decide +kernel, by decide +kernel⟩
theorem okis_whole_moves (D : DfA K mg "is_whole_moves" "is_whole" stis_whole_moves) (T : NoB mg)  : Cl P w K mg base 1 "is_whole_moves" ["value"] sp_isw := by
  refine cl_ofA D scis_whole_moves (fun _ _ _ _ _ _ us hl => match us, hl with | [_], _ => rfl) (fun vs H Q E h => ?_) (fun f cdv A outer sh H vs Q E hr h => ?_)
  · obtain ⟨_, _, _, _, rfl, _⟩ := h; rfl
  obtain ⟨v, d, n, E, rfl, hv, k⟩ := h
  refine ⟨_, (pss_one (ps_ret (pe_and (pe_callB isi1 (by rfl) T.no_isinstance (by decide +kernel) (pa_cons (pv 0) (pa_cons (pe_bltn (by rfl) T.no_int (by decide +kernel) (show RelV (.ty "int") _ from rfl)) pa_nil))) (pe_one (pe_not (pe_callB isi1 (by rfl) T.no_isinstance (by decide +kernel) (pa_cons (pv 0) (pa_cons (pe_bltn (by rfl) T.no_bool (by decide +kernel) (show RelV (.ty "bool") _ from rfl)) pa_nil)))))))), ?_⟩
  cases hv with
  | lf l => cases l <;> (walk_at "wps"; exact k)
  | lst ne h a =>
    have ht := ty_l h
    walk_at "wps"
    exact k
  | tup ne h a =>
    have ht := ty_t h
    walk_at "wps"
    exact k
/-! is_move -/
def sp_is_move : Sp := fun vs H Q _ => ∃ (v : V) (E : List Addr) (d : PyData) (n : Nat), vs = [v] ∧ Dw E H v d n ∧ ∀ H', Same H H' → Q (.bl (isMoveD d)) H'
theorem isWh_int {v : V} (h : isWh v = true) : ∃ i, v = .int i := by
  cases v <;> first | exact ⟨_, rfl⟩ | cases h
theorem ints_of : ∀ {xs : List V}, (∀ x ∈ xs, isWh x = true) → ∃ ns : List Int, xs = ns.map V.int
  | [], _ => ⟨[], rfl⟩
  | x :: r, h => by
    obtain ⟨i, rfl⟩ := isWh_int (h x List.mem_cons_self)
    obtain ⟨ns, rfl⟩ := ints_of fun y hy => h y (List.mem_cons_of_mem _ hy)
    exact ⟨i :: ns, rfl⟩
theorem not_move_leaf {v : V} {d : PyData} {n : Nat} (l : Lf v d n) : isMoveD d = false := isMove_f fun ⟨ns, e, _⟩ => by cases l <;> cases e
theorem not_move_list {ds : List PyData} : isMoveD (.list ds) = false := isMove_f fun ⟨ns, e, _⟩ => by cases e
abbrev stis_move : Stmt := topS 12
theorem scis_move : FnScope ["value", "entry"] ["value"] (defScope stis_move) := ⟨rfl, rfl, rfl, by decide +kernel, rfl, by decide +kernel, by decide +kernel⟩
theorem okis_move (D : Df K mg "is_move" stis_move) (T : NoB mg) (Cis_whole_moves : Cl P w K mg base 1 "is_whole_moves" ["value"] sp_isw) {tk : Tok} (G_MOST_POINTS : mg "MOST_POINTS" = some (.int 12 tk)): Cl P w K mg base 2 "is_move" ["value"] sp_is_move := by
  refine cl_of D scis_move (fun _ _ _ _ _ _ us hl => match us, hl with | [_], _ => rfl) (fun vs H Q E h => ?_) (fun f cdv A outer sh H vs Q E hr h => ?_)
  · obtain ⟨_, _, _, _, rfl, _⟩ := h; rfl
  obtain ⟨v, E, d, n, rfl, hv, k⟩ := h
  refine ⟨_, (pss_cons (ps_if (PW.pt (pw_or (pt_not (pt_val (pe_callB isi1 (by rfl) T.no_isinstance (by decide +kernel) (pa_cons (pv 0) (pa_cons (pe_bltn (by rfl) T.no_tuple (by decide +kernel) (show RelV (.ty "tuple") _ from rfl)) pa_nil))))) (pw_or1 (pt_cmpR op_gt (pe_callB len1 (by rfl) T.no_len (by decide +kernel) (pa_cons (pv 0) pa_nil)) (pe_glob (by rfl) G_MOST_POINTS (show RelV (.int 12) _ from ⟨_, rfl⟩)) (nomark _))))) (pss_one (ps_ret pe_bl)) pss_nil)
    (pss_cons (ps_for PassesOwn.never rfl (pi_sq (pv 0)) (pg_name (i := 1) scis_move.nd rfl (Or.inl rfl)) (pss_one (ps_if (pt_not (pt_val (pe_cl Cis_whole_moves hr (by rfl) (pa_cons (pv 1) pa_nil)))) (pss_one (ps_ret pe_bl)) pss_nil)))
    (pss_one (ps_ret (pe_cmpR (op_eqD hr.units) (pe_callB sorted1 (by rfl) T.no_sorted (by decide +kernel) (pa_cons (pv 0) pa_nil)) (pe_listRg rfl (by rfl) T.no_list (prg_1 (by rfl) T.no_range (pe_callB len1 (by rfl) T.no_len (by decide +kernel) (pa_cons (pv 0) pa_nil)))) (nomark _)))))), ?_⟩
  cases hv with
  | lf l =>
    have fin : Q (.bl false) H := by have := k H (Same.refl _); rw [not_move_leaf l] at this; exact this
    cases l <;> walk_at "wps"
  | lst ne h a =>
    have ht := ty_l h
    have fin : Q (.bl false) H := by have := k H (Same.refl _); rw [not_move_list] at this; exact this
    walk_at "wps"
  | @tup a xs ds m ne h da =>
    have ht := ty_t h
    have qa := sq_t h
    have hl := da.len.1
    walk_at "sq"
    split
    · rename_i hlt
      have := k H (Same.refl _)
      rw [isMove_f fun ⟨ns, e, h1, _⟩ => by have h5 := congrArg List.length (PyData.tuple.inj e); rw [List.length_map] at h5; omega] at this
      exact this
    rename_i hlt
    have hlt : xs.length ≤ 12 := by omega
    walk_at "sq"
    refine fs_by qa (fun i σ H' => ∃ v1, σ = [some (.ref a), v1] ∧ H = H' ∧ ∀ x ∈ xs.take i, isWh x = true) ⟨none, rfl, rfl, by simp⟩ (fun i σ' H' p o ho => by obtain ⟨_, _, e, _⟩ := p; rw [← e]; exact ho) ?_ ?_
    · rintro i x _ _ N hN hi ⟨v1, rfl, rfl, hx⟩
      obtain ⟨e, c, h1, h2, h3⟩ := da.get hi
      walk_at "wn"
      refine ⟨x, e, c, E, rfl, h2, ?_⟩
      walk_at "wn"
      split
      · rename_i hw
        have := k H (Same.refl _)
        rw [isMove_f fun ⟨ns, ed, _⟩ => by
          cases ed
          have := dw_ints' da
          rw [this] at hi
          have hm := List.mem_of_getElem? hi
          obtain ⟨z, _, rfl⟩ := List.mem_map.mp hm
          cases hw] at this
        exact this
      · rename_i hw
        have hw : isWh x = true := by simpa using hw
        refine hN _ _ ⟨_, rfl, rfl, fun y hy => ?_⟩
        rw [List.take_succ, hi] at hy
        rcases List.mem_append.mp hy with z | z
        · exact hx y z
        · have : y = x := by simpa using z
          rw [this]; exact hw
    · rintro _ _ ⟨v1, rfl, rfl, hx⟩
      rw [List.take_length] at hx
      obtain ⟨ns, rfl⟩ := ints_of hx
      have hds := dw_ints da
      subst hds
      rw [List.length_map] at hlt
      have hlt12 : ns.length ≤ 12 := by omega
      walk_at "wq"
      refine ⟨ns, rfl, by omega, fun ns' p H2 hp hs n2 => ?_⟩
      have q2 := same_sq n2.same qa
      have e2 := n2.at_
      walk_at "wn"
      refine ⟨_, q2, .of_le (by decide) (by rw [List.length_map]; omega) (by decide) (by omega), fun q H3 n3 => ?_⟩
      have e3 := n3.at_
      rw [rgV_rng (by omega)] at e3
      refine ⟨.list (ns'.map .int), .list ((rng ns.length).map .int), .lst (SqL.of (n3.k e2)) (dpAll_ints _), ?_, shaped_ints _, shaped_ints _, ?_⟩
      · refine .lst (SqL.of (e3.trans ?_)) (dpAll_ints _)
        rw [List.length_map] <;> rfl
      · have kk := k H3 (n2.same.trans n3.same)
        rw [eqv_ints]
        by_cases hm : ns.Perm (rng ns.length)
        · rw [isMove_t ⟨ns, rfl, hlt12, hm⟩] at kk
          have : ns' = rng ns.length := perm_sorted_eq (hp.trans hm) hs (rng_sorted _)
          rw [decide_eq_true this]; exact kk
        · rw [isMove_f fun ⟨ms, e, _, h2⟩ => by
            have : ms = ns := by
              have e' := (PyData.tuple.inj e)
              exact ((List.map_inj_right fun _ _ h => PyData.int.inj h).mp e').symm
            rw [this] at h2; exact hm h2] at kk
          have : ¬ ns' = rng ns.length := fun e => hm (hp.symm.trans (by rw [e]))
          rw [decide_eq_false this]; exact kk
/-! counted -/
theorem move_counts {E : List Addr} {H : Hp} {xs : List V} {ds : List PyData} {n : Nat} (da : DwAll E H xs ds n) (hl : xs.length ≤ 12) : IsMoveP (.tuple ds) ↔ ∀ k, k < xs.length → xs.count (V.int (k : Int)) = 1 := by
  constructor
  · rintro ⟨ns, e, h1, h2⟩ k hk
    have e' := PyData.tuple.inj e
    subst e'
    have := dw_ints' da
    subst this
    rw [List.length_map] at hk
    have hp : (ns.map V.int).Perm ((rng ns.length).map V.int) := h2.map _
    rw [hp.count_eq]
    have nd : ((rng ns.length).map V.int).Nodup := List.Pairwise.map _ (fun a b (h : a ≠ b) z => h (V.int.inj z)) (rng_nodup _)
    rw [List.Nodup.count nd, if_pos (List.mem_map.mpr ⟨_, mem_rng.mpr ⟨by omega, by omega⟩, rfl⟩)]
  · intro h
    have hp : xs.Perm ((rng xs.length).map V.int) := by
      refine sub_perm (List.Pairwise.map _ (fun a b (h : a ≠ b) z => h (V.int.inj z)) (rng_nodup _)) (fun a ha => ?_) (by rw [List.length_map, rng_len]; exact Nat.le_refl _)
      obtain ⟨i, hi, rfl⟩ := List.mem_map.mp ha
      have := mem_rng.mp hi
      have c := h i.toNat (by omega)
      rw [show ((i.toNat : Nat) : Int) = i by omega] at c
      exact List.count_pos_iff.mp (by omega)
    obtain ⟨ns, rfl, hp2⟩ := perm_ints hp
    refine ⟨ns, by rw [dw_ints da], by rw [List.length_map] at hl; exact hl, ?_⟩
    rw [List.length_map] at hp2
    exact hp2
end

/-! ## T11 -/

def AllI (xs : List V) : Prop := ∀ x ∈ xs, ∃ i, x = V.int i
theorem AllI.dl {E : List Addr} {H : Hp} : ∀ {xs : List V}, AllI xs → Dl E H xs.length xs
  | [], _ => .nil
  | x :: r, h => by
    obtain ⟨i, rfl⟩ := h x List.mem_cons_self
    have := (Dl.one (Db.int (E := E) (H := H) i (Nat.le_refl 1))).app (AllI.dl (xs := r) fun y hy => h y (List.mem_cons_of_mem _ hy))
    exact this.le (by simp only [List.length_cons]; omega)
theorem AllI.map (ns : List Int) : AllI (ns.map V.int) := fun x hx => by
  obtain ⟨i, _, rfl⟩ := List.mem_map.mp hx
  exact ⟨i, rfl⟩
theorem AllI.db {E : List Addr} {H : Hp} {xs : List V} {p : Addr} {b : Nat} (h : AllI xs) (hp : p ∉ E) (hq : H p = some (.tup xs) ∨ H p = some (.lst xs)) (hb : xs.length + 1 ≤ b) : Db E H b (.ref p) := (h.dl.db hp hq).le hb
theorem AllI.rep {xs : List V} {k : Nat} (h : AllI xs) : AllI (List.replicate k xs).flatten := fun x hx => by
  obtain ⟨l, hl, hx⟩ := List.mem_flatten.mp hx
  rw [(List.mem_replicate.mp hl).2] at hx
  exact h x hx
theorem rep_len (k : Nat) (xs : List V) : (List.replicate k xs).flatten.length = k * xs.length := by simp
section
variable {P : Program} {w : World} {K : PySem.W.Frag} {mg : Str → Option Value} {base : Heap}
/-! store -/
def sp_store (K : PySem.W.Frag) : Sp := fun vs H Q _ => ∃ (a : Addr) (ns : List Int), vs = [.ref a] ∧ SqL K H a (ns.map V.int) ∧ ns.length ≤ 1000 ∧ ∀ s l H', Same H H' → H s = none → Sto s l H' → Q (.ref s) H'
abbrev st_law_store : Stmt := topS 26
theorem sc_law_store : FnScope ["script", "cell"] ["script"] (defScope st_law_store) := ⟨rfl, rfl, rfl, by decide +kernel, rfl, by decide +kernel, by decide +kernel⟩
theorem ok_law_store (D : Df K mg "_law_store" st_law_store) (T : NoB mg)  : Cl P w K mg base 1 "_law_store" ["script"] (sp_store K) := by
  refine cl_of D sc_law_store (fun _ _ _ _ _ _ us hl => match us, hl with | [_], _ => rfl) (fun vs H Q E h => ?_) (fun f cdv A outer sh H vs Q E hr h => ?_)
  · obtain ⟨_, _, rfl, _⟩ := h; rfl
  obtain ⟨a, ns, rfl, hs, hn, k⟩ := h
  refine ⟨_, (pss_one (ps_ret (pe_lst (pa_cons (pe_lc (own := [("cell", 1)]) (g := gName 1) (tt := tYes) rfl sc_law_store.nd (pi_sq (pe_slice sl_list (pv 0) po_none (po_some pe_int))) (blkOk_by (own := [("cell", 1)]) (N := ["script", "cell"]) (sc := defScope st_law_store) (by decide +kernel)) (fun _ _ _ _ _ => (pg_name (i := 1) sc_law_store.nd rfl (Or.inl rfl))) (fun _ _ _ _ _ => pts_nil) (fun _ _ _ _ _ => (pe_callTy int1 (by rfl) T.no_int (by decide +kernel) (pa_cons (pv 1) pa_nil)))) (pa_cons pe_int (pa_cons pe_int (pa_cons pe_int (pa_cons pe_int (pa_cons pe_int (pa_cons pe_int pa_nil)))))))))), ?_⟩
  walk_at "wn"
  refine ⟨ns.map V.int, hs, fun p H1 n1 => ?_⟩
  have e1 := n1.at_
  have hc : ∃ ms : List Int, cutV (ns.map V.int) none (some 63) = ms.map V.int ∧ ms.length ≤ ns.length := by
    unfold cutV
    refine ⟨(ns.drop _).take _, by rw [← List.map_drop, ← List.map_take], ?_⟩
    rw [List.length_take, List.length_drop]
    omega
  obtain ⟨ms, em, hm⟩ := hc
  rw [em] at e1
  walk_at "wn"
  refine cs_by (sq_l e1) (fun C i acc H' => Same H1 H' ∧ acc = (ms.take i).map V.int) (fun C H0 n0 => ⟨n0.same, by simp⟩) (fun C i acc H' _ p o ho => p.1 _ _ ho) ?_ ?_
  · rintro C i x acc H2 N hC hi ha ⟨s2, rfl⟩ hN
    rw [List.getElem?_map] at hi
    cases e : ms[i]? with
    | none => rw [e] at hi; cases hi
    | some z =>
      rw [e] at hi
      cases hi
      walk_at "wn"
      refine cst ha (szl' (by rw [List.length_map, List.length_take]; omega)) fun H5 n5 => hN _ _ n5.at_ ⟨n5.same s2 hC, ?_⟩
      rw [List.take_succ, e]
      simp
  · rintro C acc H2 hC ha ⟨s2, rfl⟩
    rw [List.length_map, List.take_length] at ha
    walk_at "wn"
    refine ⟨szl (by decide), fun s H3 n3 => ?_⟩
    have sm := (n1.same.trans s2).trans n3.same
    exact k s C H3 sm ((n1.same.trans s2).free n3.fr) ⟨ms, 0, 0, 0, 0, 0, 0, n3.at_, n3.k ha, n3.ne ha, by decide⟩
/-! near -/
def sp_near : Sp := fun vs H Q _ => ∃ (s l : Addr) (E : List Addr), vs = [.ref s] ∧ Sto s l H ∧ Lv E H ∧ s ∈ E ∧ ∀ u H', Ge s l H H' → Db E H' 250000 u → Q u H'
end

/-! ## HoV -/
/-- an own error of the class at C, at a, its dict -/
def XoAt (a C : Addr) (d : Option Addr) (H : Hp) : Prop := H a = some (exo a C d) ∧ match d with
  | none => True
  | some dd => ∃ fs, H dd = some (exd dd fs)
theorem XoAt.same {a C : Addr} {d : Option Addr} {H H' : Hp} (h : XoAt a C d H) (s : Same H H') : XoAt a C d H' := ⟨s _ _ h.1, by
  have h2 := h.2
  cases d with
  | none => trivial
  | some dd => exact h2.imp fun fs e => s _ _ e⟩
/-- an __init__ without parameters -/
def sp_ini0 (C : Addr) : Sp := fun vs H Q _ => ∃ x : Addr, vs = [.ref x] ∧ H x = some (exo x C none) ∧ Q .non H
structure ErrC0 (P : Program) (w : World) (K : PySem.W.Frag) (mg : Str → Option Value) (base : Heap) (k : Nat) (x : Str) (C : Addr) : Prop where
  g : mg x = some (.ref C)
  T : OexC K C
  ini : ∃ (fI : Addr) (fd : FuncData) (ps : List Str), PySem.W.findIn K (.ref C) "__init__" = some (some (.ref fI)) ∧ PySem.W.typeIn K (.ref fI) = some (.type "function") ∧ Binds K fd ps [] ∧ FnOk P w K mg base CX0 k fI fd ps (sp_ini0 C)
  xf : XfC K C
  ec : ExcC K C
section
variable {X : Cx} {C : Addr} {ok : List V → Hp → Prop} {fl : List Str} {k : Nat} {x : Str}
theorem run_err {pins : List (Addr × Obj)} {σ : L2.St} {H1 : Hp} {s1 : Shared} {us : List Value} {vs : List V} {Q : VK} {sp : Sp} {j : Nat} {fI : Addr} {fd : FuncData} {ps : List Str} (T : OexC X.K C) (iC : PySem.W.findIn X.K (.ref C) "__init__" = some (some (.ref fI))) (tI : PySem.W.typeIn X.K (.ref fI) = some (.type "function"))
    (hb : Binds X.K fd ps []) (F1 : FnOk X.prog X.w X.K X.mg X.base CX0 j fI fd ps sp) (hr : Room (j + 1) X.A) (I1 : Inv X pins σ H1 s1) (r1 : Vals vs us) (hs : vs.length ≤ 1000) (h : ∀ a, H1 a = none → sp (.ref a :: vs) (upd H1 a (exo a C none)) (fun v H2 => v = .non ∧ Q (.ref a) H2) fun _ _ _ => False) :
    wpAny (model X.prog X.w) X.A (call (.ref C) us) (EP X pins σ Q) X.xe s1 := by
  obtain ⟨nm, q, N, bs, bm, sn, sub, ab, col, dd, k0, k1, k2, k3, k5, hC, hbm⟩ := T.cls
  obtain ⟨hp, g, dr, tk, os⟩ := s1
  generalize hx : hp.objs.size + 1 = a
  have hsz : hp.objs.size ≤ a := by omega
  have hn : H1 a = none := I1.hok.fresh hsz
  have kk : ∀ b o, hp.get? b = some o → ((hp.push (PySem.W.kdv_tup us)).push (PySem.HandSPX.excO C hp.objs.size)).get? b = some o := fun b o e => Heap.get?_push_of_some _ (Heap.get?_push_of_some _ e)
  have hget : ((hp.push (PySem.W.kdv_tup us)).push (PySem.HandSPX.excO C hp.objs.size)).get? a = some (PySem.HandSPX.excO C hp.objs.size) := by subst hx; heap_get
  have I2 : Inv X pins σ (upd H1 a (exo a C none)) ⟨(hp.push (PySem.W.kdv_tup us)).push (PySem.HandSPX.excO C hp.objs.size), g, dr, tk, os⟩ := I1.laid (t' := tk) kk hsz (exo_ok hget)
  have r2 : Vals (V.ref a :: vs) (Value.ref a :: us) := .cons rfl r1
  have hq := h a hn
  have hl : (Value.ref a :: us ++ []).length = ps.length := by
    have e := r2.length
    rw [F1.len _ _ _ _ hq] at e
    rw [List.append_nil]
    exact e.symm
  have hus : us.length ≤ sizeLine := by
    rw [← Paired.length r1, sizeLine_eq]
    omega
  have b2 := hb _ (Value.ref a :: us) I2.kIn hl
  rw [List.append_nil] at b2
  refine wpAny_call (PySem.HandSPX.call_own F.excBase_ValueError (fun Y => PySem.HandSPX.refsVE_contains Y bm hbm) (I1.kIn _ _ hC) (PySem.W.looks_findIn I1.kIn iC) (fun self => PySem.W.bind_fn I1.kIn self tI) hus ?_)
  rw [hx]
  refine codeAny_mono (F1.run _ X.stack _ _ ⟨Value.ref a :: us, []⟩ (Value.ref a :: us) _ _ (fun _ _ _ => False) (hr.make C us []) (I2.env0.make C us []) b2 r2 hq) fun r s' hq' => ?_
  rcases r with er | fl'
  · exact False.elim hq'
  cases fl' with
  | ret u =>
    obtain ⟨v, H', I3, rv, ev, q3⟩ := I2.after hq'
    subst ev
    exact ⟨rv, ⟨V.ref a, H', I3, rfl, q3⟩⟩
  | next => exact False.elim hq'
  | brk => exact False.elim hq'
  | cont => exact False.elim hq'
/-- C(e, ..) as a value -/
def tErrV (C : Addr) (ok : List V → Hp → Prop) (fl : List Str) (ta : TA) : TE := fun σ H Q => ta σ H fun vs H1 => vs.length = fl.length ∧ ok vs H1 ∧ ∀ a d Hm H2, New H1 a (exo a C (some d)) Hm → New Hm d (exd d ((fl.zip vs).reverse)) H2 → Q (.ref a) H2
theorem pe_errV {j : Nat} {e : Expr} {es : List Expr} {ta : TA} {p pos : Pos} (D : ErrC X.prog X.w X.K X.mg X.base j x C ok fl) (hr : Room k X.A) (hg : Gl X x) (ha : PA X (e :: es) ta) (hjk : j + 1 ≤ k := by decide)
    (hdb : (x == ("__debug__" : Str)) = false := by decide) (he : starEach (e :: es) X.env = (false, eval e X.env) :: starEach es X.env := by rfl) (hpl : (backTo pos (starEach es X.env)).any (·.1) = false := by rfl) :
    PE X (.Call (.Name x p) (e :: es) [] pos) (tErrV C ok fl ta) := by
  refine ⟨fun pins s σ H Q I h => ?_⟩
  obtain ⟨fI, fd, ps, iC, tI, hb, F1⟩ := D.ini
  refine wpAny_Call_Name_kw (ld_glob I hg D.g ?_ hdb)
  refine PySem.W.callWith_K (h₀ := X.base) I.ok.mod.kin D.T.kC (thn (ha.run pos pins s σ H _ I h) fun us s1 ⟨vs, H1, I1, r1, hvl, hok, q1⟩ => ⟨I1.kIn, ?_⟩) he hpl
  refine run_err D.T iC tI hb F1 (hr.mono hjk) I1 r1 (by rw [hvl]; have := D.sz; omega) fun a hn => ?_
  refine ⟨a, vs, rfl, hvl, D.okm _ _ _ (New.mk' (o := exo a C none) hn).same hok, upd_same, fun d H' i => ⟨rfl, q1 a d (upd H1 a (exo a C (some d))) H' (New.mk' hn) ⟨?_, i.ad, fun b hb => ?_⟩⟩⟩
  · rw [upd_ne i.ne]
    have := i.fr
    rwa [upd_ne i.ne] at this
  · by_cases hba : b = a
    · rw [hba, upd_same, i.ax]
    · rw [upd_ne hba, i.old b hba hb, upd_ne hba]
/-- C() as a value -/
def tErrV0 (C : Addr) : TE := fun _ H Q => ∀ a H', New H a (exo a C none) H' → Q (.ref a) H'
theorem pe_errV0 {j : Nat} {p pos : Pos} (D : ErrC0 X.prog X.w X.K X.mg X.base j x C) (hr : Room k X.A) (hg : Gl X x) (hjk : j + 1 ≤ k := by decide) (hdb : (x == ("__debug__" : Str)) = false := by decide) :
    PE X (.Call (.Name x p) [] [] pos) (tErrV0 C) := by
  refine ⟨fun pins s σ H Q I h => ?_⟩
  obtain ⟨fI, fd, ps, iC, tI, hb, F1⟩ := D.ini
  refine wpAny_Call_Name_kw (ld_glob I hg D.g ?_ hdb)
  refine PySem.W.callWith_K0 I.kIn D.T.kC ?_
  exact run_err (us := []) D.T iC tI hb F1 (hr.mono hjk) I .nil (by simp) fun a hn => ⟨a, rfl, upd_same, rfl, h a _ (New.mk' hn)⟩
/-- v.n, v an error held as a value -/
def tXo (K : PySem.W.Frag) (n : Str) (te : TE) : TE := fun σ H Q => te σ H fun x H1 => ∃ (a : Addr) (C d : Addr) (fs : List (Str × V)) (v : V), x = .ref a ∧ H1 a = some (exo a C (some d)) ∧ H1 d = some (exd d fs) ∧ fs.lookup n = some v ∧ XfC K C ∧ PySem.W.findIn K (.ref C) n = some none ∧ Q v H1
theorem xo_inst {pins : List (Addr × Obj)} {σ : L2.St} {H : Hp} {s : Shared} {a C : Addr} {d : Option Addr} (I : Inv X pins σ H s) (h : XoAt a C d H) : ∃ o od, PySem.W.InstAt s.heap a o C od := by
  obtain ⟨t1, ho⟩ := exo_at I.hok h.1
  have h2 := h.2
  cases d with
  | none => exact ⟨_, none, ho, rfl, rfl, trivial⟩
  | some dd =>
    obtain ⟨fs, e⟩ := h2
    obtain ⟨mA, hns, hr⟩ := exd_at I.hok e
    obtain ⟨oD, es, ep, hoD, _⟩ := hns
    exact ⟨_, some oD, ho, rfl, rfl, hoD⟩
theorem pe_xO {e : Expr} {te : TE} {pos : Pos} {n : Str} (he : PE X e te) (hb : attributeBase e n X.env (eval e X.env) = eval e X.env := by rfl) : PE X (.Attribute e n pos) (tXo X.K n te) := by
  refine ⟨fun pins s σ H Q I h => attr_of hb (thn (he.run pins s σ H _ I h) fun u s1 hh => ?_)⟩
  obtain ⟨x, H1, I1, rx, a, C, d, fs, v, rfl, ea, ed, l, T, hno, q⟩ := hh
  obtain rfl : u = Value.ref a := rx
  obtain ⟨t1, ho⟩ := exo_at I1.hok ea
  obtain ⟨mA, hns, hr⟩ := exd_at I1.hok ed
  obtain ⟨od, hod, hl⟩ := lookIn_ns hns
  obtain ⟨u, hu, ru⟩ := RelO.some_of (v := v) (o := mA n) (by rw [← l]; exact hr n)
  have J : PySem.W.InstAt s1.heap a _ C (some od) := ⟨ho, rfl, rfl, hod⟩
  exact HandSPX.exc_get I1.kIn J T.ga T.gg T.exC (PySem.W.findObj_own T.hdC hno rfl (by rw [hl, hu])) (handed_of ru) ⟨v, H1, I1.tok _, ru, q⟩
/-- isinstance(v, c), v an error held as a value -/
def rIsO (K : PySem.W.Frag) (a C : Addr) (d : Option Addr) : List V → Hp → VK → Prop := fun xs H Q => ∃ (c : V) (cv : Value) (b : Bool), xs = [.ref a, c] ∧ (∀ u, RelV c u → u = cv) ∧ PySem.W.kitOne K (.ref C) cv = some b ∧ XoAt a C d H ∧ Q (.bl b) H
theorem call_isO {a C : Addr} {d : Option Addr} (E : ExcC X.K C) : CallR X (.builtin "isinstance") (rIsO X.K a C d) := by
  intro pins s σ H xs us Q I r h
  obtain ⟨c, cv, b, rfl, hcv, e, hx, q⟩ := h
  obtain ⟨o, od, J⟩ := xo_inst I hx
  cases r with
  | cons rx rr =>
    cases rr with
    | cons rt rr =>
      cases rr
      cases rx
      obtain rfl := hcv _ rt
      obtain ⟨cd, hc, _⟩ := PySem.W.any_some E.hd
      exact PySem.W.kia_one (PySem.W.kitx_exc (by rw [hc]; rfl) E.hg E.hk E.hs E.ha E.hn E.ht E.hm) I.kIn J e (fun z => nomatch z) fun tk => ⟨.bl b, H, I.kept (t' := tk) fun _ _ z => z, rfl, q⟩
def tIsO (i : Nat) (a C : Addr) (d : Option Addr) (b : Bool) : TE := fun σ H Q => σ[i]? = some (some (.ref a)) ∧ XoAt a C d H ∧ Q (.bl b) H
variable {D : Str} {d : Option Addr} {a : Addr} {i : Nat} {y : Str} {py px pp pos : Pos}
theorem pe_isOV {c : V} {cv : Value} {b : Bool} (N : ErN X.K X.mg D) (hm : X.mg "isinstance" = none) (hg : Gl X "isinstance") (hy : PE X (.Name y py) (tVar i)) (hx : PE X (.Name x px) (tC c))
    (hcv : ∀ u, RelV c u → u = cv) (hk : PySem.W.kitOne X.K (.ref (He.ga X.K D)) cv = some b) : PE X (.Call (.Name "isinstance" pp) [.Name y py, .Name x px] [] pos) (tIsO i a (He.ga X.K D) d b) := by
  have P := pe_callB (x := "isinstance") (p := pp) (pos := pos) (call_isO (a := a) (d := d) N.ec) hg hm (by decide +kernel) (pa_cons hy (pa_cons hx pa_nil))
  refine ⟨fun pins s σ H Q I h => P.run pins s σ H Q I ?_⟩
  obtain ⟨h1, h2, h3⟩ := h
  exact ⟨_, h1, ⟨c, cv, b, rfl, hcv, hk, h2, h3⟩⟩
theorem pe_isOE (N : ErN X.K X.mg D) (a : Addr) (d : Option Addr) (hm : X.mg "isinstance" = none) (hg : Gl X "isinstance") (hy : PE X (.Name y py) (tVar i)) (hgx : Gl X x) (hx : x ∈ errNames := by decide) (hd : (x == ("__debug__" : Str)) = false := by decide) :
    PE X (.Call (.Name "isinstance" pp) [.Name y py, .Name x px] [] pos) (tIsO i a (He.ga X.K D) d (decide (x = D))) :=
  pe_isOV (c := .ref (He.ga X.K x)) N hm hg hy (pe_glob hgx (N.g x hx) (show RelV (.ref (He.ga X.K x)) _ from rfl) hd) (fun _ r => r) (N.k x hx)
theorem pe_isOH (N : ErN X.K X.mg D) (a : Addr) (d : Option Addr) (hm : X.mg "isinstance" = none) (hg : Gl X "isinstance") (hy : PE X (.Name y py) (tVar i)) (hgx : Gl X "HeldorderError") :
    PE X (.Call (.Name "isinstance" pp) [.Name y py, .Name "HeldorderError" px] [] pos) (tIsO i a (He.ga X.K D) d true) :=
  pe_isOV (c := .ref (He.ga X.K "HeldorderError")) N hm hg hy (pe_glob hgx N.gH (show RelV (.ref (He.ga X.K "HeldorderError")) _ from rfl)) (fun _ r => r) N.kH
theorem pe_isOVE (N : ErN X.K X.mg D) (a : Addr) (d : Option Addr) (hm : X.mg "isinstance" = none) (hg : Gl X "isinstance") (hy : PE X (.Name y py) (tVar i)) (hgx : Gl X "ValueError") :
    PE X (.Call (.Name "isinstance" pp) [.Name y py, .Name "ValueError" px] [] pos) (tIsO i a (He.ga X.K D) d true) :=
  pe_isOV (c := .ty "ValueError") N hm hg hy (pe_bltn hgx N.gV (by decide +kernel) (show RelV (.ty "ValueError") _ from rfl)) (fun _ r => r) N.kV
end
theorem a_isO {i : Nat} {a C : Addr} {d : Option Addr} {b : Bool} {σ : L2.St} {H : Hp} {Q : VK} : tIsO i a C d b σ H Q = (σ[i]? = some (some (.ref a)) ∧ XoAt a C d H ∧ Q (.bl b) H) := rfl
theorem a_errV {C : Addr} {ok : List V → Hp → Prop} {fl : List Str} {ta : TA} {σ : L2.St} {H : Hp} {Q : VK} : tErrV C ok fl ta σ H Q = ta σ H fun vs H1 => vs.length = fl.length ∧ ok vs H1 ∧ ∀ a d Hm H2, New H1 a (exo a C (some d)) Hm → New Hm d (exd d ((fl.zip vs).reverse)) H2 → Q (.ref a) H2 := rfl
theorem a_errV0 {C : Addr} {σ : L2.St} {H : Hp} {Q : VK} : tErrV0 C σ H Q = ∀ a H', New H a (exo a C none) H' → Q (.ref a) H' := rfl
theorem a_xo {K : PySem.W.Frag} {n : Str} {te : TE} {σ : L2.St} {H : Hp} {Q : VK} : tXo K n te σ H Q = te σ H fun x H1 => ∃ (a : Addr) (C d : Addr) (fs : List (Str × V)) (v : V), x = .ref a ∧ H1 a = some (exo a C (some d)) ∧ H1 d = some (exd d fs) ∧ fs.lookup n = some v ∧ XfC K C ∧ PySem.W.findIn K (.ref C) n = some none ∧ Q v H1 := rfl

/-! ## HoK -/
section
variable {X : Cx}
def tCh (r1 r2 : R2) (ta tb tc : TE) : TE := fun σ H Q => ta σ H fun x H1 => tb σ H1 fun y H2 => r1 x y H2 fun z H3 => ∃ k, z = .bl k ∧ if k = true then tc σ H3 fun u H4 => r2 y u H4 Q else Q (.bl false) H3
theorem pe_chain {a b c : Expr} {o1 o2 : CmpOp} {r1 r2 : R2} {ta tb tc : TE} {pos : Pos} (h1 : OpR X (compareOp o1) r1) (h2 : OpR X (compareOp o2) r2) (ha : PE X a ta) (hb : PE X b tb) (hc : PE X c tc)
    (hm : lastMarks [o1, o2] [b, c] = false := by with_unfolding_all rfl) : PE X (.Compare a [o1, o2] [b, c] pos) (tCh r1 r2 ta tb tc) := by
  refine ⟨fun pins s σ H Q I h => ?_⟩
  refine Compare_chain (thn (ha.run pins s σ H _ I h) fun v s1 ⟨x, H1, I1, rx, q1⟩ => ?_) hm
  refine chain_link (thn (hb.run pins s1 σ H1 _ I1 q1) fun u s2 ⟨y, H2, I2, ry, q2⟩ => thn (h1 pins s2 σ H2 x y v u _ I2 rx ry q2) fun z s3 ⟨zz, H3, I3, rz, k, e, q3⟩ => ?_)
  subst e
  cases rz
  refine wpAny_truthy_bool ?_
  cases k with
  | true =>
    rw [if_pos rfl] at q3 ⊢
    have e0 : evalEach [] X.env = [] := by first | rfl | simp [evalEach]
    rw [e0]
    exact chain_last (thn (hc.run pins s3 σ H3 _ I3 q3) fun t s4 ⟨tt, H4, I4, rt, q4⟩ => h2 pins s4 σ H4 y tt u t _ I4 ry rt q4)
  | false =>
    rw [if_neg Bool.false_ne_true] at q3 ⊢
    exact ⟨.bl false, H3, I3, rfl, q3⟩
theorem a_ch {r1 r2 : R2} {ta tb tc : TE} {σ : L2.St} {H : Hp} {Q : VK} : tCh r1 r2 ta tb tc σ H Q = ta σ H fun x H1 => tb σ H1 fun y H2 => r1 x y H2 fun z H3 => ∃ k, z = .bl k ∧ if k = true then tc σ H3 fun u H4 => r2 y u H4 Q else Q (.bl false) H3 := rfl
/-- str(x), x an int or a bool -/
def qStr : List V → Hp → VK → Prop := fun xs H Q => match xs with
  | [.int i] => i.natAbs.log2 < 1920 ∧ Q (.str (toString i)) H
  | [.bl b] => Q (.str (if b then "True" else "False")) H
  | _ => False
theorem str2 : CallR X (.type "str") qStr := by
  intro pins s σ H xs us Q I r h
  unfold qStr at h
  split at h
  · exact call_str_int pins s σ H _ us Q I r ⟨_, rfl, h.1, h.2⟩
  · cases r with
    | cons r1 r2 =>
      cases r2
      cases r1
      exact PySem.P.str_of_bool ⟨.str _, H, I.tok _, ⟨_, rfl⟩, h⟩
  · exact h.elim
theorem b_stri {i : Int} {H : Hp} {Q : VK} : qStr [.int i] H Q = (i.natAbs.log2 < 1920 ∧ Q (.str (toString i)) H) := rfl
theorem b_strb {b : Bool} {H : Hp} {Q : VK} : qStr [.bl b] H Q = Q (.str (if b then "True" else "False")) H := rfl
end
/-! f-strings -/
def Prt (t : TE) (σ : L2.St) (H : Hp) : Prop := ∀ Q : VK, (∀ y : Str, y.length ≤ 2100 → Q (.str y) H) → t σ H Q
theorem js_parts {σ : L2.St} {H : Hp} {Q : Str → Hp → Prop} (k : ∀ out, Q out H) : ∀ {ts : List TE} {acc : Str}, (∀ t ∈ ts, Prt t σ H) → acc.length + 2100 * ts.length ≤ 100000 → tJs ts acc σ H Q
  | [], _, _, _ => k _
  | t :: ts, acc, h, hl => h t List.mem_cons_self _ fun y hy => ⟨y, rfl, by rw [Str.length_append, sizeLine_eq]; rw [List.length_cons] at hl; omega, js_parts k (fun t ht => h t (List.mem_cons_of_mem _ ht)) (by rw [Str.length_append]; rw [List.length_cons] at hl; omega)⟩
theorem prt_lit {s : Str} {σ : L2.St} {H : Hp} (h : s.length ≤ 2100 := by decide) : Prt (tC (.str s)) σ H := fun Q k => k s h
theorem prt_var {i : Nat} {z : Str} {σ : L2.St} {H : Hp} (h : σ[i]? = some (some (.str z))) (hz : z.length ≤ 2000) : Prt (tFmt (tVar i)) σ H := fun Q k => ⟨_, h, .inl ⟨z, rfl, by rw [sizeLine_eq]; omega, k z (by omega)⟩⟩
theorem js_cons {t : TE} {ts : List TE} {σ : L2.St} {H : Hp} (h : Prt t σ H) (r : ∀ t ∈ ts, Prt t σ H) : ∀ u ∈ t :: ts, Prt u σ H := fun u hu => by
  rcases List.mem_cons.mp hu with e | h'
  · rw [e]; exact h
  · exact r u h'
theorem js_nil {σ : L2.St} {H : Hp} : ∀ u ∈ ([] : List TE), Prt u σ H := fun u hu => by cases hu
/-! enumerate over a list or a tuple -/
def iEnumS (K : PySem.W.Frag) (ta : TA) : TI := fun σ H R => ta σ H fun vs H1 => ∃ a xs, vs = [.ref a] ∧ ((H1 a = some (.lst xs) ∧ R (Ite K a) H1) ∨ (H1 a = some (.tup xs) ∧ R (IteT K a xs) H1))
theorem pi_enumS {X : Cx} {e : Expr} {ta : TA} {p pos tpos : Pos} {elts : List Expr} {kk : Nat} (hg : Gl X "enumerate") (hm : X.mg "enumerate" = none) (ha : PA X [e] ta) (hs : starEach [e] X.env = [(false, eval e X.env)] := by rfl) :
    PI X (.Tuple elts kk tpos) (.Call (.Name "enumerate" p) [e] [] pos) (iEnumS X.K ta) := by
  refine ⟨fun pins s σ H R I h => Call_ (ld_blt I hg hm boot_enumerate (PyProof.Rows.callWith_type1 (thn (ha.run pos pins s σ H _ I h) fun us s1 ⟨vs, H1, I1, r1, a, xs, ex, hor⟩ => ?_) hs rfl))⟩
  subst ex
  cases r1 with
  | cons r rr =>
    cases rr
    cases r
    rcases hor with ⟨hq, q⟩ | ⟨hq, q⟩
    · obtain ⟨its, rv, p', hz⟩ := I1.list (SqL.of hq)
      refine call_enumerate_list p'.isList fun h' he hit hsz hk => wpAny_pyIter_enum he ?_
      have I2 : Inv X pins σ H1 { s1 with heap := h' } := I1.kept (t' := s1.toks) hk
      refine ⟨s1.heap.objs.size + 1, [s1.heap.objs.size + 1, s1.heap.objs.size], _, _, H1, rfl, I2, turn_enum a (s1.heap.objs.size + 1) s1.heap.objs.size, ⟨⟨.none, he⟩, hit, Nat.succ_ne_self _⟩, fun b hb => ?_, q⟩
      have e' : b = s1.heap.objs.size + 1 ∨ b = s1.heap.objs.size := by simpa using hb
      have hle : s1.heap.objs.size ≤ b := by
        rcases e' with z | z
        · rw [z]; exact Nat.le_add_right _ _
        · rw [z]; exact Nat.le_refl _
      exact I1.fpOk hle (I1.hok.fresh hle)
    · obtain ⟨its, rv, p', hz⟩ := I1.tuple (SqT.of hq)
      have ha : a < s1.heap.objs.size := by obtain ⟨o, e, _⟩ := (show s1.heap.IsTuple a its.toArray from p'); exact Heap.lt_size e
      refine enum1_begins (begins_tuple a its.toArray) p' fun h' he hit hk => wpAny_pyIter_enum he ?_
      have I2 : Inv X pins σ H1 { s1 with heap := h' } := I1.kept (t' := s1.toks) hk
      refine ⟨s1.heap.objs.size + 1, [s1.heap.objs.size + 1, s1.heap.objs.size], _, _, H1, rfl, I2, turn_enumT a (s1.heap.objs.size + 1) s1.heap.objs.size (Nat.ne_of_lt (Nat.lt_succ_of_lt ha)) (Nat.ne_of_lt ha) (Nat.succ_ne_self _) xs, ⟨⟨.none, he⟩, ⟨_, hit, rfl, rfl⟩⟩, fun b hb => ?_, q⟩
      have hle : s1.heap.objs.size ≤ b := by
        rcases List.mem_cons.mp hb with rfl | hb
        · omega
        · obtain rfl := List.mem_singleton.mp hb
          exact Nat.le_refl _
      exact I1.fpOk hle (I1.hok.fresh hle)
section
variable {K : PySem.W.Frag} {H : Hp} {Q : VK} {σ : L2.St} {D : Ends}
def FEnS (K : PySem.W.Frag) (a : Addr) (g : TG) (tb : TS) (D : Ends) (σ : L2.St) (H : Hp) : Prop := ∃ xs, (H a = some (.lst xs) ∧ tFor (fun _ H R => R (Ite K a) H) g tb D σ H) ∨ (H a = some (.tup xs) ∧ tFor (fun _ H R => R (IteT K a xs) H) g tb D σ H)
def FEnSV (K : PySem.W.Frag) (vs : List V) (g : TG) (tb : TS) (D : Ends) (σ : L2.St) (H : Hp) : Prop := ∃ a, vs = [.ref a] ∧ FEnS K a g tb D σ H
theorem a_forES {ta : TA} {g : TG} {tb : TS} : tFor (iEnumS K ta) g tb D σ H = ta σ H fun ws H1 => ∃ a xs, ws = [.ref a] ∧ ((H1 a = some (.lst xs) ∧ tFor (fun _ H R => R (Ite K a) H) g tb D σ H1) ∨ (H1 a = some (.tup xs) ∧ tFor (fun _ H R => R (IteT K a xs) H) g tb D σ H1)) := rfl
theorem fes_by {a : Addr} {xs : List V} {i1 i2 : Nat} {tb : TS} (hq : sq H a = some xs) (Pv : Nat → L2.St → Hp → Prop) (h0 : Pv 0 σ H) (hl : ∀ i σ' H', Pv i σ' H' → ∀ o, H a = some o → H' a = some o)
    (hs : ∀ i x σ H1 (N : L2.St → Hp → Prop) T H2, (∀ σ' H', Pv (i + 1) σ' H' → N σ' H') → xs[i]? = some x → Pv i σ H1 → New H1 T (.tup [.int (i : Nat), x]) H2 → tb { D with nx := N, ct := N, bk := D.nx } ((σ.set i1 (some (.int (i : Nat)))).set i2 (some x)) H2)
    (hd : ∀ σ H, Pv xs.length σ H → D.nx σ H) : ∃ ys, (H a = some (.lst ys) ∧ tFor (fun _ H R => R (Ite K a) H) (g2 K i1 i2) tb D σ H) ∨ (H a = some (.tup ys) ∧ tFor (fun _ H R => R (IteT K a ys) H) (g2 K i1 i2) tb D σ H) := by
  rcases sq_or hq with h | h
  · refine ⟨xs, .inl ⟨h, fun i m σ1 H1 => m + i = xs.length ∧ Pv i σ1 H1, ⟨xs.length, by omega, h0⟩, fun i m σ1 H1 ⟨hm, p⟩ => ?_⟩⟩
    have hL := SqL.of (K := K) (hl _ _ _ p _ h)
    by_cases hi : i = xs.length
    · subst hi
      exact .inl ⟨⟨xs, hL, Nat.le_refl _⟩, hd _ _ p⟩
    · have hlt : i < xs.length := by omega
      refine .inr ⟨⟨xs, _, hL, List.getElem?_eq_getElem hlt⟩, fun σ5 H5 => Pv (i + 1) σ5 H5, fun σ5 H5 p5 => ⟨m - 1, by omega, by omega, p5⟩, fun v H2 ⟨T, x, ev, hT, eH, hx⟩ => ?_⟩
      subst ev eH
      exact g2_at upd_same (hs i x σ1 H1 _ T _ (fun _ _ z => z) (hx _ hL) p (.mk' hT))
  · exact ⟨xs, .inr ⟨h, fe_by Pv h0 (fun i σ' H' p => hl i σ' H' p _ h) hs hd⟩⟩
end

/-! ## E1 -/

section
variable {P : Program} {w : World} {K : PySem.W.Frag} {mg : Str → Option Value} {base : Heap}
/-- what shown can show -/
def ShOk (v : V) (H : Hp) : Prop := (∃ i : Int, v = .int i ∧ i.natAbs.log2 < 1920) ∨ (∃ b, v = .bl b) ∨ ∃ t, tyN H v = some t ∧ kitB t "int" = some false
theorem tyN_same {H H' : Hp} {v : V} {t : String} (s : Same H H') (h : tyN H v = some t) : tyN H' v = some t := by
  cases v with
  | ref p =>
    unfold tyN at h ⊢
    simp only at h ⊢
    cases e : H p with
    | none => rw [e] at h; cases h
    | some o => rw [s _ _ e]; rw [e] at h; exact h
  | _ => exact h
theorem ShOk.same {v : V} {H H' : Hp} (s : Same H H') (h : ShOk v H) : ShOk v H' := by
  rcases h with h | h | ⟨t, h, k⟩
  · exact .inl h
  · exact .inr (.inl h)
  · exact .inr (.inr ⟨t, tyN_same s h, k⟩)
def sp_shown : Sp := fun vs H Q _ => ∃ v, vs = [v] ∧ ShOk v H ∧ ∀ y : Str, y.length ≤ 2000 → Q (.str y) H
theorem shown_len {i : Int} (h : i.natAbs.log2 < 1920) : (Str.ofString (toString i)).length ≤ 2000 := by
  have e := int_text_length_le (k := 1920) (by decide) h
  rw [PySem.ofString_length]
  omega
abbrev stshown : Stmt := topS 4
theorem scshown : FnScope ["value"] ["value"] (defScope stshown) := ⟨rfl, rfl, rfl, by decide +kernel, rfl, by decide +kernel, by decide +kernel⟩
theorem okshown (D : Df K mg "shown" stshown) (T : NoB mg)  : Cl P w K mg base 1 "shown" ["value"] sp_shown := by
  refine cl_of D scshown (fun _ _ _ _ _ _ us hl => match us, hl with | [_], _ => rfl) (fun vs H Q E h => ?_) (fun f cdv A outer sh H vs Q E hr h => ?_)
  · obtain ⟨_, rfl, _⟩ := h; rfl
  obtain ⟨v, rfl, hs, k⟩ := h
  refine ⟨_, (pss_one (ps_ret (pe_ifExp (pt_val (pe_callB isi1 (by rfl) T.no_isinstance (by decide +kernel) (pa_cons (pv 0) (pa_cons (pe_bltn (by rfl) T.no_int (by decide +kernel) (show RelV (.ty "int") _ from rfl)) pa_nil)))) (pe_callTy str2 (by rfl) T.no_str (by decide +kernel) (pa_cons (pv 0) pa_nil)) pe_str))), ?_⟩
  rcases hs with ⟨i, rfl, hi⟩ | ⟨b, rfl⟩ | ⟨t, ht, hk⟩
  · walk_at "wps"
    rw [b_stri]
    exact ⟨hi, k _ (shown_len hi)⟩
  · walk_at "wps"
    rw [b_strb]
    exact k _ (by cases b <;> decide)
  · walk_at "wn"
    refine ⟨t, ht, false, hk, ?_⟩
    rw [if_neg Bool.false_ne_true]
    exact k _ (by decide)
theorem prt_shn {i : Nat} {v : V} {σ : L2.St} {H : Hp} (h : σ[i]? = some (some v)) (o : ShOk v H) : Prt (tFmt (tCall sp_shown [] E0 (tCons (tVar i) tNil))) σ H :=
  fun Q k => ⟨v, h, v, rfl, o, fun y hy => .inl ⟨y, rfl, by rw [sizeLine_eq]; omega, k y (by omega)⟩⟩
/-- what an __init__ wants: 0: shown can show it; 1: a short text; 2: any -/
def okV : Nat → V → Hp → Prop
  | 0, v, H => ShOk v H
  | 1, v, _ => ∃ z : Str, v = .str z ∧ z.length ≤ 2000
  | _, _, _ => True
def okP : List Nat → List V → Hp → Prop
  | k :: ks, v :: vs, H => okV k v H ∧ okP ks vs H
  | _, _, _ => True
theorem okP_mono : ∀ (ks : List Nat) (us : List V) (H H' : Hp), Same H H' → okP ks us H → okP ks us H'
  | [], [], _, _, _, _ => trivial
  | [], _ :: _, _, _, _, _ => trivial
  | _ :: _, [], _, _, _, _ => trivial
  | k :: ks, v :: vs, H, H', s, h => ⟨by
      have h1 := h.1
      unfold okV at h1 ⊢
      split at h1
      · exact h1.same s
      · exact h1
      · trivial, okP_mono ks vs H H' s h.2⟩
abbrev stini_BadNumber : Stmt := clsFn (topS 6) 0
theorem scini_BadNumber : NdefX.NScope ["self", "value", "low", "high", "__class__"] ["self", "value", "low", "high"] ["__class__"] (defScope stini_BadNumber) := NdefX.nscope_by (by decide +kernel)
abbrev ErT_BadNumber (P : Program) (w : World) (K : PySem.W.Frag) (mg : Str → Option Value) (base : Heap) : Prop := ErrC P w K mg base 2 "BadNumber" (He.ga K "BadNumber") (okP [0, 0, 0]) ["value", "low", "high"]
theorem okini_BadNumber {f c cda C : Addr} {fd : FuncData} (D : SupTxt P K mg C f c cda "__init__" "BadNumber.__init__" (defArgs stini_BadNumber) (defBody stini_BadNumber) (defScope stini_BadNumber) fd) (hno1 : PySem.W.findIn K (.ref C) "value" = some none) (hno2 : PySem.W.findIn K (.ref C) "low" = some none) (hno3 : PySem.W.findIn K (.ref C) "high" = some none) (Cshown : Cl P w K mg base 1 "shown" ["value"] sp_shown) :
    FnOk P w K mg base CX0 2 f fd ["self", "value", "low", "high"] (sp_ini C (okP [0, 0, 0]) ["value", "low", "high"]) := by
  refine fn_super D scini_BadNumber (by rfl) ⟨_, rfl⟩ (by decide) rfl (by decide +kernel) (fun _ => rfl) (fun _ => rfl) (fun _ => rfl) (fun vs H Q E h => ?_) (fun A outer s H vs ws Q E hr hw h => ?_)
  · obtain ⟨x, us, rfl, hl, _⟩ := h
    simp [hl]
  obtain ⟨x, us, rfl, hl, hok, hx, k⟩ := h
  obtain ⟨v1, v2, v3, rfl⟩ : ∃ (v1 : V) (v2 : V) (v3 : V), us = [v1, v2, v3] := match us, hl with | [v1, v2, v3], _ => ⟨v1, v2, v3, rfl⟩
  obtain ⟨o1, o2, o3, _⟩ := hok
  obtain ⟨w0, rfl⟩ : ∃ w0, ws = [w0] := match ws, hw with | [a], _ => ⟨a, rfl⟩
  refine ⟨x, _, _, _, rfl, hx, pa_cons (pe_joined (.cons (pe_fmt (pe_cl Cshown hr (by rfl) (pa_cons (pv 1) pa_nil))) (.cons pe_str (.cons (pe_fmt (pe_cl Cshown hr (by rfl) (pa_cons (pv 2) pa_nil))) (.cons pe_str (.cons (pe_fmt (pe_cl Cshown hr (by rfl) (pa_cons (pv 3) pa_nil))) .nil)))))) pa_nil, (pss_cons (ps_ost (pv 0) (pv 1)) (pss_cons (ps_ost (pv 0) (pv 2)) (pss_one (ps_ost (pv 0) (pv 3))))), ?_⟩
  have hst : NdefX.startF ["self", "value", "low", "high", "__class__"] [V.ref x, v1, v2, v3] [w0] = [some (V.ref x), some v1, some v2, some v3, w0] := rfl
  rw [hst]
  refine js_parts (fun out => ?_) (js_cons (prt_shn rfl o1) (js_cons prt_lit (js_cons (prt_shn rfl o2) (js_cons prt_lit (js_cons (prt_shn rfl o3) js_nil))))) (by decide)
  refine ⟨by show 1 ≤ 1000; decide, hx, ?_⟩
  refine ⟨_, rfl, _, rfl, x, C, rfl, D.T, hno1, .inl ⟨hx, fun dx n ne => ?_⟩⟩
  have i1 := InS.first (C := C) (f := "value") (y := v1) n ne
  refine ⟨_, rfl, _, rfl, x, C, rfl, D.T, hno2, .inr ⟨dx, _, i1.ax, i1.ad, Nat.le_of_ble_eq_true rfl, ?_⟩⟩
  have i2 := i1.more (f := "low") (y := v2)
  refine ⟨_, rfl, _, rfl, x, C, rfl, D.T, hno3, .inr ⟨dx, _, i2.ax, i2.ad, Nat.le_of_ble_eq_true rfl, ?_⟩⟩
  have i3 := i2.more (f := "high") (y := v3)
  exact k dx _ i3
abbrev stini_NotAMove : Stmt := clsFn (topS 7) 0
theorem scini_NotAMove : NdefX.NScope ["self", "index", "__class__"] ["self", "index"] ["__class__"] (defScope stini_NotAMove) := NdefX.nscope_by (by decide +kernel)
abbrev ErT_NotAMove (P : Program) (w : World) (K : PySem.W.Frag) (mg : Str → Option Value) (base : Heap) : Prop := ErrC P w K mg base 2 "NotAMove" (He.ga K "NotAMove") (okP [0]) ["index"]
theorem okini_NotAMove {f c cda C : Addr} {fd : FuncData} (D : SupTxt P K mg C f c cda "__init__" "NotAMove.__init__" (defArgs stini_NotAMove) (defBody stini_NotAMove) (defScope stini_NotAMove) fd) (hno1 : PySem.W.findIn K (.ref C) "index" = some none) (Cshown : Cl P w K mg base 1 "shown" ["value"] sp_shown) :
    FnOk P w K mg base CX0 2 f fd ["self", "index"] (sp_ini C (okP [0]) ["index"]) := by
  refine fn_super D scini_NotAMove (by rfl) ⟨_, rfl⟩ (by decide) rfl (by decide +kernel) (fun _ => rfl) (fun _ => rfl) (fun _ => rfl) (fun vs H Q E h => ?_) (fun A outer s H vs ws Q E hr hw h => ?_)
  · obtain ⟨x, us, rfl, hl, _⟩ := h
    simp [hl]
  obtain ⟨x, us, rfl, hl, hok, hx, k⟩ := h
  obtain ⟨v1, rfl⟩ : ∃ (v1 : V), us = [v1] := match us, hl with | [v1], _ => ⟨v1, rfl⟩
  obtain ⟨o1, _⟩ := hok
  obtain ⟨w0, rfl⟩ : ∃ w0, ws = [w0] := match ws, hw with | [a], _ => ⟨a, rfl⟩
  refine ⟨x, _, _, _, rfl, hx, pa_cons (pe_joined (.cons pe_str (.cons (pe_fmt (pe_cl Cshown hr (by rfl) (pa_cons (pv 1) pa_nil))) (.cons pe_str .nil)))) pa_nil, (pss_one (ps_ost (pv 0) (pv 1))), ?_⟩
  have hst : NdefX.startF ["self", "index", "__class__"] [V.ref x, v1] [w0] = [some (V.ref x), some v1, w0] := rfl
  rw [hst]
  refine js_parts (fun out => ?_) (js_cons prt_lit (js_cons (prt_shn rfl o1) (js_cons prt_lit js_nil))) (by decide)
  refine ⟨by show 1 ≤ 1000; decide, hx, ?_⟩
  refine ⟨_, rfl, _, rfl, x, C, rfl, D.T, hno1, .inl ⟨hx, fun dx n ne => ?_⟩⟩
  have i1 := InS.first (C := C) (f := "index") (y := v1) n ne
  exact k dx _ i1
abbrev stini_TooMany : Stmt := clsFn (topS 8) 0
theorem scini_TooMany : NdefX.NScope ["self", "what", "limit", "__class__"] ["self", "what", "limit"] ["__class__"] (defScope stini_TooMany) := NdefX.nscope_by (by decide +kernel)
abbrev ErT_TooMany (P : Program) (w : World) (K : PySem.W.Frag) (mg : Str → Option Value) (base : Heap) : Prop := ErrC P w K mg base 2 "TooMany" (He.ga K "TooMany") (okP [1, 0]) ["what", "limit"]
theorem okini_TooMany {f c cda C : Addr} {fd : FuncData} (D : SupTxt P K mg C f c cda "__init__" "TooMany.__init__" (defArgs stini_TooMany) (defBody stini_TooMany) (defScope stini_TooMany) fd) (hno1 : PySem.W.findIn K (.ref C) "what" = some none) (hno2 : PySem.W.findIn K (.ref C) "limit" = some none) (Cshown : Cl P w K mg base 1 "shown" ["value"] sp_shown) :
    FnOk P w K mg base CX0 2 f fd ["self", "what", "limit"] (sp_ini C (okP [1, 0]) ["what", "limit"]) := by
  refine fn_super D scini_TooMany (by rfl) ⟨_, rfl⟩ (by decide) rfl (by decide +kernel) (fun _ => rfl) (fun _ => rfl) (fun _ => rfl) (fun vs H Q E h => ?_) (fun A outer s H vs ws Q E hr hw h => ?_)
  · obtain ⟨x, us, rfl, hl, _⟩ := h
    simp [hl]
  obtain ⟨x, us, rfl, hl, hok, hx, k⟩ := h
  obtain ⟨v1, v2, rfl⟩ : ∃ (v1 : V) (v2 : V), us = [v1, v2] := match us, hl with | [v1, v2], _ => ⟨v1, v2, rfl⟩
  obtain ⟨o1, o2, _⟩ := hok
  obtain ⟨t1, rfl, z1⟩ := o1
  obtain ⟨w0, rfl⟩ : ∃ w0, ws = [w0] := match ws, hw with | [a], _ => ⟨a, rfl⟩
  refine ⟨x, _, _, _, rfl, hx, pa_cons (pe_joined (.cons pe_str (.cons (pe_fmt (pv 1)) (.cons pe_str (.cons (pe_fmt (pe_cl Cshown hr (by rfl) (pa_cons (pv 2) pa_nil))) .nil))))) pa_nil, (pss_cons (ps_ost (pv 0) (pv 1)) (pss_one (ps_ost (pv 0) (pv 2)))), ?_⟩
  have hst : NdefX.startF ["self", "what", "limit", "__class__"] [V.ref x, (V.str t1), v2] [w0] = [some (V.ref x), some (V.str t1), some v2, w0] := rfl
  rw [hst]
  refine js_parts (fun out => ?_) (js_cons prt_lit (js_cons (prt_var rfl z1) (js_cons prt_lit (js_cons (prt_shn rfl o2) js_nil)))) (by decide)
  refine ⟨by show 1 ≤ 1000; decide, hx, ?_⟩
  refine ⟨_, rfl, _, rfl, x, C, rfl, D.T, hno1, .inl ⟨hx, fun dx n ne => ?_⟩⟩
  have i1 := InS.first (C := C) (f := "what") (y := (V.str t1)) n ne
  refine ⟨_, rfl, _, rfl, x, C, rfl, D.T, hno2, .inr ⟨dx, _, i1.ax, i1.ad, Nat.le_of_ble_eq_true rfl, ?_⟩⟩
  have i2 := i1.more (f := "limit") (y := v2)
  exact k dx _ i2
end

/-! ## E4 -/
local macro_rules | `(tactic| walk_at "wp") => `(tactic| (try simp only [a_var, a_c, a_op, a_un, a_test, a_b, a_and, a_or, a_not, a_andV, a_orV, a_notV, a_if, a_next, a_seq, a_break, a_cont, a_drop, a_ret, a_retN, a_ifS, a_asg, a_name, a_sub, a_nil, a_cons, a_tup, a_lst, a_call, a_cb, a_bm0, a_bm, a_sl, a_nopart, a_part, a_aug, b_rI, b_rI0, b_rU, b_eq, b_ne, b_isTF, b_int, b_intb, b_list, b_tuple, b_ix, b_len, b_setL, b_app, b_pop, b_popAt, b_sl, b_rep, b_cat, b_lstRg, b_tupRg, b_rg1, b_rg2, a_forR, a_forR2, a_forS, b_fsq, a_lcR, a_lcR2, a_lcS, b_csq, wipe_nil, wipe_cons, a_yes, wh_i, wh_s, wh_b, wh_r, wh_n, Bool.not_eq_true, eq_self, not_true_eq_false, not_false_eq_true, b_isi, kb_all, ty_non, ty_bl, ty_int, ty_str, a_m1, b_ixS, b_slS, List.cons.injEq, and_assoc, exists_and_left, cxK, List.getElem?_cons_zero, List.getElem?_cons_succ, List.set_cons_zero, List.set_cons_succ, Option.some.injEq, exists_eq_left', exists_eq_left, V.bl.injEq, V.int.injEq, V.ref.injEq, V.str.injEq, HO.lst.injEq, HO.tup.injEq, decide_eq_true_eq, true_and, and_true, L2.start, List.map_cons, List.map_nil, List.length_cons, List.length_nil, Nat.zero_add, Nat.reduceAdd, Nat.reduceSub, List.replicate_succ, List.replicate_zero, List.cons_append, List.nil_append, if_true, if_false, Bool.false_eq_true, Bool.not_true, Bool.not_false, decide_not, Bool.not_eq_true', decide_eq_false_iff_not, scal_ii, scal_bb, scal_ss, scal_is, scal_si, reduceCtorEq, Bool.true_eq_false, decide_false, decide_true, if_pos, ne_eq, Int.reduceNeg, atI_0, atI_1, atI_2, atI_3, atI_4, atI_5, atI_6, ixN_7, b_ins, a_revL, b_isT, V.ty.injEq, Bool.true_or, Bool.or_true, Bool.false_or, Bool.or_false, Bool.or_self, b_sorted, b_repT, a_err, a_callS, a_xp, a_isP, a_lcE, a_forE, a_isV, a_lcH, a_ch, a_forES]))
local macro_rules | `(tactic| walk_at "wps") => `(tactic| (try simp only [a_var, a_c, a_op, a_un, a_test, a_b, a_and, a_or, a_not, a_andV, a_orV, a_notV, a_if, a_next, a_seq, a_break, a_cont, a_drop, a_ret, a_retN, a_ifS, a_asg, a_name, a_sub, a_nil, a_cons, a_tup, a_lst, a_call, a_cb, a_bm0, a_bm, a_sl, a_nopart, a_part, a_aug, b_rI, b_rI0, b_rU, b_eq, b_ne, b_isTF, b_int, b_intb, b_list, b_tuple, b_ix, b_len, b_setL, b_app, b_pop, b_popAt, b_sl, b_rep, b_cat, b_lstRg, b_tupRg, b_rg1, b_rg2, a_forR, a_forR2, a_forS, b_fsq, a_lcR, a_lcR2, a_lcS, b_csq, wipe_nil, wipe_cons, a_yes, wh_i, wh_s, wh_b, wh_r, wh_n, Bool.not_eq_true, eq_self, not_true_eq_false, not_false_eq_true, b_isi, kb_all, ty_non, ty_bl, ty_int, ty_str, a_m1, b_ixS, b_slS, List.cons.injEq, and_assoc, exists_and_left, cxK, List.getElem?_cons_zero, List.getElem?_cons_succ, List.set_cons_zero, List.set_cons_succ, Option.some.injEq, exists_eq_left', exists_eq_left, V.bl.injEq, V.int.injEq, V.ref.injEq, V.str.injEq, HO.lst.injEq, HO.tup.injEq, decide_eq_true_eq, true_and, and_true, L2.start, List.map_cons, List.map_nil, List.length_cons, List.length_nil, Nat.zero_add, Nat.reduceAdd, Nat.reduceSub, List.replicate_succ, List.replicate_zero, List.cons_append, List.nil_append, if_true, if_false, Bool.false_eq_true, Bool.not_true, Bool.not_false, decide_not, Bool.not_eq_true', decide_eq_false_iff_not, scal_ii, scal_bb, scal_ss, scal_is, scal_si, reduceCtorEq, Bool.true_eq_false, decide_false, decide_true, if_pos, ne_eq, Int.reduceNeg, atI_0, atI_1, atI_2, atI_3, atI_4, atI_5, atI_6, ixN_7, b_ins, a_revL, b_isT, V.ty.injEq, Bool.true_or, Bool.or_true, Bool.false_or, Bool.or_false, Bool.or_self, b_sorted, b_repT, a_err, a_callS, a_xp, a_isP, a_lcE, a_forE, a_isV, a_lcH, a_ch, a_forES, *]))
local macro_rules | `(tactic| walk_at "wq") => `(tactic| (try simp only [a_var, a_c, a_op, a_un, a_test, a_b, a_and, a_or, a_not, a_andV, a_orV, a_notV, a_if, a_next, a_break, a_cont, a_drop, a_ret, a_retN, a_ifS, a_asg, a_name, a_sub, a_nil, a_cons, a_tup, a_lst, a_call, a_cb, a_bm0, a_bm, a_sl, a_nopart, a_part, a_aug, b_rI, b_rI0, b_rU, b_eq, b_ne, b_isTF, b_int, b_intb, b_list, b_tuple, b_ix, b_len, b_setL, b_app, b_pop, b_popAt, b_sl, b_rep, b_cat, b_lstRg, b_tupRg, b_rg1, b_rg2, a_forR, a_forR2, a_forS, b_fsq, a_lcR, a_lcR2, a_lcS, b_csq, wipe_nil, wipe_cons, a_yes, wh_i, wh_s, wh_b, wh_r, wh_n, Bool.not_eq_true, eq_self, not_true_eq_false, not_false_eq_true, b_isi, kb_all, ty_non, ty_bl, ty_int, ty_str, a_m1, b_ixS, b_slS, List.cons.injEq, and_assoc, exists_and_left, cxK, List.getElem?_cons_zero, List.getElem?_cons_succ, List.set_cons_zero, List.set_cons_succ, Option.some.injEq, exists_eq_left', exists_eq_left, V.bl.injEq, V.int.injEq, V.ref.injEq, V.str.injEq, HO.lst.injEq, HO.tup.injEq, decide_eq_true_eq, true_and, and_true, L2.start, List.map_cons, List.map_nil, List.length_cons, List.length_nil, Nat.zero_add, Nat.reduceAdd, Nat.reduceSub, List.replicate_succ, List.replicate_zero, List.cons_append, List.nil_append, if_true, if_false, Bool.false_eq_true, Bool.not_true, Bool.not_false, decide_not, Bool.not_eq_true', decide_eq_false_iff_not, scal_ii, scal_bb, scal_ss, scal_is, scal_si, reduceCtorEq, Bool.true_eq_false, decide_false, decide_true, if_pos, ne_eq, Int.reduceNeg, atI_0, atI_1, atI_2, atI_3, atI_4, atI_5, atI_6, ixN_7, b_ins, a_revL, b_isT, V.ty.injEq, Bool.true_or, Bool.or_true, Bool.false_or, Bool.or_false, Bool.or_self, b_sorted, b_repT, a_err, a_callS, a_xp, a_isP, a_lcE, a_forE, a_isV, a_lcH, a_ch, a_forES, *]))
local macro_rules | `(tactic| walk_at "wn") => `(tactic| (try simp only [a_var, a_c, a_op, a_un, a_test, a_b, a_and, a_or, a_not, a_andV, a_orV, a_notV, a_if, a_next, a_break, a_cont, a_drop, a_ret, a_retN, a_ifS, a_asg, a_name, a_sub, a_nil, a_cons, a_tup, a_lst, a_call, a_cb, a_bm0, a_bm, a_sl, a_nopart, a_part, a_aug, b_rI, b_rI0, b_rU, b_eq, b_ne, b_isTF, b_int, b_intb, b_list, b_tuple, b_ix, b_len, b_setL, b_app, b_pop, b_popAt, b_sl, b_rep, b_cat, b_lstRg, b_tupRg, b_rg1, b_rg2, a_forR, a_forR2, a_forS, b_fsq, a_lcR, a_lcR2, a_lcS, b_csq, wipe_nil, wipe_cons, a_yes, wh_i, wh_s, wh_b, wh_r, wh_n, Bool.not_eq_true, eq_self, not_true_eq_false, not_false_eq_true, b_isi, kb_all, ty_non, ty_bl, ty_int, ty_str, a_m1, b_ixS, b_slS, List.cons.injEq, and_assoc, exists_and_left, cxK, List.getElem?_cons_zero, List.getElem?_cons_succ, List.set_cons_zero, List.set_cons_succ, Option.some.injEq, exists_eq_left', exists_eq_left, V.bl.injEq, V.int.injEq, V.ref.injEq, V.str.injEq, HO.lst.injEq, HO.tup.injEq, decide_eq_true_eq, true_and, and_true, L2.start, List.map_cons, List.map_nil, List.length_cons, List.length_nil, Nat.zero_add, Nat.reduceAdd, Nat.reduceSub, List.replicate_succ, List.replicate_zero, List.cons_append, List.nil_append, if_true, if_false, Bool.false_eq_true, Bool.not_true, Bool.not_false, decide_not, Bool.not_eq_true', decide_eq_false_iff_not, scal_ii, scal_bb, scal_ss, scal_is, scal_si, reduceCtorEq, Bool.true_eq_false, decide_false, decide_true, if_pos, ne_eq, Int.reduceNeg, atI_0, atI_1, atI_2, atI_3, atI_4, atI_5, atI_6, ixN_7, b_ins, a_revL, b_isT, V.ty.injEq, Bool.true_or, Bool.or_true, Bool.false_or, Bool.or_false, Bool.or_self, b_sorted, b_repT, a_err, a_callS, a_xp, a_isP, a_lcE, a_forE, a_isV, a_lcH, a_ch, a_forES]))
local macro_rules | `(tactic| walk_at "sq") => `(tactic| ((try dsimp only); rw [a_seq]; walk_at "wq"))
local macro_rules | `(tactic| walk_at "sn") => `(tactic| ((try dsimp only); rw [a_seq]; walk_at "wn"))

section
variable {P : Program} {w : World} {K : PySem.W.Frag} {mg : Str → Option Value} {base : Heap} {C : Addr}
def sp_iswH : HSp := fun _ _ _ vs H Q _ => ∃ (v : V) (d : PyData) (n : Nat) (E : List Addr), vs = [v] ∧ Dw E H v d n ∧ Q (.bl (isWh v)) H
theorem ok_law_is_wholeH (D : Df K mg "_law_is_whole" st_law_is_whole) (T : NoB mg)  : ClH P w K mg base 1 "_law_is_whole" ["value"] sp_iswH := by
  refine clH_of D sc_law_is_whole (fun _ _ _ _ _ _ us hl => match us, hl with | [_], _ => rfl) (fun _ _ _ vs H Q E h => ?_) (fun f cdv A outer sh H vs Q E p cls dd hot hz hc hr h => ?_)
  · obtain ⟨_, _, _, _, rfl, _⟩ := h; rfl
  have hf : ∃ vs, p.2.data = .fields vs := hot.2.imp fun _ h => h.1
  obtain ⟨v, d, n, E, rfl, hv, k⟩ := h
  refine ⟨_, (pss_one (ps_ret (pe_and (pe_callB isi1 (by rfl) T.no_isinstance (by decide +kernel) (pa_cons (pv 0) (pa_cons (pe_bltn (by rfl) T.no_int (by decide +kernel) (show RelV (.ty "int") _ from rfl)) pa_nil))) (pe_one (pe_not (pe_callB isi1 (by rfl) T.no_isinstance (by decide +kernel) (pa_cons (pv 0) (pa_cons (pe_bltn (by rfl) T.no_bool (by decide +kernel) (show RelV (.ty "bool") _ from rfl)) pa_nil)))))))), ?_⟩
  cases hv with
  | lf l => cases l <;> (walk_at "wps"; exact k)
  | lst ne h a =>
    have ht := ty_l h
    walk_at "wps"
    exact k
  | tup ne h a =>
    have ht := ty_t h
    walk_at "wps"
    exact k
theorem _root_.Ho.XdAt.kp {d : Option Addr} {H H' : Hp} (h : XdAt d H) (s : Same H H') : XdAt d H' := by
  cases d with
  | none => trivial
  | some dd => exact h.imp fun fs e => s _ _ e
def sp_aloneH (K : PySem.W.Frag) (mg : Str → Option Value) : HSp := fun a c d vs H Q _ => ∃ En : Str, ErN K mg En ∧ (errNames.filter fun z => decide (z = En)).length = 1 ∧ vs = [.ref a] ∧ c = .ref (He.ga K En) ∧ XdAt d H ∧ ∀ H', Same H H' → Q (.bl true) H'
def sp_sameH : HSp := fun _ _ _ vs H Q _ => ∃ (x y : V) (d : PyData) (n m : Nat), vs = [x, y] ∧ Dw [] H x d n ∧ Dw [] H y d m ∧ n ≤ 4000000 ∧ ∀ H', Same H H' → Q (.bl true) H'
theorem ok_law_sameH (D : Df K mg "_law_same" st_law_same) (T : NoB mg) (C_law_is_wholeH : ClH P w K mg base 1 "_law_is_whole" ["value"] sp_iswH) : ClH P w K mg base 2 "_law_same" ["actual", "due"] sp_sameH := by
  refine clH_of D sc_law_same (fun _ _ _ _ _ _ us hl => match us, hl with | [_, _], _ => rfl) (fun _ _ _ vs H Q E h => ?_) (fun f cdv A outer sh H vs Q E p cls dd hot hz hc hr h => ?_)
  · obtain ⟨_, _, _, _, _, rfl, _⟩ := h; rfl
  have hf : ∃ vs, p.2.data = .fields vs := hot.2.imp fun _ h => h.1
  obtain ⟨x, y, d, n, m, rfl, hx, hy, hn, k⟩ := h
  refine ⟨_, (pss_cons (ps_set (i := 2) sc_law_same.nd rfl (Or.inl rfl) (pe_lst (pa_cons (pe_tup (pa_cons (pv 0) (pa_cons (pv 1) pa_nil))) pa_nil)))
    (pss_cons (ps_while PassesOwn.never (pt_cmpR op_gt (pe_callB len1 (by rfl) T.no_len (by decide +kernel) (pa_cons (pv 2) pa_nil)) pe_int (nomark _)) (pss_cons (ps_set (i := 3) sc_law_same.nd rfl (Or.inl rfl) (pe_bm0 PySem.F.plainAttrs_list PySem.F.slot_list_pop PySem.F.type_list_pop mt_pop (pv 2)))
    (pss_cons (ps_set (i := 4) sc_law_same.nd rfl (Or.inl rfl) (pe_ix ix1 (pv 3) pe_int (fun _ _ => rfl)))
    (pss_cons (ps_set (i := 5) sc_law_same.nd rfl (Or.inl rfl) (pe_ix ix1 (pv 3) pe_int (fun _ _ => rfl)))
    (pss_one (ps_if (PW.pt (pw_or (pt_cmpR op_isN (pv 5) pe_non (nomark _)) (pw_or (pt_cmpR op_isTF (pv 5) pe_bl (nomark _)) (pw_or1 (pt_cmpR op_isTF (pv 5) pe_bl (nomark _)))))) (pss_one (ps_if (pt_not (PW.pt (pw_or (PW.pt (pw_and (pt_cmpR op_isN (pv 5) pe_non (nomark _)) (pw_and1 (pt_cmpR op_isN (pv 4) pe_non (nomark _))))) (pw_or (PW.pt (pw_and (pt_cmpR op_isTF (pv 5) pe_bl (nomark _)) (pw_and1 (pt_cmpR op_isTF (pv 4) pe_bl (nomark _))))) (pw_or1 (PW.pt (pw_and (pt_cmpR op_isTF (pv 5) pe_bl (nomark _)) (pw_and1 (pt_cmpR op_isTF (pv 4) pe_bl (nomark _)))))))))) (pss_one (ps_ret pe_bl)) pss_nil)) (pss_one (ps_if (pt_val (pe_callB isi1 (by rfl) T.no_isinstance (by decide +kernel) (pa_cons (pv 5) (pa_cons (pe_bltn (by rfl) T.no_int (by decide +kernel) (show RelV (.ty "int") _ from rfl)) pa_nil)))) (pss_one (ps_if (PW.pt (pw_or (pt_not (pt_val (pe_clH C_law_is_wholeH hot List.mem_cons_self hz hr (by rfl) (pa_cons (pv 4) pa_nil)))) (pw_or1 (pt_cmpR op_ne (pv 4) (pv 5) (nomark _))))) (pss_one (ps_ret pe_bl)) pss_nil)) (pss_one (ps_if (pt_val (pe_callB isi1 (by rfl) T.no_isinstance (by decide +kernel) (pa_cons (pv 5) (pa_cons (pe_bltn (by rfl) T.no_str (by decide +kernel) (show RelV (.ty "str") _ from rfl)) pa_nil)))) (pss_one (ps_if (PW.pt (pw_or (pt_not (pt_val (pe_callB isi1 (by rfl) T.no_isinstance (by decide +kernel) (pa_cons (pv 4) (pa_cons (pe_bltn (by rfl) T.no_str (by decide +kernel) (show RelV (.ty "str") _ from rfl)) pa_nil))))) (pw_or1 (pt_cmpR op_ne (pv 4) (pv 5) (nomark _))))) (pss_one (ps_ret pe_bl)) pss_nil)) (pss_cons (ps_if (PW.pt (pw_and (pt_val (pe_callB isi1 (by rfl) T.no_isinstance (by decide +kernel) (pa_cons (pv 5) (pa_cons (pe_bltn (by rfl) T.no_tuple (by decide +kernel) (show RelV (.ty "tuple") _ from rfl)) pa_nil)))) (pw_and1 (pt_not (pt_val (pe_callB isi1 (by rfl) T.no_isinstance (by decide +kernel) (pa_cons (pv 4) (pa_cons (pe_bltn (by rfl) T.no_tuple (by decide +kernel) (show RelV (.ty "tuple") _ from rfl)) pa_nil)))))))) (pss_one (ps_ret pe_bl)) pss_nil)
    (pss_cons (ps_if (PW.pt (pw_and (pt_val (pe_callB isi1 (by rfl) T.no_isinstance (by decide +kernel) (pa_cons (pv 5) (pa_cons (pe_bltn (by rfl) T.no_list (by decide +kernel) (show RelV (.ty "list") _ from rfl)) pa_nil)))) (pw_and1 (pt_not (pt_val (pe_callB isi1 (by rfl) T.no_isinstance (by decide +kernel) (pa_cons (pv 4) (pa_cons (pe_bltn (by rfl) T.no_list (by decide +kernel) (show RelV (.ty "list") _ from rfl)) pa_nil)))))))) (pss_one (ps_ret pe_bl)) pss_nil)
    (pss_cons (ps_if (pt_cmpR op_ne (pe_callB len1 (by rfl) T.no_len (by decide +kernel) (pa_cons (pv 4) pa_nil)) (pe_callB len1 (by rfl) T.no_len (by decide +kernel) (pa_cons (pv 5) pa_nil)) (nomark _)) (pss_one (ps_ret pe_bl)) pss_nil)
    (pss_one (L2H.ps_forH PassesOwn.never hc (L2H.pi_range1H (by rfl) T.no_range (pa_cons (pe_callB len1 (by rfl) T.no_len (by decide +kernel) (pa_cons (pv 5) pa_nil)) pa_nil)) (pg_name (i := 6) sc_law_same.nd rfl (Or.inl rfl)) (pss_one (ps_expr (pe_bm PySem.F.plainAttrs_list PySem.F.slot_list_append PySem.F.type_list_append mt_append (pv 2) (pa_cons (pe_tup (pa_cons (pe_ix ix1 (pv 4) (pv 6) (fun _ _ => rfl)) (pa_cons (pe_ix ix1 (pv 5) (pv 6) (fun _ _ => rfl)) pa_nil))) pa_nil)))))))))))))))))))
    (pss_one (ps_ret pe_bl)))), ?_⟩
  walk_at "sq"
  refine ⟨szl (by decide), fun t0 H1 n1 => ?_⟩
  walk_at "wq"
  refine ⟨szl (by decide), fun L H2 n2 => ?_⟩
  have s2 : Same H H2 := n1.same.trans n2.same
  have hL : H L = none := n1.same.free n2.fr
  walk_at "sq"
  refine wh_by (fun m σ H' => m ≤ 4000000 ∧ Same H H' ∧ ∃ xs v3 v4 v5 v6, σ = [some x, some y, some (.ref L), v3, v4, v5, v6] ∧ H' L = some (.lst xs) ∧ Its H H' xs m) n
    ⟨hn, s2, [.ref t0], _, _, _, _, rfl, n2.at_, by have := Its.snoc (H := H) (H' := H2) .nil (n2.k n1.at_) hx hy; simpa using this⟩ ?_
  rintro m _ H3 N R hN hR ⟨hm, s3, xs, v3, v4, v5, v6, rfl, e3, it⟩
  have hq := sq_l e3
  walk_at "wq"
  refine hR _ _ (wst (fun hb => ?_) (fun hb => ?_))
  · have hb : 0 < xs.length := by simpa using hb
    cases it with
    | nil => exact absurd hb (by simp)
    | @snoc xs m n' k' t a b d it et wa wb =>
      have htL : t ≠ L := ne_of et e3 (by intro z; cases z)
      walk_at "sq"
      refine ⟨tyl e3, .ref t, by simp, fun H4 n4 => ?_⟩
      have n4' : Put H3 L (.lst xs) H4 := by
        have e := List.dropLast_concat (l₁ := xs) (b := V.ref t)
        rw [e] at n4; exact n4
      clear n4
      have e4 := n4'.at_
      have et4 := n4'.k htL et
      have hq4 := sq_t et4
      have s4 : Same H H4 := fun b o e => n4'.k (ne_of_none e hL) (s3 _ _ e)
      have it4 : Its H H4 xs m := it.keep fun t ys e => n4'.k (ne_of e e3 (by intro z; cases z)) e
      walk_at "sq"
      walk_at "sq"
      have fin : N [some x, some y, some (.ref L), some (.ref t), some a, some b, v6] H4 := hN m _ _ (by have := wa.pos; omega) ⟨by omega, s4, xs, _, _, _, _, rfl, e4, it4⟩
      have loop : ∀ (ap bp : Addr) (as bs : List V) (ds : List PyData) (n1 k1 : Nat), sq H ap = some as → sq H bp = some bs → DwAll [] H as ds n1 → DwAll [] H bs ds k1 → n1 + 1 = n' → as.length = bs.length → FRg 0 bs.length (gName 6) (tDrop
            (tBM K "list" rAppend (tVar 2)
              (tCons (tTup (tCons (tOp rIx1 (tVar 4) (tVar 6)) (tCons (tOp rIx1 (tVar 5) (tVar 6)) tNil))) tNil)))
          { nx := N, rt := Q, bk := tRet (tC (V.bl true)) { nx := fun x H' => Q V.non H', rt := Q }, ct := N }
          [some x, some y, some (V.ref L), some (V.ref t), some (V.ref ap), some (V.ref bp), v6] H4 := by
        intro ap bp as bs ds n1 k1 qa qb da db hn1 hl
        refine fr_by (fun i σ H' => Same H H' ∧ ∃ ys v6 w r r', σ = [some x, some y, some (V.ref L), some (V.ref t), some (V.ref ap), some (V.ref bp), v6] ∧ H' L = some (.lst ys) ∧ Its H H' ys (m + w) ∧ DwAll [] H (as.drop i) (ds.drop i) r ∧ DwAll [] H (bs.drop i) (ds.drop i) r' ∧ w + r = n1)
          ⟨s4, xs, v6, 0, n1, k1, rfl, e4, it4, da, db, by omega⟩ ?_ ?_
        · rintro i _ H5 N' hN' hi ⟨s5, ys, v6, w, r, r', rfl, e5, it5, d5, d5', hw⟩
          have qa5 := same_sq s5 qa
          have qb5 := same_sq s5 qb
          have hia : i < as.length := by omega
          rw [List.drop_eq_getElem_cons hia] at d5
          rw [List.drop_eq_getElem_cons hi] at d5'
          generalize hd : ds.drop i = dd at d5 d5'
          cases d5 with
          | @cons _ _ d0 ds0 c1 c2 p1 p2 =>
            cases d5' with
            | @cons _ _ _ _ c3 c4 p3 p4 =>
              have hd1 : ds.drop (i + 1) = ds0 := by rw [← List.drop_drop, hd] <;> rfl
              walk_at "wq"
              refine ⟨tyl e5, as[i], atI_of (by omega) (by simp [hia]), bs[i], atI_of (by omega) (by simp [hi]), szl (by decide), fun t6 H6 n6 => ?_⟩
              have e6 := n6.k e5
              walk_at "wq"
              have hlen := it5.len
              refine ⟨szl' (by omega), fun H7 n7 => ?_⟩
              have ht6 : t6 ≠ L := (n6.ne e5).symm
              refine hN' _ _ ⟨n7.same (s5.trans n6.same) hL, _, _, w + c1, c2, c4, rfl, n7.at_, ?_, by rw [hd1]; exact p2, by rw [hd1]; exact p4, by omega⟩
              have it7 : Its H H7 ys (m + w) := it5.keep fun t ys e => n7.k (ne_of (n6.k e) e6 (by intro z; cases z)) (n6.k e)
              have := Its.snoc it7 (n7.k ht6 n6.at_) p1 p3
              rw [← Nat.add_assoc]
              exact this
        · rintro _ H5 ⟨s5, ys, v6, w, r, r', rfl, e5, it5, d5, d5', hw⟩
          exact hN (m + w) _ _ (by omega) ⟨by omega, s5, ys, _, _, _, _, rfl, e5, it5⟩
      cases wb with
      | lf l =>
        cases l with
        | non => cases wa with | lf l' => cases l'; walk_at "wps"; first | done | exact fin
        | bl c => cases wa with | lf l' => cases l'; cases c <;> walk_at "wps" <;> first | done | exact fin
        | int c =>
          cases wa with
          | lf l' =>
            cases l'
            walk_at "wps"
            refine ⟨.int c, .int c, 1, [], rfl, .lf (.int c), ?_⟩
            walk_at "wps"
        | str c => cases wa with | lf l' => cases l'; walk_at "wps"; first | done | exact fin
      | @lst bp bs ds k'' bne eb db =>
        cases wa with
        | lf l' => cases l'
        | @lst ap as _ n'' ane ea da =>
          have eb4 := s4 _ _ eb
          have ea4 := s4 _ _ ea
          have tb := ty_l eb4
          have ta := ty_l ea4
          have qb := sq_l eb4
          have qa := sq_l ea4
          walk_at "wps"
          have hl := da.len.1.trans db.len.1.symm
          have hl2 := da.len.2
          rw [if_neg (by omega)]
          exact ⟨by omega, by omega, loop ap bp as bs ds _ _ (sq_l ea) (sq_l eb) da db rfl hl⟩
      | @tup bp bs ds k'' bne eb db =>
        cases wa with
        | lf l' => cases l'
        | @tup ap as _ n'' ane ea da =>
          have eb4 := s4 _ _ eb
          have ea4 := s4 _ _ ea
          have tb := ty_t eb4
          have ta := ty_t ea4
          have qb := sq_t eb4
          have qa := sq_t ea4
          walk_at "wps"
          have hl := da.len.1.trans db.len.1.symm
          have hl2 := da.len.2
          rw [if_neg (by omega)]
          exact ⟨by omega, by omega, loop ap bp as bs ds _ _ (sq_t ea) (sq_t eb) da db rfl hl⟩
  · (walk_at "wq") <;> exact k _ s3
end

/-! ## HoI -/
def rotL (c : List Int) : List Int := c.tail ++ c.head?.toList
def rotR (c : List Int) : List Int := c.getLast?.toList ++ c.dropLast
theorem rotL_perm : ∀ c : List Int, (rotL c).Perm c
  | [] => .refl _
  | x :: r => by
    show (r ++ [x]).Perm (x :: r)
    exact List.perm_append_comm
theorem rotR_perm (c : List Int) : (rotR c).Perm c := by
  unfold rotR
  cases h : c.getLast? with
  | none =>
    have : c = [] := List.getLast?_eq_none_iff.mp h
    subst this
    exact .refl _
  | some x =>
    have e : c = c.dropLast ++ [x] := by
      obtain ⟨l, rfl⟩ := List.getLast?_eq_some_iff.mp h
      simp
    conv => rhs; rw [e]
    exact List.perm_append_comm
theorem rotL_len (c : List Int) : (rotL c).length = c.length := (rotL_perm c).length_eq
theorem rotR_len (c : List Int) : (rotR c).length = c.length := (rotR_perm c).length_eq
theorem rotL_at {c : List Int} {k : Nat} (h : k < c.length) : (rotL c)[k]? = c[(k + 1) % c.length]? := by
  cases c with
  | nil => simp at h
  | cons x r =>
    show (r ++ [x])[k]? = (x :: r)[(k + 1) % (r.length + 1)]?
    rw [List.length_cons] at h
    by_cases e : k = r.length
    · subst e
      rw [Nat.mod_self, List.getElem?_append_right (Nat.le_refl _), Nat.sub_self]
      rfl
    · rw [Nat.mod_eq_of_lt (by omega), List.getElem?_append_left (by omega)]
      rfl
theorem rotR_at0 {c : List Int} {z : Int} (h : c[c.length - 1]? = some z) : (rotR c)[0]? = some z := by
  unfold rotR
  rw [List.getLast?_eq_getElem?, h]
  rfl
theorem rotR_at1 {c : List Int} {k : Nat} (h : k + 1 < c.length) : (rotR c)[k + 1]? = c[k]? := by
  unfold rotR
  have hl : c.getLast?.toList.length = 1 := by
    rw [List.getLast?_eq_getElem?, List.getElem?_eq_getElem (show c.length - 1 < c.length by omega)]
    rfl
  rw [List.getElem?_append_right (by omega), hl, List.getElem?_dropLast]
  have : k + 1 - 1 = k := by omega
  rw [this, if_pos (by omega)]
theorem rotL_rotR {c : List Int} : rotL (rotR c) = c := by
  cases h : c.getLast? with
  | none =>
    have : c = [] := List.getLast?_eq_none_iff.mp h
    subst this
    rfl
  | some x =>
    obtain ⟨l, rfl⟩ := List.getLast?_eq_some_iff.mp h
    unfold rotR rotL
    simp
def asg (im : List Int) (ps : List (Int × Int)) : List Int := ps.foldl (fun im q => im.set q.1.toNat q.2) im
theorem asg_snoc {im : List Int} {ps : List (Int × Int)} {q : Int × Int} : asg im (ps ++ [q]) = (asg im ps).set q.1.toNat q.2 := by
  unfold asg
  rw [List.foldl_append]
  rfl
theorem asg_len : ∀ {ps : List (Int × Int)} {im : List Int}, (asg im ps).length = im.length
  | [], _ => rfl
  | q :: r, im => by
    have := asg_len (ps := r) (im := im.set q.1.toNat q.2)
    rw [List.length_set] at this
    exact this
theorem asg_ne : ∀ {ps : List (Int × Int)} {im : List Int} {p : Nat}, (∀ q ∈ ps, q.1.toNat ≠ p) → (asg im ps)[p]? = im[p]?
  | [], _, _, _ => rfl
  | q :: r, im, p, h => by
    have := asg_ne (ps := r) (im := im.set q.1.toNat q.2) (p := p) fun q' hq => h q' (List.mem_cons_of_mem _ hq)
    rw [List.getElem?_set_ne (h q List.mem_cons_self)] at this
    exact this
theorem asg_eq : ∀ {ps : List (Int × Int)} {im : List Int} {a b : Int}, (ps.map fun q => q.1.toNat).Nodup → (a, b) ∈ ps → a.toNat < im.length → (asg im ps)[a.toNat]? = some b
  | [], _, _, _, _, h, _ => by cases h
  | q :: r, im, a, b, nd, h, hl => by
    rw [List.map_cons, List.nodup_cons] at nd
    rcases List.mem_cons.mp h with e | h'
    · subst e
      have := asg_ne (ps := r) (im := im.set a.toNat b) (p := a.toNat) fun q' hq e => nd.1 (List.mem_map.mpr ⟨q', hq, e⟩)
      rw [List.getElem?_set_self hl] at this
      exact this
    · exact asg_eq (ps := r) (im := im.set q.1.toNat q.2) nd.2 h' (by rw [List.length_set]; exact hl)
def prA (c : List Int) : List (Int × Int) := c.zip (rotL c)
def prB (c : List Int) : List (Int × Int) := (rotR c).zip c
structure Img (n : Nat) (rs : List (List Int)) (im : List Int) : Prop where
  len : im.length = n
  on : ∀ c ∈ rs, ∀ (k : Nat) (z : Int), c[k]? = some z → im[z.toNat]? = (rotL c)[k]?
  off : ∀ p : Nat, p < n → (p : Int) ∉ rs.flatten → im[p]? = some (p : Int)
structure Rws (n : Nat) (rs : List (List Int)) : Prop where
  nd : rs.flatten.Nodup
  rg : ∀ z ∈ rs.flatten, 0 ≤ z ∧ z < n
theorem toNat_nd {l : List Int} (nd : l.Nodup) (h : ∀ z ∈ l, 0 ≤ z) : (l.map Int.toNat).Nodup := by
  rw [List.nodup_iff_pairwise_ne, List.pairwise_map]
  rw [List.nodup_iff_pairwise_ne] at nd
  refine nd.imp_of_mem fun {a b} ha hb hne e => hne ?_
  have := h a ha
  have := h b hb
  omega
theorem img_of {n : Nat} {rs : List (List Int)} {ps : List (Int × Int)} (r : Rws n rs) (hf : (ps.map Prod.fst).Perm rs.flatten) (hon : ∀ c ∈ rs, ∀ (k : Nat) (z y : Int), c[k]? = some z → (rotL c)[k]? = some y → (z, y) ∈ ps) : Img n rs (asg (rng n) ps) := by
  have nd : (ps.map fun q => q.1.toNat).Nodup := by
    have e : (ps.map fun q => q.1.toNat) = (ps.map Prod.fst).map Int.toNat := by rw [List.map_map]; rfl
    rw [e]
    exact toNat_nd (hf.nodup_iff.mpr r.nd) fun z hz => (r.rg z (hf.mem_iff.mp hz)).1
  refine ⟨by rw [asg_len, rng_len], fun c hc k z hz => ?_, fun p hp hn => ?_⟩
  · have hk := (List.getElem?_eq_some_iff.mp hz).1
    have hk2 : k < (rotL c).length := by rw [rotL_len]; exact hk
    have hy := List.getElem?_eq_getElem hk2
    have hg := r.rg z (List.mem_flatten.mpr ⟨c, hc, List.mem_of_getElem? hz⟩)
    rw [hy]
    exact asg_eq nd (hon c hc k z _ hz hy) (by rw [rng_len]; omega)
  · rw [asg_ne, rng_get hp]
    intro q hq e
    have hm := hf.mem_iff.mp (List.mem_map.mpr ⟨q, hq, rfl⟩)
    have := (r.rg _ hm).1
    exact hn (by have e2 : (p : Int) = q.1 := by omega
                 rw [e2]; exact hm)
theorem img_A {n : Nat} {rs : List (List Int)} (r : Rws n rs) : Img n rs (asg (rng n) (rs.flatMap prA)) := by
  refine img_of r ?_ fun c hc k z y hz hy => List.mem_flatMap.mpr ⟨c, hc, List.mem_of_getElem? (i := k) (by unfold prA; rw [List.getElem?_zip_eq_some]; exact ⟨hz, hy⟩)⟩
  have e : (rs.flatMap prA).map Prod.fst = rs.flatten := by
    rw [List.map_flatMap]
    have : (fun c => (prA c).map Prod.fst) = fun c : List Int => c := by
      funext c
      unfold prA
      rw [List.map_fst_zip]
      rw [rotL_len]
      exact Nat.le_refl _
    rw [this, List.flatMap_id']
  rw [e]
theorem flatMap_perm {f g : List Int → List Int} (h : ∀ c, (f c).Perm (g c)) : ∀ rs : List (List Int), (rs.flatMap f).Perm (rs.flatMap g)
  | [] => .refl _
  | c :: r => by
    rw [List.flatMap_cons, List.flatMap_cons]
    exact (h c).append (flatMap_perm h r)
theorem img_B {n : Nat} {rs : List (List Int)} (r : Rws n rs) : Img n rs (asg (rng n) (rs.flatMap prB)) := by
  refine img_of r ?_ fun c hc k z y hz hy => ?_
  · have e : (rs.flatMap prB).map Prod.fst = rs.flatMap rotR := by
      rw [List.map_flatMap]
      congr 1
      funext c
      unfold prB
      rw [List.map_fst_zip]
      rw [rotR_len]
      exact Nat.le_refl _
    rw [e]
    have := flatMap_perm rotR_perm rs
    rw [List.flatMap_id'] at this
    exact this
  · have hk := (List.getElem?_eq_some_iff.mp hz).1
    rw [rotL_at hk] at hy
    refine List.mem_flatMap.mpr ⟨c, hc, List.mem_of_getElem? (i := (k + 1) % c.length) ?_⟩
    unfold prB
    rw [List.getElem?_zip_eq_some]
    refine ⟨?_, hy⟩
    by_cases e : k + 1 = c.length
    · rw [e, Nat.mod_self]
      exact rotR_at0 (by rw [← e]; exact hz)
    · rw [Nat.mod_eq_of_lt (by omega), rotR_at1 (by omega)]
      exact hz
theorem Img.uniq {n : Nat} {rs : List (List Int)} {a b : List Int} (x : Img n rs a) (y : Img n rs b) : a = b := by
  refine List.ext_getElem? fun p => ?_
  by_cases hp : p < n
  · by_cases hm : (p : Int) ∈ rs.flatten
    · obtain ⟨c, hc, hpc⟩ := List.mem_flatten.mp hm
      obtain ⟨k, hk⟩ := List.mem_iff_getElem?.mp hpc
      have h1 := x.on c hc k _ hk
      have h2 := y.on c hc k _ hk
      rw [Int.toNat_natCast] at h1 h2
      rw [h1, h2]
    · rw [x.off p hp hm, y.off p hp hm]
  · rw [List.getElem?_eq_none (by rw [x.len]; omega), List.getElem?_eq_none (by rw [y.len]; omega)]
theorem Img.perm {n : Nat} {rs : List (List Int)} {a : List Int} (x : Img n rs a) (r : Rws n rs) : a.Perm (rng n) := by
  refine sub_perm (rng_nodup n) (fun q hq => ?_) (by rw [x.len, rng_len]; exact Nat.le_refl _)
  obtain ⟨q0, q1⟩ := mem_rng.mp hq
  by_cases hm : q ∈ rs.flatten
  · obtain ⟨c, hc, hqc⟩ := List.mem_flatten.mp hm
    obtain ⟨k, hk⟩ := List.mem_iff_getElem?.mp ((rotL_perm c).mem_iff.mpr hqc)
    have hkl : k < c.length := by
      have := (List.getElem?_eq_some_iff.mp hk).1
      rwa [rotL_len] at this
    have h1 := x.on c hc k _ (List.getElem?_eq_getElem hkl)
    rw [hk] at h1
    exact List.mem_of_getElem? h1
  · have := x.off q.toNat (by omega) (by rw [Int.toNat_of_nonneg q0]; exact hm)
    rw [Int.toNat_of_nonneg q0] at this
    exact List.mem_of_getElem? this

/-! ## HoJ -/
section
open HT
variable {prog : Program} {w : World} {A : Around} {E : Value → Shared → Prop} {s : Shared}
theorem tuple_cut_whole {t sl : Addr} {items : Array Value} {vl vu : Value} {lo hi : Option Int} {Q : Value → Shared → Prop} (ht : IsTup s.heap t items) (hs : s.heap.IsSliceOf sl vl vu .none) (pl : IsPart vl lo) (pu : IsPart vu hi)
    (hw : sIx items.size 0 lo = 0 ∧ sIx items.size items.size hi = items.size) (h : Q (.ref t) s) : wpAny (model prog w) A (getItem (.ref t) (.ref sl)) Q E s := by
  obtain ⟨os, hos, hcs, hds⟩ := id hs
  have hTs : s.TypeIs (.ref sl) "slice" := ⟨os, hos, hcs⟩
  unfold getItem
  try with_reducible refine wpAny_holding ?_
  first | refine wpAny_bind (wpAny_pure ?_) | skip
  refine wpAny_bind (wpAny_sequenceKey ht.typeIs (by decide) ?_)
  refine wpAny_bind (wpAny_callSpecial?_slot (name := Str.ofString "__getitem__") ht.typeIs PyProof.Rows.slot_tuple_getitem
    (wpAny_call_entry PyProof.Rows.slot_tuple_getitem ht.typeIs entry_tuple_getitem ?_ (args_tuple_getitem _ _)))
  show wpAny _ _ (Builtin.Tuple.tupleItemsOf (.ref t) >>= _) _ _ s
  refine wpAny_bind (tupleItemsOf_ ht ?_)
  refine wpAny_bind (wpAny_typeOf hTs ?_)
  rw [if_pos (by decide)]
  refine wpAny_bind (sliceApplied_gen hs pl pu ?_)
  have hyes : ((((sIx items.size 0 lo : Nat) : Int) == 0 && (1 : Int) == 1 && (sIx items.size items.size hi - sIx items.size 0 lo) == items.size) = true) := by
    rw [hw.1, hw.2]
    simp
  show wpAny _ _ (if (((sIx items.size 0 lo : Nat) : Int) == 0 && (1 : Int) == 1 && (sIx items.size items.size hi - sIx items.size 0 lo) == items.size) = true then _ else _) _ _ s
  rw [if_pos hyes]
  refine wpAny_bind (wpAny_bind (wpAny_typeOf ht.typeIs (wpAny_pure ?_)))
  rw [if_pos (by decide)]
  refine wpAny_bind (wpAny_rule ?_)
  exact wpAny_pure ⟨_, rfl, wpAny_pure h⟩
end
def rSlTA (K : PySem.W.Frag) : V → Option Int → Option Int → Hp → VK → Prop := fun x lo hi H Q => ∃ a xs, x = .ref a ∧ SqT K H a xs ∧
  ((HT.sIx xs.length 0 lo = 0 ∧ HT.sIx xs.length xs.length hi = xs.length) → Q (.ref a) H) ∧ (¬ (HT.sIx xs.length 0 lo = 0 ∧ HT.sIx xs.length xs.length hi = xs.length) → ∀ p, H p = none → Q (.ref p) (upd H p (.tup (cutV xs lo hi))))
theorem sl_tupA {X : Cx} : SlR X (rSlTA X.K) := by
  intro pins s σ H x v vl vu lo hi sl Q I rx hs pl pu h
  obtain ⟨a, xs, rfl, hx, q1, q2⟩ := h
  by_cases hw : HT.sIx xs.length 0 lo = 0 ∧ HT.sIx xs.length xs.length hi = xs.length
  · cases rx
    obtain ⟨its, r, ht, hz⟩ := I.tuple hx
    have hlen : its.toArray.size = xs.length := by rw [List.size_toArray]; exact r.length.symm
    refine ⟨"tuple", _, PyProof.Rows.slot_tuple_getitem.lookup, ht.typeIs, ?_⟩
    exact tuple_cut_whole ht hs pl pu (by rw [hlen]; exact hw) ⟨.ref a, H, I, rfl, q1 hw⟩
  · exact sl_tup pins s σ H _ v vl vu lo hi sl Q I rx hs pl pu ⟨a, xs, rfl, hx, hw, q2 hw⟩
/-- what a slice is: its items, at the same address or a new one -/
theorem b_slTA {K : PySem.W.Frag} {a : Addr} {lo hi : Option Int} {H : Hp} {Q : VK} : (∃ xs, SqT K H a xs ∧ ((HT.sIx xs.length 0 lo = 0 ∧ HT.sIx xs.length xs.length hi = xs.length) → Q (.ref a) H) ∧ Nw H (.tup (cutV xs lo hi)) fun p H' => Q (.ref p) H') → rSlTA K (.ref a) lo hi H Q := fun ⟨xs, h, q1, q2⟩ => by
  refine ⟨a, xs, rfl, h, q1, fun _ => ?_⟩
  rw [nw_eq]
  exact q2
theorem log_sm {n : Nat} (h : n < 2 ^ 1000) : n.log2 < 1920 := by
  by_cases e : n = 0
  · subst e; decide
  · have := (Nat.log2_lt e).mpr h
    omega
theorem cut_to {xs : List V} {m : Int} (h : 0 ≤ m) : cutV xs none (some m) = xs.take m.toNat := by
  have e1 : HT.sIx xs.length xs.length (some m) = min m.toNat xs.length := by
    have := HT.sIx_nat xs.length xs.length m.toNat
    rw [Int.toNat_of_nonneg h] at this
    exact this
  unfold cutV
  rw [e1, HT.sIx_none, Nat.sub_zero, List.drop_zero]
  by_cases c : m.toNat ≤ xs.length
  · rw [Nat.min_eq_left c]
  · rw [Nat.min_eq_right (by omega), List.take_length, List.take_of_length_le (by omega)]
theorem cut_from {xs : List V} {m : Int} (h : 0 ≤ m) : cutV xs (some m) none = xs.drop m.toNat := by
  have e1 : HT.sIx xs.length 0 (some m) = min m.toNat xs.length := by
    have := HT.sIx_nat xs.length 0 m.toNat
    rw [Int.toNat_of_nonneg h] at this
    exact this
  unfold cutV
  rw [e1, HT.sIx_none]
  by_cases c : m.toNat ≤ xs.length
  · rw [Nat.min_eq_left c, List.take_of_length_le (by rw [List.length_drop]; exact Nat.le_refl _)]
  · rw [Nat.min_eq_right (by omega), List.drop_length, List.drop_of_length_le (by omega)]
    simp
theorem repI (n : Nat) (z : Int) : (List.replicate n [V.int z]).flatten = List.map V.int (List.replicate n z) := by
  induction n with
  | zero => rfl
  | succ n ih => rw [List.replicate_succ, List.flatten_cons, ih, List.replicate_succ]; rfl
section
variable {K : PySem.W.Frag} {H : Hp} {Q : VK}
theorem cut_whole {xs : List V} {lo hi : Option Int} (h : HT.sIx xs.length 0 lo = 0 ∧ HT.sIx xs.length xs.length hi = xs.length) : cutV xs lo hi = xs := by
  unfold cutV
  rw [h.1, h.2, Nat.sub_zero, List.drop_zero, List.take_length]
theorem b_slU {a : Addr} {lo hi : Option Int} : (∃ xs, H a = some (.tup xs) ∧ ∀ u H', Same H H' → H' u = some (.tup (cutV xs lo hi)) → Q (.ref u) H') → rSlTA K (.ref a) lo hi H Q := fun ⟨xs, h, k⟩ =>
  b_slTA ⟨xs, SqT.of h, fun hw => k a H (Same.refl _) (by rw [cut_whole hw]; exact h), fun p H' n => k p H' n.same n.at_⟩
theorem b_catU {a b : Addr} : (∃ xs ys, H a = some (.tup xs) ∧ H b = some (.tup ys) ∧ xs.length + ys.length ≤ sizeLine ∧ ∀ u H', Same H H' → H' u = some (.tup (xs ++ ys)) → Q (.ref u) H') → rCatA K (.ref a) (.ref b) H Q := fun ⟨xs, ys, h1, h2, hz, k⟩ => by
  refine ⟨a, b, xs, ys, rfl, rfl, SqT.of h1, SqT.of h2, hz, fun e => ?_, fun _ e => ?_, fun _ _ p hp => ?_⟩
  · subst e; exact k b H (Same.refl _) h2
  · subst e; exact k a H (Same.refl _) (by rw [List.append_nil]; exact h1)
  · exact k p _ (New.mk' hp).same upd_same
end

/-! ## F1 -/

/-! what is due -/
inductive Flt where
  | num (v : V) (lo hi : Int) | mv (i : Int) | many (z : Str) (l : Int) | pt (v : V) | rep (v : V) | sz (x y : Int) | txt (i : Int) | tight (i : Int) | full (i : Int) | made (v : V) | fail (i : Int)
def Flt.cls : Flt → Str
  | .num .. => "BadNumber"
  | .mv _ => "NotAMove"
  | .many .. => "TooMany"
  | .pt _ => "NotAPoint"
  | .rep _ => "RepeatedPoint"
  | .sz .. => "UnlikeSizes"
  | .txt _ => "BadText"
  | .tight _ => "NotTight"
  | .full _ => "NotFull"
  | .made _ => "NotMade"
  | .fail _ => "NotAFailing"
def Flt.fs : Flt → List (Str × V)
  | .num v lo hi => [("high", .int hi), ("low", .int lo), ("value", v)]
  | .mv i => [("index", .int i)]
  | .many z l => [("limit", .int l), ("what", .str z)]
  | .pt v => [("value", v)]
  | .rep v => [("value", v)]
  | .sz x y => [("second", .int y), ("first", .int x)]
  | .txt i => [("line", .int i)]
  | .tight i => [("index", .int i)]
  | .full i => [("point", .int i)]
  | .made v => [("move", v)]
  | .fail i => [("condition", .int i)]
def Flt.due : Flt → List V
  | .num v lo hi => [.str "BadNumber", v, .int lo, .int hi]
  | .mv i => [.str "NotAMove", .int i]
  | .many z l => [.str "TooMany", .str z, .int l]
  | .pt v => [.str "NotAPoint", v]
  | .rep v => [.str "RepeatedPoint", v]
  | .sz x y => [.str "UnlikeSizes", .int x, .int y]
  | .txt i => [.str "BadText", .int i]
  | .tight i => [.str "NotTight", .int i]
  | .full i => [.str "NotFull", .int i]
  | .made v => [.str "NotMade", v]
  | .fail i => [.str "NotAFailing", .int i]
def Raises (K : PySem.W.Frag) (f : Flt) (H : Hp) (Er : XK) : Prop := ∀ dd H0 H1, Same H H0 → New H0 dd (.xd f.fs) H1 → Er (.ref (He.ga K f.cls)) (some dd) H1
theorem Raises.same {K : PySem.W.Frag} {f : Flt} {H H' : Hp} {Er : XK} (r : Raises K f H Er) (s : Same H H') : Raises K f H' Er := fun dd H0 H1 s0 n => r dd H0 H1 (s.trans s0) n
def numOk : V → Int → Int → Bool
  | .int i, lo, hi => decide (lo ≤ i) && decide (i ≤ hi)
  | _, _, _ => false
theorem numOk_wh {v : V} {lo hi : Int} (h : numOk v lo hi = true) : ∃ i, v = .int i ∧ lo ≤ i ∧ i ≤ hi := by
  cases v with
  | int i => exact ⟨i, rfl, by simpa [numOk] using h⟩
  | _ => cases h
/-- a value that shown can show -/
theorem dw_show {E : List Addr} {H : Hp} {v : V} {d : PyData} {n : Nat} (h : Dw E H v d n) (hi : ∀ i, v = .int i → i.natAbs.log2 < 1920) : ShOk v H := by
  cases h with
  | lf l =>
    cases l with
    | non => exact .inr (.inr ⟨_, rfl, by decide +kernel⟩)
    | bl b => exact .inr (.inl ⟨b, rfl⟩)
    | int i => exact .inl ⟨i, rfl, hi i rfl⟩
    | str z => exact .inr (.inr ⟨_, rfl, by decide +kernel⟩)
  | lst ne h a => exact .inr (.inr ⟨_, ty_l h, by decide +kernel⟩)
  | tup ne h a => exact .inr (.inr ⟨_, ty_t h, by decide +kernel⟩)
def Sm (v : V) : Prop := ∀ i, v = .int i → i.natAbs.log2 < 1920
theorem sm_int {i : Int} (h : i.natAbs.log2 < 1920) : Sm (.int i) := fun j e => by cases e; exact h
theorem sm_small {i : Int} (h : -(10 ^ 40) < i ∧ i < 10 ^ 40) : Sm (.int i) := sm_int (log_sm (by
  have : (i.natAbs : Int) < 10 ^ 40 := by omega
  have e : ((10 : Nat) ^ 40 : Nat) < 2 ^ 1000 := by decide +kernel
  have h2 : i.natAbs < 10 ^ 40 := by exact_mod_cast this
  exact Nat.lt_trans h2 e))
theorem sm_any {v : V} (h : ∀ i, v ≠ .int i) : Sm v := fun i e => absurd e (h i)
section
variable {P : Program} {w : World} {K : PySem.W.Frag} {mg : Str → Option Value} {base : Heap}
def sp_number (K : PySem.W.Frag) : Sp := fun vs H Q Er => ∃ (v : V) (lo hi : Int) (E : List Addr) (d : PyData) (n : Nat), vs = [v, .int lo, .int hi] ∧ Dw E H v d n ∧ Sm v ∧ lo.natAbs.log2 < 1920 ∧ hi.natAbs.log2 < 1920 ∧
  (numOk v lo hi = true → Q .non H) ∧ (numOk v lo hi = false → Raises K (.num v lo hi) H Er)
abbrev stcheck_number : Stmt := topS 13
theorem sccheck_number : FnScope ["value", "low", "high"] ["value", "low", "high"] (defScope stcheck_number) := ⟨rfl, rfl, rfl, by decide +kernel, rfl, by decide +kernel, by decide +kernel⟩
theorem okcheck_number (D : Df K mg "check_number" stcheck_number) (T : NoB mg) (Cis_whole_moves : Cl P w K mg base 1 "is_whole_moves" ["value"] sp_isw) (Er_BadNumber : ErT_BadNumber P w K mg base): ClX P w K mg base 4 "check_number" ["value", "low", "high"] (sp_number K) := by
  refine clX_of D sccheck_number (fun _ _ _ _ _ _ us hl => match us, hl with | [_, _, _], _ => rfl) (fun vs H Q E h => ?_) (fun f cdv A outer sh H vs Q E hr tk h => ?_)
  · obtain ⟨_, _, _, _, _, _, rfl, _⟩ := h; rfl
  obtain ⟨v, lo, hi, E', d, n, rfl, hv, hs, hlo, hhi, k1, k2⟩ := h
  refine ⟨_, (pss_one (ps_if (PW.pt (pw_or (pt_not (pt_val (pe_cl Cis_whole_moves hr (by rfl) (pa_cons (pv 0) pa_nil)))) (pw_or (pt_cmpR op_lt (pv 0) (pv 1) (nomark _)) (pw_or1 (pt_cmpR op_gt (pv 0) (pv 2) (nomark _)))))) (pss_one (L2N.ps_raise rfl tk (pmk_err Er_BadNumber hr (by rfl) (pa_cons (pv 0) (pa_cons (pv 1) (pa_cons (pv 2) pa_nil)))))) pss_nil)), ?_⟩
  have bad : numOk v lo hi = false → ∀ d2 H2, New H d2 (.xd [("high", .int hi), ("low", .int lo), ("value", v)]) H2 → E (.ref (He.ga K "BadNumber")) (some d2) H2 := fun e d2 H2 n2 => k2 e d2 H H2 (Same.refl _) n2
  have ok : okP [0, 0, 0] [v, .int lo, .int hi] H := ⟨dw_show hv hs, .inl ⟨lo, rfl, hlo⟩, .inl ⟨hi, rfl, hhi⟩, trivial⟩
  walk_at "wn"
  refine ⟨v, d, n, E', rfl, hv, ?_⟩
  by_cases hw : isWh v = true
  · obtain ⟨i, rfl⟩ := isWh_int hw
    rw [hw]
    walk_at "wn"
    by_cases c1 : i < lo
    · walk_at "wps"
      exact fun d2 H2 n2 => bad (by simp [numOk]; omega) d2 H2 n2
    by_cases c2 : hi < i
    · walk_at "wps"
      exact fun d2 H2 n2 => bad (by simp [numOk]; omega) d2 H2 n2
    · walk_at "wps"
      exact k1 (by simp [numOk]; omega)
  · have hf : isWh v = false := by simpa using hw
    rw [hf]
    walk_at "wn"
    refine ⟨ok, fun d2 H2 n2 => bad (by cases v <;> first | rfl | exact absurd rfl hw) d2 H2 n2⟩
def sp_points (K : PySem.W.Frag) : Sp := fun vs H Q Er => ∃ (v : V) (E : List Addr) (d : PyData) (n : Nat), vs = [v] ∧ Dw E H v d n ∧ Sm v ∧
  (numOk v 0 12 = true → Q .non H) ∧ (numOk v 0 12 = false → Raises K (.num v 0 12) H Er)
abbrev stcheck_points : Stmt := topS 14
theorem sccheck_points : FnScope ["points"] ["points"] (defScope stcheck_points) := ⟨rfl, rfl, rfl, by decide +kernel, rfl, by decide +kernel, by decide +kernel⟩
theorem okcheck_points (D : Df K mg "check_points" stcheck_points) (T : NoB mg) (Ccheck_number : ClX P w K mg base 4 "check_number" ["value", "low", "high"] (sp_number K)) {tkp : Tok} (G_MOST_POINTS : mg "MOST_POINTS" = some (.int 12 tkp)): ClX P w K mg base 5 "check_points" ["points"] (sp_points K) := by
  refine clX_of D sccheck_points (fun _ _ _ _ _ _ us hl => match us, hl with | [_], _ => rfl) (fun vs H Q E h => ?_) (fun f cdv A outer sh H vs Q E hr tk h => ?_)
  · obtain ⟨_, _, _, _, rfl, _⟩ := h; rfl
  obtain ⟨v, E', d, n, rfl, hv, hs, k1, k2⟩ := h
  refine ⟨_, (pss_one (ps_expr (pe_clX Ccheck_number tk hr (by rfl) (pa_cons (pv 0) (pa_cons pe_int (pa_cons (pe_glob (by rfl) G_MOST_POINTS (show RelV (.int 12) _ from ⟨_, rfl⟩)) pa_nil)))))), ?_⟩
  walk_at "wn"
  exact ⟨v, 0, 12, E', d, n, rfl, hv, hs, by decide, by decide, k1, k2⟩
def sp_ptof : Sp := fun vs H Q _ => ∃ (v : V) (n : Int) (E : List Addr) (d : PyData) (m : Nat), vs = [.int n, v] ∧ Dw E H v d m ∧ Q (.bl (numOk v 0 (n - 1))) H
/-- a row: its items' faults -/
def ptFlt (n : Int) : List V → Option Flt
  | [] => none
  | x :: r => if numOk x 0 (n - 1) = true then ptFlt n r else some (.pt x)
def crowFlt (n : Int) (xs : List V) : Option Flt := if 24 < xs.length then some (.many "row" 24) else ptFlt n xs
/-- what a def answers: good, or the fault that is due -/
def Ans (K : PySem.W.Frag) (o : Option Flt) (H : Hp) (Er : XK) (good : Prop) : Prop := match o with
  | none => good
  | some f => Raises K f H Er
def AllD (H : Hp) (xs : List V) : Prop := ∀ x ∈ xs, Sm x ∧ ∃ E d m, Dw E H x d m
theorem AllD.same {H H' : Hp} {xs : List V} (a : AllD H xs) (s : Same H H') : AllD H' xs := fun x hx => ⟨(a x hx).1, (a x hx).2.imp fun E h => h.imp fun d h => h.imp fun m h => h.same s⟩
def sp_crow (K : PySem.W.Frag) : Sp := fun vs H Q Er => ∃ (n : Int) (p : Addr) (xs : List V), vs = [.int n, .ref p] ∧ sq H p = some xs ∧ AllD H xs ∧ Ans K (crowFlt n xs) H Er (∀ H', Same H H' → Q .non H')
theorem move_at {E : List Addr} {H : Hp} {v : V} {d : PyData} {n : Nat} (hd : isMoveD d = true) (hv : Dw E H v d n) : ∃ (a : Addr) (ns : List Int), v = .ref a ∧ H a = some (.tup (ns.map V.int)) ∧ d = .tuple (ns.map .int) ∧ ns.length ≤ 12 ∧ ns.Perm (rng ns.length) ∧ a ∉ E := by
  have hm : IsMoveP d := Classical.byContradiction fun z => by rw [isMove_f z] at hd; cases hd
  obtain ⟨ns, rfl, hl, hp⟩ := hm
  cases hv with
  | lf l => cases l
  | tup ne h da => exact ⟨_, ns, rfl, by rw [dw_ints' da] at h; exact h, rfl, hl, hp, ne⟩
theorem dwT {H : Hp} {p : Addr} {ns : List Int} (h : H p = some (.tup (ns.map V.int))) : Dw [] H (.ref p) (.tuple (ns.map .int)) (ns.length + 1) := .tup (by simp) h (DwAll.ints ns)
def sp_chk (K : PySem.W.Frag) : Sp := fun vs H Q Er => ∃ (v : V) (i : Int) (E : List Addr) (d : PyData) (n : Nat), vs = [v, .int i] ∧ i.natAbs.log2 < 1920 ∧ Dw E H v d n ∧ (isMoveD d = true → ∀ H', Same H H' → Q .non H') ∧ (isMoveD d = false → Raises K (.mv i) H Er)
/-- carried: the row's points lie in the move, else what is due -/
def sp_carried (K : PySem.W.Frag) : Sp := fun vs H Q Er => ∃ (v : V) (p : Addr) (xs : List V) (E : List Addr) (d : PyData) (n : Nat), vs = [v, .ref p] ∧ Dw E H v d n ∧ sq H p = some xs ∧ AllD H xs ∧
  (isMoveD d = false → Raises K (.mv 0) H Er) ∧
  (∀ (a : Addr) (ns : List Int), v = .ref a → H a = some (.tup (ns.map V.int)) → d = .tuple (ns.map .int) → isMoveD d = true → Ans K (crowFlt ns.length xs) H Er (∀ (c is : List Int), xs = c.map V.int → is.length = c.length → (∀ (k : Nat) (z : Int), c[k]? = some z → ns[z.toNat]? = is[k]?) → ∀ q H1 H2, Same H H1 → New H1 q (.tup (is.map V.int)) H2 → Q (.ref q) H2))
theorem ptFlt_none : ∀ {n : Int} {xs : List V}, ptFlt n xs = none → ∃ c : List Int, xs = c.map V.int ∧ ∀ z ∈ c, 0 ≤ z ∧ z < n
  | _, [], _ => ⟨[], rfl, by simp⟩
  | n, x :: r, h => by
    rw [show ptFlt n (x :: r) = (if numOk x 0 (n - 1) = true then ptFlt n r else some (.pt x)) from rfl] at h
    by_cases c : numOk x 0 (n - 1) = true
    · rw [if_pos c] at h
      obtain ⟨cs, rfl, hc⟩ := ptFlt_none h
      obtain ⟨i, rfl, h0, h1⟩ := numOk_wh c
      refine ⟨i :: cs, rfl, fun z hz => ?_⟩
      rcases List.mem_cons.mp hz with e | hz
      · rw [e]; omega
      · exact hc z hz
    · rw [if_neg c] at h; cases h
theorem crowFlt_none {n : Int} {xs : List V} (h : crowFlt n xs = none) : xs.length ≤ 24 ∧ ∃ c : List Int, xs = c.map V.int ∧ ∀ z ∈ c, 0 ≤ z ∧ z < n := by
  unfold crowFlt at h
  by_cases c : 24 < xs.length
  · rw [if_pos c] at h; cases h
  · rw [if_neg c] at h
    exact ⟨by omega, ptFlt_none h⟩
end

/-! ## F2 -/

/-! rows and their faults -/
def rowSt (n : Int) : List Int → List V → Except Flt (List Int)
  | st, [] => .ok st
  | st, x :: r => if numOk x 0 (n - 1) = true then (if unV x ∈ st then .error (.rep x) else rowSt n (st ++ [unV x]) r) else .error (.pt x)
def rowsSt (n : Int) : List Int → List (List V) → Except Flt (List Int)
  | st, [] => .ok st
  | st, xs :: r => if 24 < xs.length then .error (.many "row" 24) else match rowSt n st xs with
    | .error f => .error f
    | .ok st' => rowsSt n st' r
def fcFlt (n : Int) (rvs : List (List V)) : Option Flt := if 24 < rvs.length then some (.many "cycles" 24) else match rowsSt n [] rvs with
  | .error f => some f
  | .ok _ => none
theorem rowSt_cons {n : Int} {st : List Int} {x : V} {r : List V} : rowSt n st (x :: r) = (if numOk x 0 (n - 1) = true then (if unV x ∈ st then .error (.rep x) else rowSt n (st ++ [unV x]) r) else .error (.pt x)) := rfl
theorem rowsSt_cons {n : Int} {st : List Int} {xs : List V} {r : List (List V)} : rowsSt n st (xs :: r) = (if 24 < xs.length then .error (.many "row" 24) else match rowSt n st xs with
    | .error f => .error f
    | .ok st' => rowsSt n st' r) := rfl
theorem rowSt_ok {n : Int} : ∀ {xs : List V} {st st' : List Int}, rowSt n st xs = .ok st' → ∃ c : List Int, xs = c.map V.int ∧ st' = st ++ c ∧ (st.Nodup → st'.Nodup) ∧ ∀ z ∈ c, 0 ≤ z ∧ z < n
  | [], st, st', h => by
    cases h
    exact ⟨[], rfl, by simp, id, by simp⟩
  | x :: r, st, st', h => by
    rw [rowSt_cons] at h
    by_cases c : numOk x 0 (n - 1) = true
    · rw [if_pos c] at h
      by_cases c2 : unV x ∈ st
      · rw [if_pos c2] at h; cases h
      · rw [if_neg c2] at h
        obtain ⟨cs, rfl, e, nd, rg⟩ := rowSt_ok h
        obtain ⟨i, rfl, h0, h1⟩ := numOk_wh c
        refine ⟨i :: cs, rfl, by rw [e]; simp [unV], fun hn => nd ?_, fun z hz => ?_⟩
        · rw [List.nodup_append]
          refine ⟨hn, by simp, fun a ha b hb e => ?_⟩
          rw [List.mem_singleton.mp hb] at e
          rw [e] at ha
          exact c2 ha
        · rcases List.mem_cons.mp hz with e | hz
          · rw [e]; omega
          · exact rg z hz
    · rw [if_neg c] at h; cases h
theorem rowsSt_ok {n : Int} : ∀ {rvs : List (List V)} {st st' : List Int}, rowsSt n st rvs = .ok st' → ∃ rs : List (List Int), rvs = rs.map (fun c => c.map V.int) ∧ st' = st ++ rs.flatten ∧ (st.Nodup → st'.Nodup) ∧ (∀ z ∈ rs.flatten, 0 ≤ z ∧ z < n) ∧ ∀ c ∈ rs, c.length ≤ 24
  | [], st, st', h => by
    cases h
    exact ⟨[], rfl, by simp, id, by simp, by simp⟩
  | xs :: r, st, st', h => by
    rw [rowsSt_cons] at h
    by_cases c : 24 < xs.length
    · rw [if_pos c] at h; cases h
    · rw [if_neg c] at h
      cases e1 : rowSt n st xs with
      | error f => rw [e1] at h; cases h
      | ok st1 =>
        rw [e1] at h
        obtain ⟨c1, rfl, e2, nd1, rg1⟩ := rowSt_ok e1
        obtain ⟨rs, rfl, e3, nd2, rg2, l2⟩ := rowsSt_ok (show rowsSt n st1 r = .ok st' from h)
        rw [List.length_map] at c
        refine ⟨c1 :: rs, rfl, by rw [e3, e2]; simp, fun hn => nd2 (nd1 hn), fun z hz => ?_, fun c' hc' => ?_⟩
        · rw [List.flatten_cons, List.mem_append] at hz
          exact hz.elim (rg1 z) (rg2 z)
        · rcases List.mem_cons.mp hc' with e | hc'
          · rw [e]; omega
          · exact l2 c' hc'
theorem fcFlt_none {n : Int} {rvs : List (List V)} (h0 : 0 ≤ n) (h : fcFlt n rvs = none) : rvs.length ≤ 24 ∧ ∃ rs : List (List Int), rvs = rs.map (fun c => c.map V.int) ∧ Rws n.toNat rs ∧ ∀ c ∈ rs, c.length ≤ 24 := by
  unfold fcFlt at h
  by_cases c : 24 < rvs.length
  · rw [if_pos c] at h; cases h
  · rw [if_neg c] at h
    cases e : rowsSt n [] rvs with
    | error f => rw [e] at h; cases h
    | ok st =>
      obtain ⟨rs, h1, h2, h3, h4, h5⟩ := rowsSt_ok e
      refine ⟨by omega, rs, h1, ⟨?_, fun z hz => ?_⟩, h5⟩
      · have := h3 (by simp)
        rw [h2] at this
        simpa using this
      · have := h4 z hz
        omega
/-- the rows stand (lists or tuples) -/
def RowsV (H : Hp) (rws : List Addr) (rvs : List (List V)) : Prop := rws.length = rvs.length ∧ ∀ (k : Nat) (r : Addr) (xs : List V), rws[k]? = some r → rvs[k]? = some xs → sq H r = some xs
theorem RowsV.same {H H' : Hp} {rws : List Addr} {rvs : List (List V)} (h : RowsV H rws rvs) (s : Same H H') : RowsV H' rws rvs := ⟨h.1, fun k r xs h1 h2 => same_sq s (h.2 k r xs h1 h2)⟩
theorem sq_some {H : Hp} {p : Addr} {xs : List V} (h : sq H p = some xs) : ∃ o, H p = some o := by
  rcases sq_or h with h | h <;> exact ⟨_, h⟩
section
variable {P : Program} {w : World} {K : PySem.W.Frag} {mg : Str → Option Value} {base : Heap}
def sp_imgs : Sp := fun vs H Q _ => ∃ (n : Int) (p : Addr) (rws : List Addr) (rs : List (List Int)), vs = [.int n, .ref p] ∧ 0 ≤ n ∧ n ≤ 12 ∧ sq H p = some (rws.map V.ref) ∧ RowsV H rws (rs.map fun c => c.map V.int) ∧ Rws n.toNat rs ∧ (∀ c ∈ rs, c.length ≤ 24) ∧
  ∀ q H1 H2, Same H H1 → New H1 q (.tup ((asg (rng n.toNat) (rs.flatMap prA)).map V.int)) H2 → Q (.ref q) H2
/-- from_cycles: the number of points, then the rows, then the move -/
def sp_fromc (K : PySem.W.Frag) : Sp := fun vs H Q Er => ∃ (pv rv : V) (E : List Addr) (d : PyData) (m : Nat), vs = [pv, rv] ∧ Dw E H pv d m ∧ Sm pv ∧ (numOk pv 0 12 = false → Raises K (.num pv 0 12) H Er) ∧
  ∀ n, pv = .int n → 0 ≤ n → n ≤ 12 → ∃ (p : Addr) (rws : List Addr) (rvs : List (List V)), rv = .ref p ∧ sq H p = some (rws.map V.ref) ∧ RowsV H rws rvs ∧ (∀ xs ∈ rvs, AllD H xs) ∧
    Ans K (fcFlt n rvs) H Er (∀ rs : List (List Int), rvs = rs.map (fun c => c.map V.int) → Rws n.toNat rs → ∀ q H1 H2, Same H H1 → New H1 q (.tup ((asg (rng n.toNat) (rs.flatMap prA)).map V.int)) H2 → Q (.ref q) H2)
theorem repF (n : Nat) : (List.replicate n [V.bl false]).flatten = List.map V.bl (List.replicate n false) := by
  induction n with
  | zero => rfl
  | succ n ih => rw [List.replicate_succ, List.flatten_cons, ih, List.replicate_succ]; rfl
def Stood (n : Int) (st : List Int) (S : Addr) (H : Hp) : Prop := ∃ bs : List Bool, H S = some (.lst (bs.map V.bl)) ∧ (bs.length : Int) = n ∧ ∀ j : Nat, (j : Int) < n → bs[j]? = some (decide ((j : Int) ∈ st))
end

/-! ## F3 -/

def errL : List Str := ["BadNumber", "NotAMove", "TooMany"]
section
variable {P : Program} {w : World} {K : PySem.W.Frag} {mg : Str → Option Value} {base : Heap}
def sp_refG (K : PySem.W.Frag) : HSp := fun a c d vs H Q _ => ∃ (f : Flt) (du dd : Addr) (ds : List PyData) (n : Nat), vs = [.ref a, .ref du] ∧ c = .ref (He.ga K f.cls) ∧ f.cls ∈ errL ∧ d = some dd ∧ H dd = some (.xd f.fs) ∧ H du = some (.tup f.due) ∧ DwAll [] H f.due ds n ∧ n ≤ 3000000 ∧ ∀ H', Same H H' → Q (.bl true) H'
end

/-! ## HoG -/
section
open HotX
variable {prog : Program} {w : World} {A : Around} {E : Value → Shared → Prop} {s : Shared}
theorem tuple_end_hot {it t x1 : Addr} {i : Nat} {items : Array Value} {Q : Option Value → Shared → Prop} (hot : HotAt A x1 s.heap) (hit : s.heap.IsTupleIter it t i) (ht : s.heap.IsTuple t items) (hx : items[i]? = none) (hne : x1 ≠ it)
    (hQ : ∀ h', (∀ b o, b ≠ it → s.heap.get? b = some o → h'.get? b = some o) → Q none { s with heap := h' }) : wpAny (model prog w) A (pyNext (.ref it)) Q E s := by
  obtain ⟨o, ho, hc, hd⟩ := id hit
  obtain ⟨ol, hol, _, nl, hdl⟩ := ht
  obtain ⟨hh, o1, vs1, h1, d1, c1⟩ := hot
  unfold pyNext
  refine wpAny_bind (wpAny_attempt (wpAny_callSpecial?_slot (name := Str.ofString "__next__") hit.typeIs F.slot_tuple_iterator_next
    (wpAny_call_entry F.slot_tuple_iterator_next hit.typeIs F.entry_tuple_iterator_next ?_ (F.args_tuple_iterator_next_1 _))))
  show wpAny _ _ (field (.ref it) 0 >>= _) _ _ s
  refine wpAny_bind (wpAny_field ho hd (x := .ref t) rfl ?_)
  show wpAny _ _ (if (Value.ref t == Value.none) = true then _ else _) _ _ s
  rw [if_neg (show ¬ ((Value.ref t == Value.none) = true) from Bool.false_ne_true)]
  show wpAny _ _ (field (.ref it) 1 >>= _) _ _ s
  refine wpAny_bind (wpAny_field ho hd (x := .int i 0) rfl ?_)
  show wpAny _ _ (seqItems? (.ref t) >>= _) _ _ s
  refine wpAny_bind (wpAny_seqItems hol hdl ?_)
  simp only [Int.toNat_natCast, hx]
  refine wpAny_bind (wpAny_rule (wpAny_bind (wpAny_setField ho hd (by simp) ?_)))
  show wpAny _ _ (newExc (.type "StopIteration") [] >>= _) _ _ _
  refine wpAny_bind ?_
  simp only [newExc, newTuple]
  refine wpAny_bind (wpAny_newObj_type ?_ (by size_fits))
  refine wpAny_bind (m := firstArgMember _ _) (wpAny_of_eq (a := Value.none) (by first | rfl | (simp only [firstArgMember]; rfl)) ?_)
  refine wpAny_newObj_type ?_ (by size_fits)
  have h1' : (s.heap.update it (Obj.mapFields (·.setIfInBounds 0 .none))).get? x1 = some o1 := (Heap.get?_update_other _ _ (Ne.symm hne)).trans h1
  refine raiseNew_hot ⟨hh, o1, vs1, Heap.get?_push_of_some _ (Heap.get?_push_of_some _ h1'), d1, c1⟩ (Nat.ne_of_lt (Heap.lt_size (Heap.get?_push_of_some _ h1'))) (Heap.get?_push_size _ rfl) rfl (by first | (simp; done) | (simp; omega) | (simp only [Array.size_append]; simp; omega)) ?_
  refine wpAny_bind (wpAny_isInstance (T := "StopIteration") (b := true) ⟨_, Heap.get?_update_self _ (Heap.get?_push_size _ rfl) rfl, rfl⟩ isSubtype_stop ?_)
  refine wpAny_pure (hQ _ fun b o hb e => ?_)
  have e' : (s.heap.update it (Obj.mapFields (·.setIfInBounds 0 .none))).get? b = some o := (Heap.get?_update_other _ _ (Ne.symm hb)).trans e
  rw [Heap.get?_update_other _ _ (Nat.ne_of_gt (Heap.lt_size (Heap.get?_push_of_some _ e')))]
  exact Heap.get?_push_of_some _ (Heap.get?_push_of_some _ e')
end
section
open HotX L2H
theorem turn_tupleH {P : Program} {w : World} {K : PySem.W.Frag} {tg : Expr} (a it : Addr) : TurnH P w K tg (Itt K a) [it] it (fun i h => h.IsTupleIter it a i) where
  mem := List.mem_singleton.mpr rfl
  obj := fun i h st b hb => by
    obtain rfl := List.mem_singleton.mp hb
    obtain ⟨o, e, _, d⟩ := st
    exact ⟨o, e, fun v z => by rw [d] at z; cases z⟩
  keep := fun i h h' st k => st.at fun o e => k it (List.mem_singleton.mpr rfl) o e
  item := fun X hP hw hK hc i pins s σ H E I hf st hg => by
    subst hP hw hK
    obtain ⟨xs, x, hq, hx⟩ := hg
    obtain ⟨its, rv, p, hz⟩ := I.tuple hq
    obtain ⟨u, hu, ru⟩ := rv.get hx
    have F := hf it (List.mem_singleton.mpr rfl)
    refine wpAny_pyNext_tuple_item st (show s.heap.IsTuple a its.toArray from p) (x := u) (by simpa using hu) fun h' st' sb => ?_
    have I1 : Inv X pins σ H { s with heap := h' } := I.turned (t' := s.toks) (fun b o hb e => (sb.2 b hb).trans e) F.1 F.2.1 F.2.2.2.1 F.2.2.2.2.1 F.2.2.2.2.2
    obtain ⟨o, e, c, d⟩ := id st'
    exact ⟨u, rfl, go_of (s := { s with heap := h' }) e c d (by decide) ⟨x, H, I1, ru, ⟨rfl, fun ys hy => (I.tuple_inj hy hq) ▸ hx⟩, st', fun b hb => (hf b hb).1⟩⟩
  done := fun X hP hw hK hc i pins s σ H E I hf st hg => by
    subst hP hw hK
    obtain ⟨xs, hq, hx⟩ := hg
    obtain ⟨its, rv, p, hz⟩ := I.tuple hq
    have F := hf it (List.mem_singleton.mpr rfl)
    have hl := rv.length
    obtain ⟨q, ⟨hh, v1, e1, c1⟩, hq1⟩ := hc
    have P1 := (I.pin q (List.mem_append_left _ hq1)).1
    exact tuple_end_hot ⟨hh, q.2, v1, P1, e1, c1⟩ st (show s.heap.IsTuple a its.toArray from p) (by simp; omega) (F.2.2.2.2.2 q (List.mem_append_left _ hq1)) fun h' eb => ⟨rfl, I.turned (t' := s.toks) eb F.1 F.2.1 F.2.2.2.1 F.2.2.2.2.1 F.2.2.2.2.2⟩
  self := fun _ _ _ _ _ st h => wpAny_pyIter_tupleiter st h
variable {X : Cx}
/-- [e for y in l if c], l a list or a tuple; Pv i: what holds behind i turns -/
def tLcG (tl : TE) (g : TG) (tt : TT) (te : TE) (vs : List Nat) : TE := fun σ H Q => tl σ H fun x H1 => ∃ (a : Addr) (xs : List V), x = .ref a ∧ sq H1 a = some xs ∧ ∀ D, H1 D = none → ∃ Pv : Nat → Hp → Prop, Pv 0 (upd H1 D (.lst [])) ∧ (∀ i H2, Pv i H2 → ∀ o, H1 a = some o → H2 a = some o) ∧
  (∀ i y H2, xs[i]? = some y → Pv i H2 → g y (wipe σ vs) H2 fun σ2 H3 => wipe σ2 vs = wipe σ vs ∧ tt σ2 H3 fun b H4 => if b = true then te σ2 H4 fun z H5 => CSt D (Pv (i + 1)) z H5 else Pv (i + 1) H4) ∧
  ∀ H2, Pv xs.length H2 → Q (.ref D) H2
theorem pe_lcG {elt tg l : Expr} {ifs : List Expr} {scope : Scope} {own : List (Str × Nat)} {pos : Pos} {tl : TE} {g : TG} {tt : TT} {te : TE} {p : Addr × Obj} (hot : Hot1 X.A p) (hpn : p ∈ X.pn) (hN : X.N.Nodup) (hl : PE X l tl) (ok : BlkOk X.N X.env.scope scope own)
    (hg : ∀ s H C cl fp, PG (Cx.blkH X s H scope cl C fp p) tg g) (ht : ∀ s H C cl fp, PTs (Cx.blkH X s H scope cl C fp p) ifs tt) (he : ∀ s H C cl fp, PE (Cx.blkH X s H scope cl C fp p) elt te)
    (hs : ∀ x, foldedSetIterable l X.env x = pure x := by intro _; rfl) : PE X (.ListComp elt [⟨tg, l, ifs, 0⟩] scope pos) (tLcG tl g tt te (own.map (·.2))) := by
  refine ⟨fun pins s σ H Q I h => ?_⟩
  rw [eval_ListComp]
  have clo := closure_ok (env := X.env) (scope := scope) (fun y hy e => (ok.free y hy e).elim (fun k => I.ok.has _ (.inl k)) fun k => I.ok.has _ (.inr k))
  refine wpAny_comprehension_free (use := none) rfl hs clo ok.kind (fun y hy e => (ok.uniq y hy).trans (congrArg some e)) (thn (hl.run pins s σ H _ I h) fun v s1 ⟨x, H1, I1, r1, a, xs, ex, hq, q⟩ => ?_)
  subst ex
  cases r1
  obtain ⟨W, S, it, s2, hiter, k2, st2, I2, fit, hlt2, T, hgo, hstop, hyld⟩ : ∃ (W : It) (S : Nat → Heap → Prop) (it : Addr) (s2 : Shared), (∀ (Q : Value → Shared → Prop), Q (.ref it) s2 → wpAny (model X.prog X.w) X.A (pyIter (.ref a)) Q X.xe s1) ∧ (∀ b o, s1.heap.get? b = some o → s2.heap.get? b = some o) ∧ S 0 s2.heap ∧ Inv X pins σ H1 s2 ∧ FpOk X pins H1 it ∧ (∃ o, s2.heap.get? it = some o) ∧
      TurnH X.prog X.w X.K tg W [it] it S ∧ (∀ i H2, (∀ o, H1 a = some o → H2 a = some o) → i < xs.length → W.go i H2) ∧ (∀ i H2, (∀ o, H1 a = some o → H2 a = some o) → xs.length ≤ i → W.stop i H2) ∧ (∀ i H2 x H7, (∀ o, H1 a = some o → H2 a = some o) → W.yld i H2 x H7 → H7 = H2 ∧ xs[i]? = some x) := by
    have fit : FpOk X pins H1 s1.heap.objs.size := I1.fpOk (Nat.le_refl _) (I1.hok.fresh (Nat.le_refl _))
    rcases sq_or hq with hq | hq
    · obtain ⟨its, rv, pl, hz⟩ := I1.list (SqL.of hq)
      have e : ∀ {H2 : Hp}, (∀ o, H1 a = some o → H2 a = some o) → SqL X.K H2 a xs := fun h => SqL.of (h _ hq)
      refine ⟨Itl X.K a, fun i h => h.IsListIter s1.heap.objs.size a i, s1.heap.objs.size, { s1 with heap := s1.heap.push { cls := .type "list_iterator", data := .fields #[.ref a, .int (0 : Nat) 0] } }, fun Q q => wpAny_pyIter_list pl.isList q, fun b o e => Heap.get?_push_of_some _ e, ⟨_, Heap.get?_push_size _ rfl, rfl, rfl⟩, I1.kept (t' := s1.toks) fun b o e => Heap.get?_push_of_some _ e, fit, ⟨_, Heap.get?_push_size _ rfl⟩, turn_listH a _,
        fun i H2 h hi => ⟨xs, _, e h, List.getElem?_eq_getElem hi⟩, fun i H2 h hi => ⟨xs, e h, hi⟩, fun i H2 x H7 h y => ⟨y.1, y.2 xs (e h)⟩⟩
    · obtain ⟨its, rv, pl, hz⟩ := I1.tuple (SqT.of hq)
      have e : ∀ {H2 : Hp}, (∀ o, H1 a = some o → H2 a = some o) → SqT X.K H2 a xs := fun h => SqT.of (h _ hq)
      refine ⟨Itt X.K a, fun i h => h.IsTupleIter s1.heap.objs.size a i, s1.heap.objs.size, { s1 with heap := s1.heap.push { cls := .type "tuple_iterator", data := .fields #[.ref a, .int (0 : Nat) 0] } }, fun Q q => wpAny_pyIter_tuple (show s1.heap.IsTuple a its.toArray from pl) q, fun b o e => Heap.get?_push_of_some _ e, ⟨_, Heap.get?_push_size _ rfl, rfl, rfl⟩, I1.kept (t' := s1.toks) fun b o e => Heap.get?_push_of_some _ e, fit, ⟨_, Heap.get?_push_size _ rfl⟩, turn_tupleH a _,
        fun i H2 h hi => ⟨xs, _, e h, List.getElem?_eq_getElem hi⟩, fun i H2 h hi => ⟨xs, e h, hi⟩, fun i H2 x H7 h y => ⟨y.1, y.2 xs (e h)⟩⟩
  refine hiter _ ?_
  refine wpAny_newObj_type (newEnv_comp ?_) (by show 0 ≤ sizeLine; decide)
  generalize hD : s2.heap.objs.size = D
  have hDn : H1 D = none := I2.hok.fresh (Nat.le_of_eq hD)
  have itD : it < D := by
    rw [← hD]
    obtain ⟨o, e⟩ := hlt2
    exact Heap.lt_size e
  obtain ⟨Pv, a0, hkp, step, fin⟩ := q D hDn
  generalize hs3 : ({ s2 with heap := s2.heap.push { cls := .type "list", data := .seq ([] : List Value).toArray } } : Shared) = s3
  have k3 : ∀ b o, s2.heap.get? b = some o → s3.heap.get? b = some o := fun b o e => by subst hs3; exact Heap.get?_push_of_some _ e
  have I3 : Inv X pins σ (upd H1 D (.lst [])) s3 := by
    subst hs3 hD
    exact I2.laid (t' := s2.toks) (fun b o e => Heap.get?_push_of_some _ e) (Nat.le_refl _) ⟨Nat.zero_le _, [], 0, .nil, Heap.get?_push_size _ rfl⟩
  have n3 : (upd H1 D (.lst [])) it = none := by rw [upd_ne (Nat.ne_of_lt itD)]; exact fit.1
  have fit3 : FpOk X pins (upd H1 D (.lst [])) it := ⟨n3, fit.2⟩
  have it3 : it < s3.heap.objs.size := by
    obtain ⟨o, e⟩ := hlt2
    exact Heap.lt_size (k3 _ _ e)
  have I4 := block_start I3 ok hN (fp := [it]) (fun b hb => by obtain rfl := List.mem_singleton.mp hb; exact ⟨fit3, it3⟩)
  have P3 := I3.pin p (List.mem_append_left _ hpn)
  have mo : ∀ {o : Obj}, s3.heap.get? p.1 = some o → (pushCells (s3.heap.push { cls := .type "dict", data := .dict #[] }) scope.names).get? p.1 = some o := fun e => pushCells_keeps _ _ _ _ (Heap.get?_push_of_some _ e)
  have I5 := (I4.pins_of (pins' := [p]) (fun b hb => by
    obtain rfl := List.mem_singleton.mp hb
    exact ⟨mo P3.1, P3.2.1, Nat.ne_of_lt (Heap.lt_size P3.1), fun hm => (List.mem_cons.mp (I3.stkSub _ hm)).elim P3.2.2.1 P3.2.2.2.1, P3.2.2.2.2⟩)).toTry (fun _ _ => False)
  have pg := hg s3 (upd H1 D (.lst [])) s3.heap.objs.size (cellsFrom (s3.heap.objs.size + 1) scope.names (cloFrom X.env.cells scope.names [])) [it]
  have pt := ht s3 (upd H1 D (.lst [])) s3.heap.objs.size (cellsFrom (s3.heap.objs.size + 1) scope.names (cloFrom X.env.cells scope.names [])) [it]
  have pe := he s3 (upd H1 D (.lst [])) s3.heap.objs.size (cellsFrom (s3.heap.objs.size + 1) scope.names (cloFrom X.env.cells scope.names [])) [it]
  have I5' : Inv (Cx.blkH X s3 (upd H1 D (.lst [])) scope (cellsFrom (s3.heap.objs.size + 1) scope.names (cloFrom X.env.cells scope.names [])) s3.heap.objs.size [it] p) [] (wipe σ (own.map (·.2))) (upd H1 D (.lst [])) { s3 with heap := pushCells (s3.heap.push { cls := .type "dict", data := .dict #[] }) scope.names } := I5
  generalize hB : Cx.blkH X s3 (upd H1 D (.lst [])) scope (cellsFrom (s3.heap.objs.size + 1) scope.names (cloFrom X.env.cells scope.names [])) s3.heap.objs.size [it] p = B at pg pt pe I5'
  have hotB : HotC B := by subst hB; exact ⟨p, hot, List.mem_singleton.mpr rfl⟩
  have stB : ∀ {σ' : L2.St} {H' : Hp} {s' : Shared}, Inv B [] σ' H' s' → H' it = none → ∀ b ∈ [it], FpOk B [] H' b := fun {σ' H' s'} J hn b hb => by
    obtain rfl := List.mem_singleton.mp hb
    subst hB
    exact ⟨hn, (J.ok.exf b hb).1, J.ok.exfs b hb, .inl hb, (J.ok.exf b hb).2, fun r hr => by
      obtain rfl := List.mem_singleton.mp (by simpa using hr)
      exact fit3.2.2.2.2.2 r (List.mem_append_left _ hpn)⟩
  have st4 : S 0 (pushCells (s3.heap.push { cls := .type "dict", data := .dict #[] }) scope.names) := T.keep 0 _ _ st2 fun b _ o e => pushCells_keeps _ _ _ _ (Heap.get?_push_of_some _ (k3 _ _ e))
  have hpr : B.prog = X.prog := by subst hB; rfl
  have hw : B.w = X.w := by subst hB; rfl
  have hK : B.K = X.K := by subst hB; rfl
  have hA : B.A = X.A := by subst hB; rfl
  have hxe : B.xe = fun _ _ => False := by subst hB; rfl
  have hE : B.env = compEnvC scope (cellsFrom (s3.heap.objs.size + 1) scope.names (cloFrom X.env.cells scope.names [])) s3.heap.objs.size X.env := by subst hB; rfl
  have loop : codeAny (model X.prog X.w) X.A (.compLoop (.ListComp elt [⟨tg, l, ifs, 0⟩] scope pos) 0 (.ref it) (.ref D) (compEnvC scope (cellsFrom (s3.heap.objs.size + 1) scope.names (cloFrom X.env.cells scope.names [])) s3.heap.objs.size X.env)) (compPost (model X.prog X.w) X.A X.xe none (EP X pins σ Q) (.ref D) s3.heap.objs.size) { s3 with heap := pushCells (s3.heap.push { cls := .type "dict", data := .dict #[] }) scope.names } := by
    refine compLoop_any (fun n s' => ∃ i H2, i + n = xs.length ∧ Pv i H2 ∧ H2 it = none ∧ Inv B [] (wipe σ (own.map (·.2))) H2 s' ∧ S i s'.heap) ?_ xs.length ⟨0, _, by omega, a0, n3, I5', st4⟩
    rintro n s5 ⟨i, H2, hi, pv, hn2, J, st5⟩
    cases hx : xs[i]? with
    | none =>
      have td := T.done B hpr hw hK hotB i [] s5 _ _ (fun _ _ => False) J (stB J hn2) st5 (hstop i H2 (hkp i H2 pv) (List.getElem?_eq_none_iff.mp hx))
      rw [hA] at td
      refine thnF td fun r s6 ⟨hr, J6⟩ => ?_
      subst hr
      obtain rfl : i = xs.length := by have := List.getElem?_eq_none_iff.mp hx; omega
      subst hB
      have I7 : Inv X pins σ H2 s6 := I3.call' (ch := [it]) J6.os J6.base J6.hok J6.bare fun b hb => by
        obtain rfl := List.mem_singleton.mp hb
        exact ⟨fit3.2.2.2.1, fit3.2.1, fit3.2.2.2.2.1, fit3.2.2.2.2.2⟩
      obtain ⟨m, hn, _⟩ := J6.loc
      have hC : H2 s3.heap.objs.size = none := J6.free
      obtain ⟨f0, f1, f2, f3, f4, f5⟩ := I3.fpOk (Nat.le_refl _) (show (upd H1 D (.lst [])) s3.heap.objs.size = none from I3.hok.fresh (Nat.le_refl _))
      exact ⟨m, hn, fun h'' sb => ⟨.ref D, _, I7.turned (t' := s6.toks) (fun b o hb e => (sb.2 b hb).trans e) hC f1 f3 f4 f5, rfl, fin H2 pv⟩⟩
    | some y =>
      have hlt := (List.getElem?_eq_some_iff.mp hx).1
      have ti := T.item B hpr hw hK hotB i [] s5 _ _ (fun _ _ => False) J (stB J hn2) st5 (hgo i H2 (hkp i H2 pv) hlt)
      rw [hA] at ti
      refine thnF ti fun r s6 ⟨u, hr, h6⟩ => ?_
      subst hr
      refine thnF h6 fun _ s7 ⟨x, H7, J7, r7, y7, st7, n7⟩ => ?_
      obtain ⟨e7, ex7⟩ := hyld i H2 x H7 (hkp i H2 pv) y7
      subst e7
      obtain rfl : x = y := by
        rw [hx] at ex7
        exact (Option.some.inj ex7).symm
      have J7' := J7.pinned (stB J7 hn2) (T.obj _ _ st7)
      have back : ∀ {σ' : L2.St} {s' : Shared} {H' : Hp}, wipe σ' (own.map (·.2)) = wipe σ (own.map (·.2)) → Pv (i + 1) H' → Inv B ([] ++ pinsAt [it] s7.heap) σ' H' s' → ∃ m, m < n ∧ ∃ i H2, i + m = xs.length ∧ Pv i H2 ∧ H2 it = none ∧ Inv B [] (wipe σ (own.map (·.2))) H2 s' ∧ S i s'.heap := fun {σ' s' H'} hw' pv' J' => by
        have pin : ∀ b ∈ [it], ∀ o, s7.heap.get? b = some o → s'.heap.get? b = some o ∧ H' b = none := fun b hb o e => by
          have q := J'.pin (b, o) (List.mem_append_right _ (List.mem_append_right _ (mem_pinsAt hb e)))
          exact ⟨q.1, q.2.1⟩
        obtain ⟨o7, e7, _⟩ := T.obj _ _ st7 it (List.mem_singleton.mpr rfl)
        refine ⟨n - 1, by omega, i + 1, H', by omega, pv', (pin it (List.mem_singleton.mpr rfl) o7 e7).2, ?_, T.keep _ _ _ st7 fun b hb o e => (pin b hb o e).1⟩
        rw [← hw']
        exact (J'.unpinned (pins := [])).weak (wipe_length _ _) fun j v e => (wipe_some e).1
      have st1 := step i x _ hx pv
      have rg := pg.run _ s7 _ _ x u _ J7' r7 st1
      rw [hpr, hw, hA, hxe, hE] at rg
      refine thnF rg fun _ s8 ⟨σ8, H8, J8, hw8, q8⟩ => ?_
      have rt := pt.run _ s8 σ8 H8 _ J8 q8
      rw [hpr, hw, hA, hxe, hE] at rt
      refine thnF rt fun b s9 ⟨H9, J9, q9⟩ => ?_
      cases b with
      | false => exact back hw8 q9 J9
      | true =>
        have re := pe.run _ s9 σ8 H9 _ J9 q9
        rw [hpr, hw, hA, hxe, hE] at re
        refine thnF re fun z s10 ⟨yv, H10, J10, r10, acc, hacc, hz1, q10⟩ => ?_
        have ap := app_ok (X := B) (E := fun _ _ => False) J10 (D := D) (xs := acc) hacc hz1 r10 (Q := fun _ s' => ∃ m, m < n ∧ ∃ i H2, i + m = xs.length ∧ Pv i H2 ∧ H2 it = none ∧ Inv B [] (wipe σ (own.map (·.2))) H2 s' ∧ S i s'.heap) fun s11 J11 => back hw8 q10 J11
        rw [hpr, hw, hA] at ap
        exact thnF ap fun _ _ z => z
  exact codeAny_compStart_list loop (T.self X.A 0 _ _ _ st4 loop)
end
section
variable {σ : L2.St} {H : Hp} {Q : VK} {g : TG} {tt : TT} {te : TE} {vs : List Nat} {tl : TE}
def CG (a : Addr) (g : TG) (tt : TT) (te : TE) (vs : List Nat) (σ : L2.St) (H1 : Hp) (Q : VK) : Prop := ∃ xs, sq H1 a = some xs ∧ ∀ D, H1 D = none → ∃ Pv : Nat → Hp → Prop, Pv 0 (upd H1 D (.lst [])) ∧ (∀ i H2, Pv i H2 → ∀ o, H1 a = some o → H2 a = some o) ∧
  (∀ i y H2, xs[i]? = some y → Pv i H2 → g y (wipe σ vs) H2 fun σ2 H3 => wipe σ2 vs = wipe σ vs ∧ tt σ2 H3 fun b H4 => if b = true then te σ2 H4 fun z H5 => CSt D (Pv (i + 1)) z H5 else Pv (i + 1) H4) ∧
  ∀ H2, Pv xs.length H2 → Q (.ref D) H2
theorem a_lcG : tLcG tl g tt te vs σ H Q = tl σ H fun x H1 => ∃ a, x = .ref a ∧ CG a g tt te vs σ H1 Q := by
  unfold tLcG CG
  congr 1
  funext x H1
  apply propext
  constructor
  · rintro ⟨a, xs, e, h⟩; exact ⟨a, e, xs, h⟩
  · rintro ⟨a, e, xs, h⟩; exact ⟨a, xs, e, h⟩
theorem cg_by {a : Addr} {xs : List V} (hq : sq H a = some xs) (Pv : Addr → Nat → List V → Hp → Prop) (h0 : ∀ C H0, New H C (.lst []) H0 → Pv C 0 [] H0) (hl : ∀ C i acc H', H C = none → Pv C i acc H' → ∀ o, H a = some o → H' a = some o)
    (hs : ∀ C i x acc H1 N, H C = none → xs[i]? = some x → H1 C = some (.lst acc) → Pv C i acc H1 → (∀ acc' H5, H5 C = some (.lst acc') → Pv C (i + 1) acc' H5 → N H5) → g x (wipe σ vs) H1 fun σ2 H2 => wipe σ2 vs = wipe σ vs ∧ tt σ2 H2 fun b H3 =>
      if b = true then te σ2 H3 fun y H4 => CSt C N y H4 else N H3)
    (hd : ∀ C acc H1, H C = none → H1 C = some (.lst acc) → Pv C xs.length acc H1 → Q (.ref C) H1) : CG a g tt te vs σ H Q := by
  refine ⟨xs, hq, fun C hC => ⟨fun i H1 => ∃ acc, H1 C = some (.lst acc) ∧ Pv C i acc H1, ⟨[], upd_same, h0 C _ (New.mk' hC)⟩, fun i H2 ⟨acc, ha, p⟩ => hl C i acc H2 hC p, fun i y H2 hi ⟨acc, ha, p⟩ => ?_, fun H2 ⟨acc, ha, p⟩ => hd C acc H2 hC ha p⟩⟩
  exact hs C i y acc H2 _ hC hi ha p fun acc' H5 h5 p5 => ⟨acc', h5, p5⟩
end

/-! ## HoU -/
section
open HotX L2H
theorem hu_ofH {k : Nat} {A : Around} (r : RoomH k A) : A.units + 1 < cLine := by have := r.un; omega
theorem pi_sqH {X : Cx} {tg l : Expr} {tl : TE} (hl : PE X l tl) : PIH X tg l (iSq X.K tl) := by
  refine ⟨fun pins s σ H R I h => ?_⟩
  refine thn (hl.run pins s σ H _ I h) fun v s1 ⟨x, H1, I1, r1, a, xs, ex, q⟩ => ?_
  subst ex
  cases r1
  have fit : FpOk X pins H1 s1.heap.objs.size := I1.fpOk (Nat.le_refl _) (I1.hok.fresh (Nat.le_refl _))
  have ft : ∀ b ∈ [s1.heap.objs.size], FpOk X pins H1 b := fun b hb => by
    rw [List.mem_singleton.mp hb]
    exact fit
  rcases q with ⟨hq, q⟩ | ⟨hq, q⟩
  · obtain ⟨its, rv, pl, hz⟩ := I1.list (SqL.of hq)
    exact wpAny_pyIter_list pl.isList ⟨s1.heap.objs.size, [s1.heap.objs.size], fun i h => h.IsListIter s1.heap.objs.size a i, Itl X.K a, H1, rfl, I1.kept (t' := s1.toks) fun b o e => Heap.get?_push_of_some _ e, turn_listH a _, ⟨_, Heap.get?_push_size _ rfl, rfl, rfl⟩, ft, q⟩
  · obtain ⟨its, rv, pl, hz⟩ := I1.tuple (SqT.of hq)
    exact wpAny_pyIter_tuple (show s1.heap.IsTuple a its.toArray from pl) ⟨s1.heap.objs.size, [s1.heap.objs.size], fun i h => h.IsTupleIter s1.heap.objs.size a i, Itt X.K a, H1, rfl, I1.kept (t' := s1.toks) fun b o e => Heap.get?_push_of_some _ e, turn_tupleH a _, ⟨_, Heap.get?_push_size _ rfl, rfl, rfl⟩, ft, q⟩
end
theorem hot_of {A : Around} {a : Addr} {oe : Obj} {cls : Value} {d : Option Addr} (hz : L2N.Zn cls d oe) (hf : ∃ vs, oe.data = .fields vs) : L2H.Hot1 (A.mark (some (.ref a))) (a, oe) := by
  obtain ⟨vs, e⟩ := hf
  exact ⟨rfl, vs, e, hz.2.2 vs e⟩
theorem roomH_mark' {k : Nat} {A : Around} (r : Room k A) {h : Option Value} : L2H.RoomH k (A.mark h) := ⟨r.dp, r.un⟩
/-- f(..) in an except suite, by f's promise for what is handled -/
theorem pe_clU {X : Cx} {j k : Nat} {x : Str} {ps : List Str} {sp : HSp} {a : Addr} {oe : Obj} {pn : List (Addr × Obj)} {cls : Value} {d : Option Addr} {q pos : Pos} {e : Expr} {es : List Expr} {t : TA} (C : ClH X.prog X.w X.K X.mg X.base j x ps sp) (hz : L2N.Zn cls d oe) (hf : ∃ vs, oe.data = .fields vs) (hr : Room k X.A) (hg : Gl X x) (ha : PA (X.suite a ((a, oe) :: pn)) (e :: es) t) (hjk : j ≤ k := by decide)
    (hdb : (x == ("__debug__" : Str)) = false := by decide) (he : starEach (e :: es) X.env = (false, eval e X.env) :: starEach es X.env := by rfl) (hpl : (backTo pos (starEach es X.env)).any (·.1) = false := by rfl) :
    PE (X.suite a ((a, oe) :: pn)) (.Call (.Name x q) (e :: es) [] pos) (fun σ H Q => t σ H fun vs H1 => sp a cls d vs H1 Q E0) :=
  pe_clH (X := X.suite a ((a, oe) :: pn)) C (hot_of hz hf) List.mem_cons_self hz.zc (roomH_mark' hr) hg ha hjk hdb he hpl
theorem clH_false {P : Program} {w : World} {K : PySem.W.Frag} {mg : Str → Option Value} {base : Heap} {x : Str} {st : Stmt} {ps : List Str} {k : Nat} {sp : HSp} (D : Df K mg x st)
    (hb : ∀ (kV doc pm : Value) (an : Option Addr) (cdv ct : Value) (us : List Value), us.length = ps.length → bindArgs (PySem.W.fnOf x x (defArgs st) (defBody st) (defScope st) .none kV doc pm an cdv ct) ⟨us, []⟩ = pure (ps.zip us))
    (no : ∀ a c d vs H Q E, ¬ sp a c d vs H Q E) : ClH P w K mg base k x ps sp := by
  obtain ⟨f, fd, F, g⟩ := D
  exact ⟨f, fd, g, F.kp, F.bindsA hb, fun a c d vs H Q E h => (no a c d vs H Q E h).elim, fun A outer s H us vs Q E p cls d _ _ _ _ _ _ h => (no _ _ _ _ _ _ _ h).elim⟩

/-! ## G1 -/
local macro_rules | `(tactic| walk_at "wp") => `(tactic| (try simp only [a_var, a_c, a_op, a_un, a_test, a_b, a_and, a_or, a_not, a_andV, a_orV, a_notV, a_if, a_next, a_seq, a_break, a_cont, a_drop, a_ret, a_retN, a_ifS, a_asg, a_name, a_sub, a_nil, a_cons, a_tup, a_lst, a_call, a_cb, a_bm0, a_bm, a_sl, a_nopart, a_part, a_aug, b_rI, b_rI0, b_rU, b_eq, b_ne, b_isTF, b_int, b_intb, b_list, b_tuple, b_ix, b_len, b_setL, b_app, b_pop, b_popAt, b_sl, b_rep, b_cat, b_lstRg, b_tupRg, b_rg1, b_rg2, a_forR, a_forR2, a_forS, b_fsq, a_lcR, a_lcR2, a_lcS, b_csq, wipe_nil, wipe_cons, a_yes, wh_i, wh_s, wh_b, wh_r, wh_n, Bool.not_eq_true, eq_self, not_true_eq_false, not_false_eq_true, b_isi, kb_all, ty_non, ty_bl, ty_int, ty_str, a_m1, b_ixS, b_slS, List.cons.injEq, and_assoc, exists_and_left, cxK, List.getElem?_cons_zero, List.getElem?_cons_succ, List.set_cons_zero, List.set_cons_succ, Option.some.injEq, exists_eq_left', exists_eq_left, V.bl.injEq, V.int.injEq, V.ref.injEq, V.str.injEq, HO.lst.injEq, HO.tup.injEq, decide_eq_true_eq, true_and, and_true, L2.start, List.map_cons, List.map_nil, List.length_cons, List.length_nil, Nat.zero_add, Nat.reduceAdd, Nat.reduceSub, List.replicate_succ, List.replicate_zero, List.cons_append, List.nil_append, if_true, if_false, Bool.false_eq_true, Bool.not_true, Bool.not_false, decide_not, Bool.not_eq_true', decide_eq_false_iff_not, scal_ii, scal_bb, scal_ss, scal_is, scal_si, reduceCtorEq, Bool.true_eq_false, decide_false, decide_true, if_pos, ne_eq, Int.reduceNeg, atI_0, atI_1, atI_2, atI_3, atI_4, atI_5, atI_6, ixN_7, b_ins, a_revL, b_isT, V.ty.injEq, Bool.true_or, Bool.or_true, Bool.false_or, Bool.or_false, Bool.or_self, b_sorted, b_repT, a_err, a_callS, a_xp, a_isP, a_lcE, a_forE, a_isV, a_lcH, a_ch, a_forES, a_lcG]))
local macro_rules | `(tactic| walk_at "wps") => `(tactic| (try simp only [a_var, a_c, a_op, a_un, a_test, a_b, a_and, a_or, a_not, a_andV, a_orV, a_notV, a_if, a_next, a_seq, a_break, a_cont, a_drop, a_ret, a_retN, a_ifS, a_asg, a_name, a_sub, a_nil, a_cons, a_tup, a_lst, a_call, a_cb, a_bm0, a_bm, a_sl, a_nopart, a_part, a_aug, b_rI, b_rI0, b_rU, b_eq, b_ne, b_isTF, b_int, b_intb, b_list, b_tuple, b_ix, b_len, b_setL, b_app, b_pop, b_popAt, b_sl, b_rep, b_cat, b_lstRg, b_tupRg, b_rg1, b_rg2, a_forR, a_forR2, a_forS, b_fsq, a_lcR, a_lcR2, a_lcS, b_csq, wipe_nil, wipe_cons, a_yes, wh_i, wh_s, wh_b, wh_r, wh_n, Bool.not_eq_true, eq_self, not_true_eq_false, not_false_eq_true, b_isi, kb_all, ty_non, ty_bl, ty_int, ty_str, a_m1, b_ixS, b_slS, List.cons.injEq, and_assoc, exists_and_left, cxK, List.getElem?_cons_zero, List.getElem?_cons_succ, List.set_cons_zero, List.set_cons_succ, Option.some.injEq, exists_eq_left', exists_eq_left, V.bl.injEq, V.int.injEq, V.ref.injEq, V.str.injEq, HO.lst.injEq, HO.tup.injEq, decide_eq_true_eq, true_and, and_true, L2.start, List.map_cons, List.map_nil, List.length_cons, List.length_nil, Nat.zero_add, Nat.reduceAdd, Nat.reduceSub, List.replicate_succ, List.replicate_zero, List.cons_append, List.nil_append, if_true, if_false, Bool.false_eq_true, Bool.not_true, Bool.not_false, decide_not, Bool.not_eq_true', decide_eq_false_iff_not, scal_ii, scal_bb, scal_ss, scal_is, scal_si, reduceCtorEq, Bool.true_eq_false, decide_false, decide_true, if_pos, ne_eq, Int.reduceNeg, atI_0, atI_1, atI_2, atI_3, atI_4, atI_5, atI_6, ixN_7, b_ins, a_revL, b_isT, V.ty.injEq, Bool.true_or, Bool.or_true, Bool.false_or, Bool.or_false, Bool.or_self, b_sorted, b_repT, a_err, a_callS, a_xp, a_isP, a_lcE, a_forE, a_isV, a_lcH, a_ch, a_forES, a_lcG, *]))
local macro_rules | `(tactic| walk_at "wq") => `(tactic| (try simp only [a_var, a_c, a_op, a_un, a_test, a_b, a_and, a_or, a_not, a_andV, a_orV, a_notV, a_if, a_next, a_break, a_cont, a_drop, a_ret, a_retN, a_ifS, a_asg, a_name, a_sub, a_nil, a_cons, a_tup, a_lst, a_call, a_cb, a_bm0, a_bm, a_sl, a_nopart, a_part, a_aug, b_rI, b_rI0, b_rU, b_eq, b_ne, b_isTF, b_int, b_intb, b_list, b_tuple, b_ix, b_len, b_setL, b_app, b_pop, b_popAt, b_sl, b_rep, b_cat, b_lstRg, b_tupRg, b_rg1, b_rg2, a_forR, a_forR2, a_forS, b_fsq, a_lcR, a_lcR2, a_lcS, b_csq, wipe_nil, wipe_cons, a_yes, wh_i, wh_s, wh_b, wh_r, wh_n, Bool.not_eq_true, eq_self, not_true_eq_false, not_false_eq_true, b_isi, kb_all, ty_non, ty_bl, ty_int, ty_str, a_m1, b_ixS, b_slS, List.cons.injEq, and_assoc, exists_and_left, cxK, List.getElem?_cons_zero, List.getElem?_cons_succ, List.set_cons_zero, List.set_cons_succ, Option.some.injEq, exists_eq_left', exists_eq_left, V.bl.injEq, V.int.injEq, V.ref.injEq, V.str.injEq, HO.lst.injEq, HO.tup.injEq, decide_eq_true_eq, true_and, and_true, L2.start, List.map_cons, List.map_nil, List.length_cons, List.length_nil, Nat.zero_add, Nat.reduceAdd, Nat.reduceSub, List.replicate_succ, List.replicate_zero, List.cons_append, List.nil_append, if_true, if_false, Bool.false_eq_true, Bool.not_true, Bool.not_false, decide_not, Bool.not_eq_true', decide_eq_false_iff_not, scal_ii, scal_bb, scal_ss, scal_is, scal_si, reduceCtorEq, Bool.true_eq_false, decide_false, decide_true, if_pos, ne_eq, Int.reduceNeg, atI_0, atI_1, atI_2, atI_3, atI_4, atI_5, atI_6, ixN_7, b_ins, a_revL, b_isT, V.ty.injEq, Bool.true_or, Bool.or_true, Bool.false_or, Bool.or_false, Bool.or_self, b_sorted, b_repT, a_err, a_callS, a_xp, a_isP, a_lcE, a_forE, a_isV, a_lcH, a_ch, a_forES, a_lcG, *]))
local macro_rules | `(tactic| walk_at "wn") => `(tactic| (try simp only [a_var, a_c, a_op, a_un, a_test, a_b, a_and, a_or, a_not, a_andV, a_orV, a_notV, a_if, a_next, a_break, a_cont, a_drop, a_ret, a_retN, a_ifS, a_asg, a_name, a_sub, a_nil, a_cons, a_tup, a_lst, a_call, a_cb, a_bm0, a_bm, a_sl, a_nopart, a_part, a_aug, b_rI, b_rI0, b_rU, b_eq, b_ne, b_isTF, b_int, b_intb, b_list, b_tuple, b_ix, b_len, b_setL, b_app, b_pop, b_popAt, b_sl, b_rep, b_cat, b_lstRg, b_tupRg, b_rg1, b_rg2, a_forR, a_forR2, a_forS, b_fsq, a_lcR, a_lcR2, a_lcS, b_csq, wipe_nil, wipe_cons, a_yes, wh_i, wh_s, wh_b, wh_r, wh_n, Bool.not_eq_true, eq_self, not_true_eq_false, not_false_eq_true, b_isi, kb_all, ty_non, ty_bl, ty_int, ty_str, a_m1, b_ixS, b_slS, List.cons.injEq, and_assoc, exists_and_left, cxK, List.getElem?_cons_zero, List.getElem?_cons_succ, List.set_cons_zero, List.set_cons_succ, Option.some.injEq, exists_eq_left', exists_eq_left, V.bl.injEq, V.int.injEq, V.ref.injEq, V.str.injEq, HO.lst.injEq, HO.tup.injEq, decide_eq_true_eq, true_and, and_true, L2.start, List.map_cons, List.map_nil, List.length_cons, List.length_nil, Nat.zero_add, Nat.reduceAdd, Nat.reduceSub, List.replicate_succ, List.replicate_zero, List.cons_append, List.nil_append, if_true, if_false, Bool.false_eq_true, Bool.not_true, Bool.not_false, decide_not, Bool.not_eq_true', decide_eq_false_iff_not, scal_ii, scal_bb, scal_ss, scal_is, scal_si, reduceCtorEq, Bool.true_eq_false, decide_false, decide_true, if_pos, ne_eq, Int.reduceNeg, atI_0, atI_1, atI_2, atI_3, atI_4, atI_5, atI_6, ixN_7, b_ins, a_revL, b_isT, V.ty.injEq, Bool.true_or, Bool.or_true, Bool.false_or, Bool.or_false, Bool.or_self, b_sorted, b_repT, a_err, a_callS, a_xp, a_isP, a_lcE, a_forE, a_isV, a_lcH, a_ch, a_forES, a_lcG]))
local macro_rules | `(tactic| walk_at "sq") => `(tactic| ((try dsimp only); rw [a_seq]; walk_at "wq"))
local macro_rules | `(tactic| walk_at "sn") => `(tactic| ((try dsimp only); rw [a_seq]; walk_at "wn"))

section
variable {P : Program} {w : World} {K : PySem.W.Frag} {mg : Str → Option Value} {base : Heap}
def sp_frozenH (N : Nat) : HSp := fun _ _ _ vs H Q E => sp_frozen N vs H Q E
theorem ok_law_frozenH (D : Df K mg "_law_frozen" st_law_frozen) (T : NoB mg)  {n : Nat} (C_law_frozenH : ClH P w K mg base n "_law_frozen" ["value", "deep"] (sp_frozenH n)): ClH P w K mg base (n+1) "_law_frozen" ["value", "deep"] (sp_frozenH (n+1)) := by
  refine clH_of D sc_law_frozen (fun _ _ _ _ _ _ us hl => match us, hl with | [_, _], _ => rfl) (fun _ _ _ vs H Q E h => ?_) (fun f cdv A outer sh H vs Q E p cls dd hot hz hc hr h => ?_)
  · obtain ⟨_, _, _, _, _, rfl, _⟩ := h; rfl
  have hf : ∃ vs, p.2.data = .fields vs := hot.2.imp fun _ h => h.1
  obtain ⟨v, deep, E, d, n', rfl, h0, h1, lv, hd, hn, k⟩ := h
  refine ⟨_, (pss_cons (ps_if (PW.pt (pw_and (pt_cmpR op_gt (pv 1) pe_int (nomark _)) (pw_and1 (pt_val (pe_callB isi1 (by rfl) T.no_isinstance (by decide +kernel) (pa_cons (pv 0) (pa_cons (pe_bltn (by rfl) T.no_list (by decide +kernel) (show RelV (.ty "list") _ from rfl)) pa_nil))))))) (pss_one (ps_ret (pe_tup (pa_cons pe_str (pa_cons (pe_callTy tup1 (by rfl) T.no_tuple (by decide +kernel) (pa_cons (pe_lcG hot List.mem_cons_self (own := [("part", 2)]) (g := gName 2) (tt := tYes) sc_law_frozen.nd (pv 0) (blkOk_by (own := [("part", 2)]) (N := ["value", "deep", "part"]) (sc := defScope st_law_frozen) (by decide +kernel)) (fun _ _ _ _ _ => (pg_name (i := 2) sc_law_frozen.nd rfl (Or.inl rfl))) (fun _ _ _ _ _ => pts_nil) (fun _ _ _ _ _ => (pe_clH C_law_frozenH hot List.mem_cons_self hz hr (by rfl) (pa_cons (pv 2) (pa_cons (pe_op op_sub (pv 1) pe_int) pa_nil)) (Nat.le_refl _)))) pa_nil)) pa_nil))))) pss_nil)
    (pss_cons (ps_if (PW.pt (pw_and (pt_cmpR op_gt (pv 1) pe_int (nomark _)) (pw_and1 (pt_val (pe_callB isi1 (by rfl) T.no_isinstance (by decide +kernel) (pa_cons (pv 0) (pa_cons (pe_bltn (by rfl) T.no_tuple (by decide +kernel) (show RelV (.ty "tuple") _ from rfl)) pa_nil))))))) (pss_one (ps_ret (pe_tup (pa_cons pe_str (pa_cons (pe_callTy tup1 (by rfl) T.no_tuple (by decide +kernel) (pa_cons (pe_lcG hot List.mem_cons_self (own := [("part", 2)]) (g := gName 2) (tt := tYes) sc_law_frozen.nd (pv 0) (blkOk_by (own := [("part", 2)]) (N := ["value", "deep", "part"]) (sc := defScope st_law_frozen) (by decide +kernel)) (fun _ _ _ _ _ => (pg_name (i := 2) sc_law_frozen.nd rfl (Or.inl rfl))) (fun _ _ _ _ _ => pts_nil) (fun _ _ _ _ _ => (pe_clH C_law_frozenH hot List.mem_cons_self hz hr (by rfl) (pa_cons (pv 2) (pa_cons (pe_op op_sub (pv 1) pe_int) pa_nil)) (Nat.le_refl _)))) pa_nil)) pa_nil))))) pss_nil)
    (pss_one (ps_ret (pv 0))))), ?_⟩
  have comp : ∀ (pa : Addr) (xs : List V) (ds : List PyData) (m : Nat) (R : VK), 0 < deep → m ≤ 1000000 → sq H pa = some xs → DwAll E H xs ds m →
      (∀ C acc H1 m', H C = none → Same H H1 → H1 C = some (.lst acc) → DwAll (C :: E) H1 acc (ds.map (frz (deep.toNat - 1))) m' → m' ≤ 8 * m → R (.ref C) H1) →
      CG pa (gName 2) tYes (fun σ H Q => (tCons (tVar 2) (tCons (tOp (rI0 fun i j => V.int (i - j)) (tVar 1) (tC (V.int 1))) tNil)) σ H fun vs H1 => sp_frozenH n p.1 cls dd vs H1 Q E0) [2] [some (V.ref pa), some (V.int deep), none] H R := by
    intro pa xs ds m R hpos hm hq hd hR
    refine cg_by hq (fun C i acc H' => Same H H' ∧ ∃ m' r w, DwAll (C :: E) H' acc ((ds.take i).map (frz (deep.toNat - 1))) m' ∧ DwAll E H (xs.drop i) (ds.drop i) r ∧ m' ≤ 8 * w ∧ w + r = m)
      (fun C H0 n0 => ⟨n0.same, 0, m, 0, .nil, hd, by omega, by omega⟩) (fun C i acc H' _ ⟨s', _⟩ o e => s' _ _ e) ?_ ?_
    · rintro C i x acc H1 N hC hi ha ⟨s1, m', r, w, d1, d2, hw, hr⟩ hN
      have hlt : i < xs.length := (List.getElem?_eq_some_iff.mp hi).1
      have hx : xs[i] = x := (List.getElem?_eq_some_iff.mp hi).2
      rw [List.drop_eq_getElem_cons hlt, hx] at d2
      generalize hdd : ds.drop i = dd at d2
      cases d2 with
      | @cons _ _ d0 ds0 c1 c2 p1 p2 =>
        have hd1 : ds.drop (i + 1) = ds0 := by rw [← List.drop_drop, hdd] <;> rfl
        have hd2 : ds.take (i + 1) = ds.take i ++ [d0] := by rw [List.take_add, hdd] <;> rfl
        have lvC : Lv (C :: E) H1 := (lv.same s1).cons ha
        walk_at "wq"
        refine ⟨x, deep - 1, C :: E, d0, c1, rfl, by omega, by omega, lvC, (p1.fresh hC).same s1, by omega, fun u mu H2 s2 hu hmu => ?_⟩
        refine cst (s2 _ _ ha) (szl' (by have := d1.len.2; omega)) fun H3 n3 => hN _ _ n3.at_ ⟨n3.same (s1.trans s2) hC, m' + mu, c2, w + c1, ?_, by rw [hd1]; exact p2, by omega, by omega⟩
        rw [hd2, List.map_append]
        have hk : (deep - 1).toNat = deep.toNat - 1 := by omega
        rw [hk] at hu
        exact ((d1.same s2).put n3 (by simp)).app (.one (hu.put n3 (by simp)))
    · rintro C acc H1 hC ha ⟨s1, m', r, w, d1, d2, hw, hr⟩
      have hl := hd.len.1
      have e : ds.take xs.length = ds := by rw [hl]; exact List.take_length
      rw [e] at d1
      exact hR C acc H1 m' hC s1 ha d1 (by omega)
  have last : ∀ (tag : Str) (ds : List PyData) (m : Nat), tag.length ≤ 5 → m + 1 = n' → frz deep.toNat d = .tuple [.str tag, .tuple (ds.map (frz (deep.toNat - 1)))] → ∀ (C : Addr) (acc : List V) (H1 : Hp) (m' : Nat), H C = none → Same H H1 → H1 C = some (.lst acc) → DwAll (C :: E) H1 acc (ds.map (frz (deep.toNat - 1))) m' → m' ≤ 8 * m →
      Nw H1 (HO.tup acc) fun q H2 => Nw H2 (.tup [.str tag, .ref q]) fun p H' => Q (V.ref p) H' := by
    intro tag ds m ht hm hf C acc H1 m' hC s1 ha d1 hm' q H2 n2 p H3 n3
    have hlv2 := (lv.same s1).same n2.same
    have dq : Dw E H2 (.ref q) (.tuple (ds.map (frz (deep.toNat - 1)))) (m' + 1) := .tup ((lv.same s1).out n2.fr) n2.at_ ((d1.sub fun a z => by simp [z]).same n2.same)
    refine k _ (tag.length + 1 + (m' + 1 + 0) + 1) _ ((s1.trans n2.same).trans n3.same) ?_ (by omega)
    rw [hf]
    exact .tup (hlv2.out n3.fr) n3.at_ (.cons (.lf (.str tag)) (.cons (dq.same n3.same) .nil))
  cases hd with
  | lf l =>
    have e : frz deep.toNat d = d := by cases l <;> (cases deep.toNat <;> rfl)
    have fin : Q v H := k v _ H (Same.refl _) (by rw [e]; exact .lf l) (by have := l.pos; omega)
    cases l <;> (walk_at "wps"; (try (split <;> trivial)))
  | @lst a xs ds m ne h da =>
    have ht := ty_l h
    have fin : deep = 0 → Q (.ref a) H := fun z => k _ _ H (Same.refl _) (by rw [z]; exact .lst ne h da) (by omega)
    walk_at "wps"
    split
    · rename_i hp
      refine comp a xs ds m _ hp (by omega) (sq_l h) da fun C acc H1 m' hC s1 ha d1 hm' => ?_
      have hk : deep.toNat = deep.toNat - 1 + 1 := by omega
      have L := last "list" ds m (by decide +kernel) rfl (by rw [hk]; rfl) C acc H1 m' hC s1 ha d1 hm'
      walk_at "wn"
      refine ⟨acc, ha, fun q H2 n2 => ⟨szl (by decide), ?_⟩⟩
      exact L q H2 n2
    · exact fin (by omega)
  | @tup a xs ds m ne h da =>
    have ht := ty_t h
    have fin : deep = 0 → Q (.ref a) H := fun z => k _ _ H (Same.refl _) (by rw [z]; exact .tup ne h da) (by omega)
    walk_at "wps"
    split
    · rename_i hp
      refine comp a xs ds m _ hp (by omega) (sq_t h) da fun C acc H1 m' hC s1 ha d1 hm' => ?_
      have hk : deep.toNat = deep.toNat - 1 + 1 := by omega
      have L := last "tuple" ds m (by decide +kernel) rfl (by rw [hk]; rfl) C acc H1 m' hC s1 ha d1 hm'
      walk_at "wn"
      refine ⟨acc, ha, fun q H2 n2 => ⟨szl (by decide), ?_⟩⟩
      exact L q H2 n2
    · exact fin (by omega)
theorem frozen_allH (D : Df K mg "_law_frozen" st_law_frozen) (T : NoB mg) : ∀ n, ClH P w K mg base n "_law_frozen" ["value", "deep"] (sp_frozenH n)
  | 0 => clH_false D (fun _ _ _ _ _ _ us hl => match us, hl with | [_, _], _ => rfl) fun a c d vs H Q E h => by
    obtain ⟨v, deep, E, d, n, _, h0, h1, _⟩ := h
    omega
  | n + 1 => ok_law_frozenH D T (frozen_allH D T n)


end

/-! ## F4 -/

theorem db_int {E : List Addr} {H : Hp} {i : Int} {b : Nat} (h : 1 ≤ b) : Db E H b (.int i) := ⟨_, _, .lf (.int i), h⟩
theorem dr_ints {n : Int} {ys rest : List V} (h : (ys ++ rest).Perm ((rng n.toNat).map V.int)) : ∃ r : List Int, ys = r.map V.int ∧ (∀ z ∈ r, 0 ≤ z ∧ z < n) ∧ r.Nodup := by
  obtain ⟨L, h1, h2⟩ := perm_ints h
  obtain ⟨r, rst, rfl, rfl, rfl⟩ := append_ints h1
  refine ⟨r, rfl, fun z hz => ?_, (List.nodup_append.mp (h2.nodup_iff.mpr (rng_nodup _))).1⟩
  have := mem_rng.mp (h2.mem_iff.mp (List.mem_append_left _ hz))
  omega
theorem ite2 {c d : Prop} [Decidable c] [Decidable d] {A B : Prop} (a : A) (b : B) : if c then (if d then A else B) else B := by
  split
  · split
    · exact a
    · exact b
  · exact b
section
variable {P : Program} {w : World} {K : PySem.W.Frag} {mg : Str → Option Value} {base : Heap}
def sp_badn : Sp := fun vs H Q _ => ∃ (s l : Addr) (lo hi : Int) (b : Bool) (E : List Addr), vs = [.ref s, .int lo, .int hi, .bl b] ∧ Sto s l H ∧ Lv E H ∧ s ∈ E ∧ -1000 ≤ lo ∧ lo ≤ 1000 ∧ -1000 ≤ hi ∧ hi ≤ 1000 ∧ ∀ v H', Ge s l H H' → Db E H' 20 v → Sm v → numOk v lo hi = false → Q v H'
/-! a bad point -/
def sp_badp : Sp := fun vs H Q _ => ∃ (s l : Addr) (n : Int) (E : List Addr), vs = [.ref s, .int n] ∧ Sto s l H ∧ Lv E H ∧ s ∈ E ∧ 0 ≤ n ∧ n ≤ 12 ∧ ∀ v H', Ge s l H H' → Db E H' 20 v → Sm v → numOk v 0 (n - 1) = false → Q v H'
/-! a row of points -/
def sp_row : Sp := fun vs H Q _ => ∃ (s l : Addr) (n m : Int), vs = [.ref s, .int n, .int m] ∧ Sto s l H ∧ 0 ≤ n ∧ n ≤ 12 ∧ 0 ≤ m ∧ m ≤ 100 ∧ ∀ (q : Addr) (ns : List Int) H', Ge s l H H' → H q = none → H' q = some (.lst (ns.map V.int)) → (ns.length : Int) ≤ m → (∀ z ∈ ns, 0 ≤ z ∧ z < n) → Q (.ref q) H'
end

/-! ## HoO -/
def it (ns : List Int) : Nat → Int → Int
  | 0, p => p
  | k + 1, p => im ns (it ns k p)
def InR (ns : List Int) (p : Int) : Prop := 0 ≤ p ∧ p < ns.length
section
variable {ns : List Int}
theorem it_rg (m : Mv ns) {p : Int} (h : InR ns p) : ∀ k, InR ns (it ns k p)
  | 0 => h
  | k + 1 => (m.at (it_rg m h k)).2
theorem it_add {p : Int} (a : Nat) : ∀ b, it ns (a + b) p = it ns b (it ns a p)
  | 0 => rfl
  | b + 1 => by
    show im ns (it ns (a + b) p) = im ns (it ns b (it ns a p))
    rw [it_add a b]
theorem it_inj (m : Mv ns) {p q : Int} (hp : InR ns p) (hq : InR ns q) : ∀ k, it ns k p = it ns k q → p = q
  | 0, h => h
  | k + 1, h => it_inj m hp hq k (m.inj (it_rg m hp k) (it_rg m hq k) h)
theorem it_back (m : Mv ns) {p : Int} (hp : InR ns p) {i j : Nat} (h : i ≤ j) (e : it ns i p = it ns j p) : it ns (j - i) p = p := by
  have e2 : it ns j p = it ns i (it ns (j - i) p) := by
    rw [← it_add, show j - i + i = j by omega]
  exact (it_inj m hp (it_rg m hp _) i (e.trans e2)).symm
theorem it_ret (m : Mv ns) {p : Int} (hp : InR ns p) : ∃ k, 1 ≤ k ∧ k ≤ ns.length ∧ it ns k p = p := by
  refine Classical.byContradiction fun hn => ?_
  have nd : ((List.range (ns.length + 1)).map fun k => it ns k p).Nodup := by
    rw [List.nodup_iff_pairwise_ne, List.pairwise_map]
    refine List.nodup_range.imp_of_mem fun {i j} hi hj hne e => ?_
    have hi := List.mem_range.mp hi
    have hj := List.mem_range.mp hj
    rcases Nat.lt_or_gt_of_ne hne with h | h
    · exact hn ⟨j - i, by omega, by omega, it_back m hp (by omega) e⟩
    · exact hn ⟨i - j, by omega, by omega, it_back m hp (by omega) e.symm⟩
  have := nd.length_le_of_subset (l₂ := rng ns.length) fun z hz => by
    obtain ⟨k, _, rfl⟩ := List.mem_map.mp hz
    exact mem_rng.mpr (it_rg m hp k)
  rw [List.length_map, List.length_range, rng_len] at this
  omega
/-- the size of the round of p -/
def ell (ns : List Int) (p : Int) : Nat := ((List.range ns.length).find? fun k => decide (it ns (k + 1) p = p)).getD 0 + 1
theorem ell_spec (m : Mv ns) {p : Int} (hp : InR ns p) : ell ns p ≤ ns.length ∧ it ns (ell ns p) p = p ∧ ∀ k, 1 ≤ k → k < ell ns p → it ns k p ≠ p := by
  obtain ⟨k, k1, k2, k3⟩ := it_ret m hp
  unfold ell
  cases e : (List.range ns.length).find? fun k => decide (it ns (k + 1) p = p) with
  | none =>
    rw [List.find?_eq_none] at e
    have := e (k - 1) (List.mem_range.mpr (by omega))
    rw [show k - 1 + 1 = k by omega] at this
    exact absurd (decide_eq_true k3) this
  | some j =>
    rw [List.find?_range_eq_some] at e
    obtain ⟨e1, e2, e3⟩ := e
    have e2 := List.mem_range.mp e2
    refine ⟨by show j + 1 ≤ _; omega, of_decide_eq_true e1, fun k h1 h2 z => ?_⟩
    have h2 : k < j + 1 := h2
    have := e3 (k - 1) (by omega)
    rw [show k - 1 + 1 = k by omega, decide_eq_true z] at this
    cases this
theorem ell_pos {p : Int} : 1 ≤ ell ns p := by unfold ell; omega
theorem it_mul {p : Int} {d : Nat} (h : it ns d p = p) : ∀ k, it ns (d * k) p = p
  | 0 => rfl
  | k + 1 => by rw [Nat.mul_succ, it_add, it_mul h k, h]
theorem it_mod {p : Int} {d : Nat} (h : it ns d p = p) (k : Nat) : it ns (k % d) p = it ns k p := by
  conv => rhs; rw [← Nat.div_add_mod k d, it_add, it_mul h]
theorem ell_dvd (m : Mv ns) {p : Int} (hp : InR ns p) {k : Nat} (h : it ns k p = p) : ell ns p ∣ k := by
  have s := ell_spec m hp
  refine Nat.dvd_of_mod_eq_zero (Classical.byContradiction fun hn => ?_)
  have hl := Nat.mod_lt k (ell_pos (ns := ns) (p := p))
  exact s.2.2 (k % ell ns p) (by omega) hl (by rw [it_mod s.2.1]; exact h)
/-- the points of the round of p -/
def orb (ns : List Int) (p : Int) : List Int := (List.range (ell ns p)).map fun k => it ns k p
theorem orb_nd (m : Mv ns) {p : Int} (hp : InR ns p) : (orb ns p).Nodup := by
  have s := ell_spec m hp
  unfold orb
  rw [List.nodup_iff_pairwise_ne, List.pairwise_map]
  refine List.nodup_range.imp_of_mem fun {i j} hi hj hne e => ?_
  have hi := List.mem_range.mp hi
  have hj := List.mem_range.mp hj
  rcases Nat.lt_or_gt_of_ne hne with h | h
  · exact s.2.2 (j - i) (by omega) (by omega) (it_back m hp (by omega) e)
  · exact s.2.2 (i - j) (by omega) (by omega) (it_back m hp (by omega) e.symm)
theorem ell_it (m : Mv ns) {p : Int} (hp : InR ns p) (k : Nat) : ell ns (it ns k p) = ell ns p := by
  have comm : ∀ a, it ns a (it ns k p) = it ns k (it ns a p) := fun a => by rw [← it_add, ← it_add, Nat.add_comm]
  have s := ell_spec m hp
  have hq := it_rg m hp k
  refine Nat.dvd_antisymm (ell_dvd m hq (by rw [comm, s.2.1])) (ell_dvd m hp ?_)
  have s2 := ell_spec m hq
  have h := s2.2.1
  rw [comm] at h
  exact it_inj m (it_rg m hp _) hp k h
end
def subs : List Nat → List (List Nat)
  | [] => [[]]
  | x :: r => subs r ++ (subs r).map (x :: ·)
theorem filter_subs (p : Nat → Bool) : ∀ l, l.filter p ∈ subs l
  | [] => List.mem_singleton.mpr rfl
  | x :: r => by
    show (x :: r).filter p ∈ subs r ++ (subs r).map (x :: ·)
    rw [List.filter_cons]
    split
    · exact List.mem_append_right _ (List.mem_map_of_mem (filter_subs p r))
    · exact List.mem_append_left _ (filter_subs p r)
theorem lcm_60 : ∀ S ∈ subs (List.range' 1 12), S.sum ≤ 12 → S.foldr Nat.lcm 1 ≤ 60 := by decide +kernel
theorem dvd_lcms {d : Nat} : ∀ {S : List Nat}, d ∈ S → d ∣ S.foldr Nat.lcm 1
  | x :: r, h => by
    rw [List.foldr_cons]
    rcases List.mem_cons.mp h with e | h
    · rw [e]; exact Nat.dvd_lcm_left _ _
    · exact Nat.dvd_trans (dvd_lcms h) (Nat.dvd_lcm_right _ _)
theorem lcms_pos : ∀ {S : List Nat}, (∀ d ∈ S, 1 ≤ d) → 1 ≤ S.foldr Nat.lcm 1
  | [], _ => Nat.le_refl _
  | x :: r, h => by
    rw [List.foldr_cons]
    exact Nat.lcm_pos (h x List.mem_cons_self) (lcms_pos fun d hd => h d (List.mem_cons_of_mem _ hd))
/-- some k from 1 to 60 leads each point back -/
theorem order_60 {ns : List Int} (m : Mv ns) (hn : ns.length ≤ 12) : ∃ k, 1 ≤ k ∧ k ≤ 60 ∧ ∀ p, InR ns p → it ns k p = p := by
  let pr : Nat → Bool := fun d => (rng ns.length).any fun p => decide (ell ns p = d)
  let S := (List.range' 1 12).filter pr
  let rep : Nat → Int := fun d => ((rng ns.length).find? fun p => decide (ell ns p = d)).getD 0
  have hS : ∀ d ∈ S, 1 ≤ d ∧ InR ns (rep d) ∧ ell ns (rep d) = d := fun d hd => by
    obtain ⟨h1, h2⟩ := List.mem_filter.mp hd
    have h1 := (List.mem_range'_1.mp h1).1
    obtain ⟨p, hp, hpe⟩ := List.any_eq_true.mp h2
    cases e : (rng ns.length).find? fun p => decide (ell ns p = d) with
    | none =>
      rw [List.find?_eq_none] at e
      exact absurd hpe (e p hp)
    | some q =>
      have hq := List.mem_of_find?_eq_some e
      have hqe := List.find?_some e
      have er : rep d = q := by show ((rng ns.length).find? fun p => decide (ell ns p = d)).getD 0 = q; rw [e]; rfl
      rw [er]
      exact ⟨h1, mem_rng.mp hq, of_decide_eq_true hqe⟩
  have hnd : (S.map fun d => orb ns (rep d)).flatten.Nodup := by
    rw [List.nodup_iff_pairwise_ne, List.pairwise_flatten]
    refine ⟨fun l hl => ?_, ?_⟩
    · obtain ⟨d, hd, rfl⟩ := List.mem_map.mp hl
      exact orb_nd m (hS d hd).2.1
    · rw [List.pairwise_map]
      have nd : S.Nodup := (List.nodup_range' (step := 1)).filter _
      rw [List.nodup_iff_pairwise_ne] at nd
      refine nd.imp_of_mem fun {a b} ha hb hne x hx y hy e => hne ?_
      obtain ⟨i, _, rfl⟩ := List.mem_map.mp hx
      obtain ⟨j, _, rfl⟩ := List.mem_map.mp hy
      have e2 := congrArg (ell ns) e
      rw [ell_it m (hS a ha).2.1, ell_it m (hS b hb).2.1, (hS a ha).2.2, (hS b hb).2.2] at e2
      exact e2
  have hlen : (S.map fun d => orb ns (rep d)).flatten.length = S.sum := by
    rw [List.length_flatten, List.map_map]
    have : S.map (List.length ∘ fun d => orb ns (rep d)) = S.map id := List.map_congr_left fun d hd => by
      show (orb ns (rep d)).length = d
      unfold orb
      rw [List.length_map, List.length_range, (hS d hd).2.2]
    rw [this, List.map_id]
  have hsum : S.sum ≤ 12 := by
    have h := hnd.length_le_of_subset (l₂ := rng ns.length) fun z hz => by
      obtain ⟨l, hl, hzl⟩ := List.mem_flatten.mp hz
      obtain ⟨d, hd, rfl⟩ := List.mem_map.mp hl
      obtain ⟨i, _, rfl⟩ := List.mem_map.mp hzl
      exact mem_rng.mpr (it_rg m (hS d hd).2.1 i)
    rw [hlen, rng_len] at h
    omega
  refine ⟨S.foldr Nat.lcm 1, lcms_pos fun d hd => (hS d hd).1, lcm_60 S (filter_subs _ _) hsum, fun p hp => ?_⟩
  have s := ell_spec m hp
  have hm : ell ns p ∈ S := List.mem_filter.mpr ⟨List.mem_range'_1.mpr ⟨ell_pos, by omega⟩, List.any_eq_true.mpr ⟨p, mem_rng.mpr hp, decide_eq_true rfl⟩⟩
  obtain ⟨k, hk⟩ := dvd_lcms hm
  rw [hk]
  exact it_mul s.2.1 k

/-! ## K1 -/

theorem map_int_inj : ∀ {a b : List Int}, a.map V.int = b.map V.int → a = b
  | [], [], _ => rfl
  | [], _ :: _, h => by cases h
  | _ :: _, [], h => by cases h
  | x :: a, y :: b, h => by
    simp only [List.map_cons, List.cons.injEq] at h
    obtain ⟨h1, h2⟩ := h
    cases h1
    rw [map_int_inj h2]
/-- the move done k times -/
def itr (ns : List Int) (k : Nat) : List Int := (rng ns.length).map (it ns k)
theorem itr_len {ns : List Int} {k : Nat} : (itr ns k).length = ns.length := by unfold itr; rw [List.length_map, rng_len]
theorem itr_succ {ns : List Int} {k : Nat} : (itr ns k).map (im ns) = itr ns (k + 1) := by
  unfold itr
  rw [List.map_map]
  rfl
theorem itr_0 {ns : List Int} : itr ns 0 = rng ns.length := by
  unfold itr
  have : (it ns 0) = id := rfl
  rw [this, List.map_id]
theorem itr_1 {ns : List Int} (m : Mv ns) : itr ns 1 = ns := by
  unfold itr
  refine List.ext_getElem? fun k => ?_
  by_cases hk : k < ns.length
  · rw [List.getElem?_map, rng_get hk]
    have := (m.at (p := (k : Int)) ⟨by omega, by omega⟩).1
    rw [Int.toNat_natCast] at this
    rw [this]
    rfl
  · rw [List.getElem?_eq_none (by rw [List.length_map, rng_len]; omega), List.getElem?_eq_none (by omega)]
theorem itr_rg {ns : List Int} (m : Mv ns) {k : Nat} : ∀ z ∈ itr ns k, 0 ≤ z ∧ z < ns.length := fun z hz => by
  obtain ⟨p, hp, rfl⟩ := List.mem_map.mp hz
  exact it_rg m (mem_rng.mp hp) k
theorem itr_still {ns : List Int} {k : Nat} : itr ns k = rng ns.length ↔ ∀ p, InR ns p → it ns k p = p := by
  unfold itr
  constructor
  · intro h p hp
    have h2 : (rng ns.length).map (it ns k) = (rng ns.length).map id := by rw [h, List.map_id]
    exact List.map_inj_left.mp h2 p (mem_rng.mpr hp)
  · intro h
    have h2 : (rng ns.length).map (it ns k) = (rng ns.length).map id := List.map_congr_left fun p hp => h p (mem_rng.mp hp)
    rw [h2, List.map_id]
/-- the round length -/
structure RL (ns : List Int) (L : Nat) : Prop where
  pos : 1 ≤ L
  le : L ≤ 60
  back : itr ns L = rng ns.length
  least : ∀ k, 1 ≤ k → k < L → itr ns k ≠ rng ns.length
theorem rl_ex {ns : List Int} (m : Mv ns) (hn : ns.length ≤ 12) : ∃ L, RL ns L := by
  obtain ⟨k, k1, k2, k3⟩ := order_60 m hn
  let f : Nat → Bool := fun j => decide (itr ns (j + 1) = rng ns.length)
  cases e : (List.range 60).find? f with
  | none =>
    rw [List.find?_eq_none] at e
    have := e (k - 1) (List.mem_range.mpr (by omega))
    exact absurd (show f (k - 1) = true by show decide (itr ns (k - 1 + 1) = _) = true; rw [show k - 1 + 1 = k by omega]; exact decide_eq_true (itr_still.mpr k3)) this
  | some j =>
    rw [List.find?_range_eq_some] at e
    obtain ⟨e1, e2, e3⟩ := e
    have e2 := List.mem_range.mp e2
    refine ⟨j + 1, by omega, by omega, of_decide_eq_true e1, fun i h1 h2 z => ?_⟩
    have := e3 (i - 1) (by omega)
    have h3 : f (i - 1) = true := by
      show decide (itr ns (i - 1 + 1) = _) = true
      rw [show i - 1 + 1 = i by omega]
      exact decide_eq_true z
    rw [h3] at this
    cases this
theorem RL.uniq {ns : List Int} {a b : Nat} (x : RL ns a) (y : RL ns b) : a = b := by
  rcases Nat.lt_trichotomy a b with h | h | h
  · exact absurd x.back (y.least a x.pos h)
  · exact h
  · exact absurd y.back (x.least b y.pos h)
section
variable {P : Program} {w : World} {K : PySem.W.Frag} {mg : Str → Option Value} {base : Heap}
def sp_joined : Sp := fun vs H Q _ => ∃ (a b : Addr) (as bs : List Int), vs = [.ref a, .ref b] ∧ H a = some (.tup (as.map V.int)) ∧ H b = some (.tup (bs.map V.int)) ∧ (∀ z ∈ as, 0 ≤ z ∧ z < bs.length) ∧ as.length ≤ 12 ∧
  ∀ p H1 H2, Same H H1 → New H1 p (.tup ((as.map (im bs)).map V.int)) H2 → Q (.ref p) H2
def sp_still (K : PySem.W.Frag) : Sp := fun vs H Q Er => ∃ (v : V) (E : List Addr) (d : PyData) (n : Nat), vs = [v] ∧ Dw E H v d n ∧ Sm v ∧ (numOk v 0 12 = false → Raises K (.num v 0 12) H Er) ∧
  ∀ n, v = .int n → 0 ≤ n → n ≤ 12 → ∀ p H1 H2, Same H H1 → New H1 p (.tup ((rng n.toNat).map V.int)) H2 → Q (.ref p) H2
abbrev ststill_move : Stmt := topS 15
theorem scstill_move : FnScope ["points"] ["points"] (defScope ststill_move) := ⟨rfl, rfl, rfl, by decide +kernel, rfl, by decide +kernel, by decide +kernel⟩
theorem okstill_move (D : Df K mg "still_move" ststill_move) (T : NoB mg) (Ccheck_points : ClX P w K mg base 5 "check_points" ["points"] (sp_points K)) : ClX P w K mg base 6 "still_move" ["points"] (sp_still K) := by
  refine clX_of D scstill_move (fun _ _ _ _ _ _ us hl => match us, hl with | [_], _ => rfl) (fun vs H Q E h => ?_) (fun f cdv A outer sh H vs Q E hr tk h => ?_)
  · obtain ⟨_, _, _, _, rfl, _⟩ := h; rfl
  obtain ⟨v, E', d, n, rfl, hv, hs, k1, k2⟩ := h
  refine ⟨_, (pss_cons (ps_expr (pe_clX Ccheck_points tk hr (by rfl) (pa_cons (pv 0) pa_nil)))
    (PSs.nox (pss_one (ps_ret (pe_tupRg rfl (by rfl) T.no_tuple (prg_1 (by rfl) T.no_range (pv 0))))))), ?_⟩
  walk_at "sn"
  refine ⟨v, E', d, n, rfl, hv, hs, fun hok => ?_, k1⟩
  obtain ⟨n, rfl, h0, h1⟩ := numOk_wh hok
  walk_at "wn"
  refine ⟨.of_le (by decide) (by omega) (by decide) (by omega), fun q H1 n1 => k2 n rfl h0 h1 q H H1 (Same.refl _) (by rw [rgV_rng h0] at n1; exact n1)⟩
def sp_rlen (K : PySem.W.Frag) : Sp := fun vs H Q Er => ∃ (v : V) (E : List Addr) (d : PyData) (n : Nat), vs = [v] ∧ Dw E H v d n ∧ (isMoveD d = false → Raises K (.mv 0) H Er) ∧
  ∀ (a : Addr) (ns : List Int), v = .ref a → H a = some (.tup (ns.map V.int)) → d = .tuple (ns.map .int) → isMoveD d = true → ∀ (L : Nat) H', Same H H' → RL ns L → Q (.int L) H'
/-- the move done times times, times taken by the round length -/
def sp_power (K : PySem.W.Frag) : Sp := fun vs H Q Er => ∃ (v t : V) (E : List Addr) (d dt : PyData) (n nt : Nat), vs = [v, t] ∧ Dw E H v d n ∧ (isMoveD d = false → Raises K (.mv 0) H Er) ∧
  (isMoveD d = true → Dw E H t dt nt ∧ Sm t ∧ (numOk t (-1000) 1000 = false → Raises K (.num t (-1000) 1000) H Er) ∧
    ∀ (a : Addr) (ns : List Int) (j : Int), v = .ref a → H a = some (.tup (ns.map V.int)) → d = .tuple (ns.map .int) → t = .int j → -1000 ≤ j → j ≤ 1000 → ∀ (L : Nat), RL ns L → ∀ p H', Same H H' → H p = none → H' p = some (.tup ((itr ns (j.fmod L).toNat).map V.int)) → Q (.ref p) H')
/-! moves in turn -/
def dLen : PyData → Nat
  | .tuple ds => ds.length
  | _ => 0
noncomputable def mvOn (n : Nat) (d : PyData) : Bool := isMoveD d && dLen d == n
noncomputable def mvFlt (n : Nat) : Nat → List PyData → Option Flt
  | _, [] => none
  | i, d :: r => if mvOn n d = true then mvFlt n (i + 1) r else some (.mv i)
noncomputable def cmFlt (n : Nat) (ds : List PyData) (z : Str) (lim : Nat) : Option Flt := if lim < ds.length then some (.many z lim) else mvFlt n 0 ds
def sp_chks (K : PySem.W.Frag) : Sp := fun vs H Q Er => ∃ (n : Nat) (p : Addr) (z : Str) (lim : Nat) (xs : List V) (E : List Addr) (ds : List PyData) (m : Nat), vs = [.int n, .ref p, .str z, .int lim] ∧ z.length ≤ 2000 ∧ lim ≤ 10000 ∧ sq H p = some xs ∧ DwAll E H xs ds m ∧ Ans K (cmFlt n ds z lim) H Er (∀ H', Same H H' → Q .non H')
def MvL (H : Hp) (n : Nat) (xs : List V) (mss : List (List Int)) : Prop := mss.length = xs.length ∧ ∀ (k : Nat) (x : V) (ns : List Int), xs[k]? = some x → mss[k]? = some ns → ∃ a, x = .ref a ∧ H a = some (.tup (ns.map V.int)) ∧ ns.length = n ∧ ns.Perm (rng n)
theorem MvL.same {H H' : Hp} {n : Nat} {xs : List V} {mss : List (List Int)} (h : MvL H n xs mss) (s : Same H H') : MvL H' n xs mss := ⟨h.1, fun k x ns h1 h2 => by
  obtain ⟨a, e1, e2, e3⟩ := h.2 k x ns h1 h2
  exact ⟨a, e1, s _ _ e2, e3⟩⟩
theorem mvl_of {E : List Addr} {H : Hp} {n : Nat} : ∀ {xs : List V} {ds : List PyData} {m i : Nat}, DwAll E H xs ds m → mvFlt n i ds = none → ∃ mss, MvL H n xs mss
  | _, _, _, _, .nil, _ => ⟨[], rfl, fun k x ns h => by simp at h⟩
  | _, _, _, i, .cons (d := d) (ds := ds) h1 h2, h => by
    rw [show mvFlt n i (d :: ds) = (if mvOn n d = true then mvFlt n (i + 1) ds else some (.mv i)) from rfl] at h
    by_cases c : mvOn n d = true
    · rw [if_pos c] at h
      obtain ⟨mss, hl, hm⟩ := mvl_of h2 h
      obtain ⟨c1, c2⟩ := Bool.and_eq_true_iff.mp c
      obtain ⟨a, ns, rfl, eh, ed, hle, hp, ne⟩ := move_at c1 h1
      have hdl : ns.length = n := by
        have := of_decide_eq_true c2
        rw [ed] at this
        have e : dLen (.tuple (ns.map PyData.int)) = ns.length := List.length_map _
        rw [← e]
        exact this
      refine ⟨ns :: mss, by simp [hl], fun k x zs h3 h4 => ?_⟩
      cases k with
      | zero =>
        simp at h3 h4
        subst h3 h4
        exact ⟨a, rfl, eh, hdl, by rw [← hdl]; exact hp⟩
      | succ k => exact hm k x zs (by simpa using h3) (by simpa using h4)
    · rw [if_neg c] at h; cases h
def turnM (n : Nat) (mss : List (List Int)) : List Int := mss.foldl (fun r ns => r.map (im ns)) (rng n)
theorem turnM_rg {n : Nat} : ∀ {mss : List (List Int)}, (∀ ns ∈ mss, ns.length = n ∧ ns.Perm (rng n)) → (turnM n mss).length = n ∧ ∀ z ∈ turnM n mss, 0 ≤ z ∧ z < n := by
  intro mss
  unfold turnM
  have gen : ∀ (mss : List (List Int)) (r : List Int), (∀ ns ∈ mss, ns.length = n ∧ ns.Perm (rng n)) → r.length = n → (∀ z ∈ r, 0 ≤ z ∧ z < n) → (mss.foldl (fun r ns => r.map (im ns)) r).length = n ∧ ∀ z ∈ mss.foldl (fun r ns => r.map (im ns)) r, 0 ≤ z ∧ z < n := by
    intro mss
    induction mss with
    | nil => exact fun r _ h1 h2 => ⟨h1, h2⟩
    | cons ns mss ih =>
      intro r h h1 h2
      obtain ⟨e1, e2⟩ := h ns List.mem_cons_self
      refine ih (r.map (im ns)) (fun ns h' => h ns (List.mem_cons_of_mem _ h')) (by rw [List.length_map]; exact h1) fun z hz => ?_
      obtain ⟨y, hy, rfl⟩ := List.mem_map.mp hz
      have m : Mv ns := ⟨by rw [e1]; exact e2⟩
      have := (m.at (p := y) (by rw [e1]; exact h2 y hy)).2
      rw [e1] at this
      exact this
  exact fun h => gen mss (rng n) h (rng_len n) fun z hz => mem_rng.mp hz
def sp_inturn (K : PySem.W.Frag) : Sp := fun vs H Q Er => ∃ (pz rv : V) (E : List Addr) (d : PyData) (m : Nat), vs = [pz, rv] ∧ Dw E H pz d m ∧ Sm pz ∧ (numOk pz 0 12 = false → Raises K (.num pz 0 12) H Er) ∧
  ∀ n : Nat, pz = .int n → n ≤ 12 → ∃ (p : Addr) (xs : List V) (E2 : List Addr) (ds : List PyData) (m2 : Nat), rv = .ref p ∧ sq H p = some xs ∧ DwAll E2 H xs ds m2 ∧ Ans K (cmFlt n ds "list" 400) H Er (∀ mss, MvL H n xs mss → ∀ q H', Same H H' → H q = none → H' q = some (.tup ((turnM n mss).map V.int)) → Q (.ref q) H')
end

/-! ## A1 -/
local macro_rules | `(tactic| walk_at "wp") => `(tactic| (try simp only [a_var, a_c, a_op, a_un, a_test, a_b, a_and, a_or, a_not, a_andV, a_orV, a_notV, a_if, a_next, a_seq, a_break, a_cont, a_drop, a_ret, a_retN, a_ifS, a_asg, a_name, a_sub, a_nil, a_cons, a_tup, a_lst, a_call, a_cb, a_bm0, a_bm, a_sl, a_nopart, a_part, a_aug, b_rI, b_rI0, b_rU, b_eq, b_ne, b_isTF, b_int, b_intb, b_list, b_tuple, b_ix, b_len, b_setL, b_app, b_pop, b_popAt, b_sl, b_rep, b_cat, b_lstRg, b_tupRg, b_rg1, b_rg2, a_forR, a_forR2, a_forS, b_fsq, a_lcR, a_lcR2, a_lcS, b_csq, wipe_nil, wipe_cons, a_yes, wh_i, wh_s, wh_b, wh_r, wh_n, Bool.not_eq_true, eq_self, not_true_eq_false, not_false_eq_true, b_isi, kb_all, ty_non, ty_bl, ty_int, ty_str, a_m1, b_ixS, b_slS, List.cons.injEq, and_assoc, exists_and_left, cxK, List.getElem?_cons_zero, List.getElem?_cons_succ, List.set_cons_zero, List.set_cons_succ, Option.some.injEq, exists_eq_left', exists_eq_left, V.bl.injEq, V.int.injEq, V.ref.injEq, V.str.injEq, HO.lst.injEq, HO.tup.injEq, decide_eq_true_eq, true_and, and_true, L2.start, List.map_cons, List.map_nil, List.length_cons, List.length_nil, Nat.zero_add, Nat.reduceAdd, Nat.reduceSub, List.replicate_succ, List.replicate_zero, List.cons_append, List.nil_append, if_true, if_false, Bool.false_eq_true, Bool.not_true, Bool.not_false, decide_not, Bool.not_eq_true', decide_eq_false_iff_not, scal_ii, scal_bb, scal_ss, scal_is, scal_si, reduceCtorEq, Bool.true_eq_false, decide_false, decide_true, if_pos, ne_eq, Int.reduceNeg, atI_0, atI_1, atI_2, atI_3, atI_4, atI_5, atI_6, ixN_7, b_ins, a_revL, b_isT, V.ty.injEq, Bool.true_or, Bool.or_true, Bool.false_or, Bool.or_false, Bool.or_self, b_sorted, b_repT, a_dnotin, a_din, b_setD, a_disp1]))
local macro_rules | `(tactic| walk_at "wps") => `(tactic| (try simp only [a_var, a_c, a_op, a_un, a_test, a_b, a_and, a_or, a_not, a_andV, a_orV, a_notV, a_if, a_next, a_seq, a_break, a_cont, a_drop, a_ret, a_retN, a_ifS, a_asg, a_name, a_sub, a_nil, a_cons, a_tup, a_lst, a_call, a_cb, a_bm0, a_bm, a_sl, a_nopart, a_part, a_aug, b_rI, b_rI0, b_rU, b_eq, b_ne, b_isTF, b_int, b_intb, b_list, b_tuple, b_ix, b_len, b_setL, b_app, b_pop, b_popAt, b_sl, b_rep, b_cat, b_lstRg, b_tupRg, b_rg1, b_rg2, a_forR, a_forR2, a_forS, b_fsq, a_lcR, a_lcR2, a_lcS, b_csq, wipe_nil, wipe_cons, a_yes, wh_i, wh_s, wh_b, wh_r, wh_n, Bool.not_eq_true, eq_self, not_true_eq_false, not_false_eq_true, b_isi, kb_all, ty_non, ty_bl, ty_int, ty_str, a_m1, b_ixS, b_slS, List.cons.injEq, and_assoc, exists_and_left, cxK, List.getElem?_cons_zero, List.getElem?_cons_succ, List.set_cons_zero, List.set_cons_succ, Option.some.injEq, exists_eq_left', exists_eq_left, V.bl.injEq, V.int.injEq, V.ref.injEq, V.str.injEq, HO.lst.injEq, HO.tup.injEq, decide_eq_true_eq, true_and, and_true, L2.start, List.map_cons, List.map_nil, List.length_cons, List.length_nil, Nat.zero_add, Nat.reduceAdd, Nat.reduceSub, List.replicate_succ, List.replicate_zero, List.cons_append, List.nil_append, if_true, if_false, Bool.false_eq_true, Bool.not_true, Bool.not_false, decide_not, Bool.not_eq_true', decide_eq_false_iff_not, scal_ii, scal_bb, scal_ss, scal_is, scal_si, reduceCtorEq, Bool.true_eq_false, decide_false, decide_true, if_pos, ne_eq, Int.reduceNeg, atI_0, atI_1, atI_2, atI_3, atI_4, atI_5, atI_6, ixN_7, b_ins, a_revL, b_isT, V.ty.injEq, Bool.true_or, Bool.or_true, Bool.false_or, Bool.or_false, Bool.or_self, b_sorted, b_repT, a_dnotin, a_din, b_setD, a_disp1, *]))
local macro_rules | `(tactic| walk_at "wq") => `(tactic| (try simp only [a_var, a_c, a_op, a_un, a_test, a_b, a_and, a_or, a_not, a_andV, a_orV, a_notV, a_if, a_next, a_break, a_cont, a_drop, a_ret, a_retN, a_ifS, a_asg, a_name, a_sub, a_nil, a_cons, a_tup, a_lst, a_call, a_cb, a_bm0, a_bm, a_sl, a_nopart, a_part, a_aug, b_rI, b_rI0, b_rU, b_eq, b_ne, b_isTF, b_int, b_intb, b_list, b_tuple, b_ix, b_len, b_setL, b_app, b_pop, b_popAt, b_sl, b_rep, b_cat, b_lstRg, b_tupRg, b_rg1, b_rg2, a_forR, a_forR2, a_forS, b_fsq, a_lcR, a_lcR2, a_lcS, b_csq, wipe_nil, wipe_cons, a_yes, wh_i, wh_s, wh_b, wh_r, wh_n, Bool.not_eq_true, eq_self, not_true_eq_false, not_false_eq_true, b_isi, kb_all, ty_non, ty_bl, ty_int, ty_str, a_m1, b_ixS, b_slS, List.cons.injEq, and_assoc, exists_and_left, cxK, List.getElem?_cons_zero, List.getElem?_cons_succ, List.set_cons_zero, List.set_cons_succ, Option.some.injEq, exists_eq_left', exists_eq_left, V.bl.injEq, V.int.injEq, V.ref.injEq, V.str.injEq, HO.lst.injEq, HO.tup.injEq, decide_eq_true_eq, true_and, and_true, L2.start, List.map_cons, List.map_nil, List.length_cons, List.length_nil, Nat.zero_add, Nat.reduceAdd, Nat.reduceSub, List.replicate_succ, List.replicate_zero, List.cons_append, List.nil_append, if_true, if_false, Bool.false_eq_true, Bool.not_true, Bool.not_false, decide_not, Bool.not_eq_true', decide_eq_false_iff_not, scal_ii, scal_bb, scal_ss, scal_is, scal_si, reduceCtorEq, Bool.true_eq_false, decide_false, decide_true, if_pos, ne_eq, Int.reduceNeg, atI_0, atI_1, atI_2, atI_3, atI_4, atI_5, atI_6, ixN_7, b_ins, a_revL, b_isT, V.ty.injEq, Bool.true_or, Bool.or_true, Bool.false_or, Bool.or_false, Bool.or_self, b_sorted, b_repT, a_dnotin, a_din, b_setD, a_disp1, *]))
local macro_rules | `(tactic| walk_at "wn") => `(tactic| (try simp only [a_var, a_c, a_op, a_un, a_test, a_b, a_and, a_or, a_not, a_andV, a_orV, a_notV, a_if, a_next, a_break, a_cont, a_drop, a_ret, a_retN, a_ifS, a_asg, a_name, a_sub, a_nil, a_cons, a_tup, a_lst, a_call, a_cb, a_bm0, a_bm, a_sl, a_nopart, a_part, a_aug, b_rI, b_rI0, b_rU, b_eq, b_ne, b_isTF, b_int, b_intb, b_list, b_tuple, b_ix, b_len, b_setL, b_app, b_pop, b_popAt, b_sl, b_rep, b_cat, b_lstRg, b_tupRg, b_rg1, b_rg2, a_forR, a_forR2, a_forS, b_fsq, a_lcR, a_lcR2, a_lcS, b_csq, wipe_nil, wipe_cons, a_yes, wh_i, wh_s, wh_b, wh_r, wh_n, Bool.not_eq_true, eq_self, not_true_eq_false, not_false_eq_true, b_isi, kb_all, ty_non, ty_bl, ty_int, ty_str, a_m1, b_ixS, b_slS, List.cons.injEq, and_assoc, exists_and_left, cxK, List.getElem?_cons_zero, List.getElem?_cons_succ, List.set_cons_zero, List.set_cons_succ, Option.some.injEq, exists_eq_left', exists_eq_left, V.bl.injEq, V.int.injEq, V.ref.injEq, V.str.injEq, HO.lst.injEq, HO.tup.injEq, decide_eq_true_eq, true_and, and_true, L2.start, List.map_cons, List.map_nil, List.length_cons, List.length_nil, Nat.zero_add, Nat.reduceAdd, Nat.reduceSub, List.replicate_succ, List.replicate_zero, List.cons_append, List.nil_append, if_true, if_false, Bool.false_eq_true, Bool.not_true, Bool.not_false, decide_not, Bool.not_eq_true', decide_eq_false_iff_not, scal_ii, scal_bb, scal_ss, scal_is, scal_si, reduceCtorEq, Bool.true_eq_false, decide_false, decide_true, if_pos, ne_eq, Int.reduceNeg, atI_0, atI_1, atI_2, atI_3, atI_4, atI_5, atI_6, ixN_7, b_ins, a_revL, b_isT, V.ty.injEq, Bool.true_or, Bool.or_true, Bool.false_or, Bool.or_false, Bool.or_self, b_sorted, b_repT, a_dnotin, a_din, b_setD, a_disp1]))
local macro_rules | `(tactic| walk_at "sq") => `(tactic| ((try dsimp only); rw [a_seq]; walk_at "wq"))
local macro_rules | `(tactic| walk_at "sn") => `(tactic| ((try dsimp only); rw [a_seq]; walk_at "wn"))

section
variable {P : Program} {w : World} {K : PySem.W.Frag} {mg : Str → Option Value} {base : Heap}
theorem rg_ok {n : Int} (h : 0 ≤ n ∧ n ≤ 16777216) : RgOk 0 n := .of_le (by omega) h.2 (by omega) h.1
def sp_jn : Sp := fun vs H Q _ => ∃ (a b : Addr) (as bs : List Int), vs = [.ref a, .ref b] ∧ H a = some (.tup (as.map V.int)) ∧ H b = some (.tup (bs.map V.int)) ∧ (∀ z ∈ as, 0 ≤ z ∧ z < bs.length) ∧ as.length ≤ 100 ∧ ∀ p H', Same H H' → H p = none → H' p = some (.tup ((jn as bs).map V.int)) → Q (.ref p) H'
abbrev st_law_after : Stmt := topS 41
theorem sc_law_after : FnScope ["first", "second", "p"] ["first", "second"] (defScope st_law_after) := ⟨rfl, rfl, rfl, by decide +kernel, rfl, by decide +kernel, by decide +kernel⟩
theorem ok_law_after (D : Df K mg "_law_after" st_law_after) (T : NoB mg)  : Cl P w K mg base 1 "_law_after" ["first", "second"] sp_jn := by
  refine cl_of D sc_law_after (fun _ _ _ _ _ _ us hl => match us, hl with | [_, _], _ => rfl) (fun vs H Q E h => ?_) (fun f cdv A outer sh H vs Q E hr h => ?_)
  · obtain ⟨_, _, _, _, rfl, _⟩ := h; rfl
  obtain ⟨a, b, as, bs, rfl, ha, hb, hz, hl, k⟩ := h
  refine ⟨_, (pss_one (ps_ret (pe_callTy tup1 (by rfl) T.no_tuple (by decide +kernel) (pa_cons (pe_lc (own := [("p", 2)]) (g := gName 2) (tt := tYes) rfl sc_law_after.nd (pi_sq (pv 0)) (blkOk_by (own := [("p", 2)]) (N := ["first", "second", "p"]) (sc := defScope st_law_after) (by decide +kernel)) (fun _ _ _ _ _ => (pg_name (i := 2) sc_law_after.nd rfl (Or.inl rfl))) (fun _ _ _ _ _ => pts_nil) (fun _ _ _ _ _ => (pe_ix ix1 (pv 1) (pv 2) (fun _ _ => rfl)))) pa_nil)))), ?_⟩
  walk_at "wn"
  refine cs_by (sq_t ha) (fun C i acc H' => Same H H' ∧ acc = ((as.take i).map (im bs)).map V.int) (fun C H0 n0 => ⟨n0.same, rfl⟩) (fun C i acc H' hC f o ho => f.1 _ _ ho) ?_ ?_
  · rintro C i x acc H1 N hC hx hacc ⟨s1, rfl⟩ hN
    obtain ⟨z, hzi, rfl⟩ : ∃ z, as[i]? = some z ∧ x = V.int z := by
      rw [List.getElem?_map] at hx
      cases e : as[i]? with
      | none => rw [e] at hx; cases hx
      | some z => rw [e] at hx; exact ⟨z, rfl, (Option.some.inj hx).symm⟩
    have hzr := hz z (List.mem_of_getElem? hzi)
    have hy := List.getElem?_eq_getElem (show z.toNat < bs.length by omega)
    have hlt := (List.getElem?_eq_some_iff.mp hzi).1
    have eim : im bs z = bs[z.toNat] := by unfold im; rw [hy]; rfl
    refine ⟨rfl, ?_⟩
    walk_at "wn"
    refine ⟨_, sq_t (s1 _ _ hb), .int bs[z.toNat], atI_of hzr.1 (by rw [List.getElem?_map, hy]; rfl), ?_⟩
    refine cst hacc (by rw [List.length_map, List.length_map, List.length_take, sizeLine_eq]; omega) fun H5 p5 => hN _ _ p5.at_ ⟨fun b o hb => p5.k (ne_of_none hb hC) (s1 b o hb), ?_⟩
    rw [List.take_add_one, hzi, ← eim]
    simp
  · rintro C acc H1 hC hacc ⟨s1, rfl⟩
    rw [List.length_map, List.take_length] at hacc
    walk_at "wn"
    exact ⟨_, hacc, fun q H2 n2 => k q H2 (s1.trans n2.same) (s1.free n2.fr) n2.at_⟩
def sp_group : Sp := fun vs H Q _ => ∃ (n m : Nat) (t : Addr) (ws : List Addr) (T : List (List Int)), vs = [.int n, .ref t, .int m] ∧ n ≤ 12 ∧ 1 ≤ m ∧ m ≤ 100000 ∧ sq H t = some (ws.map V.ref) ∧ TLs H ws T ∧ OnN n T ∧
  (Over n T m → ∀ H', Same H H' → Q .non H') ∧ (∀ M us p H', Same H H' → H p = none → H' p = some (.lst (us.map V.ref)) → TLs H' us M → Made n T M → M.length ≤ m → Q (.ref p) H')
abbrev st_law_group : Stmt := topS 45
theorem sc_law_group : FnScope ["points", "told", "most", "still", "queue", "seen", "at", "move", "image"] ["points", "told", "most"] (defScope st_law_group) := ⟨rfl, rfl, rfl, by decide +kernel, rfl, by decide +kernel, by decide +kernel⟩
theorem ok_law_group (D : Df K mg "_law_group" st_law_group) (T : NoB mg) (C_law_after : Cl P w K mg base 1 "_law_after" ["first", "second"] sp_jn) : Cl P w K mg base 2 "_law_group" ["points", "told", "most"] sp_group := by
  refine cl_of D sc_law_group (fun _ _ _ _ _ _ us hl => match us, hl with | [_, _, _], _ => rfl) (fun vs H Q E h => ?_) (fun f cdv A outer sh H vs Q E hr h => ?_)
  · obtain ⟨_, _, _, _, _, rfl, _⟩ := h; rfl
  obtain ⟨n, m, t, ws, T0, rfl, hn, hm1, hm2, ht, hT, on, kn, ks⟩ := h
  refine ⟨_, (pss_cons (ps_set (i := 3) sc_law_group.nd rfl (Or.inl rfl) (pe_tupRg rfl (by rfl) T.no_tuple (prg_1 (by rfl) T.no_range (pv 0))))
    (pss_cons (ps_set (i := 4) sc_law_group.nd rfl (Or.inl rfl) (pe_lst (pa_cons (pv 3) pa_nil)))
    (pss_cons (ps_set (i := 5) sc_law_group.nd rfl (Or.inl rfl) (pe_disp1 (hu2 hr) (pv 3) pe_bl))
    (pss_cons (ps_set (i := 6) sc_law_group.nd rfl (Or.inl rfl) pe_int)
    (pss_cons (ps_while PassesOwn.never (pt_cmpR op_lt (pv 6) (pe_callB len1 (by rfl) T.no_len (by decide +kernel) (pa_cons (pv 4) pa_nil)) (nomark _)) (pss_cons (ps_for PassesOwn.never rfl (pi_sq (pv 1)) (pg_name (i := 7) sc_law_group.nd rfl (Or.inl rfl)) (pss_cons (ps_set (i := 8) sc_law_group.nd rfl (Or.inl rfl) (pe_cl C_law_after hr (by rfl) (pa_cons (pe_ix ix1 (pv 4) (pv 6) (fun _ _ => rfl)) (pa_cons (pv 7) pa_nil))))
    (pss_one (ps_if (pt_cmp (pc_dnotin (hu_of hr) (pv 8) (pv 5)) rfl) (pss_cons (ps_if (pt_cmpR op_ge (pe_callB len1 (by rfl) T.no_len (by decide +kernel) (pa_cons (pv 4) pa_nil)) (pv 2) (nomark _)) (pss_one (ps_ret pe_non)) pss_nil)
    (pss_cons (ps_asg pe_bl (pg_sub (pv 5) (pv 8) (set_dict (hu_of hr))))
    (pss_one (ps_expr (pe_bm PySem.F.plainAttrs_list PySem.F.slot_list_append PySem.F.type_list_append mt_append (pv 4) (pa_cons (pv 8) pa_nil)))))) pss_nil))))
    (pss_one (ps_set (i := 6) sc_law_group.nd rfl (Or.inl rfl) (pe_op op_add (pv 6) pe_int)))))
    (pss_one (ps_ret (pe_callB (sortedM hr.units) (by rfl) T.no_sorted (by decide +kernel) (pa_cons (pv 4) pa_nil))))))))), ?_⟩
  walk_at "sn"
  refine ⟨rg_ok (by omega), fun S H1 n1 => ?_⟩
  have eS : H1 S = some (.tup ((rng n).map V.int)) := by rw [n1.at_, rgV_rng (by omega), Int.toNat_natCast]
  walk_at "sn"
  refine ⟨by rw [sizeLine_eq]; decide, fun Qa H2 n2 => ?_⟩
  walk_at "sn"
  rintro D H3 n3
  have e23 := n3.k (n2.k eS)
  refine ⟨n3.at_, keyI (rng n), by rw [keyI_kV]; exact e23, fun H4 p4 => ?_⟩
  have s12 := n1.same.trans n2.same
  have hQa : H Qa = none := n1.same.free n2.fr
  have hD : H D = none := s12.free n3.fr
  have s4 : Same H H4 := p4.same (s12.trans n3.same) hD
  have DQ : Qa ≠ D := n3.ne n2.at_
  have DS : S ≠ D := n3.ne (n2.k eS)
  walk_at "sn"
  walk_at "sn"
  refine wh_by (fun mu σ H' => ∃ (us : List Addr) (Qs : List (List Int)) (a : Nat) (v7 v8 : Option V), σ = [some (.int n), some (.ref t), some (.int m), some (.ref S), some (.ref Qa), some (.ref D), some (.int a), v7, v8] ∧ Same H H' ∧ H' Qa = some (.lst (us.map V.ref)) ∧ H' D = some (.dT (tabT Qs)) ∧ TLs H' us Qs ∧ Bfs n T0 Qs a 0 ∧ Qs.length ≤ m ∧ a ≤ Qs.length ∧ mu = m - a) (m - 0)
    ⟨[S], [rng n], 0, _, _, rfl, s4, p4.k DQ (n3.k n2.at_), p4.at_, .cons (p4.k DS e23) .nil, Bfs.start, by simp; omega, by simp, rfl⟩ ?_
  rintro mu _ H5 N R hN hR ⟨us, Qs, a, v7, v8, rfl, s5, eQ, eD, tl, bf, hlm, hal, rfl⟩
  have hul := tl.len
  walk_at "wn"
  refine ⟨_, sq_l eQ, ?_⟩
  rw [List.length_map, hul]
  refine hR _ _ (wst (fun hb => ?_) (fun hb => ?_))
  · have ha : a < Qs.length := by have := of_decide_eq_true hb; omega
    obtain ⟨x, hx⟩ : ∃ x, Qs[a]? = some x := ⟨_, List.getElem?_eq_getElem ha⟩
    have gx := (bf.gen x (List.mem_of_getElem? hx)).perm on
    walk_at "sn"
    have qt : sq H5 t = some (ws.map V.ref) := same_sq s5 ht
    refine fs_by qt (fun j σ H' => ∃ (us : List Addr) (Qs : List (List Int)) (v7 v8 : Option V), σ = [some (.int n), some (.ref t), some (.int m), some (.ref S), some (.ref Qa), some (.ref D), some (.int a), v7, v8] ∧ Same H H' ∧ H' Qa = some (.lst (us.map V.ref)) ∧ H' D = some (.dT (tabT Qs)) ∧ TLs H' us Qs ∧ Bfs n T0 Qs a j ∧ Qs.length ≤ m ∧ Qs[a]? = some x)
      ⟨us, Qs, _, _, rfl, s5, eQ, eD, tl, bf, hlm, hx⟩ (fun j σ' H' ⟨us, Qs, _, _, _, s, _⟩ o ho => ?_) ?_ ?_
    · exact keep_old ht s5 s o ho
    · rintro j y _ H6 N2 hN2 hy ⟨us, Qs, v7, v8, rfl, s6, eQ, eD, tl, bf, hlm, hx⟩
      obtain ⟨b, mv, rfl, hb1, hb2, hb3⟩ := hT.get hy
      have pm := on mv (List.mem_of_getElem? hb2)
      have e6b := s6 _ _ hb3
      obtain ⟨c, ec1, ec2⟩ := tl.at hx
      walk_at "wn"
      rw [a_seq]
      walk_at "wn"
      refine ⟨_, sq_l eQ, .ref c, atI_of (by omega) (by rw [Int.toNat_natCast]; exact ec1), c, b, x, mv, rfl, ec2, e6b, fun z hz => by rw [lenP pm]; exact inP gx hz, by rw [lenP gx]; omega, fun r H7 s7 f7 e7 => ?_⟩
      have t7 := s6.trans s7
      walk_at "wn"
      have eQ7 := s7 _ _ eQ
      have eD7 := s7 _ _ eD
      have tl7 := tl.same s7
      have hg := DGet.t (k := keyI (jn x mv)) eD7 (by rw [keyI_kV]; exact e7)
      refine ⟨_, hg, ?_⟩
      have hv := tabT_val Qs (jn x mv)
      have hul := tl.len
      by_cases hin : jn x mv ∈ Qs
      · rw [hv, decide_eq_true hin, if_neg (by decide)]
        exact hN2 _ _ ⟨us, Qs, _, _, rfl, t7, eQ7, eD7, tl7, bf.seen hx hb2 hin, hlm, hx⟩
      · rw [hv, decide_eq_false hin, if_pos rfl, a_seq]
        walk_at "wn"
        refine ⟨_, sq_l eQ7, ?_⟩
        rw [List.length_map, hul]
        by_cases hfull : m ≤ Qs.length
        · rw [if_pos (by omega)]
          exact kn (bf.over hx hb2 hin hfull) _ t7
        · rw [if_neg (by omega), a_seq]
          walk_at "wn"
          have rD : D ≠ r := fun e => by rw [← e, eD] at f7; cases f7
          have rQ : Qa ≠ r := fun e => by rw [← e, eQ] at f7; cases f7
          refine ⟨_, DPut.t (k := keyI (jn x mv)) eD7 (by rw [keyI_kV]; exact e7) (by unfold tabT; rw [List.length_map, sizeLine_eq]; omega), ?_⟩
          rw [tabT_put hin]
          generalize h8 : upd H7 D (.dT (tabT (Qs ++ [jn x mv]))) = H8
          have p8 : Put H7 D (.dT (tabT (Qs ++ [jn x mv]))) H8 := h8 ▸ Put.mk'
          have eQ8 := p8.k DQ eQ7
          have er8 := p8.k rD.symm e7
          walk_at "wn"
          refine ⟨tyl eQ8, _, eQ8, by rw [List.length_map, sizeLine_eq]; omega, fun H9 p9 => ?_⟩
          have tl8 : TLs H8 us Qs := tl7.kp fun a ns e => p8.k (fun z => by rw [z, eD7] at e; cases e) e
          have tl9 : TLs H9 (us ++ [r]) (Qs ++ [jn x mv]) := (tl8.put p9 eQ8).snoc (p9.k rQ.symm er8)
          refine hN2 _ _ ⟨us ++ [r], Qs ++ [jn x mv], _, _, rfl, p9.same (p8.same t7 hD) hQa, by rw [p9.at_, List.map_append]; rfl, p9.k DQ.symm p8.at_, tl9, bf.add hx hb2 hin, by simp; omega, ?_⟩
          rw [List.getElem?_append_left (List.getElem?_eq_some_iff.mp hx).1]
          exact hx
    · rintro _ H6 ⟨us, Qs, v7, v8, rfl, s6, eQ, eD, tl, bf, hlm, hx⟩
      walk_at "wn"
      have hb := (List.getElem?_eq_some_iff.mp hx).1
      rw [List.length_map, hT.len] at bf
      refine hN (m - (a + 1)) _ _ (by omega) ⟨us, Qs, a + 1, _, _, rfl, s6, eQ, eD, tl, bf.next, hlm, by omega, rfl⟩
  · have ha : Qs.length ≤ a := by have := of_decide_eq_false hb; omega
    walk_at "wn"
    have mk := bf.made ha
    refine sortM_ok eQ tl ?_ fun us' p H6 n6 t6 => ks _ us' p H6 (s5.trans n6.same) (s5.free n6.fr) n6.at_ t6 mk (by rw [srt_len]; exact hlm)
    rcases Nat.eq_zero_or_pos n with h0 | h0
    · refine .inr ?_
      subst h0
      have h1 : Qs.length ≤ [([] : List Int)].length := sub_len bf.nd fun x hx => by
        have := lenP ((bf.gen x hx).perm on)
        rw [List.length_eq_zero_iff.mp this]
        simp
      exact h1
    · refine .inl fun x hx e => ?_
      have := lenP ((bf.gen x hx).perm on)
      rw [e] at this
      simp at this
      omega
end

/-! ## HoTb -/
/-- the block of size z from b on, turned -/
def blk (b z : Nat) (g h : Int) : List Int := (rng z).map fun k => (b : Int) + (g * k + h).fmod z
theorem blk_perm0 {z : Nat} {g h : Int} (hg : g = 1 ∨ g = -1) : ((rng z).map fun k => (g * k + h).fmod z).Perm (rng z) := by
  rcases Nat.eq_zero_or_pos z with h0 | h0
  · subst h0; exact .refl _
  refine (sub_perm (R := (rng z).map fun k => (g * k + h).fmod z) (xs := rng z) ?_ ?_ ?_).symm
  · refine List.pairwise_map.mpr ((rng_nodup z).imp_of_mem ?_)
    intro x y hx hy ne e
    apply ne
    have hx := mem_rng.mp hx
    have hy := mem_rng.mp hy
    rw [Int.fmod_eq_emod_of_nonneg _ (by omega), Int.fmod_eq_emod_of_nonneg _ (by omega)] at e
    have e2 := Int.emod_eq_emod_iff_emod_sub_eq_zero.mp e
    obtain ⟨c, hc⟩ := Int.dvd_of_emod_eq_zero e2
    have hc0 : c = 0 := by
      rcases hg with rfl | rfl
      · rcases Int.lt_trichotomy c 0 with h | h | h
        · have : (z : Int) * c ≤ (z : Int) * (-1) := Int.mul_le_mul_of_nonneg_left (by omega) (by omega)
          omega
        · exact h
        · have : (z : Int) * 1 ≤ (z : Int) * c := Int.mul_le_mul_of_nonneg_left (by omega) (by omega)
          omega
      · rcases Int.lt_trichotomy c 0 with h | h | h
        · have : (z : Int) * c ≤ (z : Int) * (-1) := Int.mul_le_mul_of_nonneg_left (by omega) (by omega)
          omega
        · exact h
        · have : (z : Int) * 1 ≤ (z : Int) * c := Int.mul_le_mul_of_nonneg_left (by omega) (by omega)
          omega
    rw [hc0] at hc
    rcases hg with rfl | rfl <;> omega
  · intro a ha
    obtain ⟨k, hk, rfl⟩ := List.mem_map.mp ha
    exact mem_rng.mpr (fm_bound (by omega))
  · simp
theorem rng_app (b z : Nat) : rng (b + z) = rng b ++ (rng z).map fun k => (b : Int) + k := by
  unfold rng
  rw [List.range_add, List.map_append, List.map_map, List.map_map]
  congr 1
theorem blk_app {b z : Nat} {g h : Int} {im : List Int} (hi : im.Perm (rng b)) (hg : g = 1 ∨ g = -1) : (im ++ blk b z g h).Perm (rng (b + z)) := by
  rw [rng_app]
  refine hi.append ?_
  have := (blk_perm0 (z := z) (g := g) (h := h) hg).map fun k => (b : Int) + k
  rw [List.map_map] at this
  exact this

/-! ## A2 -/

/-- points and told moves, as a list -/
def ArT (H : Hp) (p : Addr) (n : Nat) (T : List (List Int)) : Prop := ∃ (t : Addr) (ws : List Addr), H p = some (.lst [.int n, .ref t]) ∧ H t = some (.lst (ws.map V.ref)) ∧ TLs H ws T
theorem one_tup {H : Hp} {a : Addr} {ns : List Int} (h : H a = some (.tup (ns.map V.int))) : TLs H [a] [ns] := .cons h .nil
section
variable {P : Program} {w : World} {K : PySem.W.Frag} {mg : Str → Option Value} {base : Heap}
def sp_menu : Sp := fun vs H Q _ => ∃ (s l : Addr), vs = [.ref s] ∧ Sto s l H ∧ ∀ p H' n T, Ge s l H H' → H p = none → ArT H' p n T → OnN n T → n ≤ 12 → T.length ≤ 4 → Q (.ref p) H'
end

/-! ## A3 -/

theorem b_sum {K : PySem.W.Frag} {a : Addr} {H : Hp} {Q : VK} : rSum K [.ref a] H Q = ∃ ns : List Int, SqL K H a (ns.map V.int) ∧ Q (.int ns.sum) H := by
  unfold rSum; apply propext; constructor
  · rintro ⟨_, ns, h1, h⟩; cases h1; exact ⟨ns, h⟩
  · rintro ⟨ns, h⟩; exact ⟨a, ns, rfl, h⟩
def szs (zs : List Int) : Nat := (zs.map Int.toNat).sum
theorem szs_sum : ∀ {zs : List Int}, (∀ z ∈ zs, 0 ≤ z) → (szs zs : Int) = zs.sum
  | [], _ => rfl
  | z :: zs, h => by
    have := szs_sum fun y hy => h y (List.mem_cons_of_mem _ hy)
    have h0 := h z List.mem_cons_self
    unfold szs at *
    simp only [List.map_cons, List.sum_cons, Int.natCast_add]
    omega
theorem szs_take {zs : List Int} {i : Nat} {z : Int} (h : zs[i]? = some z) : szs (zs.take (i + 1)) = szs (zs.take i) + z.toNat := by
  unfold szs
  rw [List.take_add_one, h]
  simp
section
variable {P : Program} {w : World} {K : PySem.W.Frag} {mg : Str → Option Value} {base : Heap}
def sp_turned : Sp := fun vs H Q _ => ∃ (s l : Addr) (n : Nat), vs = [.ref s, .int n] ∧ Sto s l H ∧ n ≤ 12 ∧ ∀ p H' ws T, Ge s l H H' → H p = none → H' p = some (.lst (ws.map V.ref)) → TLs H' ws T → OnN n T → T.length ≤ 3 → Q (.ref p) H'
end

/-! ## A4 -/

theorem TLs.rep {H : Hp} {a : Addr} {ns : List Int} (h : H a = some (.tup (ns.map V.int))) : ∀ k : Nat, TLs H (List.replicate k a) (List.replicate k ns)
  | 0 => .nil
  | k + 1 => .cons h (TLs.rep h k)
theorem TLs.cut {H : Hp} {ws : List Addr} {L : List (List Int)} (h : TLs H ws L) : ∀ k : Nat, TLs H (ws.take k) (L.take k) ∧ TLs H (ws.drop k) (L.drop k) := by
  induction h with
  | nil => intro k; rw [List.take_nil, List.take_nil, List.drop_nil, List.drop_nil]; exact ⟨.nil, .nil⟩
  | cons e t ih =>
    intro k
    cases k with
    | zero => exact ⟨.nil, .cons e t⟩
    | succ k => exact ⟨.cons e (ih k).1, (ih k).2⟩
theorem flat1 {α : Type} (a : α) : ∀ k : Nat, (List.replicate k [a]).flatten = List.replicate k a
  | 0 => rfl
  | k + 1 => by rw [List.replicate_succ, List.flatten_cons, flat1 a k, List.replicate_succ]; rfl
section
variable {P : Program} {w : World} {K : PySem.W.Frag} {mg : Str → Option Value} {base : Heap}
def sp_atold : Sp := fun vs H Q _ => ∃ (s l : Addr) (n : Nat), vs = [.ref s, .int n] ∧ Sto s l H ∧ n ≤ 12 ∧ ∀ p H' n' T, Ge s l H H' → H p = none → ArT H' p n' T → OnN n' T → n' ≤ 12 → T.length ≤ 4 → Q (.ref p) H'
end

/-! ## A5 -/

section
variable {P : Program} {w : World} {K : PySem.W.Frag} {mg : Str → Option Value} {base : Heap}
def sp_ren : Sp := fun vs H Q _ => ∃ (a b : Addr) (ns bs : List Int), vs = [.ref a, .ref b] ∧ H a = some (.tup (ns.map V.int)) ∧ H b = some (.tup (bs.map V.int)) ∧ bs.length = ns.length ∧ ns.length ≤ 12 ∧ ns.Perm (rng ns.length) ∧ bs.Perm (rng ns.length) ∧
  ∀ p (rs : List Int) H1 H2, Same H H1 → New H1 p (.tup (rs.map V.int)) H2 → rs.length = ns.length → rs.Perm (rng ns.length) → Q (.ref p) H2
theorem rep0 (n : Nat) : (List.replicate n [V.int 0]).flatten = List.map V.int (List.replicate n 0) := by
  induction n with
  | zero => rfl
  | succ n ih => rw [List.replicate_succ, List.flatten_cons, ih, List.replicate_succ]; rfl
def sp_renJ : Sp := fun vs H Q _ => ∃ (a b : Addr) (ns bs : List Int), vs = [.ref a, .ref b] ∧ H a = some (.tup (ns.map V.int)) ∧ H b = some (.tup (bs.map V.int)) ∧ bs.length = ns.length ∧ ns.length ≤ 12 ∧ ns.Perm (rng ns.length) ∧ bs.Perm (rng ns.length) ∧
  ∀ p (rs : List Int) H1 H2, Same H H1 → New H1 p (.tup (rs.map V.int)) H2 → rs.length = ns.length → rs.Perm (rng ns.length) → jn bs rs = jn ns bs → Q (.ref p) H2
abbrev st_law_renamed : Stmt := topS 42
theorem sc_law_renamed : FnScope ["move", "by", "image", "k"] ["move", "by"] (defScope st_law_renamed) := ⟨rfl, rfl, rfl, by decide +kernel, rfl, by decide +kernel, by decide +kernel⟩
theorem ok_law_renamed (D : Df K mg "_law_renamed" st_law_renamed) (T : NoB mg)  : Cl P w K mg base 1 "_law_renamed" ["move", "by"] sp_renJ := by
  refine cl_of D sc_law_renamed (fun _ _ _ _ _ _ us hl => match us, hl with | [_, _], _ => rfl) (fun vs H Q E h => ?_) (fun f cdv A outer sh H vs Q E hr h => ?_)
  · obtain ⟨_, _, _, _, rfl, _⟩ := h; rfl
  obtain ⟨a, b, ns, bs, rfl, ha, hb, hl, hn, pa, pb, k⟩ := h
  refine ⟨_, (pss_cons (ps_set (i := 2) sc_law_renamed.nd rfl (Or.inl rfl) (pe_op op_rep (pe_lst (pa_cons pe_int pa_nil)) (pe_callB len1 (by rfl) T.no_len (by decide +kernel) (pa_cons (pv 0) pa_nil))))
    (pss_cons (ps_for PassesOwn.never rfl (pi_range1 (by rfl) T.no_range (pa_cons (pe_callB len1 (by rfl) T.no_len (by decide +kernel) (pa_cons (pv 0) pa_nil)) pa_nil)) (pg_name (i := 3) sc_law_renamed.nd rfl (Or.inl rfl)) (pss_one (ps_asg (pe_ix ix1 (pv 1) (pe_ix ix1 (pv 0) (pv 3) (fun _ _ => rfl)) (fun _ _ => rfl)) (pg_sub (pv 2) (pe_ix ix1 (pv 1) (pv 3) (fun _ _ => rfl)) set_list))))
    (pss_one (ps_ret (pe_callTy tup1 (by rfl) T.no_tuple (by decide +kernel) (pa_cons (pv 2) pa_nil)))))), ?_⟩
  have qa := sq_t ha
  have qb := sq_t hb
  rw [a_seq]
  walk_at "wn"
  have hla : (ns.map V.int).length = ns.length := List.length_map _
  refine ⟨szl (by decide), fun p0 H1 n1 => ⟨_, sq_t (n1.k ha), _, n1.at_, by omega, by omega, by rw [sizeLine_eq]; simp; omega, fun q H2 n2 => ?_⟩⟩
  have s2 := n1.same.trans n2.same
  have qa2 := sq_t (s2 _ _ ha)
  have qb2 := sq_t (s2 _ _ hb)
  dsimp only
  rw [a_seq]
  walk_at "wn"
  have hq : H q = none := n1.same.free n2.fr
  refine ⟨_, qa2, by omega, by omega, fr_by (fun i σ H' => Same H H' ∧ ∃ v cs, σ = [some (V.ref a), some (V.ref b), some (V.ref q), v] ∧ H' q = some (.lst (List.map V.int cs)) ∧ cs.length = ns.length ∧ ∀ (k : Nat) (x y z : Int), k < i → bs[k]? = some x → ns[k]? = some y → bs[y.toNat]? = some z → cs[x.toNat]? = some z)
    ⟨s2, _, List.replicate ns.length 0, rfl, by rw [n2.at_, hla, rep0]; rfl, by simp, fun k _ _ _ hk => by omega⟩ ?_ ?_⟩
  · rintro i _ H3 N hN hi ⟨s3, v, cs, rfl, e3, hc, inv⟩
    have qa3 := sq_t (s3 _ _ ha)
    have qb3 := sq_t (s3 _ _ hb)
    have hi' : i < ns.length := by rw [hla] at hi; omega
    walk_at "wn"
    obtain ⟨y0, hy0⟩ : ∃ y, ns[i]? = some y := ⟨_, List.getElem?_eq_getElem hi'⟩
    have my := mem_rng.mp (pa.mem_iff.mp (List.mem_of_getElem? hy0))
    obtain ⟨x0, hx0⟩ : ∃ y, bs[i]? = some y := ⟨_, List.getElem?_eq_getElem (by omega)⟩
    have mx := mem_rng.mp (pb.mem_iff.mp (List.mem_of_getElem? hx0))
    obtain ⟨z0, hz0⟩ : ∃ y, bs[y0.toNat]? = some y := ⟨_, List.getElem?_eq_getElem (by omega)⟩
    refine ⟨_, qa3, .int y0, atI_of (by omega) (by simp [hy0]), ?_⟩
    walk_at "wn"
    refine ⟨_, qb3, .int z0, atI_of my.1 (by simp [hz0]), _, qb3, .int x0, atI_of (by omega) (by simp [hx0]), ?_⟩
    walk_at "wn"
    refine ⟨_, e3, x0.toNat, ixN_of mx.1 (by rw [List.length_map]; omega), fun H4 p4 => hN _ _ ⟨fun b o h => p4.k (ne_of_none h hq) (s3 b o h), _, cs.set x0.toNat z0, rfl, by rw [p4.at_, List.map_set], by simp [hc], fun k x y z hk e1 e2 e3 => ?_⟩⟩
    by_cases hki : k = i
    · subst hki
      rw [hx0] at e1
      rw [hy0] at e2
      cases e1
      cases e2
      rw [hz0] at e3
      cases e3
      rw [List.getElem?_set_self (by omega)]
    · have hne : x0.toNat ≠ x.toNat := fun z2 => hki (by
        have nd : bs.Nodup := pb.nodup_iff.mpr (rng_nodup _)
        have mx2 := mem_rng.mp (pb.mem_iff.mp (List.mem_of_getElem? e1))
        have ex : x0 = x := by omega
        subst ex
        exact (List.getElem?_inj (by have := (List.getElem?_eq_some_iff.mp e1).1; omega) nd).mp (e1.trans hx0.symm))
      rw [List.getElem?_set_ne hne]
      exact inv k x y z (by omega) e1 e2 e3
  · rintro _ H3 ⟨s3, v, cs, rfl, e3, hc, inv⟩
    walk_at "wn"
    rw [hla] at inv
    refine ⟨_, e3, fun p H4 n4 => k p cs H3 H4 s3 n4 hc ?_ ?_⟩
    rotate_left
    · show bs.map (im cs) = ns.map (im bs)
      apply List.ext_getElem?
      intro j
      by_cases hj : j < ns.length
      · have hj2 : j < bs.length := by omega
        have my := mem_rng.mp (pa.mem_iff.mp (List.getElem_mem hj))
        have mx := mem_rng.mp (pb.mem_iff.mp (List.getElem_mem hj2))
        have hz1 : (ns[j]).toNat < bs.length := by omega
        obtain ⟨z0, hz0⟩ : ∃ y, bs[(ns[j]).toNat]? = some y := ⟨_, List.getElem?_eq_getElem hz1⟩
        have h5 := inv j bs[j] ns[j] z0 hj (List.getElem?_eq_getElem hj2) (List.getElem?_eq_getElem hj) hz0
        rw [List.getElem?_map, List.getElem?_map, List.getElem?_eq_getElem hj2, List.getElem?_eq_getElem hj, Option.map_some, Option.map_some]
        unfold im
        rw [h5, hz0]
      · rw [List.getElem?_eq_none (by simp; omega), List.getElem?_eq_none (by simp; omega)]
    refine sub_perm (rng_nodup _) (fun z hz => ?_) (by rw [rng_len, hc]; exact Nat.le_refl _)
    obtain ⟨j, hj⟩ := List.mem_iff_getElem?.mp (pb.mem_iff.mpr hz)
    have hjl : j < ns.length := by have := (List.getElem?_eq_some_iff.mp hj).1; omega
    obtain ⟨k0, hk0⟩ := List.mem_iff_getElem?.mp (pa.mem_iff.mpr (mem_rng.mpr ⟨Int.natCast_nonneg j, by omega⟩))
    have hkl : k0 < ns.length := (List.getElem?_eq_some_iff.mp hk0).1
    obtain ⟨x0, hx0⟩ : ∃ y, bs[k0]? = some y := ⟨_, List.getElem?_eq_getElem (by omega)⟩
    exact List.mem_of_getElem? (inv k0 x0 j z hkl hx0 hk0 (by simpa using hj))
/-- a world drawn: points, told moves, made moves -/
structure Arena (H : Hp) (p t u : Addr) (ws us : List Addr) (n : Nat) (T M : List (List Int)) : Prop where
  at_ : H p = some (.lst [.int n, .ref t, .ref u])
  told : H t = some (.lst (ws.map V.ref))
  made : H u = some (.lst (us.map V.ref))
  tw : TLs H ws T
  tu : TLs H us M
  on : OnN n T
  md : Made n T M
  hn : n ≤ 12
  hT : T.length ≤ 8
  hM : M.length ≤ 400
  ne : t ≠ u
def sp_arena : Sp := fun vs H Q _ => ∃ (s l : Addr), vs = [.ref s] ∧ Sto s l H ∧ ∀ p t u ws us n T M H', Ge s l H H' → H p = none → H t = none → H u = none → Arena H' p t u ws us n T M → Q (.ref p) H'
end

/-! ## B1 -/
local macro_rules | `(tactic| walk_at "wp") => `(tactic| (try simp only [a_var, a_c, a_op, a_un, a_test, a_b, a_and, a_or, a_not, a_andV, a_orV, a_notV, a_if, a_next, a_seq, a_break, a_cont, a_drop, a_ret, a_retN, a_ifS, a_asg, a_name, a_sub, a_nil, a_cons, a_tup, a_lst, a_call, a_cb, a_bm0, a_bm, a_sl, a_nopart, a_part, a_aug, b_rI, b_rI0, b_rU, b_eq, b_ne, b_isTF, b_int, b_intb, b_list, b_tuple, b_ix, b_len, b_setL, b_app, b_pop, b_popAt, b_sl, b_rep, b_cat, b_lstRg, b_tupRg, b_rg1, b_rg2, a_forR, a_forR2, a_forS, b_fsq, a_lcR, a_lcR2, a_lcS, b_csq, wipe_nil, wipe_cons, a_yes, wh_i, wh_s, wh_b, wh_r, wh_n, Bool.not_eq_true, eq_self, not_true_eq_false, not_false_eq_true, b_isi, kb_all, ty_non, ty_bl, ty_int, ty_str, a_m1, b_ixS, b_slS, List.cons.injEq, and_assoc, exists_and_left, cxK, List.getElem?_cons_zero, List.getElem?_cons_succ, List.set_cons_zero, List.set_cons_succ, Option.some.injEq, exists_eq_left', exists_eq_left, V.bl.injEq, V.int.injEq, V.ref.injEq, V.str.injEq, HO.lst.injEq, HO.tup.injEq, decide_eq_true_eq, true_and, and_true, L2.start, List.map_cons, List.map_nil, List.length_cons, List.length_nil, Nat.zero_add, Nat.reduceAdd, Nat.reduceSub, List.replicate_succ, List.replicate_zero, List.cons_append, List.nil_append, if_true, if_false, Bool.false_eq_true, Bool.not_true, Bool.not_false, decide_not, Bool.not_eq_true', decide_eq_false_iff_not, scal_ii, scal_bb, scal_ss, scal_is, scal_si, reduceCtorEq, Bool.true_eq_false, decide_false, decide_true, if_pos, ne_eq, Int.reduceNeg, atI_0, atI_1, atI_2, atI_3, atI_4, atI_5, atI_6, ixN_7, b_ins, a_revL, b_isT, V.ty.injEq, Bool.true_or, Bool.or_true, Bool.false_or, Bool.or_false, Bool.or_self, b_sorted, b_repT, a_err, a_callS, a_xp, a_isP, a_lcE, a_forE, a_isV, a_lcH, a_ch, a_forES, a_lcG, a_dnotin, a_din, b_setD, a_disp1]))
local macro_rules | `(tactic| walk_at "wps") => `(tactic| (try simp only [a_var, a_c, a_op, a_un, a_test, a_b, a_and, a_or, a_not, a_andV, a_orV, a_notV, a_if, a_next, a_seq, a_break, a_cont, a_drop, a_ret, a_retN, a_ifS, a_asg, a_name, a_sub, a_nil, a_cons, a_tup, a_lst, a_call, a_cb, a_bm0, a_bm, a_sl, a_nopart, a_part, a_aug, b_rI, b_rI0, b_rU, b_eq, b_ne, b_isTF, b_int, b_intb, b_list, b_tuple, b_ix, b_len, b_setL, b_app, b_pop, b_popAt, b_sl, b_rep, b_cat, b_lstRg, b_tupRg, b_rg1, b_rg2, a_forR, a_forR2, a_forS, b_fsq, a_lcR, a_lcR2, a_lcS, b_csq, wipe_nil, wipe_cons, a_yes, wh_i, wh_s, wh_b, wh_r, wh_n, Bool.not_eq_true, eq_self, not_true_eq_false, not_false_eq_true, b_isi, kb_all, ty_non, ty_bl, ty_int, ty_str, a_m1, b_ixS, b_slS, List.cons.injEq, and_assoc, exists_and_left, cxK, List.getElem?_cons_zero, List.getElem?_cons_succ, List.set_cons_zero, List.set_cons_succ, Option.some.injEq, exists_eq_left', exists_eq_left, V.bl.injEq, V.int.injEq, V.ref.injEq, V.str.injEq, HO.lst.injEq, HO.tup.injEq, decide_eq_true_eq, true_and, and_true, L2.start, List.map_cons, List.map_nil, List.length_cons, List.length_nil, Nat.zero_add, Nat.reduceAdd, Nat.reduceSub, List.replicate_succ, List.replicate_zero, List.cons_append, List.nil_append, if_true, if_false, Bool.false_eq_true, Bool.not_true, Bool.not_false, decide_not, Bool.not_eq_true', decide_eq_false_iff_not, scal_ii, scal_bb, scal_ss, scal_is, scal_si, reduceCtorEq, Bool.true_eq_false, decide_false, decide_true, if_pos, ne_eq, Int.reduceNeg, atI_0, atI_1, atI_2, atI_3, atI_4, atI_5, atI_6, ixN_7, b_ins, a_revL, b_isT, V.ty.injEq, Bool.true_or, Bool.or_true, Bool.false_or, Bool.or_false, Bool.or_self, b_sorted, b_repT, a_err, a_callS, a_xp, a_isP, a_lcE, a_forE, a_isV, a_lcH, a_ch, a_forES, a_lcG, a_dnotin, a_din, b_setD, a_disp1, *]))
local macro_rules | `(tactic| walk_at "wq") => `(tactic| (try simp only [a_var, a_c, a_op, a_un, a_test, a_b, a_and, a_or, a_not, a_andV, a_orV, a_notV, a_if, a_next, a_break, a_cont, a_drop, a_ret, a_retN, a_ifS, a_asg, a_name, a_sub, a_nil, a_cons, a_tup, a_lst, a_call, a_cb, a_bm0, a_bm, a_sl, a_nopart, a_part, a_aug, b_rI, b_rI0, b_rU, b_eq, b_ne, b_isTF, b_int, b_intb, b_list, b_tuple, b_ix, b_len, b_setL, b_app, b_pop, b_popAt, b_sl, b_rep, b_cat, b_lstRg, b_tupRg, b_rg1, b_rg2, a_forR, a_forR2, a_forS, b_fsq, a_lcR, a_lcR2, a_lcS, b_csq, wipe_nil, wipe_cons, a_yes, wh_i, wh_s, wh_b, wh_r, wh_n, Bool.not_eq_true, eq_self, not_true_eq_false, not_false_eq_true, b_isi, kb_all, ty_non, ty_bl, ty_int, ty_str, a_m1, b_ixS, b_slS, List.cons.injEq, and_assoc, exists_and_left, cxK, List.getElem?_cons_zero, List.getElem?_cons_succ, List.set_cons_zero, List.set_cons_succ, Option.some.injEq, exists_eq_left', exists_eq_left, V.bl.injEq, V.int.injEq, V.ref.injEq, V.str.injEq, HO.lst.injEq, HO.tup.injEq, decide_eq_true_eq, true_and, and_true, L2.start, List.map_cons, List.map_nil, List.length_cons, List.length_nil, Nat.zero_add, Nat.reduceAdd, Nat.reduceSub, List.replicate_succ, List.replicate_zero, List.cons_append, List.nil_append, if_true, if_false, Bool.false_eq_true, Bool.not_true, Bool.not_false, decide_not, Bool.not_eq_true', decide_eq_false_iff_not, scal_ii, scal_bb, scal_ss, scal_is, scal_si, reduceCtorEq, Bool.true_eq_false, decide_false, decide_true, if_pos, ne_eq, Int.reduceNeg, atI_0, atI_1, atI_2, atI_3, atI_4, atI_5, atI_6, ixN_7, b_ins, a_revL, b_isT, V.ty.injEq, Bool.true_or, Bool.or_true, Bool.false_or, Bool.or_false, Bool.or_self, b_sorted, b_repT, a_err, a_callS, a_xp, a_isP, a_lcE, a_forE, a_isV, a_lcH, a_ch, a_forES, a_lcG, a_dnotin, a_din, b_setD, a_disp1, *]))
local macro_rules | `(tactic| walk_at "wn") => `(tactic| (try simp only [a_var, a_c, a_op, a_un, a_test, a_b, a_and, a_or, a_not, a_andV, a_orV, a_notV, a_if, a_next, a_break, a_cont, a_drop, a_ret, a_retN, a_ifS, a_asg, a_name, a_sub, a_nil, a_cons, a_tup, a_lst, a_call, a_cb, a_bm0, a_bm, a_sl, a_nopart, a_part, a_aug, b_rI, b_rI0, b_rU, b_eq, b_ne, b_isTF, b_int, b_intb, b_list, b_tuple, b_ix, b_len, b_setL, b_app, b_pop, b_popAt, b_sl, b_rep, b_cat, b_lstRg, b_tupRg, b_rg1, b_rg2, a_forR, a_forR2, a_forS, b_fsq, a_lcR, a_lcR2, a_lcS, b_csq, wipe_nil, wipe_cons, a_yes, wh_i, wh_s, wh_b, wh_r, wh_n, Bool.not_eq_true, eq_self, not_true_eq_false, not_false_eq_true, b_isi, kb_all, ty_non, ty_bl, ty_int, ty_str, a_m1, b_ixS, b_slS, List.cons.injEq, and_assoc, exists_and_left, cxK, List.getElem?_cons_zero, List.getElem?_cons_succ, List.set_cons_zero, List.set_cons_succ, Option.some.injEq, exists_eq_left', exists_eq_left, V.bl.injEq, V.int.injEq, V.ref.injEq, V.str.injEq, HO.lst.injEq, HO.tup.injEq, decide_eq_true_eq, true_and, and_true, L2.start, List.map_cons, List.map_nil, List.length_cons, List.length_nil, Nat.zero_add, Nat.reduceAdd, Nat.reduceSub, List.replicate_succ, List.replicate_zero, List.cons_append, List.nil_append, if_true, if_false, Bool.false_eq_true, Bool.not_true, Bool.not_false, decide_not, Bool.not_eq_true', decide_eq_false_iff_not, scal_ii, scal_bb, scal_ss, scal_is, scal_si, reduceCtorEq, Bool.true_eq_false, decide_false, decide_true, if_pos, ne_eq, Int.reduceNeg, atI_0, atI_1, atI_2, atI_3, atI_4, atI_5, atI_6, ixN_7, b_ins, a_revL, b_isT, V.ty.injEq, Bool.true_or, Bool.or_true, Bool.false_or, Bool.or_false, Bool.or_self, b_sorted, b_repT, a_err, a_callS, a_xp, a_isP, a_lcE, a_forE, a_isV, a_lcH, a_ch, a_forES, a_lcG, a_dnotin, a_din, b_setD, a_disp1]))
local macro_rules | `(tactic| walk_at "sq") => `(tactic| ((try dsimp only); rw [a_seq]; walk_at "wq"))
local macro_rules | `(tactic| walk_at "sn") => `(tactic| ((try dsimp only); rw [a_seq]; walk_at "wn"))

section
variable {P : Program} {w : World} {K : PySem.W.Frag} {mg : Str → Option Value} {base : Heap}
abbrev stis_whole_worlds : Stmt := topS 17
theorem scis_whole_worlds : FnScope ["value"] ["value"] (defScope stis_whole_worlds) := ⟨rfl, rfl, rfl, by decide +kernel, rfl, by decide +kernel, by decide +kernel⟩
theorem okis_whole_worlds (D : DfA K mg "is_whole_worlds" "is_whole" stis_whole_worlds) (T : NoB mg)  : Cl P w K mg base 1 "is_whole_worlds" ["value"] sp_isw := by
  refine cl_ofA D scis_whole_worlds (fun _ _ _ _ _ _ us hl => match us, hl with | [_], _ => rfl) (fun vs H Q E h => ?_) (fun f cdv A outer sh H vs Q E hr h => ?_)
  · obtain ⟨_, _, _, _, rfl, _⟩ := h; rfl
  obtain ⟨v, d, n, E, rfl, hv, k⟩ := h
  refine ⟨_, (pss_one (ps_ret (pe_and (pe_callB isi1 (by rfl) T.no_isinstance (by decide +kernel) (pa_cons (pv 0) (pa_cons (pe_bltn (by rfl) T.no_int (by decide +kernel) (show RelV (.ty "int") _ from rfl)) pa_nil))) (pe_one (pe_not (pe_callB isi1 (by rfl) T.no_isinstance (by decide +kernel) (pa_cons (pv 0) (pa_cons (pe_bltn (by rfl) T.no_bool (by decide +kernel) (show RelV (.ty "bool") _ from rfl)) pa_nil)))))))), ?_⟩
  cases hv with
  | lf l => cases l <;> (walk_at "wps"; exact k)
  | lst ne h a =>
    have ht := ty_l h
    walk_at "wps"
    exact k
  | tup ne h a =>
    have ht := ty_t h
    walk_at "wps"
    exact k
def sp_mvon : Sp := fun vs H Q _ => ∃ (n : Nat) (v : V) (E : List Addr) (d : PyData) (m : Nat), vs = [.int n, v] ∧ Dw E H v d m ∧ ∀ H', Same H H' → Q (.bl (mvOn n d)) H'
abbrev stis_move_on : Stmt := topS 19
theorem scis_move_on : FnScope ["points", "value"] ["points", "value"] (defScope stis_move_on) := ⟨rfl, rfl, rfl, by decide +kernel, rfl, by decide +kernel, by decide +kernel⟩
theorem okis_move_on (D : Df K mg "is_move_on" stis_move_on) (T : NoB mg) (Cis_move : Cl P w K mg base 2 "is_move" ["value"] sp_is_move) : Cl P w K mg base 3 "is_move_on" ["points", "value"] sp_mvon := by
  refine cl_of D scis_move_on (fun _ _ _ _ _ _ us hl => match us, hl with | [_, _], _ => rfl) (fun vs H Q E h => ?_) (fun f cdv A outer sh H vs Q E hr h => ?_)
  · obtain ⟨_, _, _, _, _, rfl, _⟩ := h; rfl
  obtain ⟨n, v, E', d, m, rfl, hv, k⟩ := h
  refine ⟨_, (pss_one (ps_ret (pe_and (pe_cl Cis_move hr (by rfl) (pa_cons (pv 1) pa_nil)) (pe_one (pe_cmpR op_eq (pe_callB len1 (by rfl) T.no_len (by decide +kernel) (pa_cons (pv 1) pa_nil)) (pv 0) (nomark _)))))), ?_⟩
  walk_at "wn"
  refine ⟨v, E', d, m, rfl, hv, fun H1 s1 => ⟨_, rfl, ?_⟩⟩
  unfold mvOn at k
  by_cases hm : isMoveD d = true
  · rw [if_pos hm]
    obtain ⟨a, ns, rfl, eh, ed, hl, hp, ne⟩ := move_at hm (hv.same s1)
    walk_at "wn"
    refine ⟨_, sq_t eh, ?_⟩
    have hd : dLen d = ns.length := by rw [ed]; show (ns.map PyData.int).length = _; rw [List.length_map]
    have := k H1 s1
    rw [hm, hd, Bool.true_and] at this
    have e : (ns.length == n) = decide (((ns.map V.int).length : Int) = (n : Int)) := by
      rw [Bool.eq_iff_iff, beq_iff_eq, decide_eq_true_eq, List.length_map]; omega
    rw [e] at this
    exact this
  · rw [if_neg hm]
    have := k H1 s1
    rw [(by simpa using hm : isMoveD d = false), Bool.false_and] at this
    exact this
abbrev stneed_points : Stmt := topS 20
theorem scneed_points : FnScope ["value"] ["value"] (defScope stneed_points) := ⟨rfl, rfl, rfl, by decide +kernel, rfl, by decide +kernel, by decide +kernel⟩
theorem okneed_points (D : Df K mg "need_points" stneed_points) (T : NoB mg) (Cis_whole_worlds : Cl P w K mg base 1 "is_whole_worlds" ["value"] sp_isw) {tkp : Tok} (G_MOST_POINTS : mg "MOST_POINTS" = some (.int 12 tkp)) (Er_BadNumber : ErT_BadNumber P w K mg base): ClX P w K mg base 4 "need_points" ["value"] (sp_points K) := by
  refine clX_of D scneed_points (fun _ _ _ _ _ _ us hl => match us, hl with | [_], _ => rfl) (fun vs H Q E h => ?_) (fun f cdv A outer sh H vs Q E hr tk h => ?_)
  · obtain ⟨_, _, _, _, rfl, _⟩ := h; rfl
  obtain ⟨v, E', d, n, rfl, hv, hs, k1, k2⟩ := h
  refine ⟨_, (pss_one (ps_if (PW.pt (pw_or (pt_not (pt_val (pe_cl Cis_whole_worlds hr (by rfl) (pa_cons (pv 0) pa_nil)))) (pw_or (pt_cmpR op_lt (pv 0) pe_int (nomark _)) (pw_or1 (pt_cmpR op_gt (pv 0) (pe_glob (by rfl) G_MOST_POINTS (show RelV (.int 12) _ from ⟨_, rfl⟩)) (nomark _)))))) (pss_one (L2N.ps_raise rfl tk (pmk_err Er_BadNumber hr (by rfl) (pa_cons (pv 0) (pa_cons pe_int (pa_cons (pe_glob (by rfl) G_MOST_POINTS (show RelV (.int 12) _ from ⟨_, rfl⟩)) pa_nil)))))) pss_nil)), ?_⟩
  have bad : numOk v 0 12 = false → ∀ d2 H2, New H d2 (.xd [("high", .int 12), ("low", .int 0), ("value", v)]) H2 → E (.ref (He.ga K "BadNumber")) (some d2) H2 := fun e d2 H2 n2 => k2 e d2 H H2 (Same.refl _) n2
  have ok : okP [0, 0, 0] [v, .int 0, .int 12] H := ⟨dw_show hv hs, .inl ⟨0, rfl, by decide⟩, .inl ⟨12, rfl, by decide⟩, trivial⟩
  walk_at "wn"
  refine ⟨v, d, n, E', rfl, hv, ?_⟩
  by_cases hw : isWh v = true
  · obtain ⟨i, rfl⟩ := isWh_int hw
    rw [hw]
    walk_at "wn"
    by_cases c1 : i < 0
    · walk_at "wps"
      exact fun d2 H2 n2 => bad (by simp [numOk]; omega) d2 H2 n2
    by_cases c2 : 12 < i
    · walk_at "wps"
      exact fun d2 H2 n2 => bad (by simp [numOk]; omega) d2 H2 n2
    · walk_at "wps"
      exact k1 (by simp [numOk]; omega)
  · have hf : isWh v = false := by simpa using hw
    rw [hf]
    walk_at "wn"
    refine ⟨ok, fun d2 H2 n2 => bad (by cases v <;> first | rfl | exact absurd rfl hw) d2 H2 n2⟩
abbrev stneed_moves : Stmt := topS 21
theorem scneed_moves : FnScope ["points", "moves", "what", "limit", "index", "move"] ["points", "moves", "what", "limit"] (defScope stneed_moves) := ⟨rfl, rfl, rfl, by decide +kernel, rfl, by decide +kernel, by decide +kernel⟩
theorem okneed_moves (D : Df K mg "need_moves" stneed_moves) (T : NoB mg) (Cis_move_on : Cl P w K mg base 3 "is_move_on" ["points", "value"] sp_mvon) (Er_TooMany : ErT_TooMany P w K mg base) (Er_NotAMove : ErT_NotAMove P w K mg base): ClX P w K mg base 4 "need_moves" ["points", "moves", "what", "limit"] (sp_chks K) := by
  refine clX_of D scneed_moves (fun _ _ _ _ _ _ us hl => match us, hl with | [_, _, _, _], _ => rfl) (fun vs H Q E h => ?_) (fun f cdv A outer sh H vs Q E hr tk h => ?_)
  · obtain ⟨_, _, _, _, _, _, _, _, rfl, _⟩ := h; rfl
  obtain ⟨n, p, z, lim, xs, E', ds, m, rfl, hz, hlm, hq, hd, k⟩ := h
  refine ⟨_, (pss_cons (ps_if (pt_cmpR op_gt (pe_callB len1 (by rfl) T.no_len (by decide +kernel) (pa_cons (pv 1) pa_nil)) (pv 3) (nomark _)) (pss_one (L2N.ps_raise rfl tk (pmk_err Er_TooMany hr (by rfl) (pa_cons (pv 2) (pa_cons (pv 3) pa_nil))))) pss_nil)
    (pss_one (ps_for (passes_of rfl) rfl (pi_enumS (by rfl) T.no_enumerate (pa_cons (pv 1) pa_nil)) (pg_tup rfl (pgs_cons (pg_name (i := 4) scneed_moves.nd rfl (Or.inl rfl)) (pgs_cons (pg_name (i := 5) scneed_moves.nd rfl (Or.inl rfl)) pgs_nil))) (pss_one (ps_if (pt_not (pt_val (pe_cl Cis_move_on hr (by rfl) (pa_cons (pv 0) (pa_cons (pv 5) pa_nil))))) (pss_one (L2N.ps_raise rfl tk (pmk_err Er_NotAMove hr (by rfl) (pa_cons (pv 4) pa_nil)))) pss_nil))))), ?_⟩
  have hlen := hd.len.1
  walk_at "sn"
  refine ⟨_, hq, ?_⟩
  unfold cmFlt at k
  by_cases c : lim < ds.length
  · rw [if_pos c] at k
    rw [if_pos (by omega)]
    exact ⟨⟨⟨z, rfl, hz⟩, .inl ⟨lim, rfl, log_sm (Nat.lt_of_le_of_lt (show (lim : Int).natAbs ≤ 10000 by omega) (by decide))⟩, trivial⟩, fun d2 H2 n2 => k d2 H H2 (Same.refl _) n2⟩
  rw [if_neg c] at k
  rw [if_neg (by omega)]
  walk_at "wn"
  refine fes_by (i1 := 4) (i2 := 5) hq (fun j σ H' => Same H H' ∧ (∃ v4 v5, σ = [some (.int n), some (.ref p), some (.str z), some (.int lim), v4, v5]) ∧ mvFlt n 0 ds = mvFlt n j (ds.drop j)) ⟨Same.refl _, ⟨_, _, rfl⟩, rfl⟩ (fun j σ' H' f o ho => f.1 _ _ ho) ?_ ?_
  · rintro j x _ H1 N T H2 hN hx ⟨s1, ⟨v4, v5, rfl⟩, e⟩ n2
    obtain ⟨d, m', hdj, hdx, _⟩ := hd.get hx
    have hdr : ds.drop j = d :: ds.drop (j + 1) := by
      obtain ⟨a1, a2⟩ := List.getElem?_eq_some_iff.mp hdj
      rw [← a2]
      exact List.drop_eq_getElem_cons a1
    have hjl := (List.getElem?_eq_some_iff.mp hdj).1
    have s2 := s1.trans n2.same
    have hsm : (j : Int).natAbs.log2 < 1920 := log_sm (Nat.lt_of_le_of_lt (show (j : Int).natAbs ≤ 10000 by omega) (by decide))
    rw [hdr, show mvFlt n j (d :: ds.drop (j + 1)) = (if mvOn n d = true then mvFlt n (j + 1) (ds.drop (j + 1)) else some (.mv j)) from rfl] at e
    walk_at "wn"
    refine ⟨n, x, E', d, m', rfl, hdx.same s2, fun H3 s3 => ?_⟩
    have s23 := s2.trans s3
    cases hon : mvOn n d with
    | true =>
      rw [if_pos hon] at e
      walk_at "wn"
      exact hN _ _ ⟨s23, ⟨_, _, rfl⟩, e⟩
    | false =>
      have bad : Raises K (.mv j) H E := by
        rw [e, hon] at k
        exact k
      walk_at "wn"
      exact ⟨⟨.inl ⟨j, rfl, hsm⟩, trivial⟩, fun d2 H4 n4 => bad d2 H3 H4 s23 n4⟩
  · rintro _ H1 ⟨s1, ⟨v4, v5, rfl⟩, e⟩
    rw [hlen, List.drop_length] at e
    rw [e] at k
    exact k H1 s1
/-- the points that every move holds -/
def cmh (n : Nat) (mss : List (List Int)) : List Int := (rng n).filter fun p => mss.all fun m => decide (im m p = p)
def sp_common (K : PySem.W.Frag) : Sp := fun vs H Q Er => ∃ (v : V) (p : Addr) (dv : PyData) (nv : Nat) (xs : List V) (E : List Addr) (ds : List PyData) (m : Nat), vs = [v, .ref p] ∧ Dw E H v dv nv ∧ Sm v ∧ sq H p = some xs ∧ DwAll E H xs ds m ∧ xs.length ≤ 10000 ∧
  (numOk v 0 12 = false → Raises K (.num v 0 12) H Er) ∧ (∀ n : Nat, v = .int n → n ≤ 12 → Ans K (cmFlt n ds "list" 400) H Er (∀ mss, MvL H n xs mss → ∀ q H', Same H H' → H q = none → H' q = some (.tup ((cmh n mss).map V.int)) → Q (.ref q) H'))
end

/-! ## HoQ -/
section
variable {X : Cx}
theorem pe_clXK0 {j k : Nat} {x : Str} {ps : List Str} {sp : Sp} {ks : List Str} {p pos : Pos} {kws : List Keyword} {t2 : TA} (C : ClXK X.prog X.w X.K X.mg X.base j x ps 0 ks sp) (hr : Room k X.A) (hg : Gl X x) (hkw : PK X kws t2) (hjk : j ≤ k := by decide)
    (hall : (backToKw pos (keywordEach kws X.env)).all (·.1.isSome) = true := by rfl) (hks : (backToKw pos (keywordEach kws X.env)).filterMap (·.1) = ks := by rfl)
    (hdb : (x == ("__debug__" : Str)) = false := by decide)
    (hpl : ((backTo pos (starEach [] X.env)).any (·.1) || (backToKw pos (keywordEach kws X.env)).any (·.1.isNone)) = false := by rfl) :
    PE X (.Call (.Name x p) [] kws pos) (fun σ H Q => t2 σ H fun zs H2 => zs.length = ks.length ∧ sp zs H2 Q (fun _ _ _ => False)) := by
  obtain ⟨f, fd, a, b, c, d⟩ := C
  refine ⟨fun pins s σ H Q I h => ?_⟩
  refine wpAny_Call_Name_kw (ld_glob I hg a ?_ hdb)
  refine PySem.W.callWith_KW0 (h₀ := X.base) I.ok.mod.kin b hall ?_ hpl
  refine thn (hkw.run pos pins s σ H _ I h) fun ws s2 ⟨zs, H2, I2, rz, l2, q2⟩ => ⟨I2.kIn, ?_⟩
  rw [hks]
  exact run_fnN (us := []) (vs := []) (d.mono hjk) hr c (fun pins σ H s e s' I c => L2N.passAt (W := fun _ _ _ _ => False) takesN0 σ pins H s e s' I c) I2 .nil rz rfl l2 q2
def qTupA : List V → Hp → VK → Prop := fun xs H Q => ∃ p ys, xs = [.ref p] ∧ sq H p = some ys ∧ ∀ u H', Same H H' → H' u = some (.tup ys) → Q (.ref u) H'
theorem tupA1 : CallR X (.type "tuple") qTupA := CallR_imp call_tuple_of fun xs H Q h => by
  obtain ⟨p, ys, rfl, hq, k⟩ := h
  rcases sq_or hq with e | e
  · exact ⟨p, ys, rfl, .inl ⟨SqL.of e, fun l hl => k l _ (New.mk' hl).same upd_same⟩⟩
  · exact ⟨p, ys, rfl, .inr ⟨SqT.of e, k p H (Same.refl _) e⟩⟩
end
theorem b_tupA {p : Addr} {H : Hp} {Q : VK} : qTupA [.ref p] H Q = ∃ ys, sq H p = some ys ∧ ∀ u H', Same H H' → H' u = some (.tup ys) → Q (.ref u) H' := by
  unfold qTupA; apply propext; constructor
  · rintro ⟨q, ys, e, h⟩; cases e; exact ⟨ys, h⟩
  · rintro ⟨ys, h⟩; exact ⟨p, ys, rfl, h⟩

/-! ## HoT -/
section
open HotX L2H
variable {X : Cx}
/-- [e for y in l if c], the iterator J; Pv i: what holds behind i of m turns -/
def tLcI (wi : TI) (g : TG) (tt : TT) (te : TE) (vs : List Nat) : TE := fun σ H Q => wi σ H fun J H1 => ∀ D, H1 D = none → ∃ (Pv : Nat → Hp → Prop) (m : Nat), Pv 0 (upd H1 D (.lst [])) ∧
  (∀ i H2, Pv i H2 → i < m → J.go i H2 ∧ ∀ x H3, J.yld i H2 x H3 → g x (wipe σ vs) H3 fun σ2 H4 => wipe σ2 vs = wipe σ vs ∧ tt σ2 H4 fun b H5 => if b = true then te σ2 H5 fun z H6 => CSt D (Pv (i + 1)) z H6 else Pv (i + 1) H5) ∧
  ∀ i H2, Pv i H2 → m ≤ i → J.stop i H2 ∧ Q (.ref D) H2
theorem pe_lcI {elt tg l : Expr} {ifs : List Expr} {scope : Scope} {own : List (Str × Nat)} {pos : Pos} {wi : TI} {g : TG} {tt : TT} {te : TE} {p : Addr × Obj} (hot : Hot1 X.A p) (hpn : p ∈ X.pn) (hN : X.N.Nodup) (hl : PIH X tg l wi) (ok : BlkOk X.N X.env.scope scope own)
    (hg : ∀ s H C cl fp, PG (Cx.blkH X s H scope cl C fp p) tg g) (ht : ∀ s H C cl fp, PTs (Cx.blkH X s H scope cl C fp p) ifs tt) (he : ∀ s H C cl fp, PE (Cx.blkH X s H scope cl C fp p) elt te)
    (hs : ∀ x, foldedSetIterable l X.env x = pure x := by intro _; rfl) : PE X (.ListComp elt [⟨tg, l, ifs, 0⟩] scope pos) (tLcI wi g tt te (own.map (·.2))) := by
  refine ⟨fun pins s σ H Q I h => ?_⟩
  rw [eval_ListComp]
  have clo := closure_ok (env := X.env) (scope := scope) (fun y hy e => (ok.free y hy e).elim (fun k => I.ok.has _ (.inl k)) fun k => I.ok.has _ (.inr k))
  refine wpAny_comprehension_free (use := none) rfl hs clo ok.kind (fun y hy e => (ok.uniq y hy).trans (congrArg some e)) (thn (hl.run pins s σ H _ I h) fun v s1 h1 => ?_)
  refine thn h1 fun itv s2 ⟨it, fp, S, J0, H1, ev, I2, T, st2, fit, q⟩ => ?_
  subst ev
  refine wpAny_newObj_type (newEnv_comp ?_) (by show 0 ≤ sizeLine; decide)
  generalize hD : s2.heap.objs.size = D
  have hDn : H1 D = none := I2.hok.fresh (Nat.le_of_eq hD)
  have fpD : ∀ b ∈ fp, b < D := fun b hb => by
    obtain ⟨o, e, _⟩ := T.obj 0 _ st2 b hb
    rw [← hD]
    exact Heap.lt_size e
  obtain ⟨Pv, m, a0, step, fin⟩ := q D hDn
  generalize hs3 : ({ s2 with heap := s2.heap.push { cls := .type "list", data := .seq ([] : List Value).toArray } } : Shared) = s3
  have k3 : ∀ b o, s2.heap.get? b = some o → s3.heap.get? b = some o := fun b o e => by subst hs3; exact Heap.get?_push_of_some _ e
  have I3 : Inv X pins σ (upd H1 D (.lst [])) s3 := by
    subst hs3 hD
    exact I2.laid (t' := s2.toks) (fun b o e => Heap.get?_push_of_some _ e) (Nat.le_refl _) ⟨Nat.zero_le _, [], 0, .nil, Heap.get?_push_size _ rfl⟩
  have n3 : ∀ b ∈ fp, (upd H1 D (.lst [])) b = none := fun b hb => by rw [upd_ne (Nat.ne_of_lt (fpD b hb))]; exact (fit b hb).1
  have fit3 : ∀ b ∈ fp, FpOk X pins (upd H1 D (.lst [])) b := fun b hb => ⟨n3 b hb, (fit b hb).2⟩
  have it3 : ∀ b ∈ fp, b < s3.heap.objs.size := fun b hb => by
    obtain ⟨o, e, _⟩ := T.obj 0 _ st2 b hb
    exact Heap.lt_size (k3 _ _ e)
  have I4 := block_start I3 ok hN (fp := fp) (fun b hb => ⟨fit3 b hb, it3 b hb⟩)
  have P3 := I3.pin p (List.mem_append_left _ hpn)
  have mo : ∀ {o : Obj}, s3.heap.get? p.1 = some o → (pushCells (s3.heap.push { cls := .type "dict", data := .dict #[] }) scope.names).get? p.1 = some o := fun e => pushCells_keeps _ _ _ _ (Heap.get?_push_of_some _ e)
  have I5 := (I4.pins_of (pins' := [p]) (fun b hb => by
    obtain rfl := List.mem_singleton.mp hb
    exact ⟨mo P3.1, P3.2.1, Nat.ne_of_lt (Heap.lt_size P3.1), fun hm => (List.mem_cons.mp (I3.stkSub _ hm)).elim P3.2.2.1 P3.2.2.2.1, P3.2.2.2.2⟩)).toTry (fun _ _ => False)
  have pg := hg s3 (upd H1 D (.lst [])) s3.heap.objs.size (cellsFrom (s3.heap.objs.size + 1) scope.names (cloFrom X.env.cells scope.names [])) fp
  have pt := ht s3 (upd H1 D (.lst [])) s3.heap.objs.size (cellsFrom (s3.heap.objs.size + 1) scope.names (cloFrom X.env.cells scope.names [])) fp
  have pe := he s3 (upd H1 D (.lst [])) s3.heap.objs.size (cellsFrom (s3.heap.objs.size + 1) scope.names (cloFrom X.env.cells scope.names [])) fp
  have I5' : Inv (Cx.blkH X s3 (upd H1 D (.lst [])) scope (cellsFrom (s3.heap.objs.size + 1) scope.names (cloFrom X.env.cells scope.names [])) s3.heap.objs.size fp p) [] (wipe σ (own.map (·.2))) (upd H1 D (.lst [])) { s3 with heap := pushCells (s3.heap.push { cls := .type "dict", data := .dict #[] }) scope.names } := I5
  generalize hB : Cx.blkH X s3 (upd H1 D (.lst [])) scope (cellsFrom (s3.heap.objs.size + 1) scope.names (cloFrom X.env.cells scope.names [])) s3.heap.objs.size fp p = B at pg pt pe I5'
  have hotB : HotC B := by subst hB; exact ⟨p, hot, List.mem_singleton.mpr rfl⟩
  have stB : ∀ {σ' : L2.St} {H' : Hp} {s' : Shared}, Inv B [] σ' H' s' → (∀ b ∈ fp, H' b = none) → ∀ b ∈ fp, FpOk B [] H' b := fun {σ' H' s'} J hn b hb => by
    subst hB
    exact ⟨hn b hb, (J.ok.exf b hb).1, J.ok.exfs b hb, .inl hb, (J.ok.exf b hb).2, fun r hr => by
      obtain rfl := List.mem_singleton.mp (by simpa using hr)
      exact (fit3 b hb).2.2.2.2.2 r (List.mem_append_left _ hpn)⟩
  have st4 : S 0 (pushCells (s3.heap.push { cls := .type "dict", data := .dict #[] }) scope.names) := T.keep 0 _ _ st2 fun b _ o e => pushCells_keeps _ _ _ _ (Heap.get?_push_of_some _ (k3 _ _ e))
  have hpr : B.prog = X.prog := by subst hB; rfl
  have hw : B.w = X.w := by subst hB; rfl
  have hK : B.K = X.K := by subst hB; rfl
  have hA : B.A = X.A := by subst hB; rfl
  have hxe : B.xe = fun _ _ => False := by subst hB; rfl
  have hE : B.env = compEnvC scope (cellsFrom (s3.heap.objs.size + 1) scope.names (cloFrom X.env.cells scope.names [])) s3.heap.objs.size X.env := by subst hB; rfl
  have loop : codeAny (model X.prog X.w) X.A (.compLoop (.ListComp elt [⟨tg, l, ifs, 0⟩] scope pos) 0 (.ref it) (.ref D) (compEnvC scope (cellsFrom (s3.heap.objs.size + 1) scope.names (cloFrom X.env.cells scope.names [])) s3.heap.objs.size X.env)) (compPost (model X.prog X.w) X.A X.xe none (EP X pins σ Q) (.ref D) s3.heap.objs.size) { s3 with heap := pushCells (s3.heap.push { cls := .type "dict", data := .dict #[] }) scope.names } := by
    refine compLoop_any (fun n s' => ∃ i H2, i + n = m ∧ Pv i H2 ∧ (∀ b ∈ fp, H2 b = none) ∧ Inv B [] (wipe σ (own.map (·.2))) H2 s' ∧ S i s'.heap) ?_ m ⟨0, _, by omega, a0, n3, I5', st4⟩
    rintro n s5 ⟨i, H2, hi, pv, hn2, J, st5⟩
    by_cases hlt : i < m
    rotate_left
    · obtain ⟨hstop, hfin⟩ := fin i H2 pv (Nat.le_of_not_lt hlt)
      have td := T.done B hpr hw hK hotB i [] s5 _ _ (fun _ _ => False) J (stB J hn2) st5 hstop
      rw [hA] at td
      refine thnF td fun r s6 ⟨hr, J6⟩ => ?_
      subst hr
      subst hB
      have I7 : Inv X pins σ H2 s6 := I3.call' (ch := fp) J6.os J6.base J6.hok J6.bare fun b hb => ⟨(fit3 b hb).2.2.2.1, (fit3 b hb).2.1, (fit3 b hb).2.2.2.2.1, (fit3 b hb).2.2.2.2.2⟩
      obtain ⟨mm, hn, _⟩ := J6.loc
      have hC : H2 s3.heap.objs.size = none := J6.free
      obtain ⟨f0, f1, f2, f3, f4, f5⟩ := I3.fpOk (Nat.le_refl _) (show (upd H1 D (.lst [])) s3.heap.objs.size = none from I3.hok.fresh (Nat.le_refl _))
      exact ⟨mm, hn, fun h'' sb => ⟨.ref D, _, I7.turned (t' := s6.toks) (fun b o hb e => (sb.2 b hb).trans e) hC f1 f3 f4 f5, rfl, hfin⟩⟩
    · obtain ⟨hgo, stp⟩ := step i H2 pv hlt
      have ti := T.item B hpr hw hK hotB i [] s5 _ _ (fun _ _ => False) J (stB J hn2) st5 hgo
      rw [hA] at ti
      refine thnF ti fun r s6 ⟨u, hr, h6⟩ => ?_
      subst hr
      refine thnF h6 fun _ s7 ⟨x, H7, J7, r7, y7, st7, n7⟩ => ?_
      have J7' := J7.pinned (stB J7 n7) (T.obj _ _ st7)
      have back : ∀ {σ' : L2.St} {s' : Shared} {H' : Hp}, wipe σ' (own.map (·.2)) = wipe σ (own.map (·.2)) → Pv (i + 1) H' → Inv B ([] ++ pinsAt fp s7.heap) σ' H' s' → ∃ n', n' < n ∧ ∃ i H2, i + n' = m ∧ Pv i H2 ∧ (∀ b ∈ fp, H2 b = none) ∧ Inv B [] (wipe σ (own.map (·.2))) H2 s' ∧ S i s'.heap := fun {σ' s' H'} hw' pv' J' => by
        have pin : ∀ b ∈ fp, ∀ o, s7.heap.get? b = some o → s'.heap.get? b = some o ∧ H' b = none := fun b hb o e => by
          have q := J'.pin (b, o) (List.mem_append_right _ (List.mem_append_right _ (mem_pinsAt hb e)))
          exact ⟨q.1, q.2.1⟩
        refine ⟨n - 1, by omega, i + 1, H', by omega, pv', fun b hb => ?_, ?_, T.keep _ _ _ st7 fun b hb o e => (pin b hb o e).1⟩
        · obtain ⟨o7, e7, _⟩ := T.obj _ _ st7 b hb
          exact (pin b hb o7 e7).2
        rw [← hw']
        exact (J'.unpinned (pins := [])).weak (wipe_length _ _) fun j v e => (wipe_some e).1
      have st1 := stp x H7 y7
      have rg := pg.run _ s7 _ _ x u _ J7' r7 st1
      rw [hpr, hw, hA, hxe, hE] at rg
      refine thnF rg fun _ s8 ⟨σ8, H8, J8, hw8, q8⟩ => ?_
      have rt := pt.run _ s8 σ8 H8 _ J8 q8
      rw [hpr, hw, hA, hxe, hE] at rt
      refine thnF rt fun b s9 ⟨H9, J9, q9⟩ => ?_
      cases b with
      | false => exact back hw8 q9 J9
      | true =>
        have re := pe.run _ s9 σ8 H9 _ J9 q9
        rw [hpr, hw, hA, hxe, hE] at re
        refine thnF re fun z s10 ⟨yv, H10, J10, r10, acc, hacc, hz1, q10⟩ => ?_
        have ap := app_ok (X := B) (E := fun _ _ => False) J10 (D := D) (xs := acc) hacc hz1 r10 (Q := fun _ s' => ∃ n', n' < n ∧ ∃ i H2, i + n' = m ∧ Pv i H2 ∧ (∀ b ∈ fp, H2 b = none) ∧ Inv B [] (wipe σ (own.map (·.2))) H2 s' ∧ S i s'.heap) fun s11 J11 => back hw8 q10 J11
        rw [hpr, hw, hA] at ap
        exact thnF ap fun _ _ z => z
  exact codeAny_compStart_list loop (T.self X.A 0 _ _ _ st4 loop)
end
section
variable {σ : L2.St} {H : Hp} {Q : VK} {g : TG} {tt : TT} {te : TE} {vs : List Nat} {ta : TA}
/-- over range(n) -/
def CI (n : Nat) (g : TG) (tt : TT) (te : TE) (vs : List Nat) (σ : L2.St) (H1 : Hp) (Q : VK) : Prop := ∀ D, H1 D = none → ∃ (Pv : Nat → Hp → Prop) (m : Nat), Pv 0 (upd H1 D (.lst [])) ∧
  (∀ i H2, Pv i H2 → i < m → (Itr 0 n).go i H2 ∧ ∀ x H3, (Itr 0 n).yld i H2 x H3 → g x (wipe σ vs) H3 fun σ2 H4 => wipe σ2 vs = wipe σ vs ∧ tt σ2 H4 fun b H5 => if b = true then te σ2 H5 fun z H6 => CSt D (Pv (i + 1)) z H6 else Pv (i + 1) H5) ∧
  ∀ i H2, Pv i H2 → m ≤ i → (Itr 0 n).stop i H2 ∧ Q (.ref D) H2
theorem a_lcI : tLcI (iRng1 ta) g tt te vs σ H Q = ta σ H fun ws H1 => ∃ j : Int, ws = [.int j] ∧ -(2 ^ 62) ≤ j ∧ j < 2 ^ 62 ∧ CI j.toNat g tt te vs σ H1 Q := rfl
theorem ci_by {n : Nat} (Pv : Addr → Nat → List V → Hp → Prop) (h0 : ∀ C H0, New H C (.lst []) H0 → Pv C 0 [] H0)
    (hs : ∀ C i acc H1 N, H C = none → i < n → H1 C = some (.lst acc) → Pv C i acc H1 → (∀ acc' H5, H5 C = some (.lst acc') → Pv C (i + 1) acc' H5 → N H5) → g (.int (0 + i)) (wipe σ vs) H1 fun σ2 H2 => wipe σ2 vs = wipe σ vs ∧ tt σ2 H2 fun b H3 =>
      if b = true then te σ2 H3 fun y H4 => CSt C N y H4 else N H3)
    (hd : ∀ C acc H1, H C = none → H1 C = some (.lst acc) → Pv C n acc H1 → Q (.ref C) H1) : CI n g tt te vs σ H Q := by
  intro C hC
  refine ⟨fun i H1 => i ≤ n ∧ ∃ acc, H1 C = some (.lst acc) ∧ Pv C i acc H1, n, ⟨Nat.zero_le _, [], upd_same, h0 C _ (New.mk' hC)⟩, fun i H2 ⟨_, acc, ha, p⟩ hi => ⟨hi, fun x H3 ⟨e1, e2⟩ => ?_⟩, fun i H2 ⟨hle, acc, ha, p⟩ hi => ?_⟩
  · subst e1 e2
    exact hs C i acc _ _ hC hi ha p fun acc' H5 h5 p5 => ⟨hi, acc', h5, p5⟩
  · obtain rfl : i = n := by omega
    exact ⟨hi, hd C acc H2 hC ha p⟩
end
section
open HotX L2H
theorem walks_listH {prog : Program} {w : World} {A : Around} {x1 : Addr} {o1 : Obj} {vs1 : Array Value} (hh : A.handled = some (.ref x1)) (d1 : o1.data = .fields vs1) (c1 : vs1[2]? = some .none) (I ax : Addr) (hne : ax ≠ I) (hx : x1 ≠ I) (items : Array Value) :
    Walks prog w A I [I, ax, x1] [I] items.size (fun i v => items[i]? = some v) (fun i h => h.IsListIter I ax i ∧ h.IsList ax items ∧ h.get? x1 = some o1) where
  sub := fun b hb => by simp at hb; simp [hb]
  frame := fun _ _ _ st hk => ⟨st.1.at fun o e => hk I (by simp) o e, st.2.1.at fun o e => hk ax (by simp) o e, hk x1 (by simp) _ st.2.2⟩
  item := fun i s Q E hi st hQ => by
    refine wpAny_pyNext_list_item st.1 st.2.1 (x := items[i]) (by simp [hi]) fun h' hit' hs' => ?_
    exact hQ _ h' s.toks (by simp [hi]) ⟨hit', st.2.1.extBut hs'.extBut hne, hs'.extBut x1 o1 hx st.2.2⟩ fun b o hb e => hs'.extBut b o (fun h => hb (by simp [h])) e
  done := fun s Q E st hQ => list_end_hot ⟨hh, o1, vs1, st.2.2, d1, c1⟩ st.1 st.2.1 (by simp) hx fun h' he' => hQ h' s.toks fun b o hb e => he' b o (fun h => hb (by simp [h])) e
  self := fun _ _ _ _ st hQ => wpAny_pyIter_listiter st.1 hQ
variable {X : Cx}
theorem cr_allH (hc : HotC X) : CallR X (.builtin "all") (rAll X.K) := by
  intro pins s σ H vs us Q I r h
  obtain ⟨a, bs, rfl, hs, q⟩ := h
  obtain ⟨its, rv, hl, _⟩ := I.list hs
  rw [Vals.ref1 r]
  have hb := rv.bls
  obtain ⟨p, ⟨hh, v1, e1, c1⟩, hp⟩ := hc
  have P1 := (I.pin p (List.mem_append_left _ hp)).1
  refine call_all_walk (iter_any hl.isList fun s₂ e2 st hne => ?_)
  subst e2
  have hx : p.1 ≠ s.heap.objs.size := Nat.ne_of_lt (Heap.lt_size P1)
  refine ⟨_, _, _, _, _, _, _, rfl, walks_listH (A := X.A.in1) (x1 := p.1) hh e1 c1 _ a hne hx its.toArray, ⟨st.1, st.2, Heap.get?_push_of_some _ P1⟩, truth_bools hb, fun h' tk hk => ?_⟩
  refine ⟨.bl _, H, I.kept fun b o eo => hk b o (fun hmem => ?_) (Heap.get?_push_of_some _ eo), ?_, q⟩
  · rcases List.mem_cons.mp hmem with e1 | hmem
    · exact absurd (e1 ▸ Heap.lt_size eo) (Nat.lt_irrefl _)
    · cases hmem
  · show Value.bool _ = Value.bool _
    rw [← L2.all_range, hb, List.size_toArray, List.length_map]
theorem sum_rawH {prog : Program} {w : World} {A : Around} {E : Value → Shared → Prop} {s : Shared} {l : Addr} {its : List Value} {ns : List Int} {Q : Value → Shared → Prop} {x1 : Addr} {o1 : Obj} {vs1 : Array Value} (hh : A.handled = some (.ref x1)) (e1 : s.heap.get? x1 = some o1) (d1 : o1.data = .fields vs1) (c1 : vs1[2]? = some .none)
    (hl : s.heap.IsList l its.toArray) (hi : IntsAre its ns)
    (h : ∀ h' tk t', (∀ b o, s.heap.get? b = some o → h'.get? b = some o) → Q (.int ns.sum t') { s with heap := h', toks := tk }) : wpAny (model prog w) A (call (.builtin "sum") [.ref l]) Q E s := by
  obtain ⟨xs, e⟩ := hi.allInts.items
  have hn : numsOf (intItems xs).toList = ns := by rw [← e]; exact hi.numsOf
  rw [nums_intItems] at hn
  rw [e] at hl
  refine PySem.call_sum_walkG (PySem.iter_intList hl fun s₂ e2 st hfp hlI => ?_)
  subst e2
  have hx : x1 ≠ s.heap.objs.size := Nat.ne_of_lt (Heap.lt_size e1)
  refine ⟨_, _, _, _, _, _, numAt xs, rfl, walks_listH (A := A.in1) (x1 := x1) hh d1 c1 _ l hlI hx (intItems xs), ⟨st.1, st.2, Heap.get?_push_of_some _ e1⟩, (fun b hb => ?_), (fun _ _ => intItems_at), fun h' tk t' hk => ?_⟩
  · rcases List.mem_cons.mp hb with rfl | hb
    · exact hfp _ (by simp)
    rcases List.mem_cons.mp hb with rfl | hb
    · exact hfp _ (by simp)
    rw [List.mem_singleton.mp hb]
    exact Heap.lt_size (Heap.get?_push_of_some _ e1)
  · have := h h' tk t' (PySem.old_kept hk)
    have e3 : preSum (numAt xs) (intItems xs).size = ns.sum := by
      rw [show (intItems xs).size = xs.size by simp [intItems], preSum_eq, List.take_of_length_le (by simp), hn]
    rw [e3]
    exact this
theorem cr_sumH (hc : HotC X) : CallR X (.builtin "sum") (rSum X.K) := by
  intro pins s σ H vs us Q I r h
  obtain ⟨a, ns, rfl, hs, q⟩ := h
  obtain ⟨its, rv, hl, _⟩ := I.list hs
  rw [Vals.ref1 r]
  obtain ⟨p, ⟨hh, v1, e1, c1⟩, hp⟩ := hc
  have P1 := (I.pin p (List.mem_append_left _ hp)).1
  exact sum_rawH hh P1 e1 c1 hl.isList rv.ints fun h' tk t' hk => ⟨.int _, H, I.kept hk, ⟨_, rfl⟩, q⟩
end

/-! ## C1 -/
local macro_rules | `(tactic| walk_at "wp") => `(tactic| (try simp only [a_var, a_c, a_op, a_un, a_test, a_b, a_and, a_or, a_not, a_andV, a_orV, a_notV, a_if, a_next, a_seq, a_break, a_cont, a_drop, a_ret, a_retN, a_ifS, a_asg, a_name, a_sub, a_nil, a_cons, a_tup, a_lst, a_call, a_cb, a_bm0, a_bm, a_sl, a_nopart, a_part, a_aug, b_rI, b_rI0, b_rU, b_eq, b_ne, b_isTF, b_int, b_intb, b_list, b_tuple, b_ix, b_len, b_setL, b_app, b_pop, b_popAt, b_sl, b_rep, b_cat, b_lstRg, b_tupRg, b_rg1, b_rg2, a_forR, a_forR2, a_forS, b_fsq, a_lcR, a_lcR2, a_lcS, b_csq, wipe_nil, wipe_cons, a_yes, wh_i, wh_s, wh_b, wh_r, wh_n, Bool.not_eq_true, eq_self, not_true_eq_false, not_false_eq_true, b_isi, kb_all, ty_non, ty_bl, ty_int, ty_str, a_m1, b_ixS, b_slS, List.cons.injEq, and_assoc, exists_and_left, cxK, List.getElem?_cons_zero, List.getElem?_cons_succ, List.set_cons_zero, List.set_cons_succ, Option.some.injEq, exists_eq_left', exists_eq_left, V.bl.injEq, V.int.injEq, V.ref.injEq, V.str.injEq, HO.lst.injEq, HO.tup.injEq, decide_eq_true_eq, true_and, and_true, L2.start, List.map_cons, List.map_nil, List.length_cons, List.length_nil, Nat.zero_add, Nat.reduceAdd, Nat.reduceSub, List.replicate_succ, List.replicate_zero, List.cons_append, List.nil_append, if_true, if_false, Bool.false_eq_true, Bool.not_true, Bool.not_false, decide_not, Bool.not_eq_true', decide_eq_false_iff_not, scal_ii, scal_bb, scal_ss, scal_is, scal_si, reduceCtorEq, Bool.true_eq_false, decide_false, decide_true, if_pos, ne_eq, Int.reduceNeg, atI_0, atI_1, atI_2, atI_3, atI_4, atI_5, atI_6, ixN_7, b_ins, a_revL, b_isT, V.ty.injEq, Bool.true_or, Bool.or_true, Bool.false_or, Bool.or_false, Bool.or_self, b_sorted, b_repT, a_err, a_callS, a_xp, a_isP, a_lcE, a_forE, a_isV, a_lcH, a_ch, a_forES, a_lcG, a_dnotin, a_din, b_setD, a_disp1, a_lcI, b_tupA, a_fld, a_sfld, a_prop, b_lenW, b_eqW, b_isW, b_notTF, a_lcW]))
local macro_rules | `(tactic| walk_at "wps") => `(tactic| (try simp only [a_var, a_c, a_op, a_un, a_test, a_b, a_and, a_or, a_not, a_andV, a_orV, a_notV, a_if, a_next, a_seq, a_break, a_cont, a_drop, a_ret, a_retN, a_ifS, a_asg, a_name, a_sub, a_nil, a_cons, a_tup, a_lst, a_call, a_cb, a_bm0, a_bm, a_sl, a_nopart, a_part, a_aug, b_rI, b_rI0, b_rU, b_eq, b_ne, b_isTF, b_int, b_intb, b_list, b_tuple, b_ix, b_len, b_setL, b_app, b_pop, b_popAt, b_sl, b_rep, b_cat, b_lstRg, b_tupRg, b_rg1, b_rg2, a_forR, a_forR2, a_forS, b_fsq, a_lcR, a_lcR2, a_lcS, b_csq, wipe_nil, wipe_cons, a_yes, wh_i, wh_s, wh_b, wh_r, wh_n, Bool.not_eq_true, eq_self, not_true_eq_false, not_false_eq_true, b_isi, kb_all, ty_non, ty_bl, ty_int, ty_str, a_m1, b_ixS, b_slS, List.cons.injEq, and_assoc, exists_and_left, cxK, List.getElem?_cons_zero, List.getElem?_cons_succ, List.set_cons_zero, List.set_cons_succ, Option.some.injEq, exists_eq_left', exists_eq_left, V.bl.injEq, V.int.injEq, V.ref.injEq, V.str.injEq, HO.lst.injEq, HO.tup.injEq, decide_eq_true_eq, true_and, and_true, L2.start, List.map_cons, List.map_nil, List.length_cons, List.length_nil, Nat.zero_add, Nat.reduceAdd, Nat.reduceSub, List.replicate_succ, List.replicate_zero, List.cons_append, List.nil_append, if_true, if_false, Bool.false_eq_true, Bool.not_true, Bool.not_false, decide_not, Bool.not_eq_true', decide_eq_false_iff_not, scal_ii, scal_bb, scal_ss, scal_is, scal_si, reduceCtorEq, Bool.true_eq_false, decide_false, decide_true, if_pos, ne_eq, Int.reduceNeg, atI_0, atI_1, atI_2, atI_3, atI_4, atI_5, atI_6, ixN_7, b_ins, a_revL, b_isT, V.ty.injEq, Bool.true_or, Bool.or_true, Bool.false_or, Bool.or_false, Bool.or_self, b_sorted, b_repT, a_err, a_callS, a_xp, a_isP, a_lcE, a_forE, a_isV, a_lcH, a_ch, a_forES, a_lcG, a_dnotin, a_din, b_setD, a_disp1, a_lcI, b_tupA, a_fld, a_sfld, a_prop, b_lenW, b_eqW, b_isW, b_notTF, a_lcW, *]))
local macro_rules | `(tactic| walk_at "wq") => `(tactic| (try simp only [a_var, a_c, a_op, a_un, a_test, a_b, a_and, a_or, a_not, a_andV, a_orV, a_notV, a_if, a_next, a_break, a_cont, a_drop, a_ret, a_retN, a_ifS, a_asg, a_name, a_sub, a_nil, a_cons, a_tup, a_lst, a_call, a_cb, a_bm0, a_bm, a_sl, a_nopart, a_part, a_aug, b_rI, b_rI0, b_rU, b_eq, b_ne, b_isTF, b_int, b_intb, b_list, b_tuple, b_ix, b_len, b_setL, b_app, b_pop, b_popAt, b_sl, b_rep, b_cat, b_lstRg, b_tupRg, b_rg1, b_rg2, a_forR, a_forR2, a_forS, b_fsq, a_lcR, a_lcR2, a_lcS, b_csq, wipe_nil, wipe_cons, a_yes, wh_i, wh_s, wh_b, wh_r, wh_n, Bool.not_eq_true, eq_self, not_true_eq_false, not_false_eq_true, b_isi, kb_all, ty_non, ty_bl, ty_int, ty_str, a_m1, b_ixS, b_slS, List.cons.injEq, and_assoc, exists_and_left, cxK, List.getElem?_cons_zero, List.getElem?_cons_succ, List.set_cons_zero, List.set_cons_succ, Option.some.injEq, exists_eq_left', exists_eq_left, V.bl.injEq, V.int.injEq, V.ref.injEq, V.str.injEq, HO.lst.injEq, HO.tup.injEq, decide_eq_true_eq, true_and, and_true, L2.start, List.map_cons, List.map_nil, List.length_cons, List.length_nil, Nat.zero_add, Nat.reduceAdd, Nat.reduceSub, List.replicate_succ, List.replicate_zero, List.cons_append, List.nil_append, if_true, if_false, Bool.false_eq_true, Bool.not_true, Bool.not_false, decide_not, Bool.not_eq_true', decide_eq_false_iff_not, scal_ii, scal_bb, scal_ss, scal_is, scal_si, reduceCtorEq, Bool.true_eq_false, decide_false, decide_true, if_pos, ne_eq, Int.reduceNeg, atI_0, atI_1, atI_2, atI_3, atI_4, atI_5, atI_6, ixN_7, b_ins, a_revL, b_isT, V.ty.injEq, Bool.true_or, Bool.or_true, Bool.false_or, Bool.or_false, Bool.or_self, b_sorted, b_repT, a_err, a_callS, a_xp, a_isP, a_lcE, a_forE, a_isV, a_lcH, a_ch, a_forES, a_lcG, a_dnotin, a_din, b_setD, a_disp1, a_lcI, b_tupA, a_fld, a_sfld, a_prop, b_lenW, b_eqW, b_isW, b_notTF, a_lcW, *]))
local macro_rules | `(tactic| walk_at "wn") => `(tactic| (try simp only [a_var, a_c, a_op, a_un, a_test, a_b, a_and, a_or, a_not, a_andV, a_orV, a_notV, a_if, a_next, a_break, a_cont, a_drop, a_ret, a_retN, a_ifS, a_asg, a_name, a_sub, a_nil, a_cons, a_tup, a_lst, a_call, a_cb, a_bm0, a_bm, a_sl, a_nopart, a_part, a_aug, b_rI, b_rI0, b_rU, b_eq, b_ne, b_isTF, b_int, b_intb, b_list, b_tuple, b_ix, b_len, b_setL, b_app, b_pop, b_popAt, b_sl, b_rep, b_cat, b_lstRg, b_tupRg, b_rg1, b_rg2, a_forR, a_forR2, a_forS, b_fsq, a_lcR, a_lcR2, a_lcS, b_csq, wipe_nil, wipe_cons, a_yes, wh_i, wh_s, wh_b, wh_r, wh_n, Bool.not_eq_true, eq_self, not_true_eq_false, not_false_eq_true, b_isi, kb_all, ty_non, ty_bl, ty_int, ty_str, a_m1, b_ixS, b_slS, List.cons.injEq, and_assoc, exists_and_left, cxK, List.getElem?_cons_zero, List.getElem?_cons_succ, List.set_cons_zero, List.set_cons_succ, Option.some.injEq, exists_eq_left', exists_eq_left, V.bl.injEq, V.int.injEq, V.ref.injEq, V.str.injEq, HO.lst.injEq, HO.tup.injEq, decide_eq_true_eq, true_and, and_true, L2.start, List.map_cons, List.map_nil, List.length_cons, List.length_nil, Nat.zero_add, Nat.reduceAdd, Nat.reduceSub, List.replicate_succ, List.replicate_zero, List.cons_append, List.nil_append, if_true, if_false, Bool.false_eq_true, Bool.not_true, Bool.not_false, decide_not, Bool.not_eq_true', decide_eq_false_iff_not, scal_ii, scal_bb, scal_ss, scal_is, scal_si, reduceCtorEq, Bool.true_eq_false, decide_false, decide_true, if_pos, ne_eq, Int.reduceNeg, atI_0, atI_1, atI_2, atI_3, atI_4, atI_5, atI_6, ixN_7, b_ins, a_revL, b_isT, V.ty.injEq, Bool.true_or, Bool.or_true, Bool.false_or, Bool.or_false, Bool.or_self, b_sorted, b_repT, a_err, a_callS, a_xp, a_isP, a_lcE, a_forE, a_isV, a_lcH, a_ch, a_forES, a_lcG, a_dnotin, a_din, b_setD, a_disp1, a_lcI, b_tupA, a_fld, a_sfld, a_prop, b_lenW, b_eqW, b_isW, b_notTF, a_lcW]))
local macro_rules | `(tactic| walk_at "sq") => `(tactic| ((try dsimp only); rw [a_seq]; walk_at "wq"))
local macro_rules | `(tactic| walk_at "sn") => `(tactic| ((try dsimp only); rw [a_seq]; walk_at "wn"))

section
variable {P : Program} {w : World} {K : PySem.W.Frag} {mg : Str → Option Value} {base : Heap}
abbrev stmoved_row : Stmt := topS 22
theorem scmoved_row : FnScope ["row", "move", "point"] ["row", "move"] (defScope stmoved_row) := ⟨rfl, rfl, rfl, by decide +kernel, rfl, by decide +kernel, by decide +kernel⟩
theorem okmoved_row (D : Df K mg "moved_row" stmoved_row) (T : NoB mg)  : Cl P w K mg base 1 "moved_row" ["row", "move"] sp_jn := by
  refine cl_of D scmoved_row (fun _ _ _ _ _ _ us hl => match us, hl with | [_, _], _ => rfl) (fun vs H Q E h => ?_) (fun f cdv A outer sh H vs Q E hr h => ?_)
  · obtain ⟨_, _, _, _, rfl, _⟩ := h; rfl
  obtain ⟨a, b, as, bs, rfl, ha, hb, hz, hl, k⟩ := h
  refine ⟨_, (pss_one (ps_ret (pe_callTy tup1 (by rfl) T.no_tuple (by decide +kernel) (pa_cons (pe_lc (own := [("point", 2)]) (g := gName 2) (tt := tYes) rfl scmoved_row.nd (pi_sq (pv 0)) (blkOk_by (own := [("point", 2)]) (N := ["row", "move", "point"]) (sc := defScope stmoved_row) (by decide +kernel)) (fun _ _ _ _ _ => (pg_name (i := 2) scmoved_row.nd rfl (Or.inl rfl))) (fun _ _ _ _ _ => pts_nil) (fun _ _ _ _ _ => (pe_ix ix1 (pv 1) (pv 2) (fun _ _ => rfl)))) pa_nil)))), ?_⟩
  walk_at "wn"
  refine cs_by (sq_t ha) (fun C i acc H' => Same H H' ∧ acc = ((as.take i).map (im bs)).map V.int) (fun C H0 n0 => ⟨n0.same, rfl⟩) (fun C i acc H' hC f o ho => f.1 _ _ ho) ?_ ?_
  · rintro C i x acc H1 N hC hx hacc ⟨s1, rfl⟩ hN
    obtain ⟨z, hzi, rfl⟩ : ∃ z, as[i]? = some z ∧ x = V.int z := by
      rw [List.getElem?_map] at hx
      cases e : as[i]? with
      | none => rw [e] at hx; cases hx
      | some z => rw [e] at hx; exact ⟨z, rfl, (Option.some.inj hx).symm⟩
    have hzr := hz z (List.mem_of_getElem? hzi)
    have hy := List.getElem?_eq_getElem (show z.toNat < bs.length by omega)
    have hlt := (List.getElem?_eq_some_iff.mp hzi).1
    have eim : im bs z = bs[z.toNat] := by unfold im; rw [hy]; rfl
    refine ⟨rfl, ?_⟩
    walk_at "wn"
    refine ⟨_, sq_t (s1 _ _ hb), .int bs[z.toNat], atI_of hzr.1 (by rw [List.getElem?_map, hy]; rfl), ?_⟩
    refine cst hacc (by rw [List.length_map, List.length_map, List.length_take, sizeLine_eq]; omega) fun H5 p5 => hN _ _ p5.at_ ⟨fun b o hb => p5.k (ne_of_none hb hC) (s1 b o hb), ?_⟩
    rw [List.take_add_one, hzi, ← eim]
    simp
  · rintro C acc H1 hC hacc ⟨s1, rfl⟩
    rw [List.length_map, List.take_length] at hacc
    walk_at "wn"
    exact ⟨_, hacc, fun q H2 n2 => k q H2 (s1.trans n2.same) (s1.free n2.fr) n2.at_⟩
def sp_gen (K : PySem.W.Frag) : Sp := fun vs H Q Er => ∃ (n : Nat) (t : Addr) (ws : List Addr) (T : List (List Int)), vs = [.int n, .ref t] ∧ n ≤ 12 ∧ sq H t = some (ws.map V.ref) ∧ TLs H ws T ∧ OnN n T ∧
  (Over n T 400 → Raises K (.many "made" 400) H Er) ∧ (∀ Qs d H', Same H H' → H d = none → H' d = some (.dT (tabT Qs)) → Qs.Nodup → (∀ x, x ∈ Qs ↔ Gen n T x) → Qs.length ≤ 400 → Q (.ref d) H')
abbrev stgenerated : Stmt := topS 23
theorem scgenerated : FnScope ["points", "told", "still", "found", "queue", "at", "present", "move", "following"] ["points", "told"] (defScope stgenerated) := ⟨rfl, rfl, rfl, by decide +kernel, rfl, by decide +kernel, by decide +kernel⟩
theorem okgenerated (D : Df K mg "generated" stgenerated) (T : NoB mg) (Cmoved_row : Cl P w K mg base 1 "moved_row" ["row", "move"] sp_jn) (Cstill_move : ClX P w K mg base 6 "still_move" ["points"] (sp_still K)) {tkm : Tok} (G_MOST_MADE : mg "MOST_MADE" = some (.int 400 tkm)) (Er_TooMany : ErT_TooMany P w K mg base): ClX P w K mg base 7 "generated" ["points", "told"] (sp_gen K) := by
  refine clX_of D scgenerated (fun _ _ _ _ _ _ us hl => match us, hl with | [_, _], _ => rfl) (fun vs H Q E h => ?_) (fun f cdv A outer sh H vs Q E hr tk h => ?_)
  · obtain ⟨_, _, _, _, rfl, _⟩ := h; rfl
  obtain ⟨n, t, ws, T0, rfl, hn, ht, hT, on, kn, ks⟩ := h
  refine ⟨_, (pss_cons (ps_set (i := 2) scgenerated.nd rfl (Or.inl rfl) (pe_clX Cstill_move tk hr (by rfl) (pa_cons (pv 0) pa_nil)))
    (pss_cons (ps_set (i := 3) scgenerated.nd rfl (Or.inl rfl) (pe_disp1 (hu2 hr) (pv 2) pe_bl))
    (pss_cons (ps_set (i := 4) scgenerated.nd rfl (Or.inl rfl) (pe_lst (pa_cons (pv 2) pa_nil)))
    (pss_cons (ps_set (i := 5) scgenerated.nd rfl (Or.inl rfl) pe_int)
    (pss_cons (ps_while (passes_of rfl) (pt_cmpR op_lt (pv 5) (pe_callB len1 (by rfl) T.no_len (by decide +kernel) (pa_cons (pv 4) pa_nil)) (nomark _)) (pss_cons (ps_set (i := 6) scgenerated.nd rfl (Or.inl rfl) (pe_ix ix1 (pv 4) (pv 5) (fun _ _ => rfl)))
    (pss_cons (ps_aug (i := 5) scgenerated.nd rfl (Or.inl rfl) pe_int ip_add)
    (pss_one (ps_for (passes_of rfl) rfl (pi_sq (pv 1)) (pg_name (i := 7) scgenerated.nd rfl (Or.inl rfl)) (pss_cons (ps_set (i := 8) scgenerated.nd rfl (Or.inl rfl) (pe_cl Cmoved_row hr (by rfl) (pa_cons (pv 6) (pa_cons (pv 7) pa_nil))))
    (pss_one (ps_if (pt_cmp (pc_dnotin (hu_of hr) (pv 8) (pv 3)) rfl) (pss_cons (ps_if (pt_cmpR op_eq (pe_callB len1 (by rfl) T.no_len (by decide +kernel) (pa_cons (pv 4) pa_nil)) (pe_glob (by rfl) G_MOST_MADE (show RelV (.int 400) _ from ⟨_, rfl⟩)) (nomark _)) (pss_one (L2N.ps_raise rfl tk (pmk_err Er_TooMany hr (by rfl) (pa_cons pe_str (pa_cons (pe_glob (by rfl) G_MOST_MADE (show RelV (.int 400) _ from ⟨_, rfl⟩)) pa_nil))))) pss_nil)
    (PSs.nox (pss_cons (ps_asg pe_bl (pg_sub (pv 3) (pv 8) (set_dict (hu_of hr))))
    (pss_one (ps_expr (pe_bm PySem.F.plainAttrs_list PySem.F.slot_list_append PySem.F.type_list_append mt_append (pv 4) (pa_cons (pv 8) pa_nil))))))) pss_nil))))))))
    (PSs.nox (pss_one (ps_ret (pv 3))))))))), ?_⟩
  walk_at "sn"
  refine ⟨.int n, [], .int n, 1, rfl, .lf (.int _), fun i e => by cases e; exact log_sm (Nat.lt_of_le_of_lt (show (n : Int).natAbs ≤ 12 by omega) (by decide)), fun c => absurd c (by simp [numOk]; omega), ?_⟩
  intro i ei i0 i1 S H0 H1 s0 n1
  cases ei
  have eS : H1 S = some (.tup ((rng n).map V.int)) := by rw [n1.at_, Int.toNat_natCast]
  have s01 := s0.trans n1.same
  walk_at "sn"
  rintro D H2 n2
  have e12 := n2.k eS
  refine ⟨n2.at_, keyI (rng n), by rw [keyI_kV]; exact e12, fun H3 p3 => ?_⟩
  have hD : H D = none := s01.free n2.fr
  have s3 : Same H H3 := p3.same (s01.trans n2.same) hD
  have DS : S ≠ D := n2.ne eS
  have e3S := p3.k DS e12
  walk_at "sn"
  refine ⟨by rw [sizeLine_eq]; decide, fun Qa H4 n4 => ?_⟩
  have hQa : H Qa = none := s3.free n4.fr
  have DQ : Qa ≠ D := fun e => by have := n4.fr; rw [e, p3.at_] at this; cases this
  have s4 := s3.trans n4.same
  walk_at "sn"
  walk_at "sn"
  refine wh_by (fun mu σ H' => ∃ (us : List Addr) (Qs : List (List Int)) (a : Nat) (v6 v7 v8 : Option V), σ = [some (.int n), some (.ref t), some (.ref S), some (.ref D), some (.ref Qa), some (.int a), v6, v7, v8] ∧ Same H H' ∧ H' Qa = some (.lst (us.map V.ref)) ∧ H' D = some (.dT (tabT Qs)) ∧ TLs H' us Qs ∧ Bfs n T0 Qs a 0 ∧ Qs.length ≤ 400 ∧ a ≤ Qs.length ∧ mu = 400 - a) (400 - 0)
    ⟨[S], [rng n], 0, _, _, _, rfl, s4, n4.at_, n4.k p3.at_, .cons (n4.k e3S) .nil, Bfs.start, by simp, by simp, rfl⟩ ?_
  rintro mu _ H5 N R hN hR ⟨us, Qs, a, v6, v7, v8, rfl, s5, eQ, eD, tl, bf, hlm, hal, rfl⟩
  have hul := tl.len
  walk_at "wn"
  refine ⟨_, sq_l eQ, ?_⟩
  rw [List.length_map, hul]
  refine hR _ _ (wst (fun hb => ?_) (fun hb => ?_))
  · have ha : a < Qs.length := by have := of_decide_eq_true hb; omega
    obtain ⟨x, hx⟩ : ∃ x, Qs[a]? = some x := ⟨_, List.getElem?_eq_getElem ha⟩
    have gx := (bf.gen x (List.mem_of_getElem? hx)).perm on
    obtain ⟨c, ec1, ec2⟩ := tl.at hx
    walk_at "sn"
    refine ⟨_, sq_l eQ, .ref c, atI_of (by omega) (by rw [Int.toNat_natCast]; exact ec1), ?_⟩
    walk_at "sn"
    refine ⟨(a : Int), 1, rfl, rfl, ?_⟩
    have qt : sq H5 t = some (ws.map V.ref) := same_sq s5 ht
    refine fs_by qt (fun j σ H' => ∃ (us : List Addr) (Qs : List (List Int)) (v7 v8 : Option V), σ = [some (.int n), some (.ref t), some (.ref S), some (.ref D), some (.ref Qa), some (.int (a + 1)), some (.ref c), v7, v8] ∧ Same H H' ∧ H' c = some (.tup (x.map V.int)) ∧ H' Qa = some (.lst (us.map V.ref)) ∧ H' D = some (.dT (tabT Qs)) ∧ TLs H' us Qs ∧ Bfs n T0 Qs a j ∧ Qs.length ≤ 400 ∧ Qs[a]? = some x)
      ⟨us, Qs, _, _, rfl, s5, ec2, eQ, eD, tl, bf, hlm, hx⟩ (fun j σ' H' ⟨us, Qs, _, _, _, s, _⟩ o ho => ?_) ?_ ?_
    · exact keep_old ht s5 s o ho
    · rintro j y _ H6 N2 hN2 hy ⟨us, Qs, v7, v8, rfl, s6, ec6, eQ, eD, tl, bf, hlm, hx⟩
      obtain ⟨b, mv, rfl, hb1, hb2, hb3⟩ := hT.get hy
      have pm := on mv (List.mem_of_getElem? hb2)
      have e6b := s6 _ _ hb3
      walk_at "wn"
      rw [a_seq]
      walk_at "wn"
      refine ⟨c, b, x, mv, rfl, ec6, e6b, fun z hz => by rw [lenP pm]; exact inP gx hz, by rw [lenP gx]; omega, fun r H7 s7 f7 e7 => ?_⟩
      have t7 := s6.trans s7
      walk_at "wn"
      have ec7 := s7 _ _ ec6
      have eQ7 := s7 _ _ eQ
      have eD7 := s7 _ _ eD
      have tl7 := tl.same s7
      have hg := DGet.t (k := keyI (jn x mv)) eD7 (by rw [keyI_kV]; exact e7)
      refine ⟨_, hg, ?_⟩
      have hv := tabT_val Qs (jn x mv)
      have hul := tl.len
      by_cases hin : jn x mv ∈ Qs
      · rw [hv, decide_eq_true hin, if_neg (by decide)]
        exact hN2 _ _ ⟨us, Qs, _, _, rfl, t7, ec7, eQ7, eD7, tl7, bf.seen hx hb2 hin, hlm, hx⟩
      · rw [hv, decide_eq_false hin, if_pos rfl, a_seq]
        walk_at "wn"
        refine ⟨_, sq_l eQ7, ?_⟩
        rw [List.length_map, hul]
        by_cases hfull : Qs.length = 400
        · rw [if_pos (by omega)]
          exact ⟨⟨⟨"made", rfl, by decide⟩, .inl ⟨400, rfl, by decide⟩, trivial⟩, fun d2 H8 n8 => kn (bf.over hx hb2 hin (by omega)) d2 H7 H8 t7 n8⟩
        · rw [if_neg (by omega), a_seq]
          walk_at "wn"
          have rD : D ≠ r := fun e => by rw [← e, eD] at f7; cases f7
          have rQ : Qa ≠ r := fun e => by rw [← e, eQ] at f7; cases f7
          refine ⟨_, DPut.t (k := keyI (jn x mv)) eD7 (by rw [keyI_kV]; exact e7) (by unfold tabT; rw [List.length_map, sizeLine_eq]; omega), ?_⟩
          rw [tabT_put hin]
          generalize h8 : upd H7 D (.dT (tabT (Qs ++ [jn x mv]))) = H8
          have p8 : Put H7 D (.dT (tabT (Qs ++ [jn x mv]))) H8 := h8 ▸ Put.mk'
          have eQ8 := p8.k DQ eQ7
          have er8 := p8.k rD.symm e7
          have ec8 := p8.k (fun z => by rw [z, eD7] at ec7; cases ec7) ec7
          walk_at "wn"
          refine ⟨tyl eQ8, _, eQ8, by rw [List.length_map, sizeLine_eq]; omega, fun H9 p9 => ?_⟩
          have tl8 : TLs H8 us Qs := tl7.kp fun a ns e => p8.k (fun z => by rw [z, eD7] at e; cases e) e
          have tl9 : TLs H9 (us ++ [r]) (Qs ++ [jn x mv]) := (tl8.put p9 eQ8).snoc (p9.k rQ.symm er8)
          refine hN2 _ _ ⟨us ++ [r], Qs ++ [jn x mv], _, _, rfl, p9.same (p8.same t7 hD) hQa, p9.k (fun z => by rw [z, eQ8] at ec8; cases ec8) ec8, by rw [p9.at_, List.map_append]; rfl, p9.k DQ.symm p8.at_, tl9, bf.add hx hb2 hin, by simp; omega, ?_⟩
          rw [List.getElem?_append_left (List.getElem?_eq_some_iff.mp hx).1]
          exact hx
    · rintro _ H6 ⟨us, Qs, v7, v8, rfl, s6, ec6, eQ, eD, tl, bf, hlm, hx⟩
      walk_at "wn"
      have hb := (List.getElem?_eq_some_iff.mp hx).1
      rw [List.length_map, hT.len] at bf
      refine hN (400 - (a + 1)) _ _ (by omega) ⟨us, Qs, a + 1, _, _, _, rfl, s6, eQ, eD, tl, bf.next, hlm, by omega, rfl⟩
  · have ha : Qs.length ≤ a := by have := of_decide_eq_false hb; omega
    walk_at "wn"
    exact ks Qs D H5 s5 hD eD bf.nd (bf.fin ha) hlm
end

/-! ## HoVl -/
theorem shw_int {i : Int} (h : -1000 < i ∧ i < 1000) : Shw 0 6 (.int i) := by
  have h1 : i.natAbs < 10 ^ 3 := by (have e : (10 : Nat) ^ 3 = 1000 := (by decide)); rw [e]; omega
  refine ⟨?_, rfl, Nat.le_refl _, ?_⟩
  · simp only [PyData.showable, decide_eq_true_eq]
    exact log_sm (Nat.lt_trans (show i.natAbs < 1000 by omega) (by decide))
  · have := str_len10 (a := i) (k := 3) (by decide) h1
    show (Str.ofString (toString i)).length ≤ 6
    omega
theorem shw_bool (b : Bool) : Shw 0 6 (.bool b) := by
  refine ⟨rfl, rfl, Nat.le_refl _, ?_⟩
  cases b <;> decide +kernel
theorem shw_none : Shw 0 6 .none := ⟨rfl, rfl, Nat.le_refl _, by decide +kernel⟩
/-- a small number, True or False -/
def Sml (x : V) : Prop := (∃ i : Int, x = .int i ∧ -1000 < i ∧ i < 1000) ∨ ∃ b, x = .bl b
def dat : V → PyData
  | .int i => .int i
  | .bl b => .bool b
  | _ => .none
theorem Sml.shw {x : V} (h : Sml x) : Shw 0 6 (dat x) := by
  rcases h with ⟨i, rfl, h⟩ | ⟨b, rfl⟩
  · exact shw_int h
  · exact shw_bool b
theorem Sml.dw {x : V} {E : List Addr} {H : Hp} (h : Sml x) : Dw E H x (dat x) 1 := by
  rcases h with ⟨i, rfl, h⟩ | ⟨b, rfl⟩
  · exact .lf (.int i)
  · exact .lf (.bl b)
theorem sml_all {E : List Addr} {H : Hp} : ∀ {xs : List V}, (∀ x ∈ xs, Sml x) → DwAll E H xs (xs.map dat) xs.length
  | [], _ => .nil
  | x :: xs, h => by
    have := DwAll.cons (h x List.mem_cons_self).dw (sml_all (E := E) (H := H) fun y hy => h y (List.mem_cons_of_mem _ hy))
    rw [List.length_cons, Nat.add_comm]
    exact this
theorem dat_ints (ns : List Int) : (ns.map V.int).map dat = ns.map PyData.int := by rw [List.map_map]; rfl
theorem dat_back {xs : List V} {ms : List Int} (h : ∀ x ∈ xs, Sml x) (e : xs.map dat = ms.map PyData.int) : xs = ms.map V.int := by
  induction xs generalizing ms with
  | nil => cases ms with
    | nil => rfl
    | cons => cases e
  | cons x xs ih =>
    cases ms with
    | nil => cases e
    | cons m ms =>
      simp only [List.map_cons, List.cons.injEq] at e ⊢
      refine ⟨?_, ih (fun y hy => h y (List.mem_cons_of_mem _ hy)) e.2⟩
      rcases h x List.mem_cons_self with ⟨i, rfl, _⟩ | ⟨b, rfl⟩
      · have := e.1; simp only [dat, PyData.int.injEq] at this; rw [this]
      · cases e.1
theorem mvOn_lf {v : V} {d : PyData} {k n : Nat} (h : Lf v d k) : mvOn n d = false := by unfold mvOn; rw [not_move_leaf h]; rfl
theorem mvOn_lst {ds : List PyData} {n : Nat} : mvOn n (.list ds) = false := by unfold mvOn; rw [not_move_list]; rfl
theorem mvOn_t {n : Nat} {ds : List PyData} (h : ∀ ns : List Int, ds = ns.map .int → ¬ ns.Perm (rng n)) : mvOn n (.tuple ds) = false := by
  unfold mvOn
  by_cases hm : IsMoveP (.tuple ds)
  · obtain ⟨ns, e, hl, hp⟩ := hm
    cases e
    have : (dLen (.tuple (ns.map .int)) == n) = false := by
      show (List.length (ns.map PyData.int) == n) = false
      rw [List.length_map]
      by_cases e : ns.length = n
      · rw [e] at hp
        exact absurd hp (h ns rfl)
      · simp [e]
    rw [this, Bool.and_false]
  · rw [isMove_f hm]; rfl
theorem mvOn_ok {n : Nat} {ns : List Int} (hn : n ≤ 12) (h : ns.Perm (rng n)) : mvOn n (.tuple (ns.map .int)) = true := by
  have hl : ns.length = n := by rw [h.length_eq, rng_len]
  unfold mvOn
  rw [isMove_t ⟨ns, rfl, by omega, by rw [hl]; exact h⟩]
  show (true && ((ns.map PyData.int).length == n)) = true
  rw [List.length_map, hl]
  simp
/-- a value, small -/
def ValV (E : List Addr) (H : Hp) (v : V) (d : PyData) : Prop := (∃ k, Dw E H v d k ∧ k ≤ 60) ∧ Shw 3 300 d
section
variable {s l a : Addr} {E E' : List Addr} {H H' : Hp} {v : V} {d : PyData} {xs : List V}
theorem ValV.kp (h : ValV E H v d) (k : ∀ a o, a ∉ E → H a = some o → H' a = some o) : ValV E H' v d := ⟨h.1.imp fun _ h => ⟨h.1.kp k, h.2⟩, h.2⟩
theorem ValV.ge (h : ValV E H v d) (g : Ge s l H H') (hs : s ∈ E) : ValV E H' v d := h.kp fun a o ha e => g.k (fun z => ha (by rw [z]; exact hs)) e
theorem ValV.same (h : ValV E H v d) (g : Same H H') : ValV E H' v d := h.kp fun a o _ e => g a o e
theorem ValV.sub (h : ValV E H v d) (k : ∀ a, a ∈ E' → a ∈ E) : ValV E' H v d := ⟨h.1.imp fun _ h => ⟨h.1.sub k, h.2⟩, h.2⟩
theorem ValV.sml (h : Sml v) : ValV E H v (dat v) := ⟨⟨1, h.dw, by decide⟩, h.shw.mono (by decide) (by decide)⟩
theorem ValV.tup (h : ∀ x ∈ xs, Sml x) (ha : a ∉ E) (e : H a = some (.tup xs)) (hl : xs.length ≤ 30) : ValV E H (.ref a) (.tuple (xs.map dat)) := by
  refine ⟨⟨_, .tup ha e (sml_all h), by omega⟩, ?_⟩
  refine (Shw.tup (k := 0) (b := 6) fun d hd => ?_).mono (by decide) (by rw [List.length_map]; omega)
  obtain ⟨x, hx, rfl⟩ := List.mem_map.mp hd
  exact (h x hx).shw
theorem ValV.lst (h : ∀ x ∈ xs, Sml x) (ha : a ∉ E) (e : H a = some (.lst xs)) (hl : xs.length ≤ 30) : ValV E H (.ref a) (.list (xs.map dat)) := by
  refine ⟨⟨_, .lst ha e (sml_all h), by omega⟩, ?_⟩
  refine (Shw.lst (k := 0) (b := 6) fun d hd => ?_).mono (by decide) (by rw [List.length_map]; omega)
  obtain ⟨x, hx, rfl⟩ := List.mem_map.mp hd
  exact (h x hx).shw
end
theorem mvOn_sml {n : Nat} {xs : List V} (h : ∀ x ∈ xs, Sml x) (hn : ∀ ns : List Int, xs = ns.map V.int → ¬ ns.Perm (rng n)) : mvOn n (.tuple (xs.map dat)) = false := mvOn_t fun ns e => hn ns (dat_back h e)
theorem sml_ints {n : Nat} {ns : List Int} (hn : n ≤ 12) (hp : ns.Perm (rng n)) : ∀ x ∈ ns.map V.int, Sml x := fun x hx => by
  obtain ⟨i, hi, rfl⟩ := List.mem_map.mp hx
  have := mem_rng.mp (hp.mem_iff.mp hi)
  exact .inl ⟨i, rfl, by omega, by omega⟩

/-! ## HoVm -/
def encT (ns : List Int) : PyData := .tuple (ns.map .int)
theorem shw_mv {n : Nat} {ns : List Int} (hn : n ≤ 12) (h : ns.Perm (rng n)) : Shw 1 110 (encT ns) := by
  refine (Shw.tup (k := 0) (b := 6) fun d hd => ?_).mono (by decide) (by rw [List.length_map, lenP h]; omega)
  obtain ⟨i, hi, rfl⟩ := List.mem_map.mp hd
  have := inP h hi
  exact shw_int (by omega)
theorem val_mv {E : List Addr} {a : Addr} {H : Hp} {n : Nat} {ns : List Int} (hn : n ≤ 12) (h : ns.Perm (rng n)) (ha : a ∉ E) (e : H a = some (.tup (ns.map V.int))) : ValV E H (.ref a) (encT ns) :=
  ⟨⟨_, .tup ha e (DwAll.ints ns), by rw [lenP h]; omega⟩, (shw_mv hn h).mono (by decide) (by decide)⟩
theorem tl_dw {E : List Addr} {H : Hp} {n : Nat} (hn : n ≤ 12) (hs : ∀ a ∈ E, ∀ ys, H a ≠ some (.tup ys)) : ∀ {ws : List Addr} {L : List (List Int)}, TLs H ws L → OnN n L → DwAll E H (ws.map V.ref) (L.map encT) ((n + 1) * L.length) := by
  intro ws L h
  induction h with
  | nil => intro _; exact .nil
  | @cons a ns ws L e t ih =>
    intro on
    have pm := on ns List.mem_cons_self
    have h1 : Dw E H (.ref a) (encT ns) (ns.length + 1) := .tup (fun z => hs a z _ e) e (DwAll.ints ns)
    rw [lenP pm] at h1
    have := DwAll.cons h1 (ih fun m hm => on m (List.mem_cons_of_mem _ hm))
    rw [List.length_cons, Nat.mul_succ, Nat.add_comm]
    exact this
theorem tl_shw {n : Nat} (hn : n ≤ 12) {L : List (List Int)} (on : OnN n L) : ∀ d ∈ L.map encT, Shw 3 300 d := fun d hd => by
  obtain ⟨ns, hm, rfl⟩ := List.mem_map.mp hd
  exact (shw_mv hn (on ns hm)).mono (by decide) (by decide)
theorem val_all {E : List Addr} {H : Hp} : ∀ {vs : List V}, (∀ v ∈ vs, ∃ d, ValV E H v d) → ∃ ds k, DwAll E H vs ds k ∧ k ≤ 60 * vs.length ∧ ∀ d ∈ ds, Shw 3 300 d
  | [], _ => ⟨[], 0, .nil, by simp, by simp⟩
  | v :: vs, h => by
    obtain ⟨d, ⟨k, h1, h2⟩, h3⟩ := h v List.mem_cons_self
    obtain ⟨ds, k', h4, h5, h6⟩ := val_all fun u hu => h u (List.mem_cons_of_mem _ hu)
    refine ⟨d :: ds, k + k', .cons h1 h4, by rw [List.length_cons]; omega, fun e he => ?_⟩
    rcases List.mem_cons.mp he with rfl | he
    · exact h3
    · exact h6 e he
theorem mvFlt_at {n : Nat} {d : PyData} {R : List PyData} (hd : mvOn n d = false) : ∀ {A : List PyData} {i : Nat}, (∀ a ∈ A, mvOn n a = true) → mvFlt n i (A ++ d :: R) = some (.mv ((i + A.length : Nat) : Int))
  | [], i, _ => by
    rw [List.nil_append, show mvFlt n i (d :: R) = (if mvOn n d = true then mvFlt n (i + 1) R else some (.mv i)) from rfl, hd]
    rfl
  | a :: A, i, h => by
    rw [List.cons_append, show mvFlt n i (a :: (A ++ d :: R)) = (if mvOn n a = true then mvFlt n (i + 1) (A ++ d :: R) else some (.mv i)) from rfl, h a List.mem_cons_self, if_pos rfl, mvFlt_at hd fun b hb => h b (List.mem_cons_of_mem _ hb)]
    rw [List.length_cons]
    congr 2
    omega
theorem mvFlt_none {n : Nat} : ∀ {A : List PyData} {i : Nat}, (∀ a ∈ A, mvOn n a = true) → mvFlt n i A = none
  | [], _, _ => rfl
  | a :: A, i, h => by
    rw [show mvFlt n i (a :: A) = (if mvOn n a = true then mvFlt n (i + 1) A else some (.mv i)) from rfl, h a List.mem_cons_self, if_pos rfl]
    exact mvFlt_none fun b hb => h b (List.mem_cons_of_mem _ hb)
theorem on_enc {n : Nat} (hn : n ≤ 12) {L : List (List Int)} (on : OnN n L) : ∀ a ∈ L.map encT, mvOn n a = true := fun a ha => by
  obtain ⟨ns, hm, rfl⟩ := List.mem_map.mp ha
  exact mvOn_ok hn (on ns hm)
theorem on_enc' {n n' : Nat} (hne : n ≠ n') {L : List (List Int)} (on : OnN n L) : ∀ a ∈ L.map encT, mvOn n' a = false := fun a ha => by
  obtain ⟨ns, hm, rfl⟩ := List.mem_map.mp ha
  refine mvOn_t fun ms e hp => hne ?_
  have : ns.length = ms.length := by have := congrArg List.length e; simpa using this
  rw [← lenP (on ns hm), ← lenP hp, this]
theorem Sto.noT {s l : Addr} {H : Hp} (st : Sto s l H) : ∀ a ∈ [s], ∀ ys, H a ≠ some (.tup ys) := fun a ha ys e => by
  obtain rfl := List.mem_singleton.mp ha
  obtain ⟨ns, i1, i2, i3, i4, i5, i6, hs, _⟩ := st
  rw [hs] at e
  cases e

/-! ## HoNe -/
section
variable {prog : Program} {w : World} {A : Around} {E : Value → Shared → Prop} {s : Shared} {K : PySem.W.Frag} {x C f : Addr} {ox : Obj} {od : Option Obj} {b : Value}
theorem entry_neK (hu : A.units < cLine) (X : K.In s.heap) (I : PySem.W.InstAt s.heap x ox C od) (hs : PySem.W.findIn K (.ref C) "__eq__" = some (some (.ref f))) (hf : PySem.W.isFn K (.ref f) = true) {Q : PySem.Fin → Shared → Prop}
    (h : wpAny (model prog w) A (call (.ref f) [.ref x, b]) (fun v s' => ∃ r, v = .bool r ∧ Q (.done (.ret (.bool (!r)))) s') E s) : wpAny (model prog w) A (Builtin.«object.__ne__» ⟨[.ref x, b], []⟩) Q E s := by
  unfold Builtin.«object.__ne__»
  repeat (first
    | with_reducible refine wpAny_cRoomFor hu ?_
    | (refine wpAny_bind (m := callSpecialIfBound? (.ref x) (Str.ofString "__eq__") [b])
        (PySem.W.ifBound_K X I hs hf (wpAny_mono h (fun r s' hr => by
          obtain ⟨b, rfl, hq⟩ := hr
          repeat (first | exact hq | exact wpAny_pure hq | exact wpAny_truthy_bool hq | (refine wpAny_bind (m := truthy (.bool _)) (wpAny_truthy_bool ?_)) | wp_step)) fun _ _ e => e)))
    | wp_step)
theorem ifBound_neK {args : List Value} {Q : Option Value → Shared → Prop} (X : K.In s.heap) (I : PySem.W.InstAt s.heap x ox C od) (hs : PySem.W.findIn K (.ref C) "__ne__" = some (some (.builtin "object.__ne__")))
    (h : wpAny (model prog w) A (call (.builtin "object.__ne__") (.ref x :: args)) (fun v => Q (some v)) E s) : wpAny (model prog w) A (callSpecialIfBound? (.ref x) "__ne__" args) Q E s := by
  simp only [callSpecialIfBound?, bindSpecialIfBound?]
  refine wpAny_holding (wpAny_bind (wpAny_bind (wpAny_bind (I.type.here ((PySem.W.looks_findIn X hs).here ?_)))))
  refine wpAny_bind (wpAny_askSetting (wpAny_ite ?_))
  have fin : wpAny (model prog w) A (call (.builtin "object.__ne__") ([.ref x] ++ args) >>= fun v => pure (some v)) Q E s := wpAny_bind (wpAny_mono h (fun v s' h' => wpAny_pure h') fun _ _ h' => h')
  split
  · exact wpAny_bind (wpAny_of_eq (F.cmp_object.ne.bind _) (wpAny_pure (by exact fin)))
  · exact wpAny_tryCatch (wpAny_bind (wpAny_of_eq (F.cmp_object.ne.bind _) (wpAny_pure (by exact fin))))
theorem ne_K {tb : Value} {Q : Value → Shared → Prop} (hu : A.units + 1 < cLine) (X : K.In s.heap) (I : PySem.W.InstAt s.heap x ox C od) (hb : PySem.W.Looks (model prog w) s.heap (typeOf b) tb) (hn : PySem.W.notFirst K C tb = true)
    (hm : PySem.W.mroIn K C (.type "object") = some true) (hne : PySem.W.findIn K (.ref C) "__ne__" = some (some (.builtin "object.__ne__"))) (hs : PySem.W.findIn K (.ref C) "__eq__" = some (some (.ref f))) (hf : PySem.W.isFn K (.ref f) = true)
    (h : wpAny (model prog w) A.in1 (call (.ref f) [.ref x, b]) (fun v s' => ∃ r, v = .bool r ∧ Q (.bool (!r)) s') E s) : wpAny (model prog w) A (richCompare .NotEq (.ref x) b) Q E s := by
  have one : wpAny (model prog w) A (tryCompare (.ref x) "__ne__" b) (fun r s' => ∃ v, r = some v ∧ Q v s') E s := by
    unfold tryCompare
    refine wpAny_bind (ifBound_neK X I hne (wpAny_call (codeAny_call_builtin F.cmp_object.ne.plain F.cmpEntry_ne (PySem.W.check_slot F.cmpKind_ne F.cmpSplit_ne (I.type.andThen (PySem.W.looks_mroIn X hm)) (F.cmpArgs_ne _ _)
      (entry_neK (A := A.in1) (show A.units + 1 < cLine from hu) X I hs hf (wpAny_mono h (fun v s' hv => ?_) fun _ _ e => e))))))
    obtain ⟨r, rfl, hq⟩ := hv
    first | exact ⟨r, rfl, wpAny_pure ⟨_, rfl, hq⟩⟩ | exact ⟨r, rfl, wpAny_pure (wpAny_pure ⟨_, rfl, hq⟩)⟩ | exact ⟨r, rfl, ⟨_, rfl, hq⟩⟩
  unfold richCompare
  simp only [oneThing_ref, cmpInfo_NotEq]
  refine wpAny_holding (wpAny_bind (wpAny_cRoomFor (Nat.lt_of_succ_lt hu) ?_))
  refine wpAny_bind (I.type.here (wpAny_bind (hb.here ?_)))
  split
  · rename_i q
    have e : PySem.W.subIn K tb (.ref C) = some false := by
      rcases Bool.or_eq_true_iff.mp hn with e | e
      · rw [beq_iff_eq.mp e] at q; simp at q
      · exact beq_iff_eq.mp e
    refine wpAny_bind ((PySem.W.looks_subIn X e).here ?_)
    simp only [Bool.false_eq_true, if_false]
    refine wpAny_bind (m := tryCompare (.ref x) _ b) (wpAny_mono one (fun r s' z => ?_) fun _ _ e => e)
    obtain ⟨v, rfl, hq⟩ := z
    exact wpAny_pure hq
  · refine wpAny_bind (wpAny_pure ?_)
    simp only [Bool.false_eq_true, if_false]
    refine wpAny_bind (m := tryCompare (.ref x) _ b) (wpAny_mono one (fun r s' z => ?_) fun _ _ e => e)
    obtain ⟨v, rfl, hq⟩ := z
    exact wpAny_pure hq
end
/-- what a world is held against: a world, or a value of a built-in type -/
def OthV (K : PySem.W.Frag) (H : Hp) (y : V) : Prop := ∃ t, TyX K H y t ∧ PySem.W.notFirst K (wC K) t = true
def rEqV (K : PySem.W.Frag) (sp : Sp) (neg : Bool) : R2 := fun x y H Q => ∃ a dx fs, x = .ref a ∧ H a = some (.ins (wC K) dx fs) ∧ OthV K H y ∧ sp [.ref a, y] H (fun v H' => ∃ r, v = .bl r ∧ Q (.bl (if neg then !r else r)) H') E0
section
variable {X : Cx}
theorem op_eqV {j k : Nat} {sp : Sp} (C : MtC X.prog X.w X.K X.mg X.base j "__eq__" ["self", "other"] sp) (hr : Room k X.A) (hjk : j ≤ k := by decide) : OpR X (compareOp .Eq) (rEqV X.K sp false) := by
  obtain ⟨f, fd, hs, hf, hb, F⟩ := C
  intro pins s σ H x y v u Q I rx ry h
  obtain ⟨a, dx, fs, rfl, ha, ⟨t, ty, hn⟩, hq⟩ := h
  cases rx
  obtain ⟨mA, J, _⟩ := ins_get I.hok ha
  obtain ⟨od, J, _⟩ := J.look
  obtain ⟨P, Z, p, _⟩ := kit_of I ry ty
  obtain ⟨m, hF⟩ := I.fr
  show wpAny (model X.prog X.w) X.A (richCompare .Eq (.ref a) u) (EP X pins σ Q) X.xe s
  refine PySem.W.cmp_K (op := .Eq) (tb := t) hr.units0 hF I.ok.mod.kin J (Z.ty _ _ I.kIn p) hn hs hf ?_
  have hl := F.len _ _ _ _ hq
  have bb := hb s [.ref a, u] I.kIn (by rw [List.append_nil]; exact hl)
  rw [List.append_nil] at bb
  refine wpAny_call (codeAny_mono (F.run X.A X.stack s H ⟨[.ref a, u], []⟩ [.ref a, u] [.ref a, y] _ E0 (hr.mono hjk) I.env0 bb (.cons rfl (.cons ry .nil)) hq) fun r s' hq' => ?_)
  cases r with
  | error e => exact pass0 pins σ H s e s' I hq'
  | ok fl =>
    cases fl with
    | ret z =>
      obtain ⟨z', H', I', rz, r, ez, q⟩ := I.after hq'
      subst ez
      cases rz
      exact ⟨.bl r, H', I', rfl, q⟩
    | next => exact False.elim hq'
    | brk => exact False.elim hq'
    | cont => exact False.elim hq'
theorem op_neV {j k : Nat} {sp : Sp} (WC : WCls X.K X.mg) (C : MtC X.prog X.w X.K X.mg X.base j "__eq__" ["self", "other"] sp) (hr : Room k X.A) (hjk : j + 1 ≤ k := by decide) : OpR X (compareOp .NotEq) (rEqV X.K sp true) := by
  obtain ⟨f, fd, hs, hf, hb, F⟩ := C
  intro pins s σ H x y v u Q I rx ry h
  obtain ⟨a, dx, fs, rfl, ha, ⟨t, ty, hn⟩, hq⟩ := h
  cases rx
  obtain ⟨mA, J, _⟩ := ins_get I.hok ha
  obtain ⟨od, J, _⟩ := J.look
  obtain ⟨P, Z, p, _⟩ := kit_of I ry ty
  obtain ⟨m, hF⟩ := I.fr
  show wpAny (model X.prog X.w) X.A (richCompare .NotEq (.ref a) u) (EP X pins σ Q) X.xe s
  refine ne_K (tb := t) (by have := hr.u100; omega) I.kIn J (Z.ty _ _ I.kIn p) hn WC.hm WC.ne hs hf ?_
  have hl := F.len _ _ _ _ hq
  have bb := hb s [.ref a, u] I.kIn (by rw [List.append_nil]; exact hl)
  rw [List.append_nil] at bb
  have e0 : Env0 X.prog X.w X.K X.mg X.base X.A.in1 X.stack s H := I.env0.in1
  refine wpAny_call (codeAny_mono (F.run X.A.in1 X.stack s H ⟨[.ref a, u], []⟩ [.ref a, u] [.ref a, y] _ E0 (hr.mono hjk).in1 e0 bb (.cons rfl (.cons ry .nil)) hq) fun r s' hq' => ?_)
  cases r with
  | error e => exact pass0 pins σ H s e s' I hq'
  | ok fl =>
    cases fl with
    | ret z =>
      obtain ⟨z', H', I', rz, r, ez, q⟩ := I.after hq'
      subst ez
      cases rz
      exact ⟨r, rfl, .bl (!r), H', I', rfl, q⟩
    | next => exact False.elim hq'
    | brk => exact False.elim hq'
    | cont => exact False.elim hq'
end
def othT : List String := ["list", "tuple", "int", "str", "NoneType"]
theorem sub_oth {K : PySem.W.Frag} {C : Addr} {T : String} (h : T ∈ othT) : PySem.W.subIn K (.type T) (.ref C) = some false := by
  simp only [othT, List.mem_cons, List.not_mem_nil, or_false] at h
  have gen : ∀ {T : String} {l : List Value}, fastBuiltinMro T = some l → l.contains (.ref C) = false → PySem.W.subIn K (.type T) (.ref C) = some false := fun e c => by
    show (fastBuiltinMro _).map (·.contains (.ref C)) = some false
    rw [e]
    exact congrArg some c
  rcases h with rfl | rfl | rfl | rfl | rfl
  · exact gen (l := [.type "list", .type "object"]) (by decide +kernel) (by simp)
  · exact gen (l := [.type "tuple", .type "object"]) (by decide +kernel) (by simp)
  · exact gen (l := [.type "int", .type "object"]) (by decide +kernel) (by simp)
  · exact gen (l := [.type "str", .type "object"]) (by decide +kernel) (by simp)
  · exact gen (l := [.type "NoneType", .type "object"]) (by decide +kernel) (by simp)
theorem kit_oth {K : PySem.W.Frag} {mg : Str → Option Value} (W : WCls K mg) {T : String} (h : T ∈ othT) : PySem.W.kitOne K (.type T) (.ref (wC K)) = some false := by
  unfold PySem.W.kitOne
  rw [if_neg (by simp)]
  unfold PySem.W.kitCls
  dsimp only
  rw [if_pos W.kt]
  exact sub_oth h
theorem oth_of {K : PySem.W.Frag} {H : Hp} {y : V} {T : String} (h : T ∈ othT) (ty : TyX K H y (.type T)) : OthV K H y := ⟨_, ty, by
  unfold PySem.W.notFirst
  rw [sub_oth h]
  simp⟩
theorem oth_W {K : PySem.W.Frag} {mg : Str → Option Value} (W : WCls K mg) {H : Hp} {y dx : Addr} {fs : List (Str × V)} (h : H y = some (.ins (wC K) dx fs)) : OthV K H (.ref y) := ⟨_, .base (.ins h W.c W.ha W.hn W.ht W.hm), by
  unfold PySem.W.notFirst
  simp⟩
theorem b_eqV {K : PySem.W.Frag} {sp : Sp} {neg : Bool} {a : Addr} {y : V} {H : Hp} {Q : VK} : rEqV K sp neg (.ref a) y H Q = ∃ dx fs, H a = some (.ins (wC K) dx fs) ∧ OthV K H y ∧ sp [.ref a, y] H (fun v H' => ∃ r, v = .bl r ∧ Q (.bl (if neg then !r else r)) H') E0 := by
  unfold rEqV; apply propext; constructor
  · rintro ⟨a', dx, fs, e, h⟩; cases e; exact ⟨dx, fs, h⟩
  · rintro ⟨dx, fs, h⟩; exact ⟨a, dx, fs, rfl, h⟩
theorem b_isiC {K : PySem.W.Frag} {y : V} {C : Addr} {H : Hp} {Q : VK} : rIsi K [y, .ref C] H Q = ∃ t b, TyX K H y t ∧ PySem.W.kitOne K t (.ref C) = some b ∧ Q (.bl b) H := by
  unfold rIsi; apply propext; constructor
  · rintro ⟨x, c, t, u, b, e, k, ty, e2, q⟩
    cases e
    cases k
    exact ⟨t, b, ty, e2, q⟩
  · rintro ⟨t, b, ty, e2, q⟩
    exact ⟨y, _, t, _, b, rfl, .own C, ty, e2, q⟩
/-- __eq__ with any value -/
def sp_weqV (K : PySem.W.Frag) : Sp := fun vs H Q _ => ∃ (x q : Addr) (y : V) (n : Nat) (T M : List (List Int)), vs = [.ref x, y] ∧ Wd K H x q n T M ∧
  ((∃ (z r : Addr) (n' : Nat) (T' M' : List (List Int)), y = .ref z ∧ Wd K H z r n' T' M' ∧ Q (.bl (decide (n = n' ∧ M = M'))) H) ∨ (∃ t, t ∈ othT ∧ TyX K H y (.type t) ∧ Q (.bl false) H))

/-! ## C2 -/

theorem Put.kn {H H' : Hp} {a b : Addr} {o o1 o2 : HO} (p : Put H a o H') (ha : H a = some o1) (eb : H b = some o2) (ne : o1 ≠ o2) : H' b = some o2 := p.k (fun z => ne (by rw [z, ha] at eb; exact Option.some.inj eb)) eb
theorem TLs.putI {H H' : Hp} {a C dx : Addr} {o : HO} {fs : List (Str × V)} {ws : List Addr} {L : List (List Int)} (h : TLs H ws L) (p : Put H a o H') (ha : H a = some (.ins C dx fs)) : TLs H' ws L := h.kp fun b ns e => p.kn ha e (fun z => nomatch z)
theorem keys_tls {H : Hp} : ∀ {Qs : List (List Int)} {bs : List Addr}, IsKeys H (tabT Qs) bs → TLs H bs Qs
  | [], _, h => by cases h; exact .nil
  | x :: Qs, _, h => by
    cases h with
    | cons h1 h2 =>
      have e : (keyI x).map kV = x.map V.int := keyI_kV x
      refine .cons ?_ (keys_tls h2)
      rw [← e]
      exact h1
theorem mvl_tls {H : Hp} {n : Nat} : ∀ {xs : List V} {mss : List (List Int)}, MvL H n xs mss → ∃ ws, xs = ws.map V.ref ∧ TLs H ws mss ∧ OnN n mss
  | [], [], _ => ⟨[], rfl, .nil, fun m h => nomatch h⟩
  | [], _ :: _, h => absurd h.1 (by simp)
  | _ :: _, [], h => absurd h.1 (by simp)
  | x :: xs, ns :: mss, h => by
    obtain ⟨a, rfl, e1, _, e3⟩ := h.2 0 _ _ rfl rfl
    obtain ⟨ws, rfl, t, o⟩ := mvl_tls (xs := xs) (mss := mss) ⟨by have := h.1; simpa using this, fun k y m h1 h2 => h.2 (k + 1) y m h1 h2⟩
    exact ⟨a :: ws, rfl, .cons e1 t, fun m hm => by rcases List.mem_cons.mp hm with rfl | hm; exact e3; exact o m hm⟩
def sp_World (K : PySem.W.Frag) : Sp := fun vs H Q Er => ∃ (v : V) (p : Addr) (dv : PyData) (nv : Nat) (Ev : List Addr) (xs : List V) (E : List Addr) (ds : List PyData) (m : Nat), vs = [v, .ref p] ∧ Dw Ev H v dv nv ∧ Sm v ∧ sq H p = some xs ∧ DwAll E H xs ds m ∧
  (numOk v 0 12 = false → Raises K (.num v 0 12) H Er) ∧ (∀ n : Nat, v = .int n → n ≤ 12 → Ans K (cmFlt n ds "told" 8) H Er (∀ ws T, xs = ws.map V.ref → TLs H ws T → OnN n T → T.length ≤ 8 → (Over n T 400 → Raises K (.many "made" 400) H Er) ∧ ∀ M x q H', Same H H' → H x = none → H q = none → Wd K H' x q n T M → Q (.ref x) H'))
def spi_World (K : PySem.W.Frag) : Sp := fun vs H Q E => ∃ (x dx : Addr) (v : V) (p : Addr) (H0 : Hp) (Q0 : VK), vs = [.ref x, v, .ref p] ∧ H0 x = none ∧ H0 dx = none ∧ dx ≠ x ∧ H = upd (upd H0 dx (.own x)) x (.ins (wC K) dx []) ∧ sp_World K [v, .ref p] H0 Q0 E ∧ ∀ H', Q0 (.ref x) H' → Q .non H'
theorem imp_World {K : PySem.W.Frag} : ∀ vs H Q E a dx, H a = none → H dx = none → dx ≠ a → sp_World K vs H Q E → spi_World K (.ref a :: vs) (upd (upd H dx (.own a)) a (.ins (wC K) dx [])) (fun v H2 => v = .non ∧ Q (.ref a) H2) E := fun vs H Q E a dx h1 h2 ne h => by
  obtain ⟨v, p, dv, nv, Ev, xs, E', ds, m, rfl, r⟩ := h
  exact ⟨a, dx, v, p, H, Q, rfl, h1, h2, ne, rfl, ⟨v, p, dv, nv, Ev, xs, E', ds, m, rfl, r⟩, fun H' q => ⟨rfl, q⟩⟩
section
variable {P : Program} {w : World} {K : PySem.W.Frag} {mg : Str → Option Value} {base : Heap}
abbrev stWorld___init__ : Stmt := clsFn (topS 24) 0
theorem scWorld___init__ : FnScope ["self", "points", "moves"] ["self", "points", "moves"] (defScope stWorld___init__) := ⟨rfl, rfl, rfl, by decide +kernel, rfl, by decide +kernel, by decide +kernel⟩
theorem okWorld___init__ (WC : WCls K mg) (D : WIni K stWorld___init__) (T : NoB mg) (Cgenerated : ClX P w K mg base 7 "generated" ["points", "told"] (sp_gen K)) (Cneed_moves : ClX P w K mg base 4 "need_moves" ["points", "moves", "what", "limit"] (sp_chks K)) (Cneed_points : ClX P w K mg base 4 "need_points" ["value"] (sp_points K)) {tk8 : Tok} (G_MOST_TOLD : mg "MOST_TOLD" = some (.int 8 tk8)): MkC P w K mg base 9 "World" ["points", "moves"] (sp_World K) := by
  refine mkC_of (ps := ["points", "moves"]) WC D scWorld___init__ (fun _ _ _ _ _ _ _ us its hl hi => match us, its, hl, hi with | [_, _, _], [_], _, _ => ⟨_, rfl, rfl⟩) (fun vs H Q E h => ?_) (imp_World (K := K)) (fun f cdv A outer sh H vs Q E hr tk h => ?_)
  · obtain ⟨_, _, _, _, _, _, rfl, _⟩ := h; rfl
  obtain ⟨x, dx, v, p, H0, Q0, rfl, fx, fdx, nxd, rfl, ⟨v', p', dv, nv, Ev, xs, E', ds, m, e, hv, hs, hq, hd, k1, k2⟩, fin⟩ := h
  cases e
  refine ⟨_, (pss_cons (ps_expr (pe_clX Cneed_points tk hr (by rfl) (pa_cons (pv 1) pa_nil)))
    (pss_cons (ps_expr (pe_clX Cneed_moves tk hr (by rfl) (pa_cons (pv 1) (pa_cons (pv 2) (pa_cons pe_str (pa_cons (pe_glob (by rfl) G_MOST_TOLD (show RelV (.int 8) _ from ⟨_, rfl⟩)) pa_nil))))))
    (pss_cons (ps_fld (pv 0) (pv 1) (by rfl))
    (pss_cons (ps_fld (pv 0) (pe_callTy tupA1 (by rfl) T.no_tuple (by decide +kernel) (pa_cons (pv 2) pa_nil)) (by rfl))
    (pss_cons (ps_fld (pv 0) (pe_clX Cgenerated tk hr (by rfl) (pa_cons (pv 1) (pa_cons (pv 2) pa_nil))) (by rfl))
    (PSs.nox (pss_one (ps_fld (pv 0) (pe_callB (sortedM hr.units) (by rfl) T.no_sorted (by decide +kernel) (pa_cons (pe_callTy (call_list_dT rfl) (by rfl) T.no_list (by decide +kernel) (pa_cons (pe_fld (pv 0) rfl) pa_nil)) pa_nil)) (by rfl))))))))), ?_⟩
  generalize eH : upd (upd H0 dx (.own x)) x (.ins (wC K) dx []) = H1
  have ex : H1 x = some (.ins (wC K) dx []) := by rw [← eH, upd_same]
  have edx : H1 dx = some (.own x) := by rw [← eH, upd_ne nxd, upd_same]
  have s01 : Same H0 H1 := fun b o hb => by rw [← eH, upd_ne (ne_of_none hb fx), upd_ne (ne_of_none hb fdx)]; exact hb
  walk_at "sn"
  refine ⟨v, Ev, dv, nv, rfl, hv.same s01, hs, fun hok => ?_, fun c => (k1 c).same s01⟩
  obtain ⟨i, rfl, i0, i1⟩ := numOk_wh hok
  obtain ⟨n, rfl⟩ : ∃ n : Nat, i = n := ⟨i.toNat, (Int.toNat_of_nonneg i0).symm⟩
  have k2 := k2 n rfl (by omega)
  walk_at "sn"
  refine ⟨n, p, _, 8, xs, E', ds, m, rfl, by decide, by decide, same_sq s01 hq, hd.same s01, ?_⟩
  cases hf : cmFlt n ds "told" 8 with
  | some f =>
    rw [hf] at k2
    exact Raises.same k2 s01
  | none =>
    rw [hf] at k2
    have hmf : ds.length ≤ 8 ∧ mvFlt n 0 ds = none := by
      unfold cmFlt at hf
      by_cases c : 8 < ds.length
      · rw [if_pos c] at hf; cases hf
      · rw [if_neg c] at hf; exact ⟨by omega, hf⟩
    obtain ⟨mss, hm⟩ := mvl_of hd hmf.2
    have hml := hm.1
    obtain ⟨ws, rfl, tl, on⟩ := mvl_tls hm
    have hdl := hd.len.1
    obtain ⟨ko, ks⟩ := k2 ws mss rfl tl on (by omega)
    intro H2 s2
    have ex2 := s2 _ _ ex
    have s02 := s01.trans s2
    walk_at "sn"
    refine ⟨_, dx, _, ex2, WC.c, WC.no _ (by decide), by simp, ?_⟩
    generalize h3 : upd H2 x _ = H3
    have p3 : Put H2 x (.ins (wC K) dx [("point_count", .int n)]) H3 := h3 ▸ Put.mk'
    have s03 := p3.same s02 fx
    have edx3 := p3.kn ex2 (s2 _ _ edx) (fun z => nomatch z)
    walk_at "sn"
    refine ⟨_, same_sq s03 hq, fun t H4 s4 e4 => ?_⟩
    have ex4 := s4 _ _ p3.at_
    walk_at "wn"
    refine ⟨_, dx, _, ex4, WC.c, WC.no _ (by decide), by simp, ?_⟩
    generalize h5 : upd H4 x _ = H5
    have p5 : Put H4 x (.ins (wC K) dx [("point_count", .int n), ("told_moves", .ref t)]) H5 := h5 ▸ Put.mk'
    have s05 := p5.same (s03.trans s4) fx
    have et5 := p5.kn ex4 e4 (fun z => nomatch z)
    have edx5 := p5.kn ex4 (s4 _ _ edx3) (fun z => nomatch z)
    walk_at "sn"
    refine ⟨n, p, ws, mss, rfl, by omega, same_sq s05 hq, tl.same s05, on, fun ov => Raises.same (ko ov) s05, fun Qs d H6 s6 fd ed nd hmem hl => ?_⟩
    have ex6 := s6 _ _ p5.at_
    walk_at "wn"
    refine ⟨_, dx, _, ex6, WC.c, WC.no _ (by decide), by simp, ?_⟩
    generalize h7 : upd H6 x _ = H7
    have p7 : Put H6 x (.ins (wC K) dx [("point_count", .int n), ("told_moves", .ref t), ("made_table", .ref d)]) H7 := h7 ▸ Put.mk'
    have s07 := p7.same (s05.trans s6) fx
    have et7 := p7.kn ex6 (s6 _ _ et5) (fun z => nomatch z)
    have edx7 := p7.kn ex6 (s6 _ _ edx5) (fun z => nomatch z)
    have ed7 := p7.kn ex6 ed (fun z => nomatch z)
    walk_at "wn"
    refine ⟨_, dx, _, p7.at_, WC.c, WC.no _ (by decide), _, rfl, ?_⟩
    refine ⟨d, rfl, _, .of ed7, fun r bs fr hk => ?_⟩
    have tk := keys_tls hk
    generalize h8 : upd H7 r _ = H8
    have n8 : New H7 r (.lst (bs.map V.ref)) H8 := h8 ▸ New.mk' fr
    refine sortM_ok n8.at_ (tk.same n8.same) ?_ fun us q H9 n9 t9 => ?_
    · rcases Nat.eq_zero_or_pos n with h0 | h0
      · subst h0
        exact .inr (sub_len (B := [([] : List Int)]) nd fun y hy => by
          have := lenP ((hmem y).mp hy |>.perm on)
          rw [List.length_eq_zero_iff.mp this]
          simp)
      · refine .inl fun y hy e => ?_
        have := lenP ((hmem y).mp hy |>.perm on)
        rw [e] at this
        simp at this
        omega
    have s79 := n8.same.trans n9.same
    have ex9 := s79 _ _ p7.at_
    walk_at "wn"
    refine ⟨_, dx, _, ex9, WC.c, WC.no _ (by decide), by simp, ?_⟩
    generalize h10 : upd H9 x _ = H10
    have p10 : Put H9 x (.ins (wC K) dx [("point_count", .int n), ("told_moves", .ref t), ("made_table", .ref d), ("made_moves", .ref q)]) H10 := h10 ▸ Put.mk'
    refine fin _ (ks (srt Qs) x q H10 (p10.same (s07.trans s79) fx) fx (s07.free (n8.same.free n9.fr)) ⟨⟨dx, t, d, us, ws, Qs, p10.at_, p10.kn ex9 (s79 _ _ edx7) (fun z => nomatch z), p10.kn ex9 (s79 _ _ et7) (fun z => nomatch z), ?_, p10.kn ex9 (s79 _ _ ed7) (fun z => nomatch z), fun y => (srt_perm Qs).mem_iff.symm, p10.kn ex9 n9.at_ (fun z => nomatch z), t9.putI p10 ex9⟩, by omega, by omega, on, .srt nd hmem, by rw [srt_len]; exact hl⟩)
    exact (tl.same (s07.trans s79)).putI p10 ex9
def sp_wpts (K : PySem.W.Frag) : Sp := fun vs H Q _ => ∃ (x q : Addr) (n : Nat) (T M : List (List Int)), vs = [.ref x] ∧ Wd K H x q n T M ∧ Q (.int n) H
abbrev stWorld_points : Stmt := clsFn (topS 24) 1
theorem scWorld_points : FnScope ["self"] ["self"] (defScope stWorld_points) := ⟨rfl, rfl, rfl, by decide +kernel, rfl, by decide +kernel, by decide +kernel⟩
theorem okWorld_points (WC : WCls K mg) (D : PrD K "points" "World.points" stWorld_points) (T : NoB mg)  : PrC P w K mg base 1 "points" ["self"] (sp_wpts K) := by
  refine prC_of WC D scWorld_points (fun _ _ _ _ _ _ us hl => match us, hl with | [_], _ => rfl) (fun vs H Q E h => ?_) (fun f cdv A outer sh H vs Q E hr h => ?_)
  · obtain ⟨_, _, _, _, _, rfl, _⟩ := h; rfl
  obtain ⟨x, q, n, T0, M, rfl, h, k⟩ := h
  refine ⟨_, (pss_one (ps_ret (pe_fld (pv 0) rfl))), ?_⟩
  obtain ⟨dx, t, d, us, ts, Qs, h1, _⟩ := h.ins
  walk_at "wn"
  exact ⟨_, dx, _, h1, WC.c, WC.no _ (by decide), _, rfl, k⟩
def sp_wtold (K : PySem.W.Frag) : Sp := fun vs H Q _ => ∃ (x q : Addr) (n : Nat) (T M : List (List Int)), vs = [.ref x] ∧ Wd K H x q n T M ∧ ∀ p us H', Same H H' → H p = none → H' p = some (.lst (us.map V.ref)) → TLs H' us T → Q (.ref p) H'
abbrev stWorld_told : Stmt := clsFn (topS 24) 2
theorem scWorld_told : FnScope ["self"] ["self"] (defScope stWorld_told) := ⟨rfl, rfl, rfl, by decide +kernel, rfl, by decide +kernel, by decide +kernel⟩
theorem okWorld_told (WC : WCls K mg) (D : PrD K "told" "World.told" stWorld_told) (T : NoB mg)  : PrC P w K mg base 1 "told" ["self"] (sp_wtold K) := by
  refine prC_of WC D scWorld_told (fun _ _ _ _ _ _ us hl => match us, hl with | [_], _ => rfl) (fun vs H Q E h => ?_) (fun f cdv A outer sh H vs Q E hr h => ?_)
  · obtain ⟨_, _, _, _, _, rfl, _⟩ := h; rfl
  obtain ⟨x, q, n, T0, M, rfl, h, k⟩ := h
  refine ⟨_, (pss_one (ps_ret (pe_callTy lst1 (by rfl) T.no_list (by decide +kernel) (pa_cons (pe_fld (pv 0) rfl) pa_nil)))), ?_⟩
  obtain ⟨dx, t, d, us, ts, Qs, h1, h2, h3, h4, _⟩ := h.ins
  walk_at "wn"
  refine ⟨_, dx, _, h1, WC.c, WC.no _ (by decide), _, rfl, ?_⟩
  exact ⟨_, sq_t h3, fun r H' n' => k r ts H' n'.same n'.fr n'.at_ (h4.same n'.same)⟩
def sp_wmade (K : PySem.W.Frag) : Sp := fun vs H Q _ => ∃ (x q : Addr) (n : Nat) (T M : List (List Int)), vs = [.ref x] ∧ Wd K H x q n T M ∧ ∀ p us H', Same H H' → H p = none → H' p = some (.lst (us.map V.ref)) → TLs H' us M → Q (.ref p) H'
abbrev stWorld_made : Stmt := clsFn (topS 24) 3
theorem scWorld_made : FnScope ["self"] ["self"] (defScope stWorld_made) := ⟨rfl, rfl, rfl, by decide +kernel, rfl, by decide +kernel, by decide +kernel⟩
theorem okWorld_made (WC : WCls K mg) (D : PrD K "made" "World.made" stWorld_made) (T : NoB mg)  : PrC P w K mg base 1 "made" ["self"] (sp_wmade K) := by
  refine prC_of WC D scWorld_made (fun _ _ _ _ _ _ us hl => match us, hl with | [_], _ => rfl) (fun vs H Q E h => ?_) (fun f cdv A outer sh H vs Q E hr h => ?_)
  · obtain ⟨_, _, _, _, _, rfl, _⟩ := h; rfl
  obtain ⟨x, q, n, T0, M, rfl, h, k⟩ := h
  refine ⟨_, (pss_one (ps_ret (pe_callTy lst1 (by rfl) T.no_list (by decide +kernel) (pa_cons (pe_fld (pv 0) rfl) pa_nil)))), ?_⟩
  obtain ⟨dx, t, d, us, ts, Qs, h1, h2, h3, h4, h5, h6, h7, h8⟩ := h.ins
  walk_at "wn"
  refine ⟨_, dx, _, h1, WC.c, WC.no _ (by decide), _, rfl, ?_⟩
  exact ⟨_, sq_l h7, fun r H' n' => k r us H' n'.same n'.fr n'.at_ (h8.same n'.same)⟩
def sp_wlen (K : PySem.W.Frag) : Sp := fun vs H Q _ => ∃ (x q : Addr) (n : Nat) (T M : List (List Int)), vs = [.ref x] ∧ Wd K H x q n T M ∧ Q (.int M.length) H
abbrev stWorld___len__ : Stmt := clsFn (topS 24) 4
theorem scWorld___len__ : FnScope ["self"] ["self"] (defScope stWorld___len__) := ⟨rfl, rfl, rfl, by decide +kernel, rfl, by decide +kernel, by decide +kernel⟩
theorem okWorld___len__ (WC : WCls K mg) (D : MtD K "__len__" "World.__len__" stWorld___len__) (T : NoB mg)  : MtC P w K mg base 1 "__len__" ["self"] (sp_wlen K) := by
  refine mtC_of D scWorld___len__ (fun _ _ _ _ _ _ us hl => match us, hl with | [_], _ => rfl) (fun vs H Q E h => ?_) (fun f cdv A outer sh H vs Q E hr h => ?_)
  · obtain ⟨_, _, _, _, _, rfl, _⟩ := h; rfl
  obtain ⟨x, q, n, T0, M, rfl, h, k⟩ := h
  refine ⟨_, (pss_one (ps_ret (pe_callB len1 (by rfl) T.no_len (by decide +kernel) (pa_cons (pe_fld (pv 0) rfl) pa_nil)))), ?_⟩
  obtain ⟨dx, t, d, us, ts, Qs, h1, h2, h3, h4, h5, h6, h7, h8⟩ := h.ins
  have hl := h8.len
  walk_at "wn"
  refine ⟨_, dx, _, h1, WC.c, WC.no _ (by decide), _, rfl, ?_⟩
  refine ⟨q, _, rfl, sq_l h7, ?_⟩
  rw [List.length_map, hl]
  exact k
def sp_weq (K : PySem.W.Frag) : Sp := fun vs H Q _ => ∃ (x q y r : Addr) (n n' : Nat) (T M T' M' : List (List Int)), vs = [.ref x, .ref y] ∧ Wd K H x q n T M ∧ Wd K H y r n' T' M' ∧ Q (.bl (decide (n = n' ∧ M = M'))) H
theorem eqv_enc (a b : List Int) : PyData.eqv (encT a) (encT b) = decide (a = b) := eqv_intsT a b
theorem eqv_encs : ∀ A B : List (List Int), PyData.eqvAll (A.map encT) (B.map encT) = decide (A = B)
  | [], [] => rfl
  | [], _ :: _ => rfl
  | _ :: _, [] => rfl
  | x :: a, y :: b => by
    show (PyData.eqv (encT x) (encT y) && PyData.eqvAll (a.map encT) (b.map encT)) = _
    rw [eqv_encs a b, eqv_enc, Bool.eq_iff_iff]
    simp
theorem tls_dp {K : PySem.W.Frag} {H : Hp} {q n : Nat} {us : List Addr} {L : List (List Int)} (hq : H q = some (.lst (us.map V.ref))) (t : TLs H us L) (hn : n ≤ 12) (on : OnN n L) : Dp K H (.ref q) (.list (L.map encT)) :=
  .lst (SqL.of hq) (dw_dpAll (tl_dw hn (fun a h => absurd h (by simp)) t on))
theorem lay_encs : ∀ L : List (List Int), PyData.canLayAll0 (L.map encT) = true
  | [] => rfl
  | x :: L => by
    have e : PyData.canLay0 (encT x) = true := lay_ints x
    simp only [List.map_cons, PyData.canLayAll0, e, lay_encs L, Bool.and_self]
theorem depth_encs : ∀ L : List (List Int), PyData.depthAll (L.map encT) ≤ 3
  | [] => by simp [PyData.depthAll]
  | x :: L => by
    have := depth_encs L
    have := depth_ints x
    simp only [List.map_cons, PyData.depthAll, encT, PyData.depth]
    omega
theorem shaped_encs (L : List (List Int)) : SeqAt.shaped (.list (L.map encT)) = true := by
  have := depth_encs L
  unfold SeqAt.shaped
  rw [Bool.and_eq_true, decide_eq_true_eq]
  refine ⟨lay_encs L, ?_⟩
  simp only [PyData.depth]
  omega
theorem shaped_enc (x : List Int) : SeqAt.shaped (encT x) = true := shaped_intsT x
theorem Wd.onM {K : PySem.W.Frag} {H : Hp} {x q : Addr} {n : Nat} {T M : List (List Int)} (h : Wd K H x q n T M) : OnN n M := fun m hm => ((h.md.mem m).mp hm).perm h.on
abbrev stWorld___eq__ : Stmt := clsFn (topS 24) 7
theorem scWorld___eq__ : FnScope ["self", "other"] ["self", "other"] (defScope stWorld___eq__) := ⟨rfl, rfl, rfl, by decide +kernel, rfl, by decide +kernel, by decide +kernel⟩
theorem okWorld___eq__ (WC : WCls K mg) (D : MtD K "__eq__" "World.__eq__" stWorld___eq__) (T : NoB mg)  : MtC P w K mg base 1 "__eq__" ["self", "other"] (sp_weqV K) := by
  refine mtC_of D scWorld___eq__ (fun _ _ _ _ _ _ us hl => match us, hl with | [_, _], _ => rfl) (fun vs H Q E h => ?_) (fun f cdv A outer sh H vs Q E hr h => ?_)
  · obtain ⟨_, _, _, _, _, _, rfl, _⟩ := h; rfl
  obtain ⟨x, q, y, n, T0, M, rfl, h, hc⟩ := h
  refine ⟨_, (pss_one (ps_ret (pe_and (pe_callB call_isi (by rfl) T.no_isinstance (by decide +kernel) (pa_cons (pv 1) (pa_cons (pe_glob (by rfl) WC.g (show RelV (.ref (wC K)) _ from rfl)) pa_nil))) (pe_and (pe_cmpR op_eq (pe_fld (pv 0) rfl) (pe_fld (pv 1) rfl) (nomark _)) (pe_one (pe_cmpR (op_eqD hr.units) (pe_fld (pv 0) rfl) (pe_fld (pv 1) rfl) (nomark _))))))), ?_⟩
  obtain ⟨dx, t, d, us, ts, Qs, h1, h2, h3, h4, h5, h6, h7, h8⟩ := h.ins
  rcases hc with ⟨z, r, n', T', M', rfl, g, k⟩ | ⟨tt, htt, ty, k⟩
  · obtain ⟨dy, t', d', us', ts', Qs', g1, g2, g3, g4, g5, g6, g7, g8⟩ := g.ins
    walk_at "wn"
    rw [b_isiC]
    refine ⟨_, true, .base (.ins g1 WC.c WC.ha WC.hn WC.ht WC.hm), WC.kit, ?_⟩
    walk_at "wn"
    refine ⟨_, dx, _, h1, WC.c, WC.no _ (by decide), _, rfl, _, dy, _, g1, WC.c, WC.no _ (by decide), _, rfl, ?_⟩
    by_cases hnn : n = n'
    · subst hnn
      refine ⟨rfl, ?_⟩
      rw [if_pos rfl]
      refine ⟨_, dx, _, h1, WC.c, WC.no _ (by decide), _, rfl, _, dy, _, g1, WC.c, WC.no _ (by decide), _, rfl, ?_⟩
      refine ⟨_, _, tls_dp h7 h8 h.n12 h.onM, tls_dp g7 g8 g.n12 g.onM, shaped_encs M, shaped_encs M', ?_⟩
      rw [show PyData.eqv (.list (M.map encT)) (.list (M'.map encT)) = decide (M = M') from eqv_encs M M']
      simpa using k
    · refine ⟨rfl, ?_⟩
      rw [if_neg (fun c => hnn (by cases c; omega))]
      rw [decide_eq_false (fun c => hnn c.1)] at k
      exact k
  · walk_at "wn"
    rw [b_isiC]
    refine ⟨_, false, ty, kit_oth WC htt, ?_⟩
    walk_at "wn"
    exact k
abbrev stWorld___iter__ : Stmt := clsFn (topS 24) 5
theorem scWorld___iter__ : FnScope ["self"] ["self"] (defScope stWorld___iter__) := ⟨rfl, rfl, rfl, by decide +kernel, rfl, by decide +kernel, by decide +kernel⟩
theorem okWorld___iter__ (WC : WCls K mg) (D : MtD K "__iter__" "World.__iter__" stWorld___iter__) (T : NoB mg)  : MtI P w K mg base 1 "__iter__" ["self"] (sp_witer K) := by
  refine mtI_of D scWorld___iter__ (fun _ _ _ _ _ _ us hl => match us, hl with | [_], _ => rfl) (fun n vs H Q E h => ?_) (fun n f cdv A outer sh H vs Q E hsz hr h => ?_)
  · obtain ⟨_, _, _, _, _, rfl, _⟩ := h; rfl
  obtain ⟨x, q, n', T0, M, rfl, h, k⟩ := h
  refine ⟨_, (pss_one (ps_ret (pe_callB ItX.call_iterN (by rfl) T.no_iter (by decide +kernel) (pa_cons (pe_fld (pv 0) rfl) pa_nil)))), ?_⟩
  obtain ⟨dx, t, d, us, ts, Qs, h1, h2, h3, h4, h5, h6, h7, h8⟩ := h.ins
  walk_at "wn"
  refine ⟨_, dx, _, h1, WC.c, WC.no _ (by decide), _, rfl, ?_⟩
  exact ⟨q, _, rfl, SqL.of h7, fun it hit hm => k it hit (Nat.le_trans hsz hm)⟩
end

/-! ## D1 -/

section
variable {P : Program} {w : World} {K : PySem.W.Frag} {mg : Str → Option Value} {base : Heap}
def sp_npt (K : PySem.W.Frag) : Sp := fun vs H Q Er => ∃ (n : Int) (v : V) (E : List Addr) (d : PyData) (m : Nat), vs = [.int n, v] ∧ Dw E H v d m ∧ Sm v ∧ (numOk v 0 (n - 1) = true → Q .non H) ∧ (numOk v 0 (n - 1) = false → Raises K (.pt v) H Er)
/-- a move holds these points -/
def hld (m c : List Int) : Bool := c.all fun p => decide (im m p = p)
def sp_hall : Sp := fun vs H Q _ => ∃ (a p : Addr) (n : Nat) (m c : List Int), vs = [.ref a, .ref p] ∧ H a = some (.tup (m.map V.int)) ∧ m.Perm (rng n) ∧ sq H p = some (c.map V.int) ∧ (∀ z ∈ c, 0 ≤ z ∧ z < n) ∧ ∀ H', Same H H' → Q (.bl (hld m c)) H'
def sp_hold (K : PySem.W.Frag) : Sp := fun vs H Q Er => ∃ (x q p : Addr) (n : Nat) (T M : List (List Int)) (xs : List V), vs = [.ref x, .ref p] ∧ Wd K H x q n T M ∧ sq H p = some xs ∧ AllD H xs ∧
  Ans K (crowFlt n xs) H Er (∀ c, xs = c.map V.int → ∀ r us H', Same H H' → H r = none → H' r = some (.lst (us.map V.ref)) → TLs H' us (M.filter fun m => hld m c) → Q (.ref r) H')
end

/-! ## HoGr -/
theorem hld_app (m a b : List Int) : hld m (a ++ b) = (hld m a && hld m b) := by unfold hld; rw [List.all_append]
structure Grp (n : Nat) (S : List (List Int)) : Prop where
  nd : S.Nodup
  on : OnN n S
  one : rng n ∈ S
  mul : ∀ a ∈ S, ∀ b ∈ S, jn a b ∈ S
theorem Made.grp {n : Nat} {T M : List (List Int)} (o : OnN n T) (a : Made n T M) : Grp n M :=
  ⟨a.nd, fun m hm => ((a.mem m).mp hm).perm o, (a.mem _).mpr .still, fun x hx y hy => (a.mem _).mpr (((a.mem x).mp hx).mul o ((a.mem y).mp hy))⟩
theorem im_injP {n : Nat} {g : List Int} (hg : g.Perm (rng n)) {x y : Int} (hx : 0 ≤ x ∧ x < n) (hy : 0 ≤ y ∧ y < n) (e : im g x = im g y) : x = y := by
  have h1 := (mvP hg).at (p := x) (by rw [lenP hg]; exact hx)
  have h2 := (mvP hg).at (p := y) (by rw [lenP hg]; exact hy)
  have nd : g.Nodup := hg.nodup_iff.mpr (rng_nodup _)
  have e3 : g[x.toNat]? = g[y.toNat]? := by rw [h1.1, h2.1, e]
  have := (List.getElem?_inj (by rw [lenP hg]; omega) nd).mp e3
  omega
theorem jn_inj {n : Nat} {a b g : List Int} (ha : a.Perm (rng n)) (hb : b.Perm (rng n)) (hg : g.Perm (rng n)) (e : jn a g = jn b g) : a = b := by
  apply List.ext_getElem?
  intro i
  by_cases hi : i < n
  · have la := lenP ha
    have lb := lenP hb
    have e1 := congrArg (fun l => l[i]?) e
    simp only [jn, List.getElem?_map, List.getElem?_eq_getElem (show i < a.length by omega), List.getElem?_eq_getElem (show i < b.length by omega), Option.map_some, Option.some.injEq] at e1
    rw [List.getElem?_eq_getElem (show i < a.length by omega), List.getElem?_eq_getElem (show i < b.length by omega)]
    rw [im_injP hg (inP ha (List.getElem_mem _)) (inP hb (List.getElem_mem _)) e1]
  · rw [List.getElem?_eq_none (by rw [lenP ha]; omega), List.getElem?_eq_none (by rw [lenP hb]; omega)]
theorem nodup_map_on {α β : Type} {f : α → β} : ∀ {l : List α}, l.Nodup → (∀ a ∈ l, ∀ b ∈ l, f a = f b → a = b) → (l.map f).Nodup
  | [], _, _ => List.nodup_nil
  | x :: l, h, k => by
    rw [List.map_cons, List.nodup_cons]
    rw [List.nodup_cons] at h
    refine ⟨fun hm => ?_, nodup_map_on h.2 fun a ha b hb => k a (List.mem_cons_of_mem _ ha) b (List.mem_cons_of_mem _ hb)⟩
    obtain ⟨y, hy, e⟩ := List.mem_map.mp hm
    exact h.1 ((k x List.mem_cons_self y (List.mem_cons_of_mem _ hy) e.symm) ▸ hy)
namespace Grp
variable {n : Nat} {S S' : List (List Int)}
theorem mapNd (h : Grp n S) {g : List Int} (hg : g.Perm (rng n)) : (S.map fun x => jn x g).Nodup :=
  nodup_map_on h.nd fun a ha b hb e => jn_inj (h.on a ha) (h.on b hb) hg e
theorem left (h : Grp n S) {g : List Int} (hg : g ∈ S) : ∃ b ∈ S, jn b g = rng n := by
  have p : S.Perm (S.map fun x => jn x g) := sub_perm (h.mapNd (h.on g hg)) (fun y hy => by
    obtain ⟨b, hb, rfl⟩ := List.mem_map.mp hy
    exact h.mul b hb g hg) (by rw [List.length_map]; exact Nat.le_refl _)
  obtain ⟨b, hb, e⟩ := List.mem_map.mp (p.mem_iff.mp h.one)
  exact ⟨b, hb, e⟩
theorem inv (h : Grp n S) {g : List Int} (hg : g ∈ S) : ∃ b ∈ S, jn b g = rng n ∧ jn g b = rng n := by
  obtain ⟨b, hb, e⟩ := h.left hg
  obtain ⟨c, hc, e2⟩ := h.left hb
  refine ⟨b, hb, e, ?_⟩
  have : jn (jn c b) g = jn c (jn b g) := jn_assoc (h.on c hc) (h.on b hb)
  rw [e2, e, jn_still (h.on c hc), still_jn (lenP (h.on g hg))] at this
  rw [this]
  exact e2
theorem stab (h : Grp n S) {c : List Int} (hc : ∀ z ∈ c, 0 ≤ z ∧ z < n) : Grp n (S.filter fun m => hld m c) := by
  refine ⟨h.nd.filter _, fun m hm => h.on m (List.mem_filter.mp hm).1, List.mem_filter.mpr ⟨h.one, ?_⟩, fun a ha b hb => ?_⟩
  · unfold hld
    rw [List.all_eq_true]
    intro z hz
    have := hc z hz
    rw [decide_eq_true_eq]
    unfold im
    rw [rng_get (show z.toNat < n by omega)]
    show ((z.toNat : Nat) : Int) = z
    omega
  · obtain ⟨a1, a2⟩ := List.mem_filter.mp ha
    obtain ⟨b1, b2⟩ := List.mem_filter.mp hb
    refine List.mem_filter.mpr ⟨h.mul a a1 b b1, ?_⟩
    unfold hld at *
    rw [List.all_eq_true] at *
    intro z hz
    have e1 := of_decide_eq_true (a2 z hz)
    have e2 := of_decide_eq_true (b2 z hz)
    rw [decide_eq_true_eq, im_jn (h.on a a1) (hc z hz), e1, e2]
theorem double (h : Grp n S) (h' : Grp n S') (sub : ∀ x ∈ S', x ∈ S) {g : List Int} (hg : g ∈ S) (hg' : g ∉ S') : 2 * S'.length ≤ S.length := by
  have nd : (S' ++ S'.map fun x => jn x g).Nodup := by
    rw [List.nodup_append]
    refine ⟨h'.nd, h'.mapNd (h.on g hg), fun x hx y hy e => ?_⟩
    obtain ⟨z, hz, rfl⟩ := List.mem_map.mp hy
    obtain ⟨b, hb, e1, e2⟩ := h'.inv hz
    have : jn (jn b z) g = jn b (jn z g) := jn_assoc (h'.on b hb) (h'.on z hz)
    rw [e1, still_jn (lenP (h.on g hg)), ← e] at this
    rw [this] at hg'
    exact hg' (h'.mul b hb x hx)
  have := sub_len (B := S) nd fun x hx => by
    rcases List.mem_append.mp hx with hx | hx
    · exact sub x hx
    · obtain ⟨z, hz, rfl⟩ := List.mem_map.mp hx
      exact h.mul z (sub z hz) g hg
  rw [List.length_append, List.length_map] at this
  omega
end Grp

/-! ## K10P -/
theorem not_over {n n' k : Nat} {T T' M : List (List Int)} (md : Made n T M) (hl : M.length ≤ k) (g : List Int → List Int) (hg : ∀ x, Gen n' T' x → Gen n T (g x)) (inj : ∀ x y, Gen n' T' x → Gen n' T' y → g x = g y → x = y) : ¬ Over n' T' k := by
  rintro ⟨Q, nd, hQ, hk⟩
  have h1 : (Q.map g).Nodup := nodup_map_on nd fun a ha b hb e => inj a b (hQ a ha) (hQ b hb) e
  have h2 := sub_len h1 (B := M) fun y hy => by
    obtain ⟨x, hx, rfl⟩ := List.mem_map.mp hy
    exact (md.mem _).mpr (hg x (hQ x hx))
  rw [List.length_map] at h2
  omega
theorem not_over_sub {n k : Nat} {T T' M : List (List Int)} (on : OnN n T) (md : Made n T M) (hl : M.length ≤ k) (h : ∀ m ∈ T', m ∈ M) : ¬ Over n T' k :=
  not_over md hl id (fun x hx => hx.sub on fun m hm => (md.mem m).mp (h m hm)) fun _ _ _ _ e => e
/-- the move undone -/
def ivL (n : Nat) (b : List Int) : List Int := (rng n).map fun x => ((b.idxOf x : Nat) : Int)
theorem idx_get {b : List Int} (nb : b.Nodup) {i : Nat} (h : i < b.length) : b.idxOf b[i] = i := by
  have l1 := List.idxOf_lt_length_of_mem (List.getElem_mem h)
  have e := List.getElem_idxOf l1
  exact (List.getElem?_inj l1 nb).mp (by rw [List.getElem?_eq_getElem l1, List.getElem?_eq_getElem h, e])
theorem ivL_jn {n : Nat} {b : List Int} (hb : b.Perm (rng n)) : jn b (ivL n b) = rng n := by
  have lb := lenP hb
  have nb : b.Nodup := hb.nodup_iff.mpr (rng_nodup _)
  show b.map _ = _
  apply List.ext_getElem?
  intro i
  by_cases hi : i < n
  · have hib : i < b.length := by omega
    have hr := inP hb (List.getElem_mem hib)
    rw [List.getElem?_map, List.getElem?_eq_getElem hib, rng_get hi, Option.map_some]
    have e2 : im (ivL n b) b[i] = ((b.idxOf b[i] : Nat) : Int) := by
      unfold im ivL
      rw [List.getElem?_map, rng_get (by omega), Option.map_some, Option.getD_some, Int.toNat_of_nonneg hr.1]
    rw [e2, idx_get nb hib]
  · rw [List.getElem?_eq_none (by simp; omega), List.getElem?_eq_none (by rw [rng_len]; omega)]
theorem ivL_perm {n : Nat} {b : List Int} (hb : b.Perm (rng n)) : (ivL n b).Perm (rng n) := by
  have lb := lenP hb
  refine List.Perm.symm (sub_perm (nodup_map_on (l := rng n) (f := fun x => ((b.idxOf x : Nat) : Int)) (rng_nodup n) fun x hx y hy e => ?_) (fun y hy => ?_) (by simp [rng_len, ivL]))
  · have e1 : b.idxOf x = b.idxOf y := by omega
    have l1 := List.idxOf_lt_length_of_mem (hb.mem_iff.mpr hx)
    have l2 := List.idxOf_lt_length_of_mem (hb.mem_iff.mpr hy)
    rw [← List.getElem_idxOf l1, ← List.getElem_idxOf l2]
    simp only [e1]
  · obtain ⟨x, hx, rfl⟩ := List.mem_map.mp (show y ∈ (rng n).map fun x => ((b.idxOf x : Nat) : Int) from hy)
    have l1 := List.idxOf_lt_length_of_mem (hb.mem_iff.mpr hx)
    exact mem_rng.mpr ⟨by omega, by omega⟩
theorem jn_ivL {n : Nat} {b : List Int} (hb : b.Perm (rng n)) : jn (ivL n b) b = rng n := by
  have hc := ivL_perm hb
  have h1 : jn (jn (ivL n b) b) (ivL n b) = jn (rng n) (ivL n b) := by rw [jn_assoc hc hb, ivL_jn hb, jn_still hc, still_jn (lenP hc)]
  exact jn_inj (jn_perm hc hb) (List.Perm.refl _) hc h1
/-- renamed -/
theorem ren_gen {n : Nat} {T T' : List (List Int)} {b : List Int} (on : OnN n T) (hb : b.Perm (rng n)) (h : ∀ m' ∈ T', ∃ m ∈ T, m'.Perm (rng n) ∧ jn b m' = jn m b) {x : List Int} (hx : Gen n T' x) : x.Perm (rng n) ∧ Gen n T (jn (jn b x) (ivL n b)) := by
  have hc := ivL_perm hb
  induction hx with
  | still =>
    refine ⟨.refl _, ?_⟩
    rw [jn_still hb, ivL_jn hb]
    exact .still
  | @step x m' hx hm ih =>
    obtain ⟨m, h1, h2, h3⟩ := h m' hm
    refine ⟨jn_perm ih.1 h2, ?_⟩
    have pm := on m h1
    have e1 : m = jn (jn b m') (ivL n b) := by rw [h3, jn_assoc pm hb, ivL_jn hb, jn_still pm]
    have e2 : jn (jn b (jn x m')) (ivL n b) = jn (jn (jn b x) (ivL n b)) m := by
      rw [e1, ← jn_assoc (jn_perm (jn_perm hb ih.1) hc) (jn_perm hb h2), ← jn_assoc (jn_perm (jn_perm hb ih.1) hc) hb, jn_assoc (a := jn b x) (jn_perm hb ih.1) hc, jn_ivL hb, jn_still (jn_perm hb ih.1), jn_assoc hb ih.1]
    rw [e2]
    exact .step ih.2 h1
theorem ren_over {n k : Nat} {T T' M : List (List Int)} {b : List Int} (on : OnN n T) (md : Made n T M) (hl : M.length ≤ k) (hb : b.Perm (rng n)) (h : ∀ m' ∈ T', ∃ m ∈ T, m'.Perm (rng n) ∧ jn b m' = jn m b) : ¬ Over n T' k := by
  have hc := ivL_perm hb
  refine not_over md hl (fun x => jn (jn b x) (ivL n b)) (fun x hx => (ren_gen on hb h hx).2) fun x y hx hy e => ?_
  have px := (ren_gen on hb h hx).1
  have py := (ren_gen on hb h hy).1
  have e1 := jn_inj (jn_perm hb px) (jn_perm hb py) hc e
  have e2 : jn (ivL n b) (jn b x) = jn (ivL n b) (jn b y) := by rw [e1]
  rwa [← jn_assoc hc hb, ← jn_assoc hc hb, jn_ivL hb, still_jn (lenP px), still_jn (lenP py)] at e2
/-- one point more, that all hold -/
theorem rng_last (n : Nat) : rng (n + 1) = rng n ++ [(n : Int)] := by
  have := rng_app n 1
  rw [this]
  simp [rng]
theorem wid_perm {n : Nat} {a : List Int} (h : a.Perm (rng n)) : (a ++ [(n : Int)]).Perm (rng (n + 1)) := by
  rw [rng_last]
  exact h.append_right _
theorem wid_jn {n : Nat} {a b : List Int} (ha : a.Perm (rng n)) (hb : b.Perm (rng n)) : jn (a ++ [(n : Int)]) (b ++ [(n : Int)]) = jn a b ++ [(n : Int)] := by
  have lb := lenP hb
  show (a ++ [(n : Int)]).map _ = _
  rw [List.map_append]
  have e1 : a.map (im (b ++ [(n : Int)])) = jn a b := List.map_congr_left fun x hx => by
    have hr := inP ha hx
    unfold im
    rw [List.getElem?_append_left (by omega)]
  have e2 : im (b ++ [(n : Int)]) (n : Int) = n := by
    unfold im
    rw [Int.toNat_natCast, List.getElem?_append_right (by omega), lb, Nat.sub_self]
    rfl
  rw [e1, List.map_cons, List.map_nil, e2]
theorem wid_gen {n : Nat} {T : List (List Int)} (on : OnN n T) {x : List Int} (hx : Gen n T x) : Gen (n + 1) (T.map fun m => m ++ [(n : Int)]) (x ++ [(n : Int)]) := by
  induction hx with
  | still => rw [← rng_last]; exact .still
  | @step x m hx hm ih =>
    rw [← wid_jn (hx.perm on) (on m hm)]
    exact .step ih (List.mem_map_of_mem hm)
theorem wid_back {n : Nat} {T : List (List Int)} (on : OnN n T) {x : List Int} (hx : Gen (n + 1) (T.map fun m => m ++ [(n : Int)]) x) : ∃ y, Gen n T y ∧ x = y ++ [(n : Int)] := by
  induction hx with
  | still => exact ⟨_, .still, rng_last n⟩
  | @step x m' hx hm ih =>
    obtain ⟨y, hy, rfl⟩ := ih
    obtain ⟨m, h1, rfl⟩ := List.mem_map.mp hm
    exact ⟨jn y m, .step hy h1, wid_jn (hy.perm on) (on m h1)⟩
theorem wid_over {n k : Nat} {T M : List (List Int)} (on : OnN n T) (md : Made n T M) (hl : M.length ≤ k) : ¬ Over (n + 1) (T.map fun m => m ++ [(n : Int)]) k := by
  refine not_over md hl (fun x => x.dropLast) (fun x hx => ?_) fun x y hx hy e => ?_
  · obtain ⟨z, hz, rfl⟩ := wid_back on hx
    rw [List.dropLast_concat]
    exact hz
  · obtain ⟨z, hz, rfl⟩ := wid_back on hx
    obtain ⟨z', hz', rfl⟩ := wid_back on hy
    rw [List.dropLast_concat, List.dropLast_concat] at e
    rw [e]
/-- one point fewer, where all hold the last -/
theorem nar_over {n k : Nat} {T T' M : List (List Int)} (on' : OnN n T') (e : T = T'.map fun m => m ++ [(n : Int)]) (md : Made (n + 1) T M) (hl : M.length ≤ k) : ¬ Over n T' k :=
  not_over md hl (fun x => x ++ [(n : Int)]) (fun x hx => e ▸ wid_gen on' hx) fun x y _ _ e => List.append_cancel_right e
theorem nar_perm {n : Nat} {a : List Int} (h : a.Perm (rng (n + 1))) (hl : a[n]? = some (n : Int)) : a = a.dropLast ++ [(n : Int)] ∧ a.dropLast.Perm (rng n) := by
  have la := lenP h
  have hne : a ≠ [] := by rintro rfl; simp at la
  have e : a = a.dropLast ++ [(n : Int)] := by
    have h1 := List.dropLast_concat_getLast hne
    rw [List.getLast_eq_getElem] at h1
    have h2 : a[a.length - 1]? = some (n : Int) := by rw [la]; exact hl
    rw [List.getElem?_eq_getElem (by omega)] at h2
    rw [Option.some.inj h2] at h1
    exact h1.symm
  refine ⟨e, ?_⟩
  rw [rng_last] at h
  rw [e] at h
  exact (List.perm_append_right_iff _).mp h
/-! tuples in order -/
theorem lexLe_iff : ∀ a b : List Int, lexLeI a b = decide (a ≤ b)
  | [], b => by simp [lexLeI]
  | x :: a, [] => by simp [lexLeI]
  | x :: a, y :: b => by
    unfold lexLeI
    split
    · subst_vars
      rw [lexLe_iff a b]
      simp [List.cons_le_cons_iff]
    · rename_i c
      rw [Bool.eq_iff_iff, decide_eq_true_eq, decide_eq_true_eq, List.cons_le_cons_iff]
      constructor
      · intro h
        exact .inl (by omega)
      · rintro (h | ⟨h, _⟩)
        · omega
        · exact absurd h c
theorem asc_le {M : List (List Int)} (ha : M.Pairwise (· ≤ ·)) (nd : M.Nodup) {i j : Nat} {x y : List Int} (hi : M[i]? = some x) (hj : M[j]? = some y) : decide (y ≤ x) = decide (j ≤ i) := by
  have li := (List.getElem?_eq_some_iff.mp hi).1
  have lj := (List.getElem?_eq_some_iff.mp hj).1
  have ei := (List.getElem?_eq_some_iff.mp hi).2
  have ej := (List.getElem?_eq_some_iff.mp hj).2
  rw [Bool.eq_iff_iff, decide_eq_true_eq, decide_eq_true_eq]
  constructor
  · intro h
    refine Nat.le_of_not_lt fun c => ?_
    have h2 : M[i] ≤ M[j] := List.pairwise_iff_getElem.mp ha i j li lj c
    rw [ei, ej] at h2
    have e := List.le_antisymm h h2
    have := (List.getElem?_inj lj nd).mp (hj.trans (e ▸ hi.symm))
    omega
  · intro h
    rcases Nat.lt_or_eq_of_le h with c | c
    · have h2 : M[j] ≤ M[i] := List.pairwise_iff_getElem.mp ha j i lj li c
      rwa [ei, ej] at h2
    · subst c
      rw [hi] at hj
      cases hj
      exact List.le_refl _
theorem lex_at {ns ms : List Int} : ∀ (a b : List Int) (i : Nat), (∀ j, a.getD j 0 = ns.getD (i + j) 0) → (∀ j, b.getD j 0 = ms.getD (i + j) 0) → a.length + i = ns.length → b.length + i = ms.length →
    Ob.lexAt (fun j => decide (ns.getD j 0 = ms.getD j 0)) (fun j => decide (ns.getD j 0 ≤ ms.getD j 0)) (decide (ns.length ≤ ms.length)) i (min a.length b.length) = lexLeI a b
  | [], b, i, h1, h2, h3, h4 => by
    rw [List.length_nil, Nat.zero_min]
    show decide _ = true
    rw [List.length_nil] at h3
    exact decide_eq_true (by omega)
  | x :: a, [], i, h1, h2, h3, h4 => by
    rw [List.length_nil, Nat.min_zero]
    show decide _ = false
    rw [List.length_nil] at h4
    rw [List.length_cons] at h3
    exact decide_eq_false (by omega)
  | x :: a, y :: b, i, h1, h2, h3, h4 => by
    rw [List.length_cons] at h3 h4
    rw [List.length_cons, List.length_cons, show min (a.length + 1) (b.length + 1) = min a.length b.length + 1 by omega, Ob.lexAt_succ]
    have e1 : x = ns.getD i 0 := h1 0
    have e2 : y = ms.getD i 0 := h2 0
    rw [← e1, ← e2]
    unfold lexLeI
    have ih := lex_at (ns := ns) (ms := ms) a b (i + 1) (fun j => by rw [show i + 1 + j = i + (j + 1) by omega, ← h1 (j + 1)]; rfl) (fun j => by rw [show i + 1 + j = i + (j + 1) by omega, ← h2 (j + 1)]; rfl) (by omega) (by omega)
    rw [ih]
    by_cases c : x = y
    · rw [if_pos (decide_eq_true c), if_pos c]
    · rw [if_neg (by simpa using c), if_neg c]
theorem leT_by {K : PySem.W.Frag} {H : Hp} {a b : Addr} {ns ms : List Int} {Q : VK} (ha : H a = some (.tup (ns.map V.int))) (hb : H b = some (.tup (ms.map V.int))) (k : Q (.bl (decide (ns ≤ ms))) H) : rLeT K (.ref a) (.ref b) H Q := by
  refine ⟨a, b, ns, ms, rfl, rfl, SqT.of ha, SqT.of hb, ?_⟩
  rw [lex_at ns ms 0 (fun j => by rw [Nat.zero_add]) (fun j => by rw [Nat.zero_add]) rfl rfl, lexLe_iff]
  exact k

/-! ## HoFw -/
section
variable {K : PySem.W.Frag} {g : TG} {tb : TS} {D : Ends} {σ : L2.St} {H : Hp} {tl : TE}
def FWV (K : PySem.W.Frag) (v : V) (g : TG) (tb : TS) (D : Ends) (σ : L2.St) (H : Hp) : Prop := ∃ a dx fs, v = .ref a ∧ H a = some (.ins (wC K) dx fs) ∧ ∀ n, sp_witer K n [.ref a] H (fun v H2 => ∃ it q, v = .ref it ∧ H it = none ∧ n ≤ it ∧ H2 = upd H it (ItO q it 0) ∧ tFor (fun _ H R => R (Itl K q) H) g tb D σ H) E0
theorem a_forW : tFor (iW K (sp_witer K) tl) g tb D σ H = tl σ H fun x H1 => FWV K x g tb D σ H1 := rfl
theorem fw_by {x q : Addr} {n : Nat} {T M : List (List Int)} {xs : List V} (h : Wd K H x q n T M) (hq : H q = some (.lst xs)) (Pv : Nat → L2.St → Hp → Prop) (h0 : Pv 0 σ H) (hl : ∀ i σ' H', Pv i σ' H' → ∀ o, H q = some o → H' q = some o)
    (hs : ∀ i x σ H (N : L2.St → Hp → Prop), (∀ σ' H', Pv (i + 1) σ' H' → N σ' H') → xs[i]? = some x → Pv i σ H → g x σ H fun σ2 H2 => tb { D with nx := N, ct := N, bk := D.nx } σ2 H2) (hd : ∀ σ H, Pv xs.length σ H → D.nx σ H) : FWV K (.ref x) g tb D σ H := by
  obtain ⟨dx, fs, hx⟩ := h.at
  refine ⟨x, dx, fs, rfl, hx, fun m => ⟨x, q, n, T, M, rfl, h, fun it hit hm => ⟨it, q, rfl, hit, hm, rfl, ?_⟩⟩⟩
  obtain ⟨ys, k | k⟩ := fs_by (K := K) (D := D) (tb := tb) (g := g) (sq_l hq) Pv h0 hl hs hd
  · exact k.2
  · rw [hq] at k
    exact nomatch k.1
end

/-! ## HoRt -/
section
open HT
variable {prog : Program} {w : World} {A : Around} {E : Value → Shared → Prop} {s : Shared}
theorem sliceApplied_rev {sl : Addr} {vl vu vs : Value} {n : Nat} {Q : Int × Int × Nat → Shared → Prop} (hs : s.heap.IsSliceOf sl vl vu vs) (pl : IsPart vl none) (pu : IsPart vu none) (ps : IsPart vs (some (-1)))
    (h : Q ((n : Int) - 1, -1, n) s) : wpAny (model prog w) A (Builtin.Slice.sliceApplied (.ref sl) (pure (n : Int))) Q E s := by
  obtain ⟨os, hos, hcs, hds⟩ := id hs
  unfold Builtin.Slice.sliceApplied Builtin.Slice.sliceFields
  refine wpAny_bind (wpAny_bind (wpAny_field hos hds (x := vl) rfl (wpAny_bind (wpAny_field hos hds (x := vu) rfl (wpAny_bind (wpAny_field hos hds (x := vs) rfl (wpAny_pure ?_)))))))
  refine wpAny_bind (slicePart_ ps ?_)
  show wpAny _ _ (if ((-1 : Int) == 0) = true then _ else _) _ _ s
  rw [if_neg (by decide)]
  refine wpAny_bind (slicePart_ pl (wpAny_bind (slicePart_ pu (wpAny_bind (wpAny_pure ?_)))))
  show wpAny _ _ (pure ((n : Int) - 1, (-1 : Int), Builtin.Slice.slicePlaces ((n : Int) - 1) (-1) (-1))) _ _ s
  have e : Builtin.Slice.slicePlaces ((n : Int) - 1) (-1) (-1) = n := by
    unfold Builtin.Slice.slicePlaces
    rw [if_neg (by decide)]
    by_cases h : (n : Int) - 1 > -1
    · rw [if_pos h, show (-(-1 : Int)) = 1 by decide, Int.ediv_one]
      omega
    · rw [if_neg h]
      omega
  rw [e]
  exact wpAny_pure h
theorem fm_map {α β : Type} {f : α → Option β} {g : α → β} : ∀ {l : List α}, (∀ x ∈ l, f x = some (g x)) → l.filterMap f = l.map g
  | [], _ => rfl
  | x :: l, h => by rw [List.filterMap_cons, h x List.mem_cons_self, List.map_cons, fm_map fun y hy => h y (List.mem_cons_of_mem _ hy)]
theorem pick_rev (items : Array Value) : (List.range items.size).filterMap (fun (k : Nat) => items[((items.size : Int) - 1 + (k : Int) * (-1)).toNat]?) = items.toList.reverse := by
  refine List.ext_getElem? fun i => ?_
  have e : (List.range items.size).filterMap (fun (k : Nat) => items[((items.size : Int) - 1 + (k : Int) * (-1)).toNat]?) = (List.range items.size).map fun k => items.toList.getD (items.size - 1 - k) .none := by
    refine fm_map fun k hk => ?_
    have hk := List.mem_range.mp hk
    rw [show ((items.size : Int) - 1 + (k : Int) * (-1)).toNat = items.size - 1 - k by omega]
    have hl : items.size - 1 - k < items.size := by omega
    rw [Array.getElem?_eq_getElem hl]
    show some _ = some _
    rw [List.getD_eq_getElem?_getD, Array.getElem?_toList, Array.getElem?_eq_getElem hl]
    rfl
  rw [e]
  by_cases hi : i < items.size
  · rw [List.getElem?_map, List.getElem?_range hi, List.getElem?_reverse (by simpa using hi)]
    show some (items.toList.getD (items.size - 1 - i) Value.none) = _
    have hl : items.size - 1 - i < items.toList.length := by rw [Array.length_toList]; omega
    rw [show items.toList.length - 1 - i = items.size - 1 - i by rw [Array.length_toList], List.getElem?_eq_getElem hl, List.getD_eq_getElem?_getD, List.getElem?_eq_getElem hl]
    rfl
  · rw [List.getElem?_eq_none (by rw [List.length_map, List.length_range]; omega), List.getElem?_eq_none (by rw [List.length_reverse, Array.length_toList]; omega)]
theorem getItem_tuple_rev {t sl : Addr} {items : Array Value} {vl vu vs : Value} {Q : Value → Shared → Prop} (ht : IsTup s.heap t items) (hs : s.heap.IsSliceOf sl vl vu vs) (pl : IsPart vl none) (pu : IsPart vu none) (ps : IsPart vs (some (-1)))
    (h : Q (.ref s.heap.objs.size) { s with heap := s.heap.push { cls := .type "tuple", data := .seq items.toList.reverse.toArray } })
    (hsz : items.size ≤ sizeLine) : wpAny (model prog w) A (getItem (.ref t) (.ref sl)) Q E s := by
  have htake : sizeOk (.seq items.toList.reverse.toArray) := by
    show items.toList.reverse.toArray.size ≤ sizeLine
    rw [List.size_toArray, List.length_reverse, Array.length_toList]
    exact hsz
  obtain ⟨os, hos, hcs, hds⟩ := id hs
  have hTs : s.TypeIs (.ref sl) "slice" := ⟨os, hos, hcs⟩
  unfold getItem
  try with_reducible refine wpAny_holding ?_
  first | refine wpAny_bind (wpAny_pure ?_) | skip
  refine wpAny_bind (wpAny_sequenceKey ht.typeIs (by decide) ?_)
  refine wpAny_bind (wpAny_callSpecial?_slot (name := Str.ofString "__getitem__") ht.typeIs PyProof.Rows.slot_tuple_getitem
    (wpAny_call_entry PyProof.Rows.slot_tuple_getitem ht.typeIs entry_tuple_getitem ?_ (args_tuple_getitem _ _)))
  show wpAny _ _ (Builtin.Tuple.tupleItemsOf (.ref t) >>= _) _ _ s
  refine wpAny_bind (tupleItemsOf_ ht ?_)
  refine wpAny_bind (wpAny_typeOf hTs ?_)
  rw [if_pos (by decide)]
  refine wpAny_bind (sliceApplied_rev hs pl pu ps ?_)
  have hno : ¬ (((((items.size : Int) - 1) == 0 && (-1 : Int) == 1) && items.size == items.size) = true) := by simp
  show wpAny _ _ (if ((((items.size : Int) - 1) == 0 && (-1 : Int) == 1) && items.size == items.size) = true then _ else _) _ _ s
  rw [if_neg hno, pick_rev]
  first
    | exact wpAny_bind (m := Builtin.Tuple.tupleExact _) (wpAny_newObj_type (wpAny_pure ⟨_, rfl, wpAny_pure h⟩) htake)
    | exact wpAny_bind (m := Builtin.Tuple.tupleExact _) (wpAny_newObj_type (wpAny_bind (wpAny_pure (wpAny_pure ⟨_, rfl, wpAny_pure h⟩))) htake)
    | exact wpAny_bind (wpAny_bind (m := Builtin.Tuple.tupleExact _) (wpAny_newObj_type (wpAny_pure (wpAny_pure ⟨_, rfl, wpAny_pure h⟩)) htake))
    | exact wpAny_bind (wpAny_bind (m := Builtin.Tuple.tupleExact _) (wpAny_newObj_type (wpAny_pure ⟨_, rfl, wpAny_pure h⟩) htake))
end
section
variable {X : Cx}
def tRevT (K : PySem.W.Frag) (te : TE) : TE := fun σ H Q => te σ H fun x H1 => ∃ a xs, x = .ref a ∧ SqT K H1 a xs ∧ ∀ p, H1 p = none → Q (.ref p) (upd H1 p (.tup xs.reverse))
theorem pe_revT {e : Expr} {te : TE} {k : Nat} {p1 p2 p3 pos : Pos} (he : PE X e te) : PE X (.Subscript e (.Slice none none (some (.UnaryOp .USub (.Constant (.int 1) k p1) p2)) p3) pos) (tRevT X.K te) := by
  refine ⟨fun pins s σ H Q I h => ?_⟩
  refine Subscript_ (thn (he.run pins s σ H _ I h) fun v s1 ⟨x, H1, I1, r1, q1⟩ => ?_)
  obtain ⟨a, xs, ex, hx, q⟩ := q1
  subst ex
  cases r1
  have hst : PO X (some (.UnaryOp .USub (.Constant (.int 1) k p1) p2)) (tPart (tUn (rU fun i => .int (-i)) (tC (.int 1)))) := po_some (pe_un un_neg pe_int)
  refine wpAny_Slice (thn (po_none.run pins s1 σ H1 (fun o H2 => o = none ∧ H2 = H1) I1 ⟨rfl, rfl⟩) fun vl s2 ⟨l, H2, I2, pl, el, e2⟩ => ?_)
  subst el e2
  refine thn (po_none.run pins s2 σ H2 (fun o H3 => o = none ∧ H3 = H2) I2 ⟨rfl, rfl⟩) fun vu s3 ⟨u, H3, I3, pu, eu, e3⟩ => ?_
  subst eu e3
  refine thn (hst.run pins s3 σ H3 (fun o H4 => o = some (-1) ∧ H4 = H3) I3 ⟨1, rfl, -1, rfl, rfl, rfl⟩) fun vs s4 ⟨o, H4, I4, ps, eo, e4⟩ => ?_
  subst eo e4
  have I5 : Inv X pins σ H4 { s4 with heap := s4.heap.push { cls := .type "slice", data := .fields #[vl, vu, vs] } } := I4.kept (t' := s4.toks) fun b ob q => Heap.get?_push_of_some _ q
  obtain ⟨its, r, ht, hz⟩ := I5.tuple hx
  have hlen := r.length
  show wpAny (model X.prog X.w) X.A (subscriptTail e (.Slice none none (some (.UnaryOp .USub (.Constant (.int 1) k p1) p2)) p3) (.ref a) (.ref s4.heap.objs.size)) (EP X pins σ Q) X.xe { s4 with heap := s4.heap.push { cls := .type "slice", data := .fields #[vl, vu, vs] } }
  refine tail_any (ops := [.ref a, .ref s4.heap.objs.size]) ht.typeIs (PyProof.Rows.slot_tuple_getitem.lookup) ?_ (by with_unfolding_all rfl)
  refine getItem_tuple_rev ht (Heap.IsSliceOf.new _ vl vu vs) pl pu ps ?_ (by rw [List.size_toArray]; omega)
  refine ⟨.ref _, _, I5.laid (t' := s4.toks) (o := .tup xs.reverse) (fun b ob q => Heap.get?_push_of_some _ q) (Nat.le_refl _) ?_, rfl, q _ (I5.hok.fresh (Nat.le_refl _))⟩
  refine ⟨by rw [List.length_reverse]; exact hz, its.reverse, r.reverse, ?_⟩
  exact IsTup.new _ _
theorem a_revT {K : PySem.W.Frag} {te : TE} {σ : L2.St} {H : Hp} {Q : VK} : tRevT K te σ H Q = te σ H fun x H1 => ∃ a xs, x = .ref a ∧ SqT K H1 a xs ∧ Nw H1 (.tup xs.reverse) fun p H' => Q (.ref p) H' := by
  unfold tRevT
  simp only [nw_eq]
end

/-! ## HoCf -/
theorem int_at {ns : List Int} {i : Nat} {x : V} (h : (ns.map V.int)[i]? = some x) : ∃ z, ns[i]? = some z ∧ x = V.int z := by
  rw [List.getElem?_map] at h
  cases e : ns[i]? with
  | none => rw [e] at h; cases h
  | some z => rw [e] at h; exact ⟨z, rfl, (Option.some.inj h).symm⟩
section
variable {K : PySem.W.Frag} {H : Hp} {Q : VK} {σ : L2.St} {g : TG} {tt : TT} {te : TE} {vs : List Nat}
theorem cs_filt {a : Addr} {us : List Addr} {L : List (List Int)} (f : List Int → Bool) (hq : sq H a = some (us.map V.ref)) (t : TLs H us L) (hl : L.length ≤ 100000)
    (hs : ∀ C b mv H1 (N : Hp → Prop), Same H H1 → H1 b = some (.tup (mv.map V.int)) → mv ∈ L → (f mv = true → CSt C N (.ref b) H1) → (f mv = false → N H1) → g (.ref b) (wipe σ vs) H1 fun σ2 H2 => wipe σ2 vs = wipe σ vs ∧ tt σ2 H2 fun bb H3 =>
      if bb = true then te σ2 H3 fun y H4 => CSt C N y H4 else N H3)
    (hd : ∀ C ws H1, Same H H1 → H C = none → H1 C = some (.lst (ws.map V.ref)) → TLs H1 ws (L.filter f) → Q (.ref C) H1) : CSq K a g tt te vs σ H Q := by
  have hul := t.len
  refine cs_by hq (fun C i acc H' => Same H H' ∧ ∃ vs, acc = vs.map V.ref ∧ TLs H' vs ((L.take i).filter f)) (fun C H0 n0 => ⟨n0.same, [], rfl, by rw [List.take_zero]; exact .nil⟩) (fun C i acc H' hC f o ho => f.1 _ _ ho) ?_ ?_
  · rintro C i y acc H2 N hC hy hacc ⟨s2, vs, rfl, t2⟩ hN
    obtain ⟨b, mv, rfl, hb1, hb2, hb3⟩ := t.get hy
    have hvl := t2.len
    have hfl2 := List.length_filter_le f (L.take i)
    rw [List.length_take] at hfl2
    refine hs C b mv H2 N s2 (s2 _ _ hb3) (List.mem_of_getElem? hb2) (fun hf => ?_) (fun hf => ?_)
    · refine cst hacc (by rw [List.length_map, hvl, sizeLine_eq]; omega) fun H5 p5 => hN _ _ p5.at_ ⟨p5.same s2 hC, vs ++ [b], by simp, ?_⟩
      rw [List.take_add_one, hb2, List.filter_append]
      simp only [Option.toList_some, List.filter_cons, hf, if_true, List.filter_nil]
      exact (t2.put p5 hacc).snoc (p5.k (fun z => by have h6 := s2 _ _ hb3; rw [z, hacc] at h6; cases h6) (s2 _ _ hb3))
    · refine hN _ _ hacc ⟨s2, vs, rfl, ?_⟩
      rw [List.take_add_one, hb2, List.filter_append]
      simp only [Option.toList_some, List.filter_cons, hf, Bool.false_eq_true, if_false, List.filter_nil, List.append_nil]
      exact t2
  · rintro C acc H2 hC hacc ⟨s2, vs, rfl, t2⟩
    rw [List.length_map, hul, List.take_length] at t2
    exact hd C vs H2 s2 hC hacc t2
/-- [v(move) for move in list]: plain values -/
theorem cs_val {a : Addr} {us : List Addr} {L : List (List Int)} (f : List Int → V) (hq : sq H a = some (us.map V.ref)) (t : TLs H us L) (hl : L.length ≤ 100000)
    (hs : ∀ C b mv H1 (N : Hp → Prop), Same H H1 → H1 b = some (.tup (mv.map V.int)) → mv ∈ L → CSt C N (f mv) H1 → g (.ref b) (wipe σ vs) H1 fun σ2 H2 => wipe σ2 vs = wipe σ vs ∧ tt σ2 H2 fun bb H3 =>
      if bb = true then te σ2 H3 fun y H4 => CSt C N y H4 else N H3)
    (hd : ∀ C H1, Same H H1 → H C = none → H1 C = some (.lst (L.map f)) → Q (.ref C) H1) : CSq K a g tt te vs σ H Q := by
  have hul := t.len
  refine cs_by hq (fun C i acc H' => Same H H' ∧ acc = (L.take i).map f) (fun C H0 n0 => ⟨n0.same, by rw [List.take_zero]; rfl⟩) (fun C i acc H' hC f o ho => f.1 _ _ ho) ?_ ?_
  · rintro C i y acc H2 N hC hy hacc ⟨s2, rfl⟩ hN
    obtain ⟨b, mv, rfl, hb1, hb2, hb3⟩ := t.get hy
    have hil := (List.getElem?_eq_some_iff.mp hb2).1
    refine hs C b mv H2 N s2 (s2 _ _ hb3) (List.mem_of_getElem? hb2) ?_
    refine cst hacc (by rw [List.length_map, List.length_take, sizeLine_eq]; omega) fun H5 p5 => hN _ _ p5.at_ ⟨p5.same s2 hC, ?_⟩
    rw [List.take_add_one, hb2, List.map_append]
    rfl
  · rintro C acc H2 hC hacc ⟨s2, rfl⟩
    rw [List.length_map, hul, List.take_length] at hacc
    exact hd C H2 s2 hC hacc
/-- [v(z) for z in ints if ..] over ints: those of which a property is true -/
theorem cs_fint {a : Addr} {c : List Int} (f : Int → Bool) (hq : sq H a = some (c.map V.int)) (hl : c.length ≤ 100000)
    (hs : ∀ C z H1 (N : Hp → Prop), Same H H1 → z ∈ c → (f z = true → ∀ H2, Same H1 H2 → CSt C N (.int z) H2) → (f z = false → ∀ H2, Same H1 H2 → N H2) → g (.int z) (wipe σ vs) H1 fun σ2 H2 => wipe σ2 vs = wipe σ vs ∧ tt σ2 H2 fun bb H3 =>
      if bb = true then te σ2 H3 fun y H4 => CSt C N y H4 else N H3)
    (hd : ∀ C H1, Same H H1 → H C = none → H1 C = some (.lst ((c.filter f).map V.int)) → Q (.ref C) H1) : CSq K a g tt te vs σ H Q := by
  refine cs_by hq (fun C i acc H' => Same H H' ∧ acc = ((c.take i).filter f).map V.int) (fun C H0 n0 => ⟨n0.same, by rw [List.take_zero]; rfl⟩) (fun C i acc H' hC f o ho => f.1 _ _ ho) ?_ ?_
  · rintro C i y acc H2 N hC hy hacc ⟨s2, rfl⟩ hN
    obtain ⟨z, hz, rfl⟩ : ∃ z, c[i]? = some z ∧ y = V.int z := by
      rw [List.getElem?_map] at hy
      cases e : c[i]? with
      | none => rw [e] at hy; cases hy
      | some z => rw [e] at hy; exact ⟨z, rfl, (Option.some.inj hy).symm⟩
    have hil := (List.getElem?_eq_some_iff.mp hz).1
    have hfl2 := List.length_filter_le f (c.take i)
    rw [List.length_take] at hfl2
    refine hs C z H2 N s2 (List.mem_of_getElem? hz) (fun hf H3 s3 => ?_) (fun hf H3 s3 => ?_)
    · refine cst (s3 _ _ hacc) (by rw [List.length_map, sizeLine_eq]; omega) fun H5 p5 => hN _ _ p5.at_ ⟨p5.same (s2.trans s3) hC, ?_⟩
      rw [List.take_add_one, hz, List.filter_append, List.map_append]
      simp [hf]
    · refine hN _ _ (s3 _ _ hacc) ⟨s2.trans s3, ?_⟩
      rw [List.take_add_one, hz, List.filter_append, List.map_append]
      simp [hf]
  · rintro C acc H2 hC hacc ⟨s2, rfl⟩
    rw [List.length_map, List.take_length] at hacc
    exact hd C H2 s2 hC hacc
/-- [k for k in range(n) if ..] -/
theorem cr_fnat {n : Nat} (f : Nat → Bool) (hl : n ≤ 100000)
    (hs : ∀ C (i : Nat) H1 (N : Hp → Prop), Same H H1 → i < n → (f i = true → ∀ H2, Same H1 H2 → CSt C N (.int (i : Int)) H2) → (f i = false → ∀ H2, Same H1 H2 → N H2) → g (.int (i : Int)) (wipe σ vs) H1 fun σ2 H2 => wipe σ2 vs = wipe σ vs ∧ tt σ2 H2 fun bb H3 =>
      if bb = true then te σ2 H3 fun y H4 => CSt C N y H4 else N H3)
    (hd : ∀ C H1, Same H H1 → H C = none → H1 C = some (.lst (((List.range n).filter f).map fun k : Nat => V.int (k : Int))) → Q (.ref C) H1) : CRg 0 n g tt te vs σ H Q := by
  refine cr_by (fun C i acc H' => Same H H' ∧ acc = ((List.range i).filter f).map fun k : Nat => V.int (k : Int)) (fun C H0 n0 => ⟨n0.same, rfl⟩) ?_ ?_
  · rintro C i acc H2 N hC hi hacc ⟨s2, rfl⟩ hN
    rw [Int.zero_add]
    have hfl := List.length_filter_le f (List.range i)
    rw [List.length_range] at hfl
    refine hs C i H2 N s2 hi (fun hf H3 s3 => ?_) (fun hf H3 s3 => ?_)
    · refine cst (s3 _ _ hacc) (by rw [List.length_map, sizeLine_eq]; omega) fun H5 p5 => hN _ _ p5.at_ ⟨p5.same (s2.trans s3) hC, ?_⟩
      rw [List.range_succ, List.filter_append, List.map_append]
      simp [hf]
    · refine hN _ _ (s3 _ _ hacc) ⟨s2.trans s3, ?_⟩
      rw [List.range_succ, List.filter_append, List.map_append]
      simp [hf]
  · rintro C acc H2 hC hacc ⟨s2, rfl⟩
    exact hd C H2 s2 hC hacc
/-- [v(k) for k in range(n)]: plain values -/
theorem cr_val {n : Nat} (f : Nat → V) (hl : n ≤ 100000)
    (hs : ∀ C (i : Nat) H1 (N : Hp → Prop), Same H H1 → i < n → (∀ H2, Same H1 H2 → CSt C N (f i) H2) → g (.int (i : Int)) (wipe σ vs) H1 fun σ2 H2 => wipe σ2 vs = wipe σ vs ∧ tt σ2 H2 fun bb H3 =>
      if bb = true then te σ2 H3 fun y H4 => CSt C N y H4 else N H3)
    (hd : ∀ C H1, Same H H1 → H C = none → H1 C = some (.lst ((List.range n).map f)) → Q (.ref C) H1) : CRg 0 n g tt te vs σ H Q := by
  refine cr_by (fun C i acc H' => Same H H' ∧ acc = (List.range i).map f) (fun C H0 n0 => ⟨n0.same, rfl⟩) ?_ ?_
  · rintro C i acc H2 N hC hi hacc ⟨s2, rfl⟩ hN
    rw [Int.zero_add]
    refine hs C i H2 N s2 hi (fun H3 s3 => ?_)
    refine cst (s3 _ _ hacc) (by rw [List.length_map, List.length_range, sizeLine_eq]; omega) fun H5 p5 => hN _ _ p5.at_ ⟨p5.same (s2.trans s3) hC, ?_⟩
    rw [List.range_succ, List.map_append]
    rfl
  · rintro C acc H2 hC hacc ⟨s2, rfl⟩
    exact hd C H2 s2 hC hacc
end

/-! ## HoWc -/
section
variable {X : Cx}
def rInW (K : PySem.W.Frag) (sp : Sp) : R2 := fun x y H Q => ∃ b dy gs, y = .ref b ∧ H b = some (.ins (wC K) dy gs) ∧ sp [.ref b, x] H (fun v H' => ∃ r, v = .bl r ∧ Q (.bl r) H') E0
theorem op_inW {j k : Nat} {sp : Sp} (C : MtC X.prog X.w X.K X.mg X.base j "__contains__" ["self", "value"] sp) (hr : Room k X.A) (hjk : j ≤ k := by decide) : OpR X (compareOp .In) (rInW X.K sp) := by
  obtain ⟨f, fd, hs, hf, hb, F⟩ := C
  intro pins s σ H x y v u Q I rx ry h
  obtain ⟨b, dy, gs, rfl, hb', hq⟩ := h
  cases ry
  obtain ⟨mB, J, _⟩ := ins_get I.hok hb'
  obtain ⟨od, J, _⟩ := J.look
  obtain ⟨m, hF⟩ := I.fr
  refine PySem.W.in_K hF I.ok.mod.kin J hs hf ?_
  have hl := F.len _ _ _ _ hq
  have bb := hb s [.ref b, v] I.kIn (by rw [List.append_nil]; exact hl)
  rw [List.append_nil] at bb
  refine wpAny_call (codeAny_mono (F.run X.A X.stack s H ⟨[.ref b, v], []⟩ [.ref b, v] [.ref b, x] _ E0 (hr.mono hjk) I.env0 bb (.cons rfl (.cons rx .nil)) hq) fun r s' hq' => ?_)
  cases r with
  | error e => exact pass0 pins σ H s e s' I hq'
  | ok fl =>
    cases fl with
    | ret u =>
      obtain ⟨z, H', I', rz, r, ez, q⟩ := I.after hq'
      subst ez
      cases rz
      exact wpAny_truthy_bool ⟨.bl r, H', I', rfl, q⟩
    | next => exact False.elim hq'
    | brk => exact False.elim hq'
    | cont => exact False.elim hq'
end
theorem b_inW {K : PySem.W.Frag} {sp : Sp} {x : V} {b : Addr} {H : Hp} {Q : VK} : rInW K sp x (.ref b) H Q = ∃ dy gs, H b = some (.ins (wC K) dy gs) ∧ sp [.ref b, x] H (fun v H' => ∃ r, v = .bl r ∧ Q (.bl r) H') E0 := by
  unfold rInW; apply propext; constructor
  · rintro ⟨b', dy, gs, e, h, q⟩; cases e; exact ⟨dy, gs, h, q⟩
  · rintro ⟨dy, gs, h, q⟩; exact ⟨b, dy, gs, rfl, h, q⟩
/-- a tuple in a list of tuples -/
theorem rInD_tls {K : PySem.W.Frag} {H : Hp} {Q : VK} {n : Nat} {a q : Addr} {m : List Int} {us : List Addr} {L : List (List Int)} (hn : n ≤ 12) (ha : H a = some (.tup (m.map V.int))) (hq : H q = some (.lst (us.map V.ref))) (t : TLs H us L) (on : OnN n L) (k : Q (.bl (decide (m ∈ L))) H) : rInD K (.ref a) (.ref q) H Q := by
  refine ⟨encT m, L.map encT, .tup (SqT.of ha) (dw_dpAll (DwAll.ints m)), tls_dp hq t hn on, shaped_enc m, shaped_encs L, ?_⟩
  have e : ((L.map encT).any fun z => PyData.eqv z (encT m)) = decide (m ∈ L) := by
    rw [List.any_map, Bool.eq_iff_iff, List.any_eq_true, decide_eq_true_eq]
    constructor
    · rintro ⟨y, hy, h⟩
      have h : PyData.eqv (encT y) (encT m) = true := h
      rw [eqv_enc] at h
      exact (of_decide_eq_true h) ▸ hy
    · intro h
      refine ⟨m, h, ?_⟩
      show PyData.eqv (encT m) (encT m) = true
      rw [eqv_enc]
      simp
  rw [e]
  exact k
theorem encT_inj {a b : List Int} (h : encT a = encT b) : a = b := by
  have e := PyData.tuple.inj h
  exact (List.map_inj_right fun _ _ h => PyData.int.inj h).mp e

/-! ## M1 -/
local macro_rules | `(tactic| walk_at "wp") => `(tactic| (try simp only [a_var, a_c, a_op, a_un, a_test, a_b, a_and, a_or, a_not, a_andV, a_orV, a_notV, a_if, a_next, a_seq, a_break, a_cont, a_drop, a_ret, a_retN, a_ifS, a_asg, a_name, a_sub, a_nil, a_cons, a_tup, a_lst, a_call, a_cb, a_bm0, a_bm, a_sl, a_nopart, a_part, a_aug, b_rI, b_rI0, b_rU, b_eq, b_ne, b_isTF, b_int, b_intb, b_list, b_tuple, b_ix, b_len, b_setL, b_app, b_pop, b_popAt, b_sl, b_rep, b_cat, b_lstRg, b_tupRg, b_rg1, b_rg2, a_forR, a_forR2, a_forS, b_fsq, a_lcR, a_lcR2, a_lcS, b_csq, wipe_nil, wipe_cons, a_yes, wh_i, wh_s, wh_b, wh_r, wh_n, Bool.not_eq_true, eq_self, not_true_eq_false, not_false_eq_true, b_isi, kb_all, ty_non, ty_bl, ty_int, ty_str, a_m1, b_ixS, b_slS, List.cons.injEq, and_assoc, exists_and_left, cxK, List.getElem?_cons_zero, List.getElem?_cons_succ, List.set_cons_zero, List.set_cons_succ, Option.some.injEq, exists_eq_left', exists_eq_left, V.bl.injEq, V.int.injEq, V.ref.injEq, V.str.injEq, HO.lst.injEq, HO.tup.injEq, decide_eq_true_eq, true_and, and_true, L2.start, List.map_cons, List.map_nil, List.length_cons, List.length_nil, Nat.zero_add, Nat.reduceAdd, Nat.reduceSub, List.replicate_succ, List.replicate_zero, List.cons_append, List.nil_append, if_true, if_false, Bool.false_eq_true, Bool.not_true, Bool.not_false, decide_not, Bool.not_eq_true', decide_eq_false_iff_not, scal_ii, scal_bb, scal_ss, scal_is, scal_si, reduceCtorEq, Bool.true_eq_false, decide_false, decide_true, if_pos, ne_eq, Int.reduceNeg, atI_0, atI_1, atI_2, atI_3, atI_4, atI_5, atI_6, ixN_7, b_ins, a_revL, b_isT, V.ty.injEq, Bool.true_or, Bool.or_true, Bool.false_or, Bool.or_false, Bool.or_self, b_sorted, b_repT, a_err, a_callS, a_xp, a_isP, a_lcE, a_forE, a_isV, a_lcH, a_ch, a_forES, a_lcG, a_dnotin, a_din, b_setD, a_disp1, a_lcI, b_tupA, a_fld, a_sfld, a_prop, b_lenW, b_eqW, b_isW, b_notTF, a_lcW, b_inW]))
local macro_rules | `(tactic| walk_at "wps") => `(tactic| (try simp only [a_var, a_c, a_op, a_un, a_test, a_b, a_and, a_or, a_not, a_andV, a_orV, a_notV, a_if, a_next, a_seq, a_break, a_cont, a_drop, a_ret, a_retN, a_ifS, a_asg, a_name, a_sub, a_nil, a_cons, a_tup, a_lst, a_call, a_cb, a_bm0, a_bm, a_sl, a_nopart, a_part, a_aug, b_rI, b_rI0, b_rU, b_eq, b_ne, b_isTF, b_int, b_intb, b_list, b_tuple, b_ix, b_len, b_setL, b_app, b_pop, b_popAt, b_sl, b_rep, b_cat, b_lstRg, b_tupRg, b_rg1, b_rg2, a_forR, a_forR2, a_forS, b_fsq, a_lcR, a_lcR2, a_lcS, b_csq, wipe_nil, wipe_cons, a_yes, wh_i, wh_s, wh_b, wh_r, wh_n, Bool.not_eq_true, eq_self, not_true_eq_false, not_false_eq_true, b_isi, kb_all, ty_non, ty_bl, ty_int, ty_str, a_m1, b_ixS, b_slS, List.cons.injEq, and_assoc, exists_and_left, cxK, List.getElem?_cons_zero, List.getElem?_cons_succ, List.set_cons_zero, List.set_cons_succ, Option.some.injEq, exists_eq_left', exists_eq_left, V.bl.injEq, V.int.injEq, V.ref.injEq, V.str.injEq, HO.lst.injEq, HO.tup.injEq, decide_eq_true_eq, true_and, and_true, L2.start, List.map_cons, List.map_nil, List.length_cons, List.length_nil, Nat.zero_add, Nat.reduceAdd, Nat.reduceSub, List.replicate_succ, List.replicate_zero, List.cons_append, List.nil_append, if_true, if_false, Bool.false_eq_true, Bool.not_true, Bool.not_false, decide_not, Bool.not_eq_true', decide_eq_false_iff_not, scal_ii, scal_bb, scal_ss, scal_is, scal_si, reduceCtorEq, Bool.true_eq_false, decide_false, decide_true, if_pos, ne_eq, Int.reduceNeg, atI_0, atI_1, atI_2, atI_3, atI_4, atI_5, atI_6, ixN_7, b_ins, a_revL, b_isT, V.ty.injEq, Bool.true_or, Bool.or_true, Bool.false_or, Bool.or_false, Bool.or_self, b_sorted, b_repT, a_err, a_callS, a_xp, a_isP, a_lcE, a_forE, a_isV, a_lcH, a_ch, a_forES, a_lcG, a_dnotin, a_din, b_setD, a_disp1, a_lcI, b_tupA, a_fld, a_sfld, a_prop, b_lenW, b_eqW, b_isW, b_notTF, a_lcW, b_inW, *]))
local macro_rules | `(tactic| walk_at "wq") => `(tactic| (try simp only [a_var, a_c, a_op, a_un, a_test, a_b, a_and, a_or, a_not, a_andV, a_orV, a_notV, a_if, a_next, a_break, a_cont, a_drop, a_ret, a_retN, a_ifS, a_asg, a_name, a_sub, a_nil, a_cons, a_tup, a_lst, a_call, a_cb, a_bm0, a_bm, a_sl, a_nopart, a_part, a_aug, b_rI, b_rI0, b_rU, b_eq, b_ne, b_isTF, b_int, b_intb, b_list, b_tuple, b_ix, b_len, b_setL, b_app, b_pop, b_popAt, b_sl, b_rep, b_cat, b_lstRg, b_tupRg, b_rg1, b_rg2, a_forR, a_forR2, a_forS, b_fsq, a_lcR, a_lcR2, a_lcS, b_csq, wipe_nil, wipe_cons, a_yes, wh_i, wh_s, wh_b, wh_r, wh_n, Bool.not_eq_true, eq_self, not_true_eq_false, not_false_eq_true, b_isi, kb_all, ty_non, ty_bl, ty_int, ty_str, a_m1, b_ixS, b_slS, List.cons.injEq, and_assoc, exists_and_left, cxK, List.getElem?_cons_zero, List.getElem?_cons_succ, List.set_cons_zero, List.set_cons_succ, Option.some.injEq, exists_eq_left', exists_eq_left, V.bl.injEq, V.int.injEq, V.ref.injEq, V.str.injEq, HO.lst.injEq, HO.tup.injEq, decide_eq_true_eq, true_and, and_true, L2.start, List.map_cons, List.map_nil, List.length_cons, List.length_nil, Nat.zero_add, Nat.reduceAdd, Nat.reduceSub, List.replicate_succ, List.replicate_zero, List.cons_append, List.nil_append, if_true, if_false, Bool.false_eq_true, Bool.not_true, Bool.not_false, decide_not, Bool.not_eq_true', decide_eq_false_iff_not, scal_ii, scal_bb, scal_ss, scal_is, scal_si, reduceCtorEq, Bool.true_eq_false, decide_false, decide_true, if_pos, ne_eq, Int.reduceNeg, atI_0, atI_1, atI_2, atI_3, atI_4, atI_5, atI_6, ixN_7, b_ins, a_revL, b_isT, V.ty.injEq, Bool.true_or, Bool.or_true, Bool.false_or, Bool.or_false, Bool.or_self, b_sorted, b_repT, a_err, a_callS, a_xp, a_isP, a_lcE, a_forE, a_isV, a_lcH, a_ch, a_forES, a_lcG, a_dnotin, a_din, b_setD, a_disp1, a_lcI, b_tupA, a_fld, a_sfld, a_prop, b_lenW, b_eqW, b_isW, b_notTF, a_lcW, b_inW, *]))
local macro_rules | `(tactic| walk_at "wn") => `(tactic| (try simp only [a_var, a_c, a_op, a_un, a_test, a_b, a_and, a_or, a_not, a_andV, a_orV, a_notV, a_if, a_next, a_break, a_cont, a_drop, a_ret, a_retN, a_ifS, a_asg, a_name, a_sub, a_nil, a_cons, a_tup, a_lst, a_call, a_cb, a_bm0, a_bm, a_sl, a_nopart, a_part, a_aug, b_rI, b_rI0, b_rU, b_eq, b_ne, b_isTF, b_int, b_intb, b_list, b_tuple, b_ix, b_len, b_setL, b_app, b_pop, b_popAt, b_sl, b_rep, b_cat, b_lstRg, b_tupRg, b_rg1, b_rg2, a_forR, a_forR2, a_forS, b_fsq, a_lcR, a_lcR2, a_lcS, b_csq, wipe_nil, wipe_cons, a_yes, wh_i, wh_s, wh_b, wh_r, wh_n, Bool.not_eq_true, eq_self, not_true_eq_false, not_false_eq_true, b_isi, kb_all, ty_non, ty_bl, ty_int, ty_str, a_m1, b_ixS, b_slS, List.cons.injEq, and_assoc, exists_and_left, cxK, List.getElem?_cons_zero, List.getElem?_cons_succ, List.set_cons_zero, List.set_cons_succ, Option.some.injEq, exists_eq_left', exists_eq_left, V.bl.injEq, V.int.injEq, V.ref.injEq, V.str.injEq, HO.lst.injEq, HO.tup.injEq, decide_eq_true_eq, true_and, and_true, L2.start, List.map_cons, List.map_nil, List.length_cons, List.length_nil, Nat.zero_add, Nat.reduceAdd, Nat.reduceSub, List.replicate_succ, List.replicate_zero, List.cons_append, List.nil_append, if_true, if_false, Bool.false_eq_true, Bool.not_true, Bool.not_false, decide_not, Bool.not_eq_true', decide_eq_false_iff_not, scal_ii, scal_bb, scal_ss, scal_is, scal_si, reduceCtorEq, Bool.true_eq_false, decide_false, decide_true, if_pos, ne_eq, Int.reduceNeg, atI_0, atI_1, atI_2, atI_3, atI_4, atI_5, atI_6, ixN_7, b_ins, a_revL, b_isT, V.ty.injEq, Bool.true_or, Bool.or_true, Bool.false_or, Bool.or_false, Bool.or_self, b_sorted, b_repT, a_err, a_callS, a_xp, a_isP, a_lcE, a_forE, a_isV, a_lcH, a_ch, a_forES, a_lcG, a_dnotin, a_din, b_setD, a_disp1, a_lcI, b_tupA, a_fld, a_sfld, a_prop, b_lenW, b_eqW, b_isW, b_notTF, a_lcW, b_inW]))
local macro_rules | `(tactic| walk_at "sq") => `(tactic| ((try dsimp only); rw [a_seq]; walk_at "wq"))
local macro_rules | `(tactic| walk_at "sn") => `(tactic| ((try dsimp only); rw [a_seq]; walk_at "wn"))

/-- a move holds the lot and moves the point -/
def mvg (c : List Int) (z : Int) (m : List Int) : Bool := hld m c && !decide (im m z = z)
/-- what the three refuse -/
def mrFlt (n : Int) (xs : List V) (v : V) : Option Flt := match crowFlt n xs with
  | some f => some f
  | none => if numOk v 0 (n - 1) = true then none else some (.pt v)
theorem mrFlt_none {n : Int} {xs : List V} {v : V} (h : crowFlt n xs = none) (hv : numOk v 0 (n - 1) = true) : mrFlt n xs v = none := by unfold mrFlt; rw [h]; show (if _ then _ else _) = _; rw [if_pos hv]
theorem mrFlt_pt {n : Int} {xs : List V} {v : V} (h : crowFlt n xs = none) (hv : numOk v 0 (n - 1) = false) : mrFlt n xs v = some (.pt v) := by unfold mrFlt; rw [h]; show (if _ then _ else _) = _; rw [if_neg (by rw [hv]; decide)]
theorem mrFlt_row {n : Int} {xs : List V} {v : V} {f : Flt} (h : crowFlt n xs = some f) : mrFlt n xs v = some f := by unfold mrFlt; rw [h]
section
variable {P : Program} {w : World} {K : PySem.W.Frag} {mg : Str → Option Value} {base : Heap}
def sp_wcont (K : PySem.W.Frag) : Sp := fun vs H Q _ => ∃ (x q : Addr) (n : Nat) (T M : List (List Int)) (v : V) (E : List Addr) (d : PyData) (m : Nat), vs = [.ref x, v] ∧ Wd K H x q n T M ∧ Dw E H v d m ∧ ∀ H', Same H H' → ∀ b : Bool, (b = true ↔ ∃ mv ∈ M, d = encT mv) → Q (.bl b) H'
abbrev stWorld___contains__ : Stmt := clsFn (topS 24) 6
theorem scWorld___contains__ : FnScope ["self", "value", "entry"] ["self", "value"] (defScope stWorld___contains__) := ⟨rfl, rfl, rfl, by decide +kernel, rfl, by decide +kernel, by decide +kernel⟩
theorem okWorld___contains__ (WC : WCls K mg) (D : MtD K "__contains__" "World.__contains__" stWorld___contains__) (T : NoB mg) (Cis_whole_worlds : Cl P w K mg base 1 "is_whole_worlds" ["value"] sp_isw) : MtC P w K mg base 2 "__contains__" ["self", "value"] (sp_wcont K) := by
  refine mtC_of D scWorld___contains__ (fun _ _ _ _ _ _ us hl => match us, hl with | [_, _], _ => rfl) (fun vs H Q E h => ?_) (fun f cdv A outer sh H vs Q E hr h => ?_)
  · obtain ⟨_, _, _, _, _, _, _, _, _, rfl, _⟩ := h; rfl
  obtain ⟨x, q, n, T0, M, v, E', d, m, rfl, h, hv, k⟩ := h
  refine ⟨_, (pss_cons (ps_if (PW.pt (pw_or (pt_not (pt_val (pe_callB isi1 (by rfl) T.no_isinstance (by decide +kernel) (pa_cons (pv 1) (pa_cons (pe_bltn (by rfl) T.no_tuple (by decide +kernel) (show RelV (.ty "tuple") _ from rfl)) pa_nil))))) (pw_or1 (pt_cmpR op_ne (pe_callB len1 (by rfl) T.no_len (by decide +kernel) (pa_cons (pv 1) pa_nil)) (pe_fld (pv 0) rfl) (nomark _))))) (pss_one (ps_ret pe_bl)) pss_nil)
    (pss_one (ps_ret (pe_and (pe_callB (cr_all rfl) (by rfl) T.no_all (by decide +kernel) (pa_cons (pe_lc (own := [("entry", 2)]) (g := gName 2) (tt := tYes) rfl scWorld___contains__.nd (pi_sq (pv 1)) (blkOk_by (own := [("entry", 2)]) (N := ["self", "value", "entry"]) (sc := defScope stWorld___contains__) (by decide +kernel)) (fun _ _ _ _ _ => (pg_name (i := 2) scWorld___contains__.nd rfl (Or.inl rfl))) (fun _ _ _ _ _ => pts_nil) (fun _ _ _ _ _ => (pe_cl Cis_whole_worlds hr (by rfl) (pa_cons (pv 2) pa_nil)))) pa_nil)) (pe_one (pe_cmp (pc_din (hu_of hr) (pv 1) (pe_fld (pv 0) rfl)) rfl)))))), ?_⟩
  obtain ⟨dx, t, dt, us, ts, Qs, h1, h2, h3, h4, h5, h6, h7, h8⟩ := h.ins
  have kf : ∀ H', Same H H' → (∀ mv ∈ M, d ≠ encT mv) → Q (.bl false) H' := fun H' s hn => k H' s false ⟨fun z => (by cases z), fun ⟨mv, hm, e⟩ => absurd e (hn mv hm)⟩
  cases hv with
  | lf l =>
    have fin : Q (.bl false) H := kf H (Same.refl _) fun mv _ e => by cases l <;> cases e
    cases l <;> walk_at "wps"
  | lst ne hh a =>
    have ht := ty_l hh
    have fin : Q (.bl false) H := kf H (Same.refl _) fun mv _ e => by cases e
    walk_at "wps"
  | @tup a xs ds m ne hh da =>
    have ht := ty_t hh
    have qa := sq_t hh
    have hl := da.len.1
    walk_at "sq"
    refine ⟨_, dx, _, rfl, WC.c, WC.no _ (by decide), _, rfl, rfl, ?_⟩
    by_cases hln : xs.length = n
    · rw [if_neg (fun c => c (by rw [← hl, hln]))]
      refine cs_by (sq_t hh) (fun C i acc H' => Same H H' ∧ acc = ((xs.take i).map isWh).map V.bl) (fun C H0 n0 => ⟨n0.same, rfl⟩) (fun C i acc H' hC f o ho => f.1 _ _ ho) ?_ ?_
      · rintro C i y acc H2 N hC hy hacc ⟨s2, rfl⟩ hN
        obtain ⟨e, cc, g1, g2, g3⟩ := da.get hy
        have hil := (List.getElem?_eq_some_iff.mp hy).1
        have hn12 := h.n12
        refine ⟨rfl, ?_⟩
        walk_at "wn"
        refine ⟨y, e, cc, E', rfl, g2.same s2, ?_⟩
        refine cst hacc (by rw [List.length_map, List.length_map, List.length_take, sizeLine_eq]; omega) fun H5 p5 => hN _ _ p5.at_ ⟨p5.same s2 hC, ?_⟩
        rw [List.take_add_one, hy]
        simp
      · rintro C acc H2 hC hacc ⟨s2, rfl⟩
        rw [List.take_length] at hacc
        walk_at "wn"
        refine ⟨C, _, rfl, SqL.of hacc, ?_⟩
        rw [List.all_map]
        by_cases hall : ∀ x ∈ xs, isWh x = true
        · obtain ⟨ns, rfl⟩ := ints_of hall
          have hds := dw_ints da
          subst hds
          refine ⟨true, by rw [show ((ns.map V.int).all (id ∘ isWh)) = (ns.map V.int).all isWh from rfl, List.all_eq_true.mpr hall], ?_⟩
          rw [if_pos rfl]
          have hg := DGet.t (k := keyI ns) (s2 _ _ h5) (by rw [keyI_kV]; exact s2 _ _ hh)
          refine ⟨_, dx, _, s2 _ _ h1, WC.c, WC.no _ (by decide), _, rfl, dt, rfl, _, hg, ?_⟩
          rw [tabT_val]
          refine k H2 s2 _ ?_
          rw [decide_eq_true_eq, h6]
          exact ⟨fun hm => ⟨ns, hm, rfl⟩, fun ⟨mv, hm, e⟩ => by rw [encT_inj (a := ns) e]; exact hm⟩
        · have hf : (xs.all isWh) = false := by rw [Bool.eq_false_iff]; exact fun c => hall (List.all_eq_true.mp c)
          refine ⟨false, by rw [show (xs.all (id ∘ isWh)) = xs.all isWh from rfl, hf], ?_⟩
          rw [if_neg (by decide)]
          refine kf H2 s2 fun mv hm e => hall ?_
          cases e
          rw [dw_ints' da]
          intro x hx
          obtain ⟨z, _, rfl⟩ := List.mem_map.mp hx
          rfl
    · rw [if_pos (fun c => hln (by have := V.int.inj c; omega))]
      refine kf _ (Same.refl _) fun mv hm e => hln ?_
      cases e
      have := dw_ints' da
      rw [this, List.length_map]
      exact lenP (h.onM mv hm)
theorem dw_encT {E : List Addr} {H : Hp} {u : V} {mv : List Int} {k : Nat} (h : Dw E H u (encT mv) k) : ∃ a, u = .ref a ∧ H a = some (.tup (mv.map V.int)) := by
  cases h with
  | lf l => cases l
  | @tup a xs ds m ne hh da => exact ⟨a, rfl, by rw [hh, dw_ints' da]⟩
def sp_mvrs (K : PySem.W.Frag) : Sp := fun vs H Q Er => ∃ (x q p : Addr) (v : V) (n : Nat) (T M : List (List Int)) (xs : List V) (E : List Addr) (d : PyData) (m : Nat), vs = [.ref x, .ref p, v] ∧ Wd K H x q n T M ∧ sq H p = some xs ∧ AllD H xs ∧ Dw E H v d m ∧ Sm v ∧
  Ans K (mrFlt n xs v) H Er (∀ c z, xs = c.map V.int → v = .int z → ∀ r us H', Same H H' → H r = none → H' r = some (.lst (us.map V.ref)) → TLs H' us (M.filter fun m => mvg c z m) → Q (.ref r) H')
/-- the least of a list of moves, or None -/
def LeastM (H : Hp) (o : V) : List (List Int) → Prop
  | [] => o = .non
  | m :: _ => ∃ a, o = .ref a ∧ H a = some (.tup (m.map V.int))
def sp_fmvr (K : PySem.W.Frag) : Sp := fun vs H Q Er => ∃ (x q p : Addr) (v : V) (n : Nat) (T M : List (List Int)) (xs : List V) (E : List Addr) (d : PyData) (m : Nat), vs = [.ref x, .ref p, v] ∧ Wd K H x q n T M ∧ sq H p = some xs ∧ AllD H xs ∧ Dw E H v d m ∧ Sm v ∧
  Ans K (mrFlt n xs v) H Er (∀ c z, xs = c.map V.int → v = .int z → ∀ o H', Same H H' → LeastM H' o (M.filter fun m => mvg c z m) → Q o H')
def sp_ismv (K : PySem.W.Frag) : Sp := fun vs H Q Er => ∃ (x q p : Addr) (v u : V) (n : Nat) (T M : List (List Int)) (xs : List V) (E E2 : List Addr) (d du : PyData) (m mu : Nat), vs = [.ref x, .ref p, v, u] ∧ Wd K H x q n T M ∧ sq H p = some xs ∧ AllD H xs ∧ Dw E H v d m ∧ Sm v ∧
  (mrFlt n xs v = none → Dw E2 H u du mu) ∧
  Ans K (mrFlt n xs v) H Er (∀ c z, xs = c.map V.int → v = .int z → ∀ H', Same H H' → ∀ b : Bool, (b = true ↔ ∃ mv ∈ M, du = encT mv ∧ mvg c z mv = true) → Q (.bl b) H')
end

/-! ## K9N -/
local macro_rules | `(tactic| walk_at "wp") => `(tactic| (try simp only [a_var, a_c, a_op, a_un, a_test, a_b, a_and, a_or, a_not, a_andV, a_orV, a_notV, a_if, a_next, a_seq, a_break, a_cont, a_drop, a_ret, a_retN, a_ifS, a_asg, a_name, a_sub, a_nil, a_cons, a_tup, a_lst, a_call, a_cb, a_bm0, a_bm, a_sl, a_nopart, a_part, a_aug, b_rI, b_rI0, b_rU, b_eq, b_ne, b_isTF, b_int, b_intb, b_list, b_tuple, b_ix, b_len, b_setL, b_app, b_pop, b_popAt, b_sl, b_rep, b_cat, b_lstRg, b_tupRg, b_rg1, b_rg2, a_forR, a_forR2, a_forS, b_fsq, a_lcR, a_lcR2, a_lcS, b_csq, wipe_nil, wipe_cons, a_yes, wh_i, wh_s, wh_b, wh_r, wh_n, Bool.not_eq_true, eq_self, not_true_eq_false, not_false_eq_true, b_isi, kb_all, ty_non, ty_bl, ty_int, ty_str, a_m1, b_ixS, b_slS, List.cons.injEq, and_assoc, exists_and_left, cxK, List.getElem?_cons_zero, List.getElem?_cons_succ, List.set_cons_zero, List.set_cons_succ, Option.some.injEq, exists_eq_left', exists_eq_left, V.bl.injEq, V.int.injEq, V.ref.injEq, V.str.injEq, HO.lst.injEq, HO.tup.injEq, decide_eq_true_eq, true_and, and_true, L2.start, List.map_cons, List.map_nil, List.length_cons, List.length_nil, Nat.zero_add, Nat.reduceAdd, Nat.reduceSub, List.replicate_succ, List.replicate_zero, List.cons_append, List.nil_append, if_true, if_false, Bool.false_eq_true, Bool.not_true, Bool.not_false, decide_not, Bool.not_eq_true', decide_eq_false_iff_not, scal_ii, scal_bb, scal_ss, scal_is, scal_si, reduceCtorEq, Bool.true_eq_false, decide_false, decide_true, if_pos, ne_eq, Int.reduceNeg, atI_0, atI_1, atI_2, atI_3, atI_4, atI_5, atI_6, ixN_7, b_ins, a_revL, b_isT, V.ty.injEq, Bool.true_or, Bool.or_true, Bool.false_or, Bool.or_false, Bool.or_self, b_sorted, b_repT, a_err, a_callS, a_xp, a_isP, a_lcE, a_forE, a_isV, a_lcH, a_ch, a_forES, a_lcG]))
local macro_rules | `(tactic| walk_at "wps") => `(tactic| (try simp only [a_var, a_c, a_op, a_un, a_test, a_b, a_and, a_or, a_not, a_andV, a_orV, a_notV, a_if, a_next, a_seq, a_break, a_cont, a_drop, a_ret, a_retN, a_ifS, a_asg, a_name, a_sub, a_nil, a_cons, a_tup, a_lst, a_call, a_cb, a_bm0, a_bm, a_sl, a_nopart, a_part, a_aug, b_rI, b_rI0, b_rU, b_eq, b_ne, b_isTF, b_int, b_intb, b_list, b_tuple, b_ix, b_len, b_setL, b_app, b_pop, b_popAt, b_sl, b_rep, b_cat, b_lstRg, b_tupRg, b_rg1, b_rg2, a_forR, a_forR2, a_forS, b_fsq, a_lcR, a_lcR2, a_lcS, b_csq, wipe_nil, wipe_cons, a_yes, wh_i, wh_s, wh_b, wh_r, wh_n, Bool.not_eq_true, eq_self, not_true_eq_false, not_false_eq_true, b_isi, kb_all, ty_non, ty_bl, ty_int, ty_str, a_m1, b_ixS, b_slS, List.cons.injEq, and_assoc, exists_and_left, cxK, List.getElem?_cons_zero, List.getElem?_cons_succ, List.set_cons_zero, List.set_cons_succ, Option.some.injEq, exists_eq_left', exists_eq_left, V.bl.injEq, V.int.injEq, V.ref.injEq, V.str.injEq, HO.lst.injEq, HO.tup.injEq, decide_eq_true_eq, true_and, and_true, L2.start, List.map_cons, List.map_nil, List.length_cons, List.length_nil, Nat.zero_add, Nat.reduceAdd, Nat.reduceSub, List.replicate_succ, List.replicate_zero, List.cons_append, List.nil_append, if_true, if_false, Bool.false_eq_true, Bool.not_true, Bool.not_false, decide_not, Bool.not_eq_true', decide_eq_false_iff_not, scal_ii, scal_bb, scal_ss, scal_is, scal_si, reduceCtorEq, Bool.true_eq_false, decide_false, decide_true, if_pos, ne_eq, Int.reduceNeg, atI_0, atI_1, atI_2, atI_3, atI_4, atI_5, atI_6, ixN_7, b_ins, a_revL, b_isT, V.ty.injEq, Bool.true_or, Bool.or_true, Bool.false_or, Bool.or_false, Bool.or_self, b_sorted, b_repT, a_err, a_callS, a_xp, a_isP, a_lcE, a_forE, a_isV, a_lcH, a_ch, a_forES, a_lcG, *]))
local macro_rules | `(tactic| walk_at "wq") => `(tactic| (try simp only [a_var, a_c, a_op, a_un, a_test, a_b, a_and, a_or, a_not, a_andV, a_orV, a_notV, a_if, a_next, a_break, a_cont, a_drop, a_ret, a_retN, a_ifS, a_asg, a_name, a_sub, a_nil, a_cons, a_tup, a_lst, a_call, a_cb, a_bm0, a_bm, a_sl, a_nopart, a_part, a_aug, b_rI, b_rI0, b_rU, b_eq, b_ne, b_isTF, b_int, b_intb, b_list, b_tuple, b_ix, b_len, b_setL, b_app, b_pop, b_popAt, b_sl, b_rep, b_cat, b_lstRg, b_tupRg, b_rg1, b_rg2, a_forR, a_forR2, a_forS, b_fsq, a_lcR, a_lcR2, a_lcS, b_csq, wipe_nil, wipe_cons, a_yes, wh_i, wh_s, wh_b, wh_r, wh_n, Bool.not_eq_true, eq_self, not_true_eq_false, not_false_eq_true, b_isi, kb_all, ty_non, ty_bl, ty_int, ty_str, a_m1, b_ixS, b_slS, List.cons.injEq, and_assoc, exists_and_left, cxK, List.getElem?_cons_zero, List.getElem?_cons_succ, List.set_cons_zero, List.set_cons_succ, Option.some.injEq, exists_eq_left', exists_eq_left, V.bl.injEq, V.int.injEq, V.ref.injEq, V.str.injEq, HO.lst.injEq, HO.tup.injEq, decide_eq_true_eq, true_and, and_true, L2.start, List.map_cons, List.map_nil, List.length_cons, List.length_nil, Nat.zero_add, Nat.reduceAdd, Nat.reduceSub, List.replicate_succ, List.replicate_zero, List.cons_append, List.nil_append, if_true, if_false, Bool.false_eq_true, Bool.not_true, Bool.not_false, decide_not, Bool.not_eq_true', decide_eq_false_iff_not, scal_ii, scal_bb, scal_ss, scal_is, scal_si, reduceCtorEq, Bool.true_eq_false, decide_false, decide_true, if_pos, ne_eq, Int.reduceNeg, atI_0, atI_1, atI_2, atI_3, atI_4, atI_5, atI_6, ixN_7, b_ins, a_revL, b_isT, V.ty.injEq, Bool.true_or, Bool.or_true, Bool.false_or, Bool.or_false, Bool.or_self, b_sorted, b_repT, a_err, a_callS, a_xp, a_isP, a_lcE, a_forE, a_isV, a_lcH, a_ch, a_forES, a_lcG, *]))
local macro_rules | `(tactic| walk_at "wn") => `(tactic| (try simp only [a_var, a_c, a_op, a_un, a_test, a_b, a_and, a_or, a_not, a_andV, a_orV, a_notV, a_if, a_next, a_break, a_cont, a_drop, a_ret, a_retN, a_ifS, a_asg, a_name, a_sub, a_nil, a_cons, a_tup, a_lst, a_call, a_cb, a_bm0, a_bm, a_sl, a_nopart, a_part, a_aug, b_rI, b_rI0, b_rU, b_eq, b_ne, b_isTF, b_int, b_intb, b_list, b_tuple, b_ix, b_len, b_setL, b_app, b_pop, b_popAt, b_sl, b_rep, b_cat, b_lstRg, b_tupRg, b_rg1, b_rg2, a_forR, a_forR2, a_forS, b_fsq, a_lcR, a_lcR2, a_lcS, b_csq, wipe_nil, wipe_cons, a_yes, wh_i, wh_s, wh_b, wh_r, wh_n, Bool.not_eq_true, eq_self, not_true_eq_false, not_false_eq_true, b_isi, kb_all, ty_non, ty_bl, ty_int, ty_str, a_m1, b_ixS, b_slS, List.cons.injEq, and_assoc, exists_and_left, cxK, List.getElem?_cons_zero, List.getElem?_cons_succ, List.set_cons_zero, List.set_cons_succ, Option.some.injEq, exists_eq_left', exists_eq_left, V.bl.injEq, V.int.injEq, V.ref.injEq, V.str.injEq, HO.lst.injEq, HO.tup.injEq, decide_eq_true_eq, true_and, and_true, L2.start, List.map_cons, List.map_nil, List.length_cons, List.length_nil, Nat.zero_add, Nat.reduceAdd, Nat.reduceSub, List.replicate_succ, List.replicate_zero, List.cons_append, List.nil_append, if_true, if_false, Bool.false_eq_true, Bool.not_true, Bool.not_false, decide_not, Bool.not_eq_true', decide_eq_false_iff_not, scal_ii, scal_bb, scal_ss, scal_is, scal_si, reduceCtorEq, Bool.true_eq_false, decide_false, decide_true, if_pos, ne_eq, Int.reduceNeg, atI_0, atI_1, atI_2, atI_3, atI_4, atI_5, atI_6, ixN_7, b_ins, a_revL, b_isT, V.ty.injEq, Bool.true_or, Bool.or_true, Bool.false_or, Bool.or_false, Bool.or_self, b_sorted, b_repT, a_err, a_callS, a_xp, a_isP, a_lcE, a_forE, a_isV, a_lcH, a_ch, a_forES, a_lcG]))
local macro_rules | `(tactic| walk_at "sq") => `(tactic| ((try dsimp only); rw [a_seq]; walk_at "wq"))
local macro_rules | `(tactic| walk_at "sn") => `(tactic| ((try dsimp only); rw [a_seq]; walk_at "wn"))

section
variable {K : PySem.W.Frag} {H : Hp} {Q : VK}
end
theorem Sto.net {s l p : Addr} {H : Hp} {xs : List V} (h : Sto s l H) (e : H p = some (.tup xs)) : p ≠ s := fun z => by
  obtain ⟨ns, i1, i2, i3, i4, i5, i6, hs, _⟩ := h
  rw [z, hs] at e
  cases e
/-- no move on n points -/
def LvK (E : List Addr) (H : Hp) : Prop := ∀ a ∈ E, ∃ ys, H a = some (.lst ys)
theorem LvK.out {E : List Addr} {H : Hp} {p : Addr} (h : LvK E H) (f : H p = none) : p ∉ E := fun z => by
  obtain ⟨ys, e⟩ := h p z
  rw [f] at e
  cases e
theorem LvK.outT {E : List Addr} {H : Hp} {p : Addr} {ys : List V} (h : LvK E H) (f : H p = some (.tup ys)) : p ∉ E := fun z => by
  obtain ⟨ys, e⟩ := h p z
  rw [f] at e
  cases e
theorem LvK.ge {E : List Addr} {s l : Addr} {H H' : Hp} (h : LvK E H) (g : Ge s l H H') : LvK E H' := fun a ha => by
  by_cases c : a = s
  · subst c
    obtain ⟨ns, i1, i2, i3, i4, i5, i6, h1, _⟩ := g.st
    exact ⟨_, h1⟩
  · obtain ⟨ys, e⟩ := h a ha
    exact ⟨ys, g.k c e⟩
theorem LvK.cons {E : List Addr} {H : Hp} {p : Addr} {ys : List V} (h : LvK E H) (f : H p = some (.lst ys)) : LvK (p :: E) H := fun a ha => by
  rcases List.mem_cons.mp ha with rfl | ha
  · exact ⟨_, f⟩
  · exact h a ha
theorem LvK.sto {s l : Addr} {H : Hp} (st : Sto s l H) : LvK [s] H := fun a ha => by
  rw [List.mem_singleton.mp ha]
  obtain ⟨ns, i1, i2, i3, i4, i5, i6, h1, _⟩ := st
  exact ⟨_, h1⟩
def VNo (n : Nat) (EE : List Addr) (H : Hp) (v : V) : Prop := ∃ d k, Dw EE H v d k ∧ k ≤ 100 ∧ mvOn n d = false
theorem VNo.ge {n : Nat} {EE : List Addr} {s l : Addr} {H H' : Hp} {v : V} (h : VNo n EE H v) (g : Ge s l H H') (hs : s ∈ EE) : VNo n EE H' v := by
  obtain ⟨d, k, h1, h2⟩ := h
  exact ⟨d, k, h1.ge g hs, h2⟩
theorem VNo.same {n : Nat} {EE : List Addr} {H H' : Hp} {v : V} (h : VNo n EE H v) (g : Same H H') : VNo n EE H' v := by
  obtain ⟨d, k, h1, h2⟩ := h
  exact ⟨d, k, h1.same g, h2⟩
theorem mvOn_f {n : Nat} {d : PyData} (h : isMoveD d = false) : mvOn n d = false := by unfold mvOn; rw [h]; rfl
theorem vno_leaf {n : Nat} {EE : List Addr} {H : Hp} {v : V} {d : PyData} {k : Nat} (l : Lf v d k) (h : k ≤ 100) : VNo n EE H v := ⟨d, k, .lf l, h, mvOn_f (not_move_leaf l)⟩
theorem vno_ints {n : Nat} {EE : List Addr} {u : Addr} {H : Hp} {zs : List Int} (lv : LvK EE H) (e : H u = some (.tup (zs.map V.int))) (hl : zs.length ≤ 20) (h : zs.length ≠ n ∨ ∃ z ∈ zs, ¬ (0 ≤ z ∧ z < zs.length)) : VNo n EE H (.ref u) := by
  refine ⟨.tuple (zs.map .int), _, .tup (lv.outT e) e (DwAll.ints zs), by omega, ?_⟩
  rcases h with h | ⟨z, hz, hn⟩
  · unfold mvOn
    have : (dLen (.tuple (zs.map PyData.int)) == n) = false := by
      show ((zs.map PyData.int).length == n) = false
      rw [List.length_map]
      simpa using h
    rw [this, Bool.and_false]
  · refine mvOn_f (isMove_f fun ⟨ms, e, _, hp⟩ => hn ?_)
    have e := PyData.tuple.inj e
    have hlen := congrArg List.length e
    rw [List.length_map, List.length_map] at hlen
    have hm : PyData.int z ∈ ms.map PyData.int := by rw [← e]; exact List.mem_map_of_mem hz
    obtain ⟨y, hy, ey⟩ := List.mem_map.mp hm
    cases ey
    have := mem_rng.mp (hp.mem_iff.mp hy)
    omega
theorem vno_first {n : Nat} {EE : List Addr} {u : Addr} {H : Hp} {x : V} {xs : List V} {d : PyData} {ds : List PyData} {k : Nat} (lv : LvK EE H) (e : H u = some (.tup (x :: xs))) (h : DwAll EE H (x :: xs) (d :: ds) k) (hk : k ≤ 99) (hd : ∀ i, d ≠ .int i) : VNo n EE H (.ref u) := by
  refine ⟨_, _, .tup (lv.outT e) e h, by omega, mvOn_f (isMove_f fun ⟨ms, e, _, hp⟩ => ?_)⟩
  have e := PyData.tuple.inj e
  cases ms with
  | nil => cases e
  | cons z zs =>
    rw [List.map_cons] at e
    exact hd z (List.cons.inj e).1
section
variable {P : Program} {w : World} {K : PySem.W.Frag} {mg : Str → Option Value} {base : Heap}
def sp_nomove : Sp := fun vs H Q _ => ∃ (s l : Addr) (n : Int) (EE : List Addr), vs = [.ref s, .int n] ∧ Sto s l H ∧ 0 ≤ n ∧ n ≤ 12 ∧ LvK EE H ∧ s ∈ EE ∧ ∀ v H', Ge s l H H' → VNo n.toNat EE H' v → Q v H'
end

/-! ## P0 -/
local macro_rules | `(tactic| walk_at "wp") => `(tactic| (try simp only [a_var, a_c, a_op, a_un, a_test, a_b, a_and, a_or, a_not, a_andV, a_orV, a_notV, a_if, a_next, a_seq, a_break, a_cont, a_drop, a_ret, a_retN, a_ifS, a_asg, a_name, a_sub, a_nil, a_cons, a_tup, a_lst, a_call, a_cb, a_bm0, a_bm, a_sl, a_nopart, a_part, a_aug, b_rI, b_rI0, b_rU, b_eq, b_ne, b_isTF, b_int, b_intb, b_list, b_tuple, b_ix, b_len, b_setL, b_app, b_pop, b_popAt, b_sl, b_rep, b_cat, b_lstRg, b_tupRg, b_rg1, b_rg2, a_forR, a_forR2, a_forS, b_fsq, a_lcR, a_lcR2, a_lcS, b_csq, wipe_nil, wipe_cons, a_yes, wh_i, wh_s, wh_b, wh_r, wh_n, Bool.not_eq_true, eq_self, not_true_eq_false, not_false_eq_true, b_isi, kb_all, ty_non, ty_bl, ty_int, ty_str, a_m1, b_ixS, b_slS, List.cons.injEq, and_assoc, exists_and_left, cxK, List.getElem?_cons_zero, List.getElem?_cons_succ, List.set_cons_zero, List.set_cons_succ, Option.some.injEq, exists_eq_left', exists_eq_left, V.bl.injEq, V.int.injEq, V.ref.injEq, V.str.injEq, HO.lst.injEq, HO.tup.injEq, decide_eq_true_eq, true_and, and_true, L2.start, List.map_cons, List.map_nil, List.length_cons, List.length_nil, Nat.zero_add, Nat.reduceAdd, Nat.reduceSub, List.replicate_succ, List.replicate_zero, List.cons_append, List.nil_append, if_true, if_false, Bool.false_eq_true, Bool.not_true, Bool.not_false, decide_not, Bool.not_eq_true', decide_eq_false_iff_not, scal_ii, scal_bb, scal_ss, scal_is, scal_si, reduceCtorEq, Bool.true_eq_false, decide_false, decide_true, if_pos, ne_eq, Int.reduceNeg, atI_0, atI_1, atI_2, atI_3, atI_4, atI_5, atI_6, ixN_7, b_ins, a_revL, b_isT, V.ty.injEq, Bool.true_or, Bool.or_true, Bool.false_or, Bool.or_false, Bool.or_self, b_sorted, b_repT, a_dnotin, a_din, b_setD, a_disp1]))
local macro_rules | `(tactic| walk_at "wps") => `(tactic| (try simp only [a_var, a_c, a_op, a_un, a_test, a_b, a_and, a_or, a_not, a_andV, a_orV, a_notV, a_if, a_next, a_seq, a_break, a_cont, a_drop, a_ret, a_retN, a_ifS, a_asg, a_name, a_sub, a_nil, a_cons, a_tup, a_lst, a_call, a_cb, a_bm0, a_bm, a_sl, a_nopart, a_part, a_aug, b_rI, b_rI0, b_rU, b_eq, b_ne, b_isTF, b_int, b_intb, b_list, b_tuple, b_ix, b_len, b_setL, b_app, b_pop, b_popAt, b_sl, b_rep, b_cat, b_lstRg, b_tupRg, b_rg1, b_rg2, a_forR, a_forR2, a_forS, b_fsq, a_lcR, a_lcR2, a_lcS, b_csq, wipe_nil, wipe_cons, a_yes, wh_i, wh_s, wh_b, wh_r, wh_n, Bool.not_eq_true, eq_self, not_true_eq_false, not_false_eq_true, b_isi, kb_all, ty_non, ty_bl, ty_int, ty_str, a_m1, b_ixS, b_slS, List.cons.injEq, and_assoc, exists_and_left, cxK, List.getElem?_cons_zero, List.getElem?_cons_succ, List.set_cons_zero, List.set_cons_succ, Option.some.injEq, exists_eq_left', exists_eq_left, V.bl.injEq, V.int.injEq, V.ref.injEq, V.str.injEq, HO.lst.injEq, HO.tup.injEq, decide_eq_true_eq, true_and, and_true, L2.start, List.map_cons, List.map_nil, List.length_cons, List.length_nil, Nat.zero_add, Nat.reduceAdd, Nat.reduceSub, List.replicate_succ, List.replicate_zero, List.cons_append, List.nil_append, if_true, if_false, Bool.false_eq_true, Bool.not_true, Bool.not_false, decide_not, Bool.not_eq_true', decide_eq_false_iff_not, scal_ii, scal_bb, scal_ss, scal_is, scal_si, reduceCtorEq, Bool.true_eq_false, decide_false, decide_true, if_pos, ne_eq, Int.reduceNeg, atI_0, atI_1, atI_2, atI_3, atI_4, atI_5, atI_6, ixN_7, b_ins, a_revL, b_isT, V.ty.injEq, Bool.true_or, Bool.or_true, Bool.false_or, Bool.or_false, Bool.or_self, b_sorted, b_repT, a_dnotin, a_din, b_setD, a_disp1, *]))
local macro_rules | `(tactic| walk_at "wq") => `(tactic| (try simp only [a_var, a_c, a_op, a_un, a_test, a_b, a_and, a_or, a_not, a_andV, a_orV, a_notV, a_if, a_next, a_break, a_cont, a_drop, a_ret, a_retN, a_ifS, a_asg, a_name, a_sub, a_nil, a_cons, a_tup, a_lst, a_call, a_cb, a_bm0, a_bm, a_sl, a_nopart, a_part, a_aug, b_rI, b_rI0, b_rU, b_eq, b_ne, b_isTF, b_int, b_intb, b_list, b_tuple, b_ix, b_len, b_setL, b_app, b_pop, b_popAt, b_sl, b_rep, b_cat, b_lstRg, b_tupRg, b_rg1, b_rg2, a_forR, a_forR2, a_forS, b_fsq, a_lcR, a_lcR2, a_lcS, b_csq, wipe_nil, wipe_cons, a_yes, wh_i, wh_s, wh_b, wh_r, wh_n, Bool.not_eq_true, eq_self, not_true_eq_false, not_false_eq_true, b_isi, kb_all, ty_non, ty_bl, ty_int, ty_str, a_m1, b_ixS, b_slS, List.cons.injEq, and_assoc, exists_and_left, cxK, List.getElem?_cons_zero, List.getElem?_cons_succ, List.set_cons_zero, List.set_cons_succ, Option.some.injEq, exists_eq_left', exists_eq_left, V.bl.injEq, V.int.injEq, V.ref.injEq, V.str.injEq, HO.lst.injEq, HO.tup.injEq, decide_eq_true_eq, true_and, and_true, L2.start, List.map_cons, List.map_nil, List.length_cons, List.length_nil, Nat.zero_add, Nat.reduceAdd, Nat.reduceSub, List.replicate_succ, List.replicate_zero, List.cons_append, List.nil_append, if_true, if_false, Bool.false_eq_true, Bool.not_true, Bool.not_false, decide_not, Bool.not_eq_true', decide_eq_false_iff_not, scal_ii, scal_bb, scal_ss, scal_is, scal_si, reduceCtorEq, Bool.true_eq_false, decide_false, decide_true, if_pos, ne_eq, Int.reduceNeg, atI_0, atI_1, atI_2, atI_3, atI_4, atI_5, atI_6, ixN_7, b_ins, a_revL, b_isT, V.ty.injEq, Bool.true_or, Bool.or_true, Bool.false_or, Bool.or_false, Bool.or_self, b_sorted, b_repT, a_dnotin, a_din, b_setD, a_disp1, *]))
local macro_rules | `(tactic| walk_at "wn") => `(tactic| (try simp only [a_var, a_c, a_op, a_un, a_test, a_b, a_and, a_or, a_not, a_andV, a_orV, a_notV, a_if, a_next, a_break, a_cont, a_drop, a_ret, a_retN, a_ifS, a_asg, a_name, a_sub, a_nil, a_cons, a_tup, a_lst, a_call, a_cb, a_bm0, a_bm, a_sl, a_nopart, a_part, a_aug, b_rI, b_rI0, b_rU, b_eq, b_ne, b_isTF, b_int, b_intb, b_list, b_tuple, b_ix, b_len, b_setL, b_app, b_pop, b_popAt, b_sl, b_rep, b_cat, b_lstRg, b_tupRg, b_rg1, b_rg2, a_forR, a_forR2, a_forS, b_fsq, a_lcR, a_lcR2, a_lcS, b_csq, wipe_nil, wipe_cons, a_yes, wh_i, wh_s, wh_b, wh_r, wh_n, Bool.not_eq_true, eq_self, not_true_eq_false, not_false_eq_true, b_isi, kb_all, ty_non, ty_bl, ty_int, ty_str, a_m1, b_ixS, b_slS, List.cons.injEq, and_assoc, exists_and_left, cxK, List.getElem?_cons_zero, List.getElem?_cons_succ, List.set_cons_zero, List.set_cons_succ, Option.some.injEq, exists_eq_left', exists_eq_left, V.bl.injEq, V.int.injEq, V.ref.injEq, V.str.injEq, HO.lst.injEq, HO.tup.injEq, decide_eq_true_eq, true_and, and_true, L2.start, List.map_cons, List.map_nil, List.length_cons, List.length_nil, Nat.zero_add, Nat.reduceAdd, Nat.reduceSub, List.replicate_succ, List.replicate_zero, List.cons_append, List.nil_append, if_true, if_false, Bool.false_eq_true, Bool.not_true, Bool.not_false, decide_not, Bool.not_eq_true', decide_eq_false_iff_not, scal_ii, scal_bb, scal_ss, scal_is, scal_si, reduceCtorEq, Bool.true_eq_false, decide_false, decide_true, if_pos, ne_eq, Int.reduceNeg, atI_0, atI_1, atI_2, atI_3, atI_4, atI_5, atI_6, ixN_7, b_ins, a_revL, b_isT, V.ty.injEq, Bool.true_or, Bool.or_true, Bool.false_or, Bool.or_false, Bool.or_self, b_sorted, b_repT, a_dnotin, a_din, b_setD, a_disp1]))
local macro_rules | `(tactic| walk_at "sq") => `(tactic| ((try dsimp only); rw [a_seq]; walk_at "wq"))
local macro_rules | `(tactic| walk_at "sn") => `(tactic| ((try dsimp only); rw [a_seq]; walk_at "wn"))

section
variable {P : Program} {w : World} {K : PySem.W.Frag} {mg : Str → Option Value} {base : Heap} {C : Addr}
theorem map_at {ns : List Int} {i : Nat} {x : V} (h : (ns.map V.int)[i]? = some x) : ∃ z, ns[i]? = some z ∧ x = V.int z := by
  rw [List.getElem?_map] at h
  cases e : ns[i]? with
  | none => rw [e] at h; cases h
  | some z => rw [e] at h; exact ⟨z, rfl, (Option.some.inj h).symm⟩
theorem rotA {n : Nat} (hn : 0 < n) (s : Int) : ((rng n).map fun k => (k + s).fmod n).Perm (rng n) := by
  have h0 : 0 ≤ s.fmod n := by rw [Int.fmod_eq_emod_of_nonneg _ (by omega)]; exact Int.emod_nonneg _ (by omega)
  have h1 : s.fmod n < n := by rw [Int.fmod_eq_emod_of_nonneg _ (by omega)]; exact Int.emod_lt_of_pos _ (by omega)
  have r := rot_perm (n := n) (s := (s.fmod n).toNat) (by omega)
  have e : (fun k : Int => (k + s).fmod n) = fun k : Int => (k + ((s.fmod n).toNat : Int)).fmod n := by
    funext k
    rw [Int.toNat_of_nonneg h0, Int.fmod_eq_emod_of_nonneg _ (by omega), Int.fmod_eq_emod_of_nonneg _ (by omega), Int.fmod_eq_emod_of_nonneg _ (by omega), Int.add_emod_emod]
  rw [e]
  exact r
theorem revA {n : Nat} (hn : 0 < n) (s : Int) : ((rng n).map fun k => (-k + s).fmod n).Perm (rng n) := by
  have e : ((rng n).map fun k : Int => (-k + s).fmod n) = ((rng n).map fun k => (n : Int) - 1 - k).map fun k => (k + (s + 1 - n)).fmod n := by
    rw [List.map_map]
    congr 1
    funext k
    show _ = ((n : Int) - 1 - k + (s + 1 - n)).fmod n
    congr 1
    omega
  rw [e]
  exact (rev_perm.map _).trans (rotA hn _)
theorem atI_last (xs : List V) (x : V) : atI (xs ++ [x]) (-1) = some x := by
  unfold atI ixN
  simp
  rw [if_pos (by omega)]
  have h : (-1 + ((xs.length : Int) + 1)).toNat = xs.length := by omega
  show (xs ++ [x])[(-1 + ((xs.length : Int) + 1)).toNat]? = some x
  rw [h]
  simp
def sp_blk : Sp := fun vs H Q _ => ∃ (s l : Addr) (n : Int), vs = [.ref s, .int n] ∧ Sto s l H ∧ 0 ≤ n ∧ n ≤ 12 ∧ ∀ (p : Addr) (rows : List Addr) H', Ge s l H H' → H p = none → H' p = some (.lst (rows.map V.ref)) → 0 < rows.length → rows.length ≤ 3 →
  (∀ r ∈ rows, H r = none ∧ ∃ ns : List Int, H' r = some (.tup (ns.map V.int)) ∧ ns.Perm (rng n.toNat)) → Q (.ref p) H'
def BlkF (s l L T1 I1 : Addr) (H : Hp) (zs : List Int) (rows : List Addr) (n : Nat) (A : Hp) (acc : List Int) : Prop := Ge s l H A ∧ A L = some (.lst (zs.map V.int)) ∧ A T1 = some (.lst (rows.map V.ref)) ∧ A I1 = some (.lst (acc.map V.int)) ∧ ∀ q ∈ rows, H q = none ∧ ∃ ns : List Int, A q = some (.tup (ns.map V.int)) ∧ ns.Perm (rng n)
theorem BlkF.ge {s l L T1 I1 : Addr} {H A B : Hp} {zs acc : List Int} {rows : List Addr} {n : Nat} (st : Sto s l H) (hL : H L = none) (hT : H T1 = none) (hI : H I1 = none) (f : BlkF s l L T1 I1 H zs rows n A acc) (g : Ge s l A B) : BlkF s l L T1 I1 H zs rows n B acc := by
  obtain ⟨f1, f2, f3, f4, f5⟩ := f
  exact ⟨f1.trans g, g.at st hL f2, g.at st hT f3, g.at st hI f4, fun q hq => ⟨(f5 q hq).1, (f5 q hq).2.imp fun ns h => ⟨g.at st (f5 q hq).1 h.1, h.2⟩⟩⟩
theorem BlkF.put {s l L T1 I1 : Addr} {H A B : Hp} {zs acc acc' : List Int} {rows : List Addr} {n : Nat} (st : Sto s l H) (hI : H I1 = none) (nL : L ≠ I1) (nT : T1 ≠ I1) (f : BlkF s l L T1 I1 H zs rows n A acc) (p : Put A I1 (.lst (acc'.map V.int)) B) : BlkF s l L T1 I1 H zs rows n B acc' := by
  obtain ⟨f1, f2, f3, f4, f5⟩ := f
  exact ⟨f1.put st hI p, p.k nL f2, p.k nT f3, p.at_, fun q hq => ⟨(f5 q hq).1, (f5 q hq).2.imp fun ns h => ⟨p.k (ne_of h.1 f4 (by intro z; cases z)) h.1, h.2⟩⟩⟩
abbrev st_law_block_moves : Stmt := topS 47
theorem sc_law_block_moves : FnScope ["store", "points", "sizes", "left", "k", "told", "j", "image", "size", "base", "shift", "sign"] ["store", "points"] (defScope st_law_block_moves) := ⟨rfl, rfl, rfl, by decide +kernel, rfl, by decide +kernel, by decide +kernel⟩
theorem ok_law_block_moves (D : Df K mg "_law_block_moves" st_law_block_moves) (T : NoB mg) (C_law_take : Cl P w K mg base 2 "_law_take" ["store", "many"] sp_take) : Cl P w K mg base 3 "_law_block_moves" ["store", "points"] sp_blk := by
  refine cl_of D sc_law_block_moves (fun _ _ _ _ _ _ us hl => match us, hl with | [_, _], _ => rfl) (fun vs H Q E h => ?_) (fun f cdv A outer sh H vs Q E hr h => ?_)
  · obtain ⟨_, _, _, rfl, _⟩ := h; rfl
  obtain ⟨s, l, n, rfl, st, hn0, hn1, k⟩ := h
  refine ⟨_, (pss_cons (ps_set (i := 2) sc_law_block_moves.nd rfl (Or.inl rfl) (pe_lst pa_nil))
    (pss_cons (ps_set (i := 3) sc_law_block_moves.nd rfl (Or.inl rfl) (pv 1))
    (pss_cons (ps_for PassesOwn.never rfl (pi_range1 (by rfl) T.no_range (pa_cons (pv 1) pa_nil)) (pg_name (i := 4) sc_law_block_moves.nd rfl (Or.inl rfl)) (pss_one (ps_if (pt_cmpR op_gt (pv 3) pe_int (nomark _)) (pss_cons (ps_expr (pe_bm PySem.F.plainAttrs_list PySem.F.slot_list_append PySem.F.type_list_append mt_append (pv 2) (pa_cons (pe_op op_add pe_int (pe_cl C_law_take hr (by rfl) (pa_cons (pv 0) (pa_cons (pe_callB (call_min2 rfl) (by rfl) T.no_min (by decide +kernel) (pa_cons pe_int (pa_cons (pv 3) pa_nil))) pa_nil)))) pa_nil)))
    (pss_one (ps_set (i := 3) sc_law_block_moves.nd rfl (Or.inl rfl) (pe_op op_sub (pv 3) (pe_ix ix1 (pv 2) (pe_un un_neg pe_int) (fun _ _ => rfl)))))) pss_nil)))
    (pss_cons (ps_set (i := 5) sc_law_block_moves.nd rfl (Or.inl rfl) (pe_lst pa_nil))
    (pss_cons (ps_for PassesOwn.never rfl (pi_range1 (by rfl) T.no_range (pa_cons (pe_op op_add pe_int (pe_cl C_law_take hr (by rfl) (pa_cons (pv 0) (pa_cons pe_int pa_nil)))) pa_nil)) (pg_name (i := 6) sc_law_block_moves.nd rfl (Or.inl rfl)) (pss_cons (ps_set (i := 7) sc_law_block_moves.nd rfl (Or.inl rfl) (pe_lst pa_nil))
    (pss_cons (ps_for PassesOwn.never rfl (pi_sq (pv 2)) (pg_name (i := 8) sc_law_block_moves.nd rfl (Or.inl rfl)) (pss_cons (ps_set (i := 9) sc_law_block_moves.nd rfl (Or.inl rfl) (pe_callB len1 (by rfl) T.no_len (by decide +kernel) (pa_cons (pv 7) pa_nil)))
    (pss_cons (ps_set (i := 10) sc_law_block_moves.nd rfl (Or.inl rfl) pe_int)
    (pss_cons (ps_if (pt_cmpR op_eq (pe_cl C_law_take hr (by rfl) (pa_cons (pv 0) (pa_cons pe_int pa_nil))) pe_int (nomark _)) (pss_one (ps_set (i := 10) sc_law_block_moves.nd rfl (Or.inl rfl) (pe_cl C_law_take hr (by rfl) (pa_cons (pv 0) (pa_cons (pv 8) pa_nil))))) pss_nil)
    (pss_cons (ps_set (i := 11) sc_law_block_moves.nd rfl (Or.inl rfl) pe_int)
    (pss_cons (ps_if (pt_cmpR op_eq (pe_cl C_law_take hr (by rfl) (pa_cons (pv 0) (pa_cons pe_int pa_nil))) pe_int (nomark _)) (pss_one (ps_set (i := 11) sc_law_block_moves.nd rfl (Or.inl rfl) (pe_un un_neg pe_int))) pss_nil)
    (pss_one (ps_for PassesOwn.never rfl (pi_range1 (by rfl) T.no_range (pa_cons (pv 8) pa_nil)) (pg_name (i := 4) sc_law_block_moves.nd rfl (Or.inl rfl)) (pss_one (ps_expr (pe_bm PySem.F.plainAttrs_list PySem.F.slot_list_append PySem.F.type_list_append mt_append (pv 7) (pa_cons (pe_op op_add (pv 9) (pe_op op_modN (pe_callTy int1 (by rfl) T.no_int (by decide +kernel) (pa_cons (pe_op op_add (pe_op op_mul (pv 11) (pv 4)) (pv 10)) pa_nil)) (pv 8))) pa_nil))))))))))))
    (pss_one (ps_expr (pe_bm PySem.F.plainAttrs_list PySem.F.slot_list_append PySem.F.type_list_append mt_append (pv 5) (pa_cons (pe_callTy tup1 (by rfl) T.no_tuple (by decide +kernel) (pa_cons (pv 7) pa_nil)) pa_nil)))))))
    (pss_one (ps_ret (pv 5)))))))), ?_⟩
  walk_at "sn"
  refine ⟨szl (by decide), fun L H1 n1 => ?_⟩
  have hL := n1.fr
  have g1 : Ge s l H H1 := (Ge.refl st).new n1
  walk_at "sn"
  walk_at "sn"
  refine ⟨by omega, by omega, fr_by (fun i σ H' => Ge s l H H' ∧ ∃ (v : Option V) (left : Int) (zs : List Int), σ = [some (V.ref s), some (V.int n), some (V.ref L), some (V.int left), v, none, none, none, none, none, none, none] ∧ H' L = some (.lst (zs.map V.int)) ∧
    (∀ z ∈ zs, 1 ≤ z ∧ z ≤ 12) ∧ zs.sum + left = n ∧ 0 ≤ left ∧ (left = 0 ∨ (i : Int) ≤ zs.sum) ∧ zs.length ≤ i) ⟨g1, _, n, [], rfl, n1.at_, by simp, by simp, hn0, .inr (by simp), by simp⟩ ?_ ?_⟩
  · rintro i _ H2 N hN hi ⟨g2, v, left, zs, rfl, e2, hz, hs, hl, hd, hlen⟩
    walk_at "wn"
    split
    · rename_i hpos
      walk_at "sn"
      have neL := g2.st.ne' e2 (by intro m i1 i2 i3 i4 i5 i6 z; cases zs <;> cases z)
      refine ⟨tyl e2, s, l, _, rfl, by split <;> omega, g2.st, fun r H3 g3 r0 r1 r2 => ?_⟩
      walk_at "wn"
      have hr1 : 1 + r ≤ left ∧ 1 + r ≤ 6 := by
        by_cases h6 : left < 6
        · rw [if_pos h6] at r1 r2
          by_cases h2 : left < 2
          · have := r2 h2; omega
          · have := r1 (by omega); omega
        · rw [if_neg h6] at r1 r2
          have := r1 (by omega); omega
      refine ⟨_, g3.k (st.ne hL).1 e2, by rw [List.length_map, sizeLine_eq]; omega, fun H4 p4 => ⟨_, sq_l p4.at_, .int (1 + r), atI_last _ _, ?_⟩⟩
      walk_at "wn"
      refine hN _ _ ⟨(g2.trans g3).put st hL p4, _, left - (1 + r), zs ++ [1 + r], rfl, by rw [p4.at_, List.map_append]; rfl, fun z hz2 => ?_, by rw [List.sum_append]; simp; omega, by omega, ?_, by simp; omega⟩
      · rcases List.mem_append.mp hz2 with h | h
        · exact hz z h
        · obtain rfl := List.mem_singleton.mp h
          omega
      · right
        rw [List.sum_append]
        simp
        omega
    · refine hN _ _ ⟨g2, _, left, zs, rfl, e2, hz, hs, hl, .inl (by omega), by omega⟩
  · rintro _ H2 ⟨g2, v, left, zs, rfl, e2, hz, hs, hl, hd, hlen⟩
    have hsum : zs.sum = n := by omega
    walk_at "sn"
    refine ⟨szl (by decide), fun T1 H3 n3 => ?_⟩
    have hT := g2.fr n3.fr
    have hLT : L ≠ T1 := n3.ne e2
    have g3 := g2.new n3
    walk_at "sn"
    refine ⟨s, l, _, rfl, by decide, g3.st, fun r H4 g4 r0 r1 r2 => ?_⟩
    have r1 := r1 (by decide)
    walk_at "wn"
    refine ⟨by omega, by omega, fr_by (fun j σ H' => Ge s l H H' ∧ ∃ (v4 v6 v7 v8 v9 v10 v11 : Option V) (rows : List Addr), σ = [some (V.ref s), some (V.int n), some (V.ref L), some (V.int left), v4, some (V.ref T1), v6, v7, v8, v9, v10, v11] ∧ H' L = some (.lst (zs.map V.int)) ∧ H' T1 = some (.lst (rows.map V.ref)) ∧
      rows.length = j ∧ ∀ q ∈ rows, H q = none ∧ ∃ ns : List Int, H' q = some (.tup (ns.map V.int)) ∧ ns.Perm (rng n.toNat)) ⟨g3.trans g4, _, _, _, _, _, _, _, [], rfl, g4.k (st.ne hL).1 (n3.k e2), g4.k (st.ne hT).1 n3.at_, rfl, by simp⟩ ?_ ?_⟩
    · rintro j _ H5 N hN hj ⟨g5, v4, v6, v7, v8, v9, v10, v11, rows, rfl, eL5, eT5, hrl, hrows⟩
      walk_at "wn"
      walk_at "sn"
      refine ⟨szl (by decide), fun I1 H6 n6 => ?_⟩
      have hI := g5.fr n6.fr
      have g6 := g5.new n6
      walk_at "sn"
      have nLI : L ≠ I1 := n6.ne eL5
      have nTI : T1 ≠ I1 := n6.ne eT5
      have f6 : BlkF s l L T1 I1 H zs rows n.toNat H6 [] := ⟨g6, n6.k eL5, n6.k eT5, n6.at_, fun q hq => ⟨(hrows q hq).1, (hrows q hq).2.imp fun ns h => ⟨n6.k h.1, h.2⟩⟩⟩
      refine fs_by (xs := zs.map V.int) (sq_l f6.2.1) (fun i σ H' => ∃ (v4 v8 v9 v10 v11 : Option V) (acc : List Int), σ = [some (V.ref s), some (V.int n), some (V.ref L), some (V.int left), v4, some (V.ref T1), some (V.int (0 + ↑j)), some (V.ref I1), v8, v9, v10, v11] ∧
        BlkF s l L T1 I1 H zs rows n.toNat H' acc ∧ acc.Perm (rng (zs.take i).sum.toNat)) ⟨_, _, _, _, _, [], rfl, f6, by simp [rng]⟩ (fun i σ' H' p o ho => by
          obtain ⟨_, _, _, _, _, _, _, f, _⟩ := p
          rw [f6.2.1] at ho
          cases ho
          exact f.2.1) ?_ ?_
      · rintro i x _ H7 N2 hN2 hx ⟨v4, v8, v9, v10, v11, acc, rfl, f7, hperm⟩
        obtain ⟨z, hz7, rfl⟩ := map_at hx
        have hzb := hz z (List.mem_of_getElem? hz7)
        walk_at "wn"
        walk_at "sn"
        refine ⟨_, sq_l f7.2.2.2.1, ?_⟩
        walk_at "sn"
        refine seq_join (fun σ H' => ∃ shf : Int, σ = [some (V.ref s), some (V.int n), some (V.ref L), some (V.int left), v4, some (V.ref T1), some (V.int (0 + ↑j)), some (V.ref I1), some (V.int z), some (V.int ↑(List.map V.int acc).length), some (V.int shf), v11] ∧ BlkF s l L T1 I1 H zs rows n.toNat H' acc) (fun M hM => ?_) ?_
        · walk_at "wn"
          refine ⟨s, l, _, rfl, by decide, f7.1.st, fun r H8 g8 r0 r1 r2 => ?_⟩
          have f8 := f7.ge st hL hT hI g8
          walk_at "wn"
          split
          · refine ⟨s, l, _, rfl, by omega, f8.1.st, fun r' H9 g9 _ _ _ => ?_⟩
            exact hM _ _ ⟨r', rfl, f8.ge st hL hT hI g9⟩
          · exact hM _ _ ⟨1, rfl, f8⟩
        rintro _ H8 ⟨shf, rfl, f8⟩
        walk_at "sn"
        refine seq_join (fun σ H' => ∃ sg : Int, (sg = 1 ∨ sg = -1) ∧ σ = [some (V.ref s), some (V.int n), some (V.ref L), some (V.int left), v4, some (V.ref T1), some (V.int (0 + ↑j)), some (V.ref I1), some (V.int z), some (V.int ↑(List.map V.int acc).length), some (V.int shf), some (V.int sg)] ∧ BlkF s l L T1 I1 H zs rows n.toNat H' acc) (fun M hM => ?_) ?_
        · walk_at "wn"
          refine ⟨s, l, _, rfl, by decide, f8.1.st, fun r H9 g9 r0 r1 r2 => ?_⟩
          have f9 := f8.ge st hL hT hI g9
          walk_at "wn"
          split
          · exact hM _ _ ⟨-1, .inr rfl, rfl, f9⟩
          · exact hM _ _ ⟨1, .inl rfl, rfl, f9⟩
        rintro _ H9 ⟨sg, hsg, rfl, f9⟩
        walk_at "wn"
        have hlen : acc.length = (zs.take i).sum.toNat := by rw [hperm.length_eq, rng_len]
        refine ⟨by omega, by omega, fr_by (fun kk σ H' => ∃ v4 : Option V, σ = [some (V.ref s), some (V.int n), some (V.ref L), some (V.int left), v4, some (V.ref T1), some (V.int (0 + ↑j)), some (V.ref I1), some (V.int z), some (V.int ↑(List.map V.int acc).length), some (V.int shf), some (V.int sg)] ∧ BlkF s l L T1 I1 H zs rows n.toNat H' (acc ++ (rng kk).map fun t => (acc.length : Int) + (sg * t + shf).fmod z)) ⟨_, rfl, by simpa [rng] using f9⟩ ?_ ?_⟩
        · rintro kk _ HA N3 hN3 hk ⟨v4, rfl, fA⟩
          walk_at "wn"
          have hkk : kk < 12 := by omega
          have hil : acc.length ≤ 24 := by
            rw [hlen]
            have e0 : ∀ ys : List Int, (∀ y ∈ ys, 1 ≤ y ∧ y ≤ 12) → 0 ≤ ys.sum := fun ys => by
              induction ys with
              | nil => intro _; simp
              | cons y ys ih =>
                intro h
                have h1 := h y List.mem_cons_self
                have h2 := ih fun y' hy' => h y' (List.mem_cons_of_mem _ hy')
                simp only [List.sum_cons]
                omega
            have e1 := e0 (zs.drop i) fun y hy => hz y (List.mem_of_mem_drop hy)
            have e2 : (zs.take i).sum + (zs.drop i).sum = zs.sum := by rw [← List.sum_append, List.take_append_drop]
            omega
          refine ⟨tyl fA.2.2.2.1, cm_lit ⟨by omega, by omega⟩, by omega, _, fA.2.2.2.1, by rw [List.length_map, List.length_append, List.length_map, rng_len, sizeLine_eq]; omega, fun HB pB => hN3 _ _ ⟨_, rfl, fA.put st hI nLI nTI ?_⟩⟩
          have er : rng (kk + 1) = rng kk ++ [(kk : Int)] := by rw [rng_app]; rfl
          have el : List.map V.int (acc ++ (rng (kk + 1)).map fun t => (acc.length : Int) + (sg * t + shf).fmod z) = List.map V.int (acc ++ (rng kk).map fun t => (acc.length : Int) + (sg * t + shf).fmod z) ++ [V.int ((acc.length : Int) + (sg * (kk : Int) + shf).fmod z)] := by
            rw [er, List.map_append, List.map_append, List.map_append, List.map_append, List.append_assoc]
            rfl
          rw [el]
          have ez : (0 : Int) + (kk : Int) = kk := by omega
          rw [ez, List.length_map] at pB
          exact pB
        · rintro _ HA ⟨v4, rfl, fA⟩
          refine hN2 _ _ ⟨_, _, _, _, _, _, rfl, fA, ?_⟩
          have e0 : ∀ ys : List Int, (∀ y ∈ ys, 1 ≤ y ∧ y ≤ 12) → 0 ≤ ys.sum := fun ys => by
            induction ys with
            | nil => intro _; simp
            | cons y ys ih =>
              intro h
              have h1 := h y List.mem_cons_self
              have h2 := ih fun y' hy' => h y' (List.mem_cons_of_mem _ hy')
              simp only [List.sum_cons]
              omega
          have e1 : 0 ≤ (zs.take i).sum := e0 _ fun y hy => hz y (List.mem_of_mem_take hy)
          have e2 : (zs.take (i + 1)).sum.toNat = acc.length + z.toNat := by
            rw [List.take_add_one, hz7, List.sum_append, hlen]
            simp
            omega
          rw [e2, rng_app]
          rw [← hlen] at hperm
          refine hperm.append ?_
          have hp : ((rng z.toNat).map fun t => (sg * t + shf).fmod z).Perm (rng z.toNat) := by
            have ez : ((z.toNat : Nat) : Int) = z := by omega
            rcases hsg with rfl | rfl
            · have := rotA (n := z.toNat) (by omega) shf
              rw [ez] at this
              simpa using this
            · have := revA (n := z.toNat) (by omega) shf
              rw [ez] at this
              simpa using this
          have := hp.map fun t => (acc.length : Int) + t
          rw [List.map_map] at this
          exact this
      · rintro _ H7 ⟨v4, v8, v9, v10, v11, acc, rfl, f7, hperm⟩
        walk_at "wn"
        refine ⟨tyl f7.2.2.1, _, f7.2.2.2.1, fun q H8 n8 => ⟨_, n8.k f7.2.2.1, by rw [List.length_map, sizeLine_eq]; omega, fun H9 p9 => hN _ _ ⟨(f7.1.new n8).put st hT p9, _, _, _, _, _, _, _, rows ++ [q], rfl, p9.k hLT (n8.k f7.2.1), by rw [p9.at_, List.map_append]; rfl, by simp [hrl], fun q' hq' => ?_⟩⟩⟩
        rcases List.mem_append.mp hq' with h | h
        · obtain ⟨h1, ns, h2, h3⟩ := f7.2.2.2.2 q' h
          exact ⟨h1, ns, p9.k (ne_of (n8.k h2) (n8.k f7.2.2.1) (by intro z; cases z)) (n8.k h2), h3⟩
        · obtain rfl := List.mem_singleton.mp h
          refine ⟨f7.1.fr n8.fr, acc, p9.k (ne_of n8.at_ (n8.k f7.2.2.1) (by intro z; cases z)) n8.at_, ?_⟩
          rw [List.length_map, List.take_length, hsum] at hperm
          exact hperm
    · rintro _ H5 ⟨g5, v4, v6, v7, v8, v9, v10, v11, rows, rfl, eL5, eT5, hrl, hrows⟩
      exact ⟨_, rfl, k T1 rows H5 g5 hT eT5 (by omega) (by omega) hrows⟩
end

/-! ## P1 -/

theorem tls_of {H : Hp} {n : Nat} : ∀ {rows : List Addr}, (∀ r ∈ rows, ∃ ns : List Int, H r = some (.tup (ns.map V.int)) ∧ ns.Perm (rng n)) → ∃ T, TLs H rows T ∧ OnN n T
  | [], _ => ⟨[], .nil, fun m hm => by cases hm⟩
  | r :: rows, h => by
    obtain ⟨ns, h1, h2⟩ := h r List.mem_cons_self
    obtain ⟨T, t, o⟩ := tls_of (rows := rows) fun q hq => h q (List.mem_cons_of_mem _ hq)
    exact ⟨ns :: T, .cons h1 t, fun m hm => by
      rcases List.mem_cons.mp hm with rfl | hm
      · exact h2
      · exact o m hm⟩
section
variable {P : Program} {w : World} {K : PySem.W.Frag} {mg : Str → Option Value} {base : Heap}
def sp_cut : Sp := fun vs H Q _ => ∃ (n m : Nat) (t : Addr) (ws : List Addr) (T : List (List Int)), vs = [.int n, .ref t, .int m] ∧ n ≤ 12 ∧ 1 ≤ m ∧ m ≤ 400 ∧ H t = some (.lst (ws.map V.ref)) ∧ TLs H ws T ∧ OnN n T ∧ T.length ≤ 8 ∧
  ∀ p kp md kw mw Kt M H', Same H H' → H p = none → H kp = none → H md = none → kp ≠ md → H' p = some (.lst [.ref kp, .ref md]) → H' kp = some (.lst (kw.map V.ref)) → H' md = some (.lst (mw.map V.ref)) → TLs H' kw Kt → TLs H' mw M → OnN n Kt → Made n Kt M → M.length ≤ 400 → Kt.length ≤ T.length → Q (.ref p) H'
abbrev st_law_cut : Stmt := topS 46
theorem sc_law_cut : FnScope ["points", "told", "most", "left", "made", "move", "wider"] ["points", "told", "most"] (defScope st_law_cut) := ⟨rfl, rfl, rfl, by decide +kernel, rfl, by decide +kernel, by decide +kernel⟩
theorem ok_law_cut (D : Df K mg "_law_cut" st_law_cut) (T : NoB mg) (C_law_group : Cl P w K mg base 2 "_law_group" ["points", "told", "most"] sp_group) : Cl P w K mg base 3 "_law_cut" ["points", "told", "most"] sp_cut := by
  refine cl_of D sc_law_cut (fun _ _ _ _ _ _ us hl => match us, hl with | [_, _, _], _ => rfl) (fun vs H Q E h => ?_) (fun f cdv A outer sh H vs Q E hr h => ?_)
  · obtain ⟨_, _, _, _, _, rfl, _⟩ := h; rfl
  obtain ⟨n, m, t, ws, T0, rfl, hn, hm1, hm2, et, tl, on, hT, k⟩ := h
  refine ⟨_, (pss_cons (ps_set (i := 3) sc_law_cut.nd rfl (Or.inl rfl) (pe_lst pa_nil))
    (pss_cons (ps_set (i := 4) sc_law_cut.nd rfl (Or.inl rfl) (pe_lst (pa_cons (pe_tupRg rfl (by rfl) T.no_tuple (prg_1 (by rfl) T.no_range (pv 0))) pa_nil)))
    (pss_cons (ps_for PassesOwn.never rfl (pi_sq (pv 1)) (pg_name (i := 5) sc_law_cut.nd rfl (Or.inl rfl)) (pss_cons (ps_set (i := 6) sc_law_cut.nd rfl (Or.inl rfl) (pe_cl C_law_group hr (by rfl) (pa_cons (pv 0) (pa_cons (pe_op op_cat (pv 3) (pe_lst (pa_cons (pv 5) pa_nil))) (pa_cons (pv 2) pa_nil)))))
    (pss_one (ps_if (pt_cmpR op_notN (pv 6) pe_non (nomark _)) (pss_cons (ps_expr (pe_bm PySem.F.plainAttrs_list PySem.F.slot_list_append PySem.F.type_list_append mt_append (pv 3) (pa_cons (pv 5) pa_nil)))
    (pss_one (ps_set (i := 4) sc_law_cut.nd rfl (Or.inl rfl) (pv 6)))) pss_nil))))
    (pss_one (ps_ret (pe_lst (pa_cons (pv 3) (pa_cons (pv 4) pa_nil)))))))), ?_⟩
  walk_at "sq"
  refine ⟨szl (by decide), fun kp H1 n1 => ?_⟩
  walk_at "sq"
  refine ⟨rg_ok (by omega), fun S H2 n2 => ⟨szl (by decide), fun md H3 n3 => ?_⟩⟩
  have eS := n3.k n2.at_
  rw [rgV_rng (by omega), Int.toNat_natCast] at eS
  have s3 := (n1.same.trans n2.same).trans n3.same
  have fk := n1.fr
  have fm := (n1.same.trans n2.same).free n3.fr
  have ekp := n3.k (n2.k n1.at_)
  walk_at "sq"
  refine fs_by (sq_l (s3 _ _ et)) (fun i σ H' => Same H H' ∧ ∃ (md : Addr) (kw mw : List Addr) (Kt M : List (List Int)) (v5 v6 : Option V), σ = [some (.int n), some (.ref t), some (.int m), some (.ref kp), some (.ref md), v5, v6] ∧
      H' kp = some (.lst (kw.map V.ref)) ∧ H' md = some (.lst (mw.map V.ref)) ∧ TLs H' kw Kt ∧ TLs H' mw M ∧ OnN n Kt ∧ Made n Kt M ∧ M.length ≤ 400 ∧ Kt.length ≤ i ∧ kp ≠ md ∧ H md = none)
    ⟨s3, md, [], [S], [], [rng n], _, _, rfl, ekp, n3.at_, .nil, one_tup eS, (fun m hm => by cases hm), Made.none, by simp, by simp, (fun e => by have h5 := n3.fr; rw [← e, n2.k n1.at_] at h5; cases h5), fm⟩ (fun j σ' H' f o ho => by rw [s3 _ _ et] at ho; rw [← ho]; exact f.1 _ _ et) ?_ ?_
  · rintro i x _ Hb N hN hx ⟨sb, md, kw, mw, Kt, M, v5, v6, rfl, ek, em, tk, tm, ok, mdM, hM, hK, kmd, fmd⟩
    have tlb := tl.same sb
    obtain ⟨a, mv, rfl, ha1, ha2, ha3⟩ := tlb.get hx
    have pm := on mv (List.mem_of_getElem? ha2)
    have hiT := (List.getElem?_eq_some_iff.mp ha2).1
    walk_at "wn"
    rw [a_seq]
    walk_at "wn"
    refine ⟨szl (by decide), fun L1 Hc nc => ⟨_, nc.k ek, _, nc.at_, by simp only [List.length_map, List.length_cons, List.length_nil]; rw [tk.len, sizeLine_eq]; omega, fun L2 Hd nd => ?_⟩⟩
    have sd := nc.same.trans nd.same
    have tk2 : TLs Hd (kw ++ [a]) (Kt ++ [mv]) := (tk.same sd).snoc (sd _ _ ha3)
    have ok2 : OnN n (Kt ++ [mv]) := fun y hy => by
      rcases List.mem_append.mp hy with hy | hy
      · exact ok y hy
      · rw [List.mem_singleton.mp hy]; exact pm
    refine ⟨n, m, L2, kw ++ [a], Kt ++ [mv], rfl, hn, hm1, by omega, sq_l (by rw [nd.at_, List.map_append]; rfl), tk2, ok2, fun _ He se => ?_, fun M' us' q He se fq eq tq mq hq => ?_⟩
    · walk_at "wn"
      have sbe := sd.trans se
      exact hN _ _ ⟨sb.trans sbe, md, kw, mw, Kt, M, _, _, rfl, sbe _ _ ek, sbe _ _ em, tk.same sbe, tm.same sbe, ok, mdM, hM, by omega, kmd, fmd⟩
    · have sbe := sd.trans se
      have eke := sbe _ _ ek
      walk_at "wn"
      rw [a_seq]
      walk_at "wn"
      refine ⟨tyl eke, _, eke, by rw [List.length_map, tk.len, sizeLine_eq]; omega, fun Hf pf => ?_⟩
      have qk : q ≠ kp := fun e => by rw [e, sd _ _ ek] at fq; cases fq
      have ae := sbe _ _ ha3
      have fqH : H q = none := (sb.trans sd).free fq
      exact hN _ _ ⟨pf.same (sb.trans sbe) fk, q, kw ++ [a], us', Kt ++ [mv], M', _, _, rfl, by rw [pf.at_, List.map_append]; rfl, pf.k qk eq, ((tk.same sbe).put pf eke).snoc (pf.k (fun e => by rw [e, eke] at ae; cases ae) ae), tq.put pf eke, ok2, mq, by omega, by simp; omega, qk.symm, fqH⟩
  · rintro _ Hb ⟨sb, md, kw, mw, Kt, M, v5, v6, rfl, ek, em, tk, tm, ok, mdM, hM, hK, kmd, fmd⟩
    rw [List.length_map, tl.len] at hK
    walk_at "wn"
    refine ⟨szl (by decide), fun p Hc nc => ?_⟩
    exact k p kp md kw mw Kt M Hc (sb.trans nc.same) (sb.free nc.fr) fk fmd kmd nc.at_ (nc.k ek) (nc.k em) (tk.same nc.same) (tm.same nc.same) ok mdM hM hK
/-- a world drawn -/
def sp_somew : Sp := fun vs H Q _ => ∃ (s l : Addr) (m : Nat), vs = [.ref s, .int m] ∧ 1 ≤ m ∧ m ≤ 400 ∧ Sto s l H ∧ ∀ p t u ws us n T M H', Ge s l H H' → H p = none → H t = none → H u = none → T.length ≤ 4 → Arena H' p t u ws us n T M → Q (.ref p) H'
abbrev st_law_some_world : Stmt := topS 48
theorem sc_law_some_world : FnScope ["store", "most", "points", "told", "both", "k"] ["store", "most"] (defScope st_law_some_world) := ⟨rfl, rfl, rfl, by decide +kernel, rfl, by decide +kernel, by decide +kernel⟩
theorem ok_law_some_world (D : Df K mg "_law_some_world" st_law_some_world) (T : NoB mg) (C_law_block_moves : Cl P w K mg base 3 "_law_block_moves" ["store", "points"] sp_blk) (C_law_cut : Cl P w K mg base 3 "_law_cut" ["points", "told", "most"] sp_cut) (C_law_move : Cl P w K mg base 4 "_law_move" ["store", "points"] sp_move) (C_law_place : Cl P w K mg base 3 "_law_place" ["store", "size"] sp_place) (C_law_take : Cl P w K mg base 2 "_law_take" ["store", "many"] sp_take) : Cl P w K mg base 6 "_law_some_world" ["store", "most"] sp_somew := by
  refine cl_of D sc_law_some_world (fun _ _ _ _ _ _ us hl => match us, hl with | [_, _], _ => rfl) (fun vs H Q E h => ?_) (fun f cdv A outer sh H vs Q E hr h => ?_)
  · obtain ⟨_, _, _, rfl, _⟩ := h; rfl
  obtain ⟨s, l, m, rfl, hm1, hm2, st, k⟩ := h
  refine ⟨_, (pss_cons (ps_set (i := 2) sc_law_some_world.nd rfl (Or.inr rfl) (pe_op op_add pe_int (pe_cl C_law_take hr (by rfl) (pa_cons (pv 0) (pa_cons pe_int pa_nil)))))
    (pss_cons (ps_if (pt_cmpR op_eq (pe_cl C_law_take hr (by rfl) (pa_cons (pv 0) (pa_cons pe_int pa_nil))) pe_int (nomark _)) (pss_one (ps_set (i := 2) sc_law_some_world.nd rfl (Or.inr rfl) (pe_cl C_law_place hr (by rfl) (pa_cons (pv 0) (pa_cons pe_int pa_nil))))) pss_nil)
    (pss_cons (ps_if (pt_cmpR op_eq (pe_cl C_law_take hr (by rfl) (pa_cons (pv 0) (pa_cons pe_int pa_nil))) pe_int (nomark _)) (pss_one (ps_set (i := 3) sc_law_some_world.nd rfl (Or.inl rfl) (pe_cl C_law_block_moves hr (by rfl) (pa_cons (pv 0) (pa_cons (pv 2) pa_nil))))) (pss_one (ps_setLc (i := 3) (own := [("k", 5)]) (g := gName 5) (tt := tYes) rfl sc_law_some_world.nd rfl rfl (sw_true rfl rfl rfl (by decide +kernel)) (pi_range1 (by rfl) T.no_range (pa_cons (pe_cl C_law_take hr (by rfl) (pa_cons (pv 0) (pa_cons pe_int pa_nil))) pa_nil)) (blkOk_by (own := [("k", 5)]) (N := ["store", "most", "points", "told", "both", "k"]) (sc := defScope st_law_some_world) (by decide +kernel)) (fun _ _ _ _ _ => (pg_name (i := 5) sc_law_some_world.nd rfl (Or.inl rfl))) (fun _ _ _ _ _ => pts_nil) (fun _ _ _ _ _ => (pe_cl C_law_move hr (by rfl) (pa_cons (pv 0) (pa_cons (pv 2) pa_nil)))))))
    (pss_cons (ps_set (i := 4) sc_law_some_world.nd rfl (Or.inl rfl) (pe_cl C_law_cut hr (by rfl) (pa_cons (pv 2) (pa_cons (pv 3) (pa_cons (pv 1) pa_nil)))))
    (pss_one (ps_ret (pe_lst (pa_cons (pv 2) (pa_cons (pe_ix ix1 (pv 4) pe_int (fun _ _ => rfl)) (pa_cons (pe_ix ix1 (pv 4) pe_int (fun _ _ => rfl)) pa_nil)))))))))), ?_⟩
  walk_at "sq"
  refine ⟨s, l, _, rfl, by decide, st, fun r' H2 g2 q0 q1 _ => ?_⟩
  have q3 := q1 (by decide)
  walk_at "wn"
  refine seq_join (fun σ H' => Ge s l H H' ∧ ∃ (n : Nat), σ = [some (.ref s), some (.int m), some (.int n), none, none, none] ∧ n ≤ 12) (fun N hN => ?_) ?_
  · walk_at "wn"
    refine ⟨s, l, _, rfl, by decide, g2.st, fun d H3 g3 d0 d1 _ => ?_⟩
    walk_at "wn"
    split
    · refine ⟨s, l, _, rfl, (g2.trans g3).st, by decide, by decide, fun e H4 g4 e0 e1 => ?_⟩
      walk_at "wn"
      exact hN _ _ ⟨(g2.trans g3).trans g4, e.toNat, by rw [Int.toNat_of_nonneg e0], by omega⟩
    · exact hN _ _ ⟨g2.trans g3, (2 + r').toNat, by rw [Int.toNat_of_nonneg (by omega)], by omega⟩
  rintro _ H3 ⟨g3, n, rfl, hn⟩
  walk_at "wn"
  refine seq_join (fun σ H' => Ge s l H H' ∧ ∃ (t : Addr) (ws : List Addr) (T : List (List Int)), σ = [some (.ref s), some (.int m), some (.int n), some (.ref t), none, none] ∧ H' t = some (.lst (ws.map V.ref)) ∧ TLs H' ws T ∧ OnN n T ∧ T.length ≤ 4) (fun N hN => ?_) ?_
  · walk_at "wn"
    refine ⟨s, l, _, rfl, by decide, g3.st, fun d H4 g4 d0 d1 _ => ?_⟩
    have g34 := g3.trans g4
    walk_at "wn"
    split
    · refine ⟨s, l, _, rfl, g34.st, by omega, by omega, fun p rows H5 g5 fp ep r0 r3 hr => ?_⟩
      obtain ⟨T, t, o⟩ := tls_of (n := n) fun r hm => by
        obtain ⟨_, ns, h1, h2⟩ := hr r hm
        rw [Int.toNat_natCast] at h2
        exact ⟨ns, h1, h2⟩
      walk_at "wn"
      exact hN _ _ ⟨g34.trans g5, p, rows, T, rfl, ep, t, o, by rw [← t.len]; omega⟩
    · refine ⟨s, l, _, rfl, by decide, g34.st, fun c H2 g2 c0 c1 _ => ?_⟩
      have c3 := c1 (by decide)
      have g12 := g34.trans g2
      walk_at "wn"
      refine ⟨by omega, by omega, ?_⟩
      refine cr_by (fun C i acc H' => Ge s l H2 H' ∧ ∃ ws T, acc = ws.map V.ref ∧ TLs H' ws T ∧ OnN n T ∧ T.length = i) (fun C H0 n0 => ⟨(Ge.refl g12.st).new n0, [], [], rfl, .nil, (fun m hm => by cases hm), rfl⟩) ?_ ?_
      · rintro C i acc H3 N2 hC hi hacc ⟨g3, ws, T, rfl, tl, on, hl⟩ hN2
        refine ⟨rfl, ?_⟩
        walk_at "wn"
        refine ⟨s, l, _, rfl, g3.st, by omega, by omega, fun q ns H4 g4 fq eq pn => ?_⟩
        rw [Int.toNat_natCast] at pn
        have Cs : C ≠ s := (g12.st.ne hC).1
        have tl4 := tl.ge g3.st g4
        refine cst (g4.k Cs hacc) (by rw [List.length_map, tl.len, sizeLine_eq]; omega) fun H5 p5 => hN2 _ _ p5.at_ ⟨(g3.trans g4).put g12.st hC p5, ws ++ [q], T ++ [ns], by rw [List.map_append]; rfl, (tl4.put p5 (g4.k Cs hacc)).snoc (p5.k (fun z => by rw [z, hacc] at fq; cases fq) eq), ?_, by simp [hl]⟩
        intro m hm
        rcases List.mem_append.mp hm with hm | hm
        · exact on m hm
        · rw [List.mem_singleton.mp hm]; exact pn
      · rintro C acc H3 hC hacc ⟨g3, ws, T, rfl, tl, on, hl⟩
        walk_at "wn"
        exact hN _ _ ⟨g12.trans g3, C, ws, T, rfl, hacc, tl, on, by omega⟩
  rintro _ H4 ⟨g4, t, ws, T, rfl, et, tl, on, hT⟩
  walk_at "sn"
  refine ⟨n, m, t, ws, T, rfl, hn, hm1, hm2, et, tl, on, by omega, fun p kp md kw mw Kt M H5 s5 fp fk fm kmd ep ek em tk tm ok mdM hM hK => ?_⟩
  have g5 := g4.same s5
  walk_at "wn"
  refine ⟨_, sq_l ep, .ref kp, atI_0, _, sq_l ep, .ref md, atI_1, szl (by decide), fun p2 H6 n6 => ?_⟩
  exact k p2 kp md kw mw n Kt M H6 (g5.new n6) (g5.fr n6.fr) (g4.fr fk) (g4.fr fm) (by omega) ⟨n6.at_, n6.k ek, n6.k em, tk.same n6.same, tm.same n6.same, ok, mdM, hn, by omega, hM, kmd⟩
end

/-! ## K9A -/
local macro_rules | `(tactic| walk_at "wp") => `(tactic| (try simp only [a_var, a_c, a_op, a_un, a_test, a_b, a_and, a_or, a_not, a_andV, a_orV, a_notV, a_if, a_next, a_seq, a_break, a_cont, a_drop, a_ret, a_retN, a_ifS, a_asg, a_name, a_sub, a_nil, a_cons, a_tup, a_lst, a_call, a_cb, a_bm0, a_bm, a_sl, a_nopart, a_part, a_aug, b_rI, b_rI0, b_rU, b_eq, b_ne, b_isTF, b_int, b_intb, b_list, b_tuple, b_ix, b_len, b_setL, b_app, b_pop, b_popAt, b_sl, b_rep, b_cat, b_lstRg, b_tupRg, b_rg1, b_rg2, a_forR, a_forR2, a_forS, b_fsq, a_lcR, a_lcR2, a_lcS, b_csq, wipe_nil, wipe_cons, a_yes, wh_i, wh_s, wh_b, wh_r, wh_n, Bool.not_eq_true, eq_self, not_true_eq_false, not_false_eq_true, b_isi, kb_all, ty_non, ty_bl, ty_int, ty_str, a_m1, b_ixS, b_slS, List.cons.injEq, and_assoc, exists_and_left, cxK, List.getElem?_cons_zero, List.getElem?_cons_succ, List.set_cons_zero, List.set_cons_succ, Option.some.injEq, exists_eq_left', exists_eq_left, V.bl.injEq, V.int.injEq, V.ref.injEq, V.str.injEq, HO.lst.injEq, HO.tup.injEq, decide_eq_true_eq, true_and, and_true, L2.start, List.map_cons, List.map_nil, List.length_cons, List.length_nil, Nat.zero_add, Nat.reduceAdd, Nat.reduceSub, List.replicate_succ, List.replicate_zero, List.cons_append, List.nil_append, if_true, if_false, Bool.false_eq_true, Bool.not_true, Bool.not_false, decide_not, Bool.not_eq_true', decide_eq_false_iff_not, scal_ii, scal_bb, scal_ss, scal_is, scal_si, reduceCtorEq, Bool.true_eq_false, decide_false, decide_true, if_pos, ne_eq, Int.reduceNeg, atI_0, atI_1, atI_2, atI_3, atI_4, atI_5, atI_6, ixN_7, b_ins, a_revL, b_isT, V.ty.injEq, Bool.true_or, Bool.or_true, Bool.false_or, Bool.or_false, Bool.or_self, b_sorted, b_repT, a_err, a_callS, a_xp, a_isP, a_lcE, a_forE, a_isV, a_lcH, a_ch, a_forES, a_lcG]))
local macro_rules | `(tactic| walk_at "wps") => `(tactic| (try simp only [a_var, a_c, a_op, a_un, a_test, a_b, a_and, a_or, a_not, a_andV, a_orV, a_notV, a_if, a_next, a_seq, a_break, a_cont, a_drop, a_ret, a_retN, a_ifS, a_asg, a_name, a_sub, a_nil, a_cons, a_tup, a_lst, a_call, a_cb, a_bm0, a_bm, a_sl, a_nopart, a_part, a_aug, b_rI, b_rI0, b_rU, b_eq, b_ne, b_isTF, b_int, b_intb, b_list, b_tuple, b_ix, b_len, b_setL, b_app, b_pop, b_popAt, b_sl, b_rep, b_cat, b_lstRg, b_tupRg, b_rg1, b_rg2, a_forR, a_forR2, a_forS, b_fsq, a_lcR, a_lcR2, a_lcS, b_csq, wipe_nil, wipe_cons, a_yes, wh_i, wh_s, wh_b, wh_r, wh_n, Bool.not_eq_true, eq_self, not_true_eq_false, not_false_eq_true, b_isi, kb_all, ty_non, ty_bl, ty_int, ty_str, a_m1, b_ixS, b_slS, List.cons.injEq, and_assoc, exists_and_left, cxK, List.getElem?_cons_zero, List.getElem?_cons_succ, List.set_cons_zero, List.set_cons_succ, Option.some.injEq, exists_eq_left', exists_eq_left, V.bl.injEq, V.int.injEq, V.ref.injEq, V.str.injEq, HO.lst.injEq, HO.tup.injEq, decide_eq_true_eq, true_and, and_true, L2.start, List.map_cons, List.map_nil, List.length_cons, List.length_nil, Nat.zero_add, Nat.reduceAdd, Nat.reduceSub, List.replicate_succ, List.replicate_zero, List.cons_append, List.nil_append, if_true, if_false, Bool.false_eq_true, Bool.not_true, Bool.not_false, decide_not, Bool.not_eq_true', decide_eq_false_iff_not, scal_ii, scal_bb, scal_ss, scal_is, scal_si, reduceCtorEq, Bool.true_eq_false, decide_false, decide_true, if_pos, ne_eq, Int.reduceNeg, atI_0, atI_1, atI_2, atI_3, atI_4, atI_5, atI_6, ixN_7, b_ins, a_revL, b_isT, V.ty.injEq, Bool.true_or, Bool.or_true, Bool.false_or, Bool.or_false, Bool.or_self, b_sorted, b_repT, a_err, a_callS, a_xp, a_isP, a_lcE, a_forE, a_isV, a_lcH, a_ch, a_forES, a_lcG, *]))
local macro_rules | `(tactic| walk_at "wq") => `(tactic| (try simp only [a_var, a_c, a_op, a_un, a_test, a_b, a_and, a_or, a_not, a_andV, a_orV, a_notV, a_if, a_next, a_break, a_cont, a_drop, a_ret, a_retN, a_ifS, a_asg, a_name, a_sub, a_nil, a_cons, a_tup, a_lst, a_call, a_cb, a_bm0, a_bm, a_sl, a_nopart, a_part, a_aug, b_rI, b_rI0, b_rU, b_eq, b_ne, b_isTF, b_int, b_intb, b_list, b_tuple, b_ix, b_len, b_setL, b_app, b_pop, b_popAt, b_sl, b_rep, b_cat, b_lstRg, b_tupRg, b_rg1, b_rg2, a_forR, a_forR2, a_forS, b_fsq, a_lcR, a_lcR2, a_lcS, b_csq, wipe_nil, wipe_cons, a_yes, wh_i, wh_s, wh_b, wh_r, wh_n, Bool.not_eq_true, eq_self, not_true_eq_false, not_false_eq_true, b_isi, kb_all, ty_non, ty_bl, ty_int, ty_str, a_m1, b_ixS, b_slS, List.cons.injEq, and_assoc, exists_and_left, cxK, List.getElem?_cons_zero, List.getElem?_cons_succ, List.set_cons_zero, List.set_cons_succ, Option.some.injEq, exists_eq_left', exists_eq_left, V.bl.injEq, V.int.injEq, V.ref.injEq, V.str.injEq, HO.lst.injEq, HO.tup.injEq, decide_eq_true_eq, true_and, and_true, L2.start, List.map_cons, List.map_nil, List.length_cons, List.length_nil, Nat.zero_add, Nat.reduceAdd, Nat.reduceSub, List.replicate_succ, List.replicate_zero, List.cons_append, List.nil_append, if_true, if_false, Bool.false_eq_true, Bool.not_true, Bool.not_false, decide_not, Bool.not_eq_true', decide_eq_false_iff_not, scal_ii, scal_bb, scal_ss, scal_is, scal_si, reduceCtorEq, Bool.true_eq_false, decide_false, decide_true, if_pos, ne_eq, Int.reduceNeg, atI_0, atI_1, atI_2, atI_3, atI_4, atI_5, atI_6, ixN_7, b_ins, a_revL, b_isT, V.ty.injEq, Bool.true_or, Bool.or_true, Bool.false_or, Bool.or_false, Bool.or_self, b_sorted, b_repT, a_err, a_callS, a_xp, a_isP, a_lcE, a_forE, a_isV, a_lcH, a_ch, a_forES, a_lcG, *]))
local macro_rules | `(tactic| walk_at "wn") => `(tactic| (try simp only [a_var, a_c, a_op, a_un, a_test, a_b, a_and, a_or, a_not, a_andV, a_orV, a_notV, a_if, a_next, a_break, a_cont, a_drop, a_ret, a_retN, a_ifS, a_asg, a_name, a_sub, a_nil, a_cons, a_tup, a_lst, a_call, a_cb, a_bm0, a_bm, a_sl, a_nopart, a_part, a_aug, b_rI, b_rI0, b_rU, b_eq, b_ne, b_isTF, b_int, b_intb, b_list, b_tuple, b_ix, b_len, b_setL, b_app, b_pop, b_popAt, b_sl, b_rep, b_cat, b_lstRg, b_tupRg, b_rg1, b_rg2, a_forR, a_forR2, a_forS, b_fsq, a_lcR, a_lcR2, a_lcS, b_csq, wipe_nil, wipe_cons, a_yes, wh_i, wh_s, wh_b, wh_r, wh_n, Bool.not_eq_true, eq_self, not_true_eq_false, not_false_eq_true, b_isi, kb_all, ty_non, ty_bl, ty_int, ty_str, a_m1, b_ixS, b_slS, List.cons.injEq, and_assoc, exists_and_left, cxK, List.getElem?_cons_zero, List.getElem?_cons_succ, List.set_cons_zero, List.set_cons_succ, Option.some.injEq, exists_eq_left', exists_eq_left, V.bl.injEq, V.int.injEq, V.ref.injEq, V.str.injEq, HO.lst.injEq, HO.tup.injEq, decide_eq_true_eq, true_and, and_true, L2.start, List.map_cons, List.map_nil, List.length_cons, List.length_nil, Nat.zero_add, Nat.reduceAdd, Nat.reduceSub, List.replicate_succ, List.replicate_zero, List.cons_append, List.nil_append, if_true, if_false, Bool.false_eq_true, Bool.not_true, Bool.not_false, decide_not, Bool.not_eq_true', decide_eq_false_iff_not, scal_ii, scal_bb, scal_ss, scal_is, scal_si, reduceCtorEq, Bool.true_eq_false, decide_false, decide_true, if_pos, ne_eq, Int.reduceNeg, atI_0, atI_1, atI_2, atI_3, atI_4, atI_5, atI_6, ixN_7, b_ins, a_revL, b_isT, V.ty.injEq, Bool.true_or, Bool.or_true, Bool.false_or, Bool.or_false, Bool.or_self, b_sorted, b_repT, a_err, a_callS, a_xp, a_isP, a_lcE, a_forE, a_isV, a_lcH, a_ch, a_forES, a_lcG]))
local macro_rules | `(tactic| walk_at "sq") => `(tactic| ((try dsimp only); rw [a_seq]; walk_at "wq"))
local macro_rules | `(tactic| walk_at "sn") => `(tactic| ((try dsimp only); rw [a_seq]; walk_at "wn"))

section
variable {P : Program} {w : World} {K : PySem.W.Frag} {mg : Str → Option Value} {base : Heap} {C : Addr}
theorem a_dnewQ {σ : L2.St} {H : Hp} {Q : VK} : tDNewK σ H Q = Nw H (.dK []) fun p H' => Q (.ref p) H' := by rw [← nw_eq]; rfl
def sp_fitsN : Sp := fun vs H Q _ => ∃ (v : V) (E : List Addr) (d : PyData) (n nn : Nat), vs = [v, .int (nn : Nat)] ∧ Dw E H v d n ∧ ∀ H', Same H H' → Q (.bl (mvOn nn d)) H'
abbrev st_law_move_fits : Stmt := topS 44
theorem sc_law_move_fits : FnScope ["value", "points", "seen", "entry"] ["value", "points"] (defScope st_law_move_fits) := ⟨rfl, rfl, rfl, by decide +kernel, rfl, by decide +kernel, by decide +kernel⟩
theorem ok_law_move_fits (D : Df K mg "_law_move_fits" st_law_move_fits) (T : NoB mg) (C_law_is_whole : Cl P w K mg base 1 "_law_is_whole" ["value"] sp_isw) : Cl P w K mg base 2 "_law_move_fits" ["value", "points"] sp_fitsN := by
  refine cl_of D sc_law_move_fits (fun _ _ _ _ _ _ us hl => match us, hl with | [_, _], _ => rfl) (fun vs H Q E h => ?_) (fun f cdv A outer sh H vs Q E hr h => ?_)
  · obtain ⟨_, _, _, _, _, rfl, _⟩ := h; rfl
  obtain ⟨v, E, d, n, nn, rfl, hv, k⟩ := h
  refine ⟨_, (pss_cons (ps_if (PW.pt (pw_or (pt_not (pt_val (pe_callB isi1 (by rfl) T.no_isinstance (by decide +kernel) (pa_cons (pv 0) (pa_cons (pe_bltn (by rfl) T.no_tuple (by decide +kernel) (show RelV (.ty "tuple") _ from rfl)) pa_nil))))) (pw_or1 (pt_cmpR op_gt (pe_callB len1 (by rfl) T.no_len (by decide +kernel) (pa_cons (pv 0) pa_nil)) pe_int (nomark _))))) (pss_one (ps_ret pe_bl)) pss_nil)
    (pss_cons (ps_if (PW.pt (pw_and (pt_cmpR op_ge (pv 1) pe_int (nomark _)) (pw_and1 (pt_cmpR op_ne (pe_callB len1 (by rfl) T.no_len (by decide +kernel) (pa_cons (pv 0) pa_nil)) (pv 1) (nomark _))))) (pss_one (ps_ret pe_bl)) pss_nil)
    (pss_cons (ps_set (i := 2) sc_law_move_fits.nd rfl (Or.inl rfl) pe_dnewK)
    (pss_cons (ps_for PassesOwn.never rfl (pi_sq (pv 0)) (pg_name (i := 3) sc_law_move_fits.nd rfl (Or.inl rfl)) (pss_cons (ps_if (PW.pt (pw_or (pt_not (pt_val (pe_cl C_law_is_whole hr (by rfl) (pa_cons (pv 3) pa_nil)))) (pw_or (pt_cmpR op_lt (pv 3) pe_int (nomark _)) (pw_or (pt_cmpR op_ge (pv 3) (pe_callB len1 (by rfl) T.no_len (by decide +kernel) (pa_cons (pv 0) pa_nil)) (nomark _)) (pw_or1 (pt_cmp (pc_din (hu_of hr) (pv 3) (pv 2)) rfl)))))) (pss_one (ps_ret pe_bl)) pss_nil)
    (pss_one (ps_asg pe_bl (pg_sub (pv 2) (pv 3) (set_dict (hu_of hr)))))))
    (pss_one (ps_ret pe_bl)))))), ?_⟩
  cases hv with
  | lf l =>
    have fin : Q (.bl false) H := by have := k H (Same.refl _); rw [mvOn_f (not_move_leaf l)] at this; exact this
    cases l <;> (rw [a_seq]; walk_at "wps")
  | lst ne h a =>
    have ht := ty_l h
    have fin : Q (.bl false) H := by have := k H (Same.refl _); rw [mvOn_f not_move_list] at this; exact this
    rw [a_seq]
    walk_at "wps"
  | @tup a xs ds m ne h da =>
    have ht := ty_t h
    have qa := sq_t h
    have hl := da.len.1
    walk_at "sq"
    split
    · rename_i hlt
      have := k H (Same.refl _)
      rw [mvOn_f (isMove_f fun ⟨ns, e, h1, _⟩ => by have h5 := congrArg List.length (PyData.tuple.inj e); rw [List.length_map] at h5; omega)] at this
      exact this
    rename_i hlt
    have hlt2 : xs.length ≤ 12 := by omega
    walk_at "sn"
    rw [if_pos (by omega)]
    refine ⟨_, qa, ?_⟩
    have dl : dLen (.tuple ds) = ds.length := rfl
    split
    · rename_i hne
      have := k H (Same.refl _)
      rw [show mvOn nn (.tuple ds) = false by
        unfold mvOn
        rw [dl, show (ds.length == nn) = false by simp; omega, Bool.and_false]] at this
      exact this
    rename_i hnn
    have k : ∀ H', Same H H' → Q (.bl (isMoveD (.tuple ds))) H' := fun H' s => by
      have := k H' s
      rw [show mvOn nn (.tuple ds) = isMoveD (.tuple ds) by
        unfold mvOn
        rw [dl, show (ds.length == nn) = true by simp; omega, Bool.and_true]] at this
      exact this
    walk_at "sn"
    simp only [a_dnewQ]
    intro S H1 n1
    walk_at "sn"
    have q1 := sq_t (n1.k h)
    refine fs_by q1 (fun i σ H' => ∃ (v3 : Option V) (ms : List Int) (kvs : List (Key × V)), σ = [some (V.ref a), some (V.int (nn : Nat)), some (V.ref S), v3] ∧ Same H H' ∧ xs.take i = ms.map V.int ∧ ms.Nodup ∧ (∀ z ∈ ms, 0 ≤ z ∧ z < xs.length) ∧ H' S = some (.dK kvs) ∧ kvs.length ≤ i ∧ ∀ z : Int, (valV kvs (.inl z)).isSome = decide (z ∈ ms))
      ⟨_, [], [], rfl, n1.same, by simp, List.nodup_nil, by simp, n1.at_, by simp, fun z => by simp [valV]⟩ (fun i σ H' p o ho => by
        obtain ⟨_, _, _, _, s, _⟩ := p
        rw [n1.k h] at ho
        cases ho
        exact s _ _ h) ?_ ?_
    · rintro i x _ H2 N hN hx ⟨v3, ms, kvs, rfl, s2, hms, nd, hrange, eS, hkl, hkv⟩
      walk_at "wn"
      obtain ⟨ed, c, h1, h2, h3⟩ := da.get hx
      have bad : ¬ IsMoveP (.tuple ds) → Q (.bl false) H2 := fun z => by
        have := k H2 s2
        rw [isMove_f z] at this
        exact this
      rw [a_seq]
      walk_at "wn"
      refine ⟨x, ed, c, E, rfl, h2.same s2, ?_⟩
      walk_at "wn"
      split
      · rename_i hw
        exact bad fun ⟨ns, e1, _⟩ => by
          cases e1
          rw [dw_ints' da] at hx
          obtain ⟨z, _, rfl⟩ := map_at hx
          cases hw
      rename_i hw
      obtain ⟨z, rfl⟩ := isWh_int (v := x) (by simpa using hw)
      have inr : IsMoveP (.tuple ds) → (0 ≤ z ∧ z < xs.length) ∧ z ∉ ms := fun ⟨ns, e1, e2, e3⟩ => by
        cases e1
        have e4 := dw_ints' da
        rw [e4] at hx hms
        obtain ⟨z', hz', e5⟩ := map_at hx
        cases e5
        have := mem_rng.mp (e3.mem_iff.mp (List.mem_of_getElem? hz'))
        refine ⟨by rw [e4, List.length_map]; exact this, fun hm => ?_⟩
        have e6 : ns.take i = ms := by
          rw [← List.map_take] at hms
          exact map_int_inj hms
        rw [← e6] at hm
        have ndn : ns.Nodup := e3.nodup_iff.mpr (rng_nodup _)
        obtain ⟨j, hj⟩ := List.mem_iff_getElem?.mp hm
        have hji : j < i := by
          have := (List.getElem?_eq_some_iff.mp hj).1
          rw [List.length_take] at this
          omega
        rw [List.getElem?_take_of_lt hji] at hj
        have := (List.getElem?_inj ((List.getElem?_eq_some_iff.mp hj).1) ndn).mp (hj.trans hz'.symm)
        omega
      walk_at "wn"
      split
      · rename_i hlo
        exact bad fun z2 => by have := inr z2; omega
      rename_i hlo
      refine ⟨_, sq_t (s2 _ _ h), ?_⟩
      split
      · rename_i hhi
        exact bad fun z2 => by have := inr z2; omega
      rename_i hhi
      rw [a_din]
      walk_at "wn"
      refine ⟨valV kvs (.inl z), DGet.k (k := .inl z) eS, ?_⟩
      rw [hkv z]
      by_cases hm : z ∈ ms
      · rw [if_pos (by simpa using hm)]
        exact bad fun z2 => (inr z2).2 hm
      · rw [if_neg (by simpa using hm)]
        rw [b_setD]
        have hput := DPut.k (k := .inl z) (v := .bl true) eS (by rw [sizeLine_eq]; have := (List.getElem?_eq_some_iff.mp hx).1; omega)
        refine ⟨S, _, rfl, hput, ?_⟩
        refine hN _ _ ⟨_, ms ++ [z], _, rfl, fun b o hb => ?_, ?_, ?_, ?_, upd_same, ?_, fun y => ?_⟩
        · rw [upd_ne (ne_of_none hb n1.fr)]
          exact s2 b o hb
        · rw [List.take_add_one, hx, hms, List.map_append]
          rfl
        · rw [List.nodup_append]
          exact ⟨nd, by simp, fun y hy w hw => by rw [List.mem_singleton.mp hw]; intro e; exact hm (e ▸ hy)⟩
        · intro y hy
          rcases List.mem_append.mp hy with h | h
          · exact hrange y h
          · rw [List.mem_singleton.mp h]
            omega
        · rw [putK_new _ (by
            have := hkv z
            rw [decide_eq_false hm] at this
            cases e : valV kvs (.inl z) with
            | none => rfl
            | some u => rw [e] at this; cases this)]
          simp
          omega
        · rw [valV_put]
          by_cases hy : y = z
          · subst hy
            simp
          · rw [if_neg (fun e => hy (Sum.inl.inj e)), hkv y]
            simp [hy]
    · rintro _ H2 ⟨v3, ms, kvs, rfl, s2, hms, nd, hrange, eS, hkl, hkv⟩
      walk_at "wn"
      rw [List.take_length] at hms
      subst hms
      have ed := dw_ints da
      subst ed
      have := k H2 s2
      rw [isMove_t ⟨ms, rfl, by rw [List.length_map] at hlt2; exact hlt2, (sub_perm nd (fun z hz => mem_rng.mpr (by simpa using hrange z hz)) (by rw [rng_len]; exact Nat.le_refl _)).symm⟩] at this
      exact this
end

/-! ## K10A -/
local macro_rules | `(tactic| walk_at "wp") => `(tactic| (try simp only [a_var, a_c, a_op, a_un, a_test, a_b, a_and, a_or, a_not, a_andV, a_orV, a_notV, a_if, a_next, a_seq, a_break, a_cont, a_drop, a_ret, a_retN, a_ifS, a_asg, a_name, a_sub, a_nil, a_cons, a_tup, a_lst, a_call, a_cb, a_bm0, a_bm, a_sl, a_nopart, a_part, a_aug, b_rI, b_rI0, b_rU, b_eq, b_ne, b_isTF, b_int, b_intb, b_list, b_tuple, b_ix, b_len, b_setL, b_app, b_pop, b_popAt, b_sl, b_rep, b_cat, b_lstRg, b_tupRg, b_rg1, b_rg2, a_forR, a_forR2, a_forS, b_fsq, a_lcR, a_lcR2, a_lcS, b_csq, wipe_nil, wipe_cons, a_yes, wh_i, wh_s, wh_b, wh_r, wh_n, Bool.not_eq_true, eq_self, not_true_eq_false, not_false_eq_true, b_isi, kb_all, ty_non, ty_bl, ty_int, ty_str, a_m1, b_ixS, b_slS, List.cons.injEq, and_assoc, exists_and_left, cxK, List.getElem?_cons_zero, List.getElem?_cons_succ, List.set_cons_zero, List.set_cons_succ, Option.some.injEq, exists_eq_left', exists_eq_left, V.bl.injEq, V.int.injEq, V.ref.injEq, V.str.injEq, HO.lst.injEq, HO.tup.injEq, decide_eq_true_eq, true_and, and_true, L2.start, List.map_cons, List.map_nil, List.length_cons, List.length_nil, Nat.zero_add, Nat.reduceAdd, Nat.reduceSub, List.replicate_succ, List.replicate_zero, List.cons_append, List.nil_append, if_true, if_false, Bool.false_eq_true, Bool.not_true, Bool.not_false, decide_not, Bool.not_eq_true', decide_eq_false_iff_not, scal_ii, scal_bb, scal_ss, scal_is, scal_si, reduceCtorEq, Bool.true_eq_false, decide_false, decide_true, if_pos, ne_eq, Int.reduceNeg, atI_0, atI_1, atI_2, atI_3, atI_4, atI_5, atI_6, ixN_7, b_ins, a_revL, b_isT, V.ty.injEq, Bool.true_or, Bool.or_true, Bool.false_or, Bool.or_false, Bool.or_self, b_sorted, b_repT, a_err, a_callS, a_xp, a_isP, a_lcE, a_forE, a_isV, a_lcH, a_ch, a_forES, a_lcG, a_dnotin, a_din, b_setD, a_disp1, a_lcI, b_tupA, a_fld, a_sfld, a_prop, b_lenW, b_eqW, b_isW, b_notTF, a_lcW, b_inW, a_forW, b_eqV]))
local macro_rules | `(tactic| walk_at "wps") => `(tactic| (try simp only [a_var, a_c, a_op, a_un, a_test, a_b, a_and, a_or, a_not, a_andV, a_orV, a_notV, a_if, a_next, a_seq, a_break, a_cont, a_drop, a_ret, a_retN, a_ifS, a_asg, a_name, a_sub, a_nil, a_cons, a_tup, a_lst, a_call, a_cb, a_bm0, a_bm, a_sl, a_nopart, a_part, a_aug, b_rI, b_rI0, b_rU, b_eq, b_ne, b_isTF, b_int, b_intb, b_list, b_tuple, b_ix, b_len, b_setL, b_app, b_pop, b_popAt, b_sl, b_rep, b_cat, b_lstRg, b_tupRg, b_rg1, b_rg2, a_forR, a_forR2, a_forS, b_fsq, a_lcR, a_lcR2, a_lcS, b_csq, wipe_nil, wipe_cons, a_yes, wh_i, wh_s, wh_b, wh_r, wh_n, Bool.not_eq_true, eq_self, not_true_eq_false, not_false_eq_true, b_isi, kb_all, ty_non, ty_bl, ty_int, ty_str, a_m1, b_ixS, b_slS, List.cons.injEq, and_assoc, exists_and_left, cxK, List.getElem?_cons_zero, List.getElem?_cons_succ, List.set_cons_zero, List.set_cons_succ, Option.some.injEq, exists_eq_left', exists_eq_left, V.bl.injEq, V.int.injEq, V.ref.injEq, V.str.injEq, HO.lst.injEq, HO.tup.injEq, decide_eq_true_eq, true_and, and_true, L2.start, List.map_cons, List.map_nil, List.length_cons, List.length_nil, Nat.zero_add, Nat.reduceAdd, Nat.reduceSub, List.replicate_succ, List.replicate_zero, List.cons_append, List.nil_append, if_true, if_false, Bool.false_eq_true, Bool.not_true, Bool.not_false, decide_not, Bool.not_eq_true', decide_eq_false_iff_not, scal_ii, scal_bb, scal_ss, scal_is, scal_si, reduceCtorEq, Bool.true_eq_false, decide_false, decide_true, if_pos, ne_eq, Int.reduceNeg, atI_0, atI_1, atI_2, atI_3, atI_4, atI_5, atI_6, ixN_7, b_ins, a_revL, b_isT, V.ty.injEq, Bool.true_or, Bool.or_true, Bool.false_or, Bool.or_false, Bool.or_self, b_sorted, b_repT, a_err, a_callS, a_xp, a_isP, a_lcE, a_forE, a_isV, a_lcH, a_ch, a_forES, a_lcG, a_dnotin, a_din, b_setD, a_disp1, a_lcI, b_tupA, a_fld, a_sfld, a_prop, b_lenW, b_eqW, b_isW, b_notTF, a_lcW, b_inW, a_forW, b_eqV, *]))
local macro_rules | `(tactic| walk_at "wq") => `(tactic| (try simp only [a_var, a_c, a_op, a_un, a_test, a_b, a_and, a_or, a_not, a_andV, a_orV, a_notV, a_if, a_next, a_break, a_cont, a_drop, a_ret, a_retN, a_ifS, a_asg, a_name, a_sub, a_nil, a_cons, a_tup, a_lst, a_call, a_cb, a_bm0, a_bm, a_sl, a_nopart, a_part, a_aug, b_rI, b_rI0, b_rU, b_eq, b_ne, b_isTF, b_int, b_intb, b_list, b_tuple, b_ix, b_len, b_setL, b_app, b_pop, b_popAt, b_sl, b_rep, b_cat, b_lstRg, b_tupRg, b_rg1, b_rg2, a_forR, a_forR2, a_forS, b_fsq, a_lcR, a_lcR2, a_lcS, b_csq, wipe_nil, wipe_cons, a_yes, wh_i, wh_s, wh_b, wh_r, wh_n, Bool.not_eq_true, eq_self, not_true_eq_false, not_false_eq_true, b_isi, kb_all, ty_non, ty_bl, ty_int, ty_str, a_m1, b_ixS, b_slS, List.cons.injEq, and_assoc, exists_and_left, cxK, List.getElem?_cons_zero, List.getElem?_cons_succ, List.set_cons_zero, List.set_cons_succ, Option.some.injEq, exists_eq_left', exists_eq_left, V.bl.injEq, V.int.injEq, V.ref.injEq, V.str.injEq, HO.lst.injEq, HO.tup.injEq, decide_eq_true_eq, true_and, and_true, L2.start, List.map_cons, List.map_nil, List.length_cons, List.length_nil, Nat.zero_add, Nat.reduceAdd, Nat.reduceSub, List.replicate_succ, List.replicate_zero, List.cons_append, List.nil_append, if_true, if_false, Bool.false_eq_true, Bool.not_true, Bool.not_false, decide_not, Bool.not_eq_true', decide_eq_false_iff_not, scal_ii, scal_bb, scal_ss, scal_is, scal_si, reduceCtorEq, Bool.true_eq_false, decide_false, decide_true, if_pos, ne_eq, Int.reduceNeg, atI_0, atI_1, atI_2, atI_3, atI_4, atI_5, atI_6, ixN_7, b_ins, a_revL, b_isT, V.ty.injEq, Bool.true_or, Bool.or_true, Bool.false_or, Bool.or_false, Bool.or_self, b_sorted, b_repT, a_err, a_callS, a_xp, a_isP, a_lcE, a_forE, a_isV, a_lcH, a_ch, a_forES, a_lcG, a_dnotin, a_din, b_setD, a_disp1, a_lcI, b_tupA, a_fld, a_sfld, a_prop, b_lenW, b_eqW, b_isW, b_notTF, a_lcW, b_inW, a_forW, b_eqV, *]))
local macro_rules | `(tactic| walk_at "wn") => `(tactic| (try simp only [a_var, a_c, a_op, a_un, a_test, a_b, a_and, a_or, a_not, a_andV, a_orV, a_notV, a_if, a_next, a_break, a_cont, a_drop, a_ret, a_retN, a_ifS, a_asg, a_name, a_sub, a_nil, a_cons, a_tup, a_lst, a_call, a_cb, a_bm0, a_bm, a_sl, a_nopart, a_part, a_aug, b_rI, b_rI0, b_rU, b_eq, b_ne, b_isTF, b_int, b_intb, b_list, b_tuple, b_ix, b_len, b_setL, b_app, b_pop, b_popAt, b_sl, b_rep, b_cat, b_lstRg, b_tupRg, b_rg1, b_rg2, a_forR, a_forR2, a_forS, b_fsq, a_lcR, a_lcR2, a_lcS, b_csq, wipe_nil, wipe_cons, a_yes, wh_i, wh_s, wh_b, wh_r, wh_n, Bool.not_eq_true, eq_self, not_true_eq_false, not_false_eq_true, b_isi, kb_all, ty_non, ty_bl, ty_int, ty_str, a_m1, b_ixS, b_slS, List.cons.injEq, and_assoc, exists_and_left, cxK, List.getElem?_cons_zero, List.getElem?_cons_succ, List.set_cons_zero, List.set_cons_succ, Option.some.injEq, exists_eq_left', exists_eq_left, V.bl.injEq, V.int.injEq, V.ref.injEq, V.str.injEq, HO.lst.injEq, HO.tup.injEq, decide_eq_true_eq, true_and, and_true, L2.start, List.map_cons, List.map_nil, List.length_cons, List.length_nil, Nat.zero_add, Nat.reduceAdd, Nat.reduceSub, List.replicate_succ, List.replicate_zero, List.cons_append, List.nil_append, if_true, if_false, Bool.false_eq_true, Bool.not_true, Bool.not_false, decide_not, Bool.not_eq_true', decide_eq_false_iff_not, scal_ii, scal_bb, scal_ss, scal_is, scal_si, reduceCtorEq, Bool.true_eq_false, decide_false, decide_true, if_pos, ne_eq, Int.reduceNeg, atI_0, atI_1, atI_2, atI_3, atI_4, atI_5, atI_6, ixN_7, b_ins, a_revL, b_isT, V.ty.injEq, Bool.true_or, Bool.or_true, Bool.false_or, Bool.or_false, Bool.or_self, b_sorted, b_repT, a_err, a_callS, a_xp, a_isP, a_lcE, a_forE, a_isV, a_lcH, a_ch, a_forES, a_lcG, a_dnotin, a_din, b_setD, a_disp1, a_lcI, b_tupA, a_fld, a_sfld, a_prop, b_lenW, b_eqW, b_isW, b_notTF, a_lcW, b_inW, a_forW, b_eqV]))
local macro_rules | `(tactic| walk_at "sq") => `(tactic| ((try dsimp only); rw [a_seq]; walk_at "wq"))
local macro_rules | `(tactic| walk_at "sn") => `(tactic| ((try dsimp only); rw [a_seq]; walk_at "wn"))

theorem cutV_le10 (xs : List V) (a b : Option Int) : (cutV xs a b).length ≤ xs.length := by
  unfold cutV
  rw [List.length_take, List.length_drop]
  omega
theorem cutV_in10 {xs : List V} {a b : Option Int} {y : V} (h : y ∈ cutV xs a b) : y ∈ xs := by
  unfold cutV at h
  exact List.mem_of_mem_drop (List.mem_of_mem_take h)
theorem filt_eq {M : List (List Int)} (nd : M.Nodup) {ns : List Int} : (M.filter fun m => decide (m = ns)).length = if ns ∈ M then 1 else 0 := by
  induction M with
  | nil => rfl
  | cons x M ih =>
    rw [List.nodup_cons] at nd
    rw [List.filter_cons]
    by_cases e : x = ns
    · subst e
      rw [if_pos (decide_eq_true rfl), if_pos List.mem_cons_self, List.length_cons, ih nd.2, if_neg nd.1]
    · rw [if_neg (by simpa using e), ih nd.2]
      by_cases c : ns ∈ M
      · rw [if_pos c, if_pos (List.mem_cons_of_mem _ c)]
      · rw [if_neg c, if_neg (fun z => (List.mem_cons.mp z).elim (fun z => e z.symm) c)]
theorem tri (n : Nat) : 2 * ((List.range n).map fun i => i + 1).sum = n * (n + 1) := by
  induction n with
  | zero => rfl
  | succ n ih =>
    rw [List.range_succ, List.map_append, List.sum_append, Nat.mul_add, ih]
    simp
    rw [Nat.mul_add (n + 1), Nat.add_mul n 1, Nat.mul_comm (n + 1)]
    omega
theorem tri_le (n : Nat) : ((List.range n).map fun i => i + 1).sum ≤ n * (n + 1) := by
  have := tri n
  omega
/-- how many of the first j stand not behind the i-th -/
def leN (i j : Nat) : Nat := min (i + 1) j
theorem tls_dw10 {H : Hp} {ws : List Addr} {L : List (List Int)} (h : TLs H ws L) : (∀ m ∈ L, m.length ≤ 12) → ∃ k, DwAll [] H (ws.map V.ref) (L.map encT) k ∧ k ≤ 13 * L.length := by
  induction h with
  | nil => intro _; exact ⟨_, .nil, by simp⟩
  | @cons a ns ws L e t ih =>
    intro on
    obtain ⟨k, h1, h2⟩ := ih fun m hm => on m (List.mem_cons_of_mem _ hm)
    have := on ns List.mem_cons_self
    exact ⟨_, .cons (.tup (by simp) e (DwAll.ints ns)) h1, by rw [List.length_cons]; omega⟩
theorem same_tls10 {a b : Addr} {us ws : List Addr} {L : List (List Int)} {H : Hp} {Q : VK} {E : XK} (on : ∀ m ∈ L, m.length ≤ 12) (hl : L.length ≤ 1000) (ha : H a = some (.lst (us.map V.ref))) (ta : TLs H us L) (hb : H b = some (.lst (ws.map V.ref))) (tb : TLs H ws L) (k : ∀ H', Same H H' → Q (.bl true) H') : sp_same [.ref a, .ref b] H Q E := by
  obtain ⟨n1, h1, l1⟩ := tls_dw10 ta on
  obtain ⟨n2, h2, l2⟩ := tls_dw10 tb on
  exact ⟨_, _, _, _, _, rfl, .lst (by simp) ha h1, .lst (by simp) hb h2, by omega, k⟩
section
variable {P : Program} {w : World} {K : PySem.W.Frag} {mg : Str → Option Value} {base : Heap}
def sp_walks (K : PySem.W.Frag) : Sp := fun vs H Q _ => ∃ (x q u : Addr) (n : Nat) (T M : List (List Int)) (us : List Addr), vs = [.ref x, .ref u] ∧ Wd K H x q n T M ∧ H u = some (.lst (us.map V.ref)) ∧ TLs H us M ∧ ∀ H', Same H H' → Q (.bl true) H'
abbrev st_law_walks : Stmt := topS 49
theorem sc_law_walks : FnScope ["world", "made", "rows", "move", "many", "turns", "other"] ["world", "made"] (defScope st_law_walks) := ⟨rfl, rfl, rfl, by decide +kernel, rfl, by decide +kernel, by decide +kernel⟩
theorem ok_law_walks (D : Df K mg "_law_walks" st_law_walks) (T : NoB mg) (CWorld___iter__ : MtI P w K mg base 1 "__iter__" ["self"] (sp_witer K)) (CWorld___len__ : MtC P w K mg base 1 "__len__" ["self"] (sp_wlen K)) (C_law_same : Cl P w K mg base 2 "_law_same" ["actual", "due"] sp_same) : Cl P w K mg base 5 "_law_walks" ["world", "made"] (sp_walks K) := by
  refine cl_of D sc_law_walks (fun _ _ _ _ _ _ us hl => match us, hl with | [_, _], _ => rfl) (fun vs H Q E h => ?_) (fun f cdv A outer sh H vs Q E hr h => ?_)
  · obtain ⟨_, _, _, _, _, _, _, rfl, _⟩ := h; rfl
  obtain ⟨x, q, u, n, T0, M, us, rfl, h, hu, tu, k⟩ := h
  refine ⟨_, (pss_cons (ps_set (i := 2) sc_law_walks.nd rfl (Or.inl rfl) (pe_lst pa_nil))
    (pss_cons (ps_for PassesOwn.never rfl (pi_w CWorld___iter__ hr (pv 0)) (pg_name (i := 3) sc_law_walks.nd rfl (Or.inl rfl)) (pss_cons (ps_expr (pe_bm PySem.F.plainAttrs_list PySem.F.slot_list_append PySem.F.type_list_append mt_append (pv 2) (pa_cons (pv 3) pa_nil)))
    (pss_one (ps_if (pt_cmpR op_gt (pe_callB len1 (by rfl) T.no_len (by decide +kernel) (pa_cons (pv 2) pa_nil)) (pe_callB len1 (by rfl) T.no_len (by decide +kernel) (pa_cons (pv 1) pa_nil)) (nomark _)) (pss_one (ps_ret pe_bl)) pss_nil))))
    (pss_cons (ps_if (PW.pt (pw_or (pt_not (pt_val (pe_cl C_law_same hr (by rfl) (pa_cons (pv 2) (pa_cons (pv 1) pa_nil))))) (pw_or1 (pt_not (pt_val (pe_cl C_law_same hr (by rfl) (pa_cons (pe_callB (len_W CWorld___len__ hr) (by rfl) T.no_len (by decide +kernel) (pa_cons (pv 0) pa_nil)) (pa_cons (pe_callB len1 (by rfl) T.no_len (by decide +kernel) (pa_cons (pv 1) pa_nil)) pa_nil)))))))) (pss_one (ps_ret pe_bl)) pss_nil)
    (pss_cons (ps_if (pt_cmpR op_gt (pe_callB len1 (by rfl) T.no_len (by decide +kernel) (pa_cons (pv 1) pa_nil)) pe_int (nomark _)) (pss_one (ps_ret pe_bl)) pss_nil)
    (pss_cons (ps_set (i := 4) sc_law_walks.nd rfl (Or.inl rfl) pe_int)
    (pss_cons (ps_set (i := 5) sc_law_walks.nd rfl (Or.inl rfl) pe_int)
    (pss_cons (ps_for PassesOwn.never rfl (pi_w CWorld___iter__ hr (pv 0)) (pg_name (i := 3) sc_law_walks.nd rfl (Or.inl rfl)) (pss_one (ps_for PassesOwn.never rfl (pi_w CWorld___iter__ hr (pv 0)) (pg_name (i := 6) sc_law_walks.nd rfl (Or.inl rfl)) (pss_cons (ps_set (i := 4) sc_law_walks.nd rfl (Or.inl rfl) (pe_op op_add (pv 4) (pe_callTy int1 (by rfl) T.no_int (by decide +kernel) (pa_cons (pe_cmpR (op_leT hr.units0) (pv 6) (pv 3) (nomark _)) pa_nil))))
    (pss_cons (ps_set (i := 5) sc_law_walks.nd rfl (Or.inl rfl) (pe_op op_add (pv 5) pe_int))
    (pss_one (ps_if (pt_cmpR op_gt (pv 5) (pe_op op_mul (pe_callB len1 (by rfl) T.no_len (by decide +kernel) (pa_cons (pv 1) pa_nil)) (pe_callB len1 (by rfl) T.no_len (by decide +kernel) (pa_cons (pv 1) pa_nil))) (nomark _)) (pss_one (ps_ret pe_bl)) pss_nil)))))))
    (pss_one (ps_ret (pe_cmpR op_eq (pe_op op_mul pe_int (pv 4)) (pe_op op_mul (pe_callB len1 (by rfl) T.no_len (by decide +kernel) (pa_cons (pv 1) pa_nil)) (pe_op op_add (pe_callB len1 (by rfl) T.no_len (by decide +kernel) (pa_cons (pv 1) pa_nil)) pe_int)) (nomark _))))))))))), ?_⟩
  have hM := h.m400
  have onM : ∀ m ∈ M, m.length ≤ 12 := fun m hm => by rw [lenP (h.onM m hm)]; exact h.n12
  obtain ⟨ws, hq, tq⟩ := h.lst
  walk_at "sn"
  refine ⟨szl (by decide), fun r H1 n1 => ?_⟩
  have h1 := h.same n1.same
  walk_at "sn"
  refine fw_by h1 (n1.k hq) (fun i σ H' => Same H H' ∧ ∃ v3 v4 v5 v6, σ = [some (.ref x), some (.ref u), some (.ref r), v3, v4, v5, v6] ∧ H' r = some (.lst ((ws.take i).map V.ref))) ⟨n1.same, _, _, _, _, rfl, n1.at_⟩ (fun i σ' H' ⟨s, _⟩ o ho => by rw [n1.k hq] at ho; rw [← ho]; exact s _ _ hq) ?_ ?_
  · rintro i y _ H2 N hN hy ⟨s2, v3, v4, v5, v6, rfl, er⟩
    obtain ⟨a, ns, rfl, e1, e2, e3⟩ := tq.get hy
    have hi : i < ws.length := (List.getElem?_eq_some_iff.mp e1).1
    have rq : r ≠ q := n1.ne hq |>.symm
    walk_at "wn"
    rw [a_seq]
    walk_at "wn"
    refine ⟨tyl er, _, er, by rw [List.length_map, List.length_take, sizeLine_eq]; have := tq.len; omega, fun H3 p3 => ?_⟩
    have s3 : Same H H3 := p3.same s2 n1.fr
    refine ⟨_, sq_l p3.at_, _, sq_l (s3 _ _ hu), ?_⟩
    have hl := tu.len
    have hl2 := tq.len
    rw [if_neg (by simp only [List.length_append, List.length_map, List.length_take, List.length_cons, List.length_nil]; omega)]
    walk_at "wn"
    refine hN _ _ ⟨s3, _, _, _, _, rfl, ?_⟩
    rw [p3.at_, List.take_add_one, e1]
    simp
  · rintro _ H2 ⟨s2, v3, v4, v5, v6, rfl, er⟩
    rw [List.length_map, List.take_length] at er
    have h2 := h.same s2
    obtain ⟨dx, fs, hx⟩ := h2.at
    walk_at "sn"
    refine same_tls10 onM (by omega) er (tq.same s2) (s2 _ _ hu) (tu.same s2) fun H3 s3 => ⟨_, rfl, ?_⟩
    rw [if_neg (by decide)]
    have s03 := s2.trans s3
    have h3 := h2.same s3
    refine ⟨dx, fs, s3 _ _ hx, x, q, n, T0, M, rfl, h3, ?_⟩
    refine ⟨_, rfl, by omega, by omega, _, sq_l (s03 _ _ hu), ?_⟩
    rw [List.length_map, tu.len]
    refine ⟨_, _, _, _, _, rfl, .lf (.int _), .lf (.int _), by decide, fun H4 s4 => ⟨_, rfl, ?_⟩⟩
    rw [if_neg (by decide)]
    have s04 := s03.trans s4
    walk_at "sn"
    refine ⟨_, sq_l (s04 _ _ hu), ?_⟩
    rw [List.length_map, tu.len]
    split
    · exact k _ s04
    rename_i h24
    walk_at "sn"
    walk_at "sn"
    walk_at "sn"
    refine fw_by (h.same s04) (s04 _ _ hq) (fun i σ H' => Same H H' ∧ i ≤ M.length ∧ ∃ v3 v6, σ = [some (.ref x), some (.ref u), some (.ref r), v3, some (.int (((List.range i).map fun i => i + 1).sum : Nat)), some (.int (M.length * i : Nat)), v6]) ⟨s04, by omega, _, _, rfl⟩ (fun i σ' H' ⟨s, _⟩ o ho => by rw [s04 _ _ hq] at ho; rw [← ho]; exact s _ _ hq) ?_ ?_
    · rintro i y _ H5 N hN hy ⟨s5, hiM, v3, v6, rfl⟩
      obtain ⟨a, ns, rfl, e1, e2, e3⟩ := tq.get hy
      have hi : i < M.length := (List.getElem?_eq_some_iff.mp e2).1
      have ha5 := s5 _ _ e3
      walk_at "wn"
      refine fw_by (h.same s5) (s5 _ _ hq) (fun j σ H' => Same H H' ∧ ∃ v6, σ = [some (.ref x), some (.ref u), some (.ref r), some (.ref a), some (.int (((List.range i).map fun i => i + 1).sum + leN i j : Nat)), some (.int (M.length * i + j : Nat)), v6]) ⟨s5, _, rfl⟩ (fun i σ' H' ⟨s, _⟩ o ho => by rw [s5 _ _ hq] at ho; rw [← ho]; exact s _ _ hq) ?_ ?_
      · rintro j z _ H6 N2 hN2 hz ⟨s6, v6, rfl⟩
        obtain ⟨b, ms, rfl, f1, f2, f3⟩ := tq.get hz
        have hj : j < M.length := (List.getElem?_eq_some_iff.mp f2).1
        walk_at "wn"
        rw [a_seq]
        walk_at "wn"
        refine leT_by (s6 _ _ f3) (s6 _ _ e3) ?_
        rw [asc_le h.md.asc h.md.nd e2 f2]
        walk_at "wn"
        rw [a_seq]
        walk_at "wn"
        refine ⟨_, sq_l (s6 _ _ hu), _, sq_l (s6 _ _ hu), ?_⟩
        rw [List.length_map, tu.len]
        have hM2 : (i + 1) * M.length ≤ M.length * M.length := Nat.mul_le_mul_right _ (by omega)
        have hM3 : M.length * i + j + 1 ≤ M.length * M.length := by
          rw [Nat.add_mul, Nat.one_mul, Nat.mul_comm i] at hM2
          omega
        refine ⟨.inl ⟨by omega, by omega⟩, ?_⟩
        rw [if_neg (by push_cast; have : ((M.length * i + j + 1 : Nat) : Int) ≤ ((M.length * M.length : Nat) : Int) := Int.ofNat_le.mpr hM3; push_cast at this; omega)]
        refine hN2 _ _ ⟨s6, some (.ref b), ?_⟩
        have e9 : (((List.range i).map fun i => i + 1).sum + leN i (j + 1) : Nat) = (((((List.range i).map fun i => i + 1).sum + leN i j : Nat) : Int) + if j ≤ i then 1 else 0) := by
          unfold leN
          split <;> omega
        rw [e9]
        simp only [Nat.add_assoc, Int.natCast_add]
        rfl
      · rintro _ H6 ⟨s6, v6, rfl⟩
        have e7 : ((List.range (i + 1)).map fun i => i + 1).sum = ((List.range i).map fun i => i + 1).sum + leN i (ws.map V.ref).length := by
          rw [List.length_map, tq.len, List.range_succ, List.map_append, List.sum_append, show leN i M.length = i + 1 by unfold leN; omega]
          simp
        have e8 : M.length * (i + 1) = M.length * i + (ws.map V.ref).length := by rw [List.length_map, tq.len, Nat.mul_add, Nat.mul_one]
        exact hN _ _ ⟨s6, by omega, some (.ref a), v6, by rw [e7, e8]⟩
    · rintro _ H5 ⟨s5, hiM, v3, v6, rfl⟩
      walk_at "wn"
      rw [List.length_map, tq.len]
      have e1 := tri M.length
      have e2 := tri_le M.length
      have e3 : M.length * (M.length + 1) ≤ 400 * 401 := Nat.mul_le_mul hM (by omega)
      refine ⟨.inl ⟨by omega, by omega⟩, _, sq_l (s5 _ _ hu), _, sq_l (s5 _ _ hu), ?_⟩
      rw [List.length_map, tu.len]
      refine ⟨.inl ⟨by omega, by omega⟩, ?_⟩
      rw [decide_eq_true (by exact_mod_cast e1)]
      exact k _ s5
theorem eqD_ints10 {a b : Addr} {ns ms : List Int} {H : Hp} {Q : VK} (ha : H a = some (.tup (ns.map V.int))) (hb : H b = some (.tup (ms.map V.int))) (k : Q (.bl (decide (ns = ms))) H) : rEqD K (.ref a) (.ref b) H Q :=
  ⟨encT ns, encT ms, .tup (SqT.of ha) (dw_dpAll (DwAll.ints ns)), .tup (SqT.of hb) (dw_dpAll (DwAll.ints ms)), shaped_enc ns, shaped_enc ms, by rw [eqv_enc]; exact k⟩
section
variable {K : PySem.W.Frag} {g : TG} {tt : TT} {te : TE} {vs : List Nat} {σ : L2.St} {H : Hp} {Q : VK}
theorem cs_ival10 {a : Addr} {c : List Int} (f : Int → V) (hq : sq H a = some (c.map V.int)) (hl : c.length ≤ 100000)
    (hs : ∀ C z H1 (N : Hp → Prop), Same H H1 → z ∈ c → (∀ H2, Same H1 H2 → CSt C N (f z) H2) → g (.int z) (wipe σ vs) H1 fun σ2 H2 => wipe σ2 vs = wipe σ vs ∧ tt σ2 H2 fun bb H3 =>
      if bb = true then te σ2 H3 fun y H4 => CSt C N y H4 else N H3)
    (hd : ∀ C H1, Same H H1 → H C = none → H1 C = some (.lst (c.map f)) → Q (.ref C) H1) : CSq K a g tt te vs σ H Q := by
  refine cs_by hq (fun C i acc H' => Same H H' ∧ acc = (c.take i).map f) (fun C H0 n0 => ⟨n0.same, by rw [List.take_zero]; rfl⟩) (fun C i acc H' hC f o ho => f.1 _ _ ho) ?_ ?_
  · rintro C i y acc H2 N hC hy hacc ⟨s2, rfl⟩ hN
    obtain ⟨z, hz, rfl⟩ := int_at hy
    refine hs C z H2 N s2 (List.mem_of_getElem? hz) fun H3 s3 => ?_
    refine cst (s3 _ _ hacc) (by rw [List.length_map, List.length_take, sizeLine_eq]; omega) fun H5 p5 => hN _ _ p5.at_ ⟨p5.same (s2.trans s3) hC, ?_⟩
    rw [List.take_add_one, hz, List.map_append]
    rfl
  · rintro C acc H2 hC hacc ⟨s2, rfl⟩
    rw [List.length_map, List.take_length] at hacc
    exact hd C H2 s2 hC hacc
end
theorem op_eqDK {X : Cx} {K : PySem.W.Frag} (h : X.K = K) (hu : X.A.units + 64 < cLine) : OpR X (compareOp .Eq) (rEqD K) := h ▸ op_eqD hu
theorem dw_ints_eq10 {E : List Addr} {H : Hp} : ∀ {xs : List V} {ns : List Int} {n : Nat}, DwAll E H xs (ns.map .int) n → xs = ns.map V.int
  | [], [], _, .nil => rfl
  | x :: xs, z :: ns, _, .cons a b => by
    rw [dw_ints_eq10 b]
    cases a with
    | lf l => cases l; rfl
theorem dl_leaf {E : List Addr} {H : Hp} : ∀ {xs : List V}, (∀ x ∈ xs, (∃ i, x = .int i) ∨ ∃ b, x = .bl b) → ∃ ds, DwAll E H xs ds xs.length
  | [], _ => ⟨[], .nil⟩
  | x :: xs, h => by
    obtain ⟨ds, t⟩ := dl_leaf (E := E) (H := H) fun y hy => h y (List.mem_cons_of_mem x hy)
    rcases h x List.mem_cons_self with ⟨i, rfl⟩ | ⟨b, rfl⟩
    · exact ⟨_, by rw [List.length_cons, Nat.add_comm]; exact .cons (.lf (.int i)) t⟩
    · exact ⟨_, by rw [List.length_cons, Nat.add_comm]; exact .cons (.lf (.bl b)) t⟩
def sp_member : Sp := fun vs H Q _ => ∃ (s l : Addr) (n : Nat) (u : Addr) (us : List Addr) (M : List (List Int)) (E : List Addr), vs = [.ref s, .int n, .ref u] ∧ Sto s l H ∧ u ≠ s ∧ n ≤ 12 ∧ H u = some (.lst (us.map V.ref)) ∧ TLs H us M ∧ OnN n M ∧ M ≠ [] ∧ M.length ≤ 400 ∧ LvK E H ∧ s ∈ E ∧ ∀ v H', Ge s l H H' → Db E H' 100 v → Q v H'
abbrev st_law_member : Stmt := topS 50
theorem sc_law_member : FnScope ["store", "points", "made", "move", "pick", "twin", "k", "p"] ["store", "points", "made"] (defScope st_law_member) := ⟨rfl, rfl, rfl, by decide +kernel, rfl, by decide +kernel, by decide +kernel⟩
theorem ok_law_member (D : Df K mg "_law_member" st_law_member) (T : NoB mg) (C_law_move : Cl P w K mg base 4 "_law_move" ["store", "points"] sp_move) (C_law_pick : Cl P w K mg base 3 "_law_pick" ["store", "things"] sp_pick) (C_law_take : Cl P w K mg base 2 "_law_take" ["store", "many"] sp_take) : Cl P w K mg base 5 "_law_member" ["store", "points", "made"] sp_member := by
  refine cl_of D sc_law_member (fun _ _ _ _ _ _ us hl => match us, hl with | [_, _, _], _ => rfl) (fun vs H Q E h => ?_) (fun f cdv A outer sh H vs Q E hr h => ?_)
  · obtain ⟨_, _, _, _, _, _, _, rfl, _⟩ := h; rfl
  obtain ⟨s, l, n, u, us, M, EE, rfl, st, hus, hn, hu, tu, on, hM0, hM, lv, hsE, k⟩ := h
  refine ⟨_, (pss_cons (ps_set (i := 3) sc_law_member.nd rfl (Or.inl rfl) (pe_cl C_law_pick hr (by rfl) (pa_cons (pv 0) (pa_cons (pv 2) pa_nil))))
    (pss_cons (ps_set (i := 4) sc_law_member.nd rfl (Or.inl rfl) (pe_cl C_law_take hr (by rfl) (pa_cons (pv 0) (pa_cons pe_int pa_nil))))
    (pss_cons (ps_if (pt_cmpR op_eq (pv 4) pe_int (nomark _)) (pss_one (ps_ret (pe_callTy lst1 (by rfl) T.no_list (by decide +kernel) (pa_cons (pv 3) pa_nil)))) pss_nil)
    (pss_cons (ps_if (pt_cmpR op_eq (pv 4) pe_int (nomark _)) (pss_one (ps_ret (pe_cl C_law_move hr (by rfl) (pa_cons (pv 0) (pa_cons (pv 1) pa_nil))))) pss_nil)
    (pss_cons (ps_if (pt_cmpR op_eq (pv 4) pe_int (nomark _)) (pss_cons (ps_set (i := 5) sc_law_member.nd rfl (Or.inl rfl) (pe_callTy lst1 (by rfl) T.no_list (by decide +kernel) (pa_cons (pv 3) pa_nil)))
    (pss_cons (ps_for PassesOwn.never rfl (pi_range1 (by rfl) T.no_range (pa_cons (pv 1) pa_nil)) (pg_name (i := 6) sc_law_member.nd rfl (Or.inl rfl)) (pss_one (ps_if (pt_cmpR op_lt (pe_ix ix1 (pv 3) (pv 6) (fun _ _ => rfl)) pe_int (nomark _)) (pss_one (ps_asg (pe_cmpR op_eq (pe_ix ix1 (pv 3) (pv 6) (fun _ _ => rfl)) pe_int (nomark _)) (pg_sub (pv 5) (pv 6) set_list))) pss_nil)))
    (pss_one (ps_ret (pe_callTy tup1 (by rfl) T.no_tuple (by decide +kernel) (pa_cons (pv 5) pa_nil)))))) pss_nil)
    (pss_cons (ps_if (pt_cmpR op_eq (pv 4) pe_int (nomark _)) (pss_one (ps_ret (pe_cl C_law_pick hr (by rfl) (pa_cons (pv 0) (pa_cons (pe_lst (pa_cons (pe_op op_catA (pv 3) (pe_tup (pa_cons (pv 1) pa_nil))) (pa_cons (pe_slice sl_tupA (pv 3) (po_some pe_int) po_none) (pa_cons (pe_revT (pv 3)) (pa_cons (pe_callTy tup1 (by rfl) T.no_tuple (by decide +kernel) (pa_cons (pe_lc (own := [("p", 7)]) (g := gName 7) (tt := tYes) rfl sc_law_member.nd (pi_sq (pv 3)) (blkOk_by (own := [("p", 7)]) (N := ["store", "points", "made", "move", "pick", "twin", "k", "p"]) (sc := defScope st_law_member) (by decide +kernel)) (fun _ _ _ _ _ => (pg_name (i := 7) sc_law_member.nd rfl (Or.inl rfl))) (fun _ _ _ _ _ => pts_nil) (fun _ _ _ _ _ => (pe_op op_add (pv 7) pe_int))) pa_nil)) (pa_cons (pe_tup (pa_cons (pv 3) pa_nil)) (pa_cons (pe_tup pa_nil) pa_nil))))))) pa_nil))))) pss_nil)
    (pss_one (ps_ret (pv 3))))))))), ?_⟩
  have hul := tu.len
  walk_at "sn"
  refine ⟨s, l, u, _, rfl, st, hus, sq_l hu, (fun e => hM0 (List.length_eq_zero_iff.mp (by rw [← hul]; simpa using congrArg List.length e))), by rw [List.length_map]; omega, fun x H1 g1 hx => ?_⟩
  obtain ⟨a, ns, rfl, hns, ha⟩ := tu.mem hx
  have pn := on ns hns
  have ln := lenP pn
  have ha1 := g1.k (st.ne' ha (by intros; simp)) ha
  walk_at "sn"
  refine ⟨s, l, _, rfl, by decide, g1.st, fun r H2 g2 r0 r1 _ => ?_⟩
  have g12 := g1.trans g2
  have ha2 := g2.k (g1.st.ne' ha1 (by intros; simp)) ha1
  have lv2 : LvK EE H2 := lv.ge g12
  walk_at "sn"
  split
  · refine ⟨_, sq_t ha2, fun L H3 n3 => ?_⟩
    exact k _ _ (g12.new n3) ⟨_, _, .lst (lv2.out n3.fr) n3.at_ (DwAll.ints ns), by omega⟩
  walk_at "sn"
  split
  · refine ⟨s, l, n, rfl, g12.st, by omega, by omega, fun b ms H3 g3 fb eb pb => ?_⟩
    rw [Int.toNat_natCast] at pb
    have := lenP pb
    exact k _ _ (g12.trans g3) ⟨_, _, .tup ((lv.ge (g12.trans g3)).outT eb) eb (DwAll.ints ms), by omega⟩
  rw [a_seq]
  walk_at "wn"
  split
  · walk_at "sn"
    refine ⟨_, sq_t ha2, fun L H3 n3 => ?_⟩
    have g3 := g12.new n3
    have fL := g12.fr n3.fr
    walk_at "sn"
    refine ⟨by omega, by omega, ?_⟩
    refine fr_by (fun i σ H' => Ge s l H H' ∧ H' a = some (.tup (ns.map V.int)) ∧ ∃ v6 xs, σ = [some (.ref s), some (.int n), some (.ref u), some (.ref a), some (.int r), some (.ref L), v6, none] ∧ H' L = some (.lst xs) ∧ xs.length = n ∧ ∀ x ∈ xs, (∃ i, x = .int i) ∨ ∃ b, x = .bl b) ⟨g3, n3.k ha2, _, _, rfl, n3.at_, by rw [List.length_map, ln], fun x hx => by
      obtain ⟨z, _, rfl⟩ := List.mem_map.mp hx
      exact .inl ⟨z, rfl⟩⟩ ?_ ?_
    · rintro i _ H4 N hN hi ⟨g4, ha4, v6, xs, rfl, eL, hxl, hx⟩
      have hin : i < n := by simpa using hi
      obtain ⟨z, hz⟩ : ∃ z, ns[i]? = some z := ⟨_, List.getElem?_eq_getElem (by omega)⟩
      walk_at "wn"
      refine ⟨_, sq_t ha4, .int z, atI_of (by omega) (by simp [hz]), ?_⟩
      walk_at "wn"
      split
      · refine ⟨_, sq_t ha4, .int z, atI_of (by omega) (by simp [hz]), ?_⟩
        walk_at "wn"
        refine ⟨_, eL, _, ixN_of (by omega) (by omega), fun H5 p5 => ?_⟩
        have La : L ≠ a := fun e => by rw [e, ha4] at eL; cases eL
        refine hN _ _ ⟨g4.put st fL p5, p5.k La.symm ha4, _, _, rfl, p5.at_, by rw [List.length_set, hxl], fun x hm => ?_⟩
        rcases List.mem_or_eq_of_mem_set hm with hm | rfl
        · exact hx x hm
        · exact .inr ⟨_, rfl⟩
      · exact hN _ _ ⟨g4, ha4, _, _, rfl, eL, hxl, hx⟩
    · rintro _ H4 ⟨g4, ha4, v6, xs, rfl, eL, hxl, hx⟩
      walk_at "wn"
      refine ⟨_, eL, fun p H5 n5 => ?_⟩
      obtain ⟨ds, hd⟩ := dl_leaf (E := EE) (H := H5) hx
      exact k _ _ (g4.new n5) ⟨_, _, .tup ((lv.ge (g4.new n5)).outT n5.at_) n5.at_ hd, by omega⟩
  rw [a_seq]
  walk_at "wn"
  split
  · refine ⟨szl (by decide), fun p3 H3 n3 => ?_⟩
    have ha3 := n3.k ha2
    have ep3 := n3.at_
    refine b_catU ⟨_, _, ha3, ep3, by rw [List.length_map, sizeLine_eq]; simp; omega, fun u4 H4 s4 e4 => ?_⟩
    have ha4 := s4 _ _ ha3
    refine b_slU ⟨_, ha4, fun u5 H5 s5 e5 => ?_⟩
    have ha5 := s5 _ _ ha4
    rw [a_revT]
    walk_at "wn"
    refine ⟨_, SqT.of ha5, fun u6 H6 n6 => ?_⟩
    have ha6 := n6.k ha5
    have e6 := n6.at_
    rw [← List.map_reverse] at e6
    refine cs_ival10 (fun z => V.int (z + 1)) (sq_t ha6) (by omega) ?_ ?_
    · rintro C z H7 N s7 hz hN
      refine ⟨rfl, ?_⟩
      walk_at "wn"
      exact hN _ (Same.refl _)
    · rintro C H7 s7 fC eC
      walk_at "wn"
      rw [show ns.map (fun z => V.int (z + 1)) = (ns.map (· + 1)).map V.int by rw [List.map_map]; rfl] at eC
      refine ⟨_, eC, fun u8 H8 n8 => ⟨szl (by decide), fun u9 H9 n9 => ⟨szl (by decide), fun u10 H10 n10 => ⟨szl (by decide), fun W H11 n11 => ?_⟩⟩⟩⟩
      have s8 : Same H6 H11 := (((s7.trans n8.same).trans n9.same).trans n10.same).trans n11.same
      have s6 := n6.same.trans s8
      have s45 := s5.trans s6
      have g3 := g12.new n3
      have g11 := (g3.same s4).same s45
      have st11 := g11.st
      have lv11 := lv.ge g11
      have ha11 := s6 _ _ ha5
      have all : ∀ x ∈ [V.ref u4, V.ref u5, V.ref u6, V.ref u8, V.ref u9, V.ref u10], Db EE H11 100 x := by
        intro x hx
        simp only [List.mem_cons, List.not_mem_nil, or_false] at hx
        rcases hx with rfl | rfl | rfl | rfl | rfl | rfl
        · have e := s45 _ _ e4
          rw [show ns.map V.int ++ [V.int n] = (ns ++ [(n : Int)]).map V.int by simp] at e
          exact ⟨_, _, .tup (lv11.outT e) e (DwAll.ints _), by simp; omega⟩
        · have e := s6 _ _ e5
          obtain ⟨ds, hd⟩ := dl_leaf (E := EE) (H := H11) (xs := cutV (ns.map V.int) (some 1) none) fun x hx => by
            obtain ⟨z, _, rfl⟩ := List.mem_map.mp (cutV_in10 hx)
            exact .inl ⟨z, rfl⟩
          have hcl := cutV_le10 (ns.map V.int) (some 1) none
          rw [List.length_map] at hcl
          exact ⟨_, _, .tup (lv11.outT e) e hd, by omega⟩
        · have e := s8 _ _ e6
          exact ⟨_, _, .tup (lv11.outT e) e (DwAll.ints _), by simp; omega⟩
        · have e := n11.k (n10.k (n9.k n8.at_))
          exact ⟨_, _, .tup (lv11.outT e) e (DwAll.ints _), by simp; omega⟩
        · have e := n11.k (n10.k n9.at_)
          exact ⟨_, _, .tup (lv11.outT e) e (.cons (.tup (lv11.outT ha11) ha11 (DwAll.ints ns)) .nil), by omega⟩
        · have e := n11.k n10.at_
          exact ⟨_, _, .tup (lv11.outT e) e .nil, by omega⟩
      refine ⟨s, l, W, _, rfl, st11, (g12.st.ne ((n3.same.trans (s4.trans (s5.trans (n6.same.trans (s7.trans (n8.same.trans (n9.same.trans n10.same))))))).free n11.fr)).1, sq_l n11.at_, by simp, by simp, fun x H12 g12' hx => ?_⟩
      exact k _ _ (g11.trans g12') ((all x hx).ge g12' hsE)
  · walk_at "wn"
    exact k _ _ g12 ⟨_, _, .tup (lv2.outT ha2) ha2 (DwAll.ints ns), by omega⟩
def sp_asked10 (K : PySem.W.Frag) : Sp := fun vs H Q _ => ∃ (x q u : Addr) (n : Nat) (T M : List (List Int)) (us : List Addr) (v : V) (E : List Addr) (d : PyData) (nv : Nat), vs = [.ref x, .int n, .ref u, v] ∧ Wd K H x q n T M ∧ H u = some (.lst (us.map V.ref)) ∧ TLs H us M ∧ Lv E H ∧ Dw E H v d nv ∧ nv ≤ 1000 ∧ ∀ H', Same H H' → Q (.bl true) H'
abbrev st_law_asked : Stmt := topS 51
theorem sc_law_asked : FnScope ["world", "points", "made", "value", "before", "due", "move"] ["world", "points", "made", "value"] (defScope st_law_asked) := ⟨rfl, rfl, rfl, by decide +kernel, rfl, by decide +kernel, by decide +kernel⟩
theorem ok_law_asked (D : Df K mg "_law_asked" st_law_asked) (T : NoB mg) (CWorld___contains__ : MtC P w K mg base 2 "__contains__" ["self", "value"] (sp_wcont K)) (C_law_frozen : Cl P w K mg base 10 "_law_frozen" ["value", "deep"] (sp_frozen 10)) (C_law_move_fits : Cl P w K mg base 2 "_law_move_fits" ["value", "points"] sp_fitsN) (C_law_same : Cl P w K mg base 2 "_law_same" ["actual", "due"] sp_same) : Cl P w K mg base 11 "_law_asked" ["world", "points", "made", "value"] (sp_asked10 K) := by
  refine cl_of D sc_law_asked (fun _ _ _ _ _ _ us hl => match us, hl with | [_, _, _, _], _ => rfl) (fun vs H Q E h => ?_) (fun f cdv A outer sh H vs Q E hr h => ?_)
  · obtain ⟨_, _, _, _, _, _, _, _, _, _, _, rfl, _⟩ := h; rfl
  obtain ⟨x, q, u, n, T0, M, us, v, E', d, nv, rfl, h, hu, tu, lv, hv, hnv, k⟩ := h
  refine ⟨_, (pss_cons (ps_set (i := 4) sc_law_asked.nd rfl (Or.inl rfl) (pe_cl C_law_frozen hr (by rfl) (pa_cons (pv 3) (pa_cons pe_int pa_nil))))
    (pss_cons (ps_set (i := 5) sc_law_asked.nd rfl (Or.inl rfl) (pe_and (pe_cl C_law_move_fits hr (by rfl) (pa_cons (pv 3) (pa_cons (pv 1) pa_nil))) (pe_one (pe_cmpR op_eq (pe_callB len1 (by rfl) T.no_len (by decide +kernel) (pa_cons (pe_lc (own := [("move", 6)]) (g := gName 6) (tt := _) rfl sc_law_asked.nd (pi_sq (pv 2)) (blkOk_by (own := [("move", 6)]) (N := ["world", "points", "made", "value", "before", "due", "move"]) (sc := defScope st_law_asked) (by decide +kernel)) (fun _ _ _ _ _ => (pg_name (i := 6) sc_law_asked.nd rfl (Or.inl rfl))) (fun _ _ _ _ _ => (pts_one (pt_cmpR (op_eqDK (K := K) rfl hr.units) (pv 6) (pv 3) (nomark _)))) (fun _ _ _ _ _ => (pv 6))) pa_nil)) pe_int (nomark _)))))
    (pss_one (ps_ret (pe_and (pe_cl C_law_same hr (by rfl) (pa_cons (pe_cmpR (op_inW CWorld___contains__ hr) (pv 3) (pv 0) (by rfl)) (pa_cons (pv 5) pa_nil))) (pe_one (pe_cl C_law_same hr (by rfl) (pa_cons (pe_cl C_law_frozen hr (by rfl) (pa_cons (pv 3) (pa_cons pe_int pa_nil))) (pa_cons (pv 4) pa_nil))))))))), ?_⟩
  have hM := h.m400
  walk_at "sn"
  refine ⟨v, 8, E', d, nv, rfl, by decide, by decide, lv, hv, by omega, fun fz mf H1 s1 hf hfl => ?_⟩
  refine seq_join (fun σ H' => Same H1 H' ∧ ∃ bd : Bool, (bd = true ↔ ∃ mv ∈ M, d = encT mv) ∧ σ = [some (.ref x), some (.int n), some (.ref u), some v, some fz, some (.bl bd), none]) (fun N hN => ?_) ?_
  · walk_at "wn"
    refine ⟨v, E', d, nv, n, rfl, hv.same s1, fun H2 s2 => ?_⟩
    by_cases hd : mvOn n d = true
    · have s12 := s1.trans s2
      obtain ⟨ns, rfl, h3, h4⟩ : IsMoveP d := Classical.byContradiction fun c => by
        have h1 := hd
        unfold mvOn at h1
        rw [Bool.and_eq_true, isMove_f c] at h1
        exact absurd h1.1 (by decide)
      obtain ⟨a, rfl, ha⟩ : ∃ a, v = .ref a ∧ H a = some (.tup (ns.map V.int)) := by
        cases hv with
        | lf l => exact nomatch l
        | tup ne h' al => exact ⟨_, rfl, by rw [h', dw_ints_eq10 al]⟩
      rw [hd]
      walk_at "wn"
      refine cs_filt (fun m => decide (m = ns)) (sq_l (s12 _ _ hu)) (tu.same s12) (by omega) (fun C b mv H3 N2 s3 hb hmv ht hff => ?_) fun C ws H3 s3 fC eC tC => ?_
      · refine ⟨rfl, ?_⟩
        walk_at "wn"
        refine eqD_ints10 hb (s3 _ _ (s12 _ _ ha)) ⟨_, rfl, ?_⟩
        by_cases e : mv = ns
        · rw [if_pos (decide_eq_true e)]
          exact ht (decide_eq_true e)
        · rw [if_neg (by simpa using e)]
          exact hff (decide_eq_false e)
      · walk_at "wn"
        refine ⟨_, sq_l eC, ?_⟩
        rw [List.length_map, tC.len, filt_eq h.md.nd]
        refine hN _ _ ⟨s2.trans s3, _, ?_, rfl⟩
        rw [decide_eq_true_eq]
        constructor
        · intro e
          refine ⟨ns, Classical.byContradiction fun c => ?_, rfl⟩
          rw [if_neg c] at e
          exact absurd e (by decide)
        · rintro ⟨mv, hm, e⟩
          cases encT_inj (show encT ns = encT mv from e)
          rw [if_pos hm]
          rfl
    · rw [Bool.not_eq_true] at hd
      rw [hd]
      walk_at "wn"
      refine hN _ _ ⟨s2, false, ⟨fun z => (by cases z), fun ⟨mv, hm, e⟩ => ?_⟩, rfl⟩
      have pm := h.onM mv hm
      have : mvOn n d = true := by
        subst e
        unfold mvOn
        rw [Bool.and_eq_true]
        have lm := lenP pm
        exact ⟨isMove_t ⟨mv, rfl, by have := h.n12; omega, by rw [lm]; exact pm⟩, by simp [dLen, encT, lm]⟩
      rw [hd] at this
      cases this
  rintro _ H2 ⟨s2, bd, hbd, rfl⟩
  have s12 := s1.trans s2
  walk_at "wn"
  have h2 := h.same s12
  obtain ⟨dx, fs, hx⟩ := h2.at
  refine ⟨dx, fs, hx, x, q, n, T0, M, v, E', d, nv, rfl, h2, hv.same s12, fun H3 s3 b hb => ⟨b, rfl, ?_⟩⟩
  obtain rfl : b = bd := by
    rw [Bool.eq_iff_iff, hb, hbd]
  refine ⟨.bl b, .bl b, _, _, _, rfl, .lf (.bl _), .lf (.bl _), by decide, fun H4 s4 => ⟨_, rfl, ?_⟩⟩
  rw [if_pos rfl]
  have s14 := (s2.trans s3).trans s4
  have s04 := s1.trans s14
  refine ⟨v, 8, E', d, nv, rfl, by decide, by decide, lv.same s04, hv.same s04, by omega, fun fz' mf' H5 s5 hf' hfl' => ?_⟩
  exact ⟨fz', fz, _, _, _, rfl, hf'.sub (by simp), (hf.same (s14.trans s5)).sub (by simp), by omega, fun H6 s6 => k H6 ((s04.trans s5).trans s6)⟩
end

/-! ## CV -/
theorem ref_inj : ∀ {a b : List Addr}, a.map V.ref = b.map V.ref → a = b
  | [], [], _ => rfl
  | [], _ :: _, h => nomatch h
  | _ :: _, [], h => nomatch h
  | x :: a, y :: b, h => by
    rw [List.map_cons, List.map_cons] at h
    obtain ⟨h1, h2⟩ := List.cons.inj h
    rw [V.ref.inj h1, ref_inj h2]
theorem int_inj : ∀ {a b : List Int}, a.map V.int = b.map V.int → a = b
  | [], [], _ => rfl
  | [], _ :: _, h => nomatch h
  | _ :: _, [], h => nomatch h
  | x :: a, y :: b, h => by
    rw [List.map_cons, List.map_cons] at h
    obtain ⟨h1, h2⟩ := List.cons.inj h
    rw [V.int.inj h1, int_inj h2]
theorem tls_uniq {H : Hp} {ws : List Addr} {L M : List (List Int)} (a : TLs H ws L) : TLs H ws M → L = M := by
  induction a generalizing M with
  | nil => intro b; cases b; rfl
  | cons h t ih =>
    intro b
    cases b with
    | cons h' t' =>
      rw [h] at h'
      rw [ih t', int_inj (HO.tup.inj (Option.some.inj h'))]
theorem tls_rev {H : Hp} {ws : List Addr} {L : List (List Int)} (a : TLs H ws L) : TLs H ws.reverse L.reverse := by
  induction a with
  | nil => exact .nil
  | cons h t ih =>
    rw [List.reverse_cons, List.reverse_cons]
    exact ih.snoc h
theorem world_ok {K : PySem.W.Frag} {H : Hp} {Q : VK} {E : XK} {n : Nat} {p : Addr} {ws : List Addr} {T : List (List Int)} (hn : n ≤ 12) (hq : sq H p = some (ws.map V.ref)) (t : TLs H ws T) (on : OnN n T) (h8 : T.length ≤ 8) (no : ¬ Over n T 400)
    (k : ∀ M x q H', Same H H' → H x = none → H q = none → Wd K H' x q n T M → Q (.ref x) H') : sp_World K [.int n, .ref p] H Q E := by
  refine ⟨.int n, p, .int n, 1, [], _, [], _, _, rfl, .lf (.int _), fun i e => by cases e; exact log_sm (Nat.lt_of_le_of_lt (show (n : Int).natAbs ≤ 12 by omega) (by decide)), hq, tl_dw hn (fun a h => absurd h (by simp)) t on, fun c => absurd c (by simp [numOk]; omega), fun n' e _ => ?_⟩
  obtain rfl : n = n' := by have := V.int.inj e; omega
  have hf : cmFlt n (T.map encT) "told" 8 = none := by
    unfold cmFlt
    rw [if_neg (by rw [List.length_map]; omega)]
    exact mvFlt_none (on_enc hn on)
  rw [hf]
  intro ws' T' e1 t' o' h'
  rw [ref_inj e1] at t
  rw [← tls_uniq t t']
  exact ⟨fun o => absurd o no, k⟩
theorem Wd.ge {K : PySem.W.Frag} {H H' : Hp} {s l x q : Addr} {n : Nat} {T M : List (List Int)} (h : Wd K H x q n T M) (st : Sto s l H) (g : Ge s l H H') : Wd K H' x q n T M := by
  obtain ⟨us, hq, _⟩ := h.lst
  refine h.kp fun a o e c => g.k ?_ e
  rcases c with c | c
  · rw [c]; exact st.neR hq
  · exact st.ne' e fun m i1 i2 i3 i4 i5 i6 z => c _ z
theorem Wd.no {K : PySem.W.Frag} {H : Hp} {x q : Addr} {n : Nat} {T M : List (List Int)} (h : Wd K H x q n T M) : ¬ Over n T 400 := fun o => o.not h.md h.m400

/-! ## K10B -/

theorem op_catAK {X : Cx} {K : PySem.W.Frag} (h : X.K = K) : OpR X (binaryOp .Add) (rCatA K) := h ▸ op_catA
theorem sl_tupAK {X : Cx} {K : PySem.W.Frag} (h : X.K = K) : SlR X (rSlTA K) := h ▸ sl_tupA
section
variable {K : PySem.W.Frag} {g : TG} {tt : TT} {te : TE} {vs : List Nat} {σ : L2.St} {H : Hp} {Q : VK}
/-- [f(move) for move in list]: new tuples -/
theorem cs_new {a : Addr} {us : List Addr} {L : List (List Int)} (f : List Int → List Int) (hq : sq H a = some (us.map V.ref)) (t : TLs H us L) (hl : L.length ≤ 100000)
    (hs : ∀ C b mv H1 (N : Hp → Prop), Same H H1 → H1 b = some (.tup (mv.map V.int)) → mv ∈ L → (∀ u H2, Same H1 H2 → H2 u = some (.tup ((f mv).map V.int)) → CSt C N (.ref u) H2) → g (.ref b) (wipe σ vs) H1 fun σ2 H2 => wipe σ2 vs = wipe σ vs ∧ tt σ2 H2 fun bb H3 =>
      if bb = true then te σ2 H3 fun y H4 => CSt C N y H4 else N H3)
    (hd : ∀ C ws H1, Same H H1 → H C = none → H1 C = some (.lst (ws.map V.ref)) → TLs H1 ws (L.map f) → Q (.ref C) H1) : CSq K a g tt te vs σ H Q := by
  have hul := t.len
  refine cs_by hq (fun C i acc H' => Same H H' ∧ ∃ vs, acc = vs.map V.ref ∧ TLs H' vs ((L.take i).map f)) (fun C H0 n0 => ⟨n0.same, [], rfl, by rw [List.take_zero]; exact .nil⟩) (fun C i acc H' hC f o ho => f.1 _ _ ho) ?_ ?_
  · rintro C i y acc H2 N hC hy hacc ⟨s2, vs, rfl, t2⟩ hN
    obtain ⟨b, mv, rfl, hb1, hb2, hb3⟩ := t.get hy
    have hvl := t2.len
    rw [List.length_map, List.length_take] at hvl
    refine hs C b mv H2 N s2 (s2 _ _ hb3) (List.mem_of_getElem? hb2) (fun u H3 s3 eu => ?_)
    refine cst (s3 _ _ hacc) (by rw [List.length_map, hvl, sizeLine_eq]; omega) fun H5 p5 => hN _ _ p5.at_ ⟨p5.same (s2.trans s3) hC, vs ++ [u], by simp, ?_⟩
    rw [List.take_add_one, hb2, List.map_append]
    exact ((t2.same s3).put p5 (s3 _ _ hacc)).snoc (p5.k (fun z => by rw [z, s3 _ _ hacc] at eu; cases eu) eu)
  · rintro C acc H2 hC hacc ⟨s2, vs, rfl, t2⟩
    rw [List.length_map, hul, List.take_length] at t2
    exact hd C vs H2 s2 hC hacc t2
end
/-- a pair of a number of points and told moves, that make no more than 400 -/
structure Bsd (H : Hp) (r t : Addr) (n : Nat) (ws : List Addr) (T : List (List Int)) : Prop where
  at_ : H r = some (.lst [.int n, .ref t])
  hT : H t = some (.lst (ws.map V.ref))
  tl : TLs H ws T
  on : OnN n T
  n12 : n ≤ 12
  t8 : T.length ≤ 8
  ov : ¬ Over n T 400
theorem Bsd.same {H H' : Hp} {r t : Addr} {n : Nat} {ws : List Addr} {T : List (List Int)} (h : Bsd H r t n ws T) (s : Same H H') : Bsd H' r t n ws T := ⟨s _ _ h.at_, s _ _ h.hT, h.tl.same s, h.on, h.n12, h.t8, h.ov⟩
def BsE (H : Hp) (v : V) : Prop := ∃ r t n ws T, v = .ref r ∧ Bsd H r t n ws T
theorem BsE.same {H H' : Hp} {v : V} (h : BsE H v) (s : Same H H') : BsE H' v := by
  obtain ⟨r, t, n, ws, T, e, b⟩ := h
  exact ⟨r, t, n, ws, T, e, b.same s⟩
theorem erase_in {α : Type} {xs : List α} {k : Nat} {x : α} (h : x ∈ xs.eraseIdx k) : x ∈ xs := List.mem_of_mem_eraseIdx h
theorem atI_m1 {α : Type} {xs : List α} {v : α} (h : xs[xs.length - 1]? = some v) : atI xs (-1) = some v := by
  have hl := (List.getElem?_eq_some_iff.mp h).1
  unfold atI ixN
  rw [if_neg (by omega), if_pos (by omega)]
  rw [show ((-1 : Int) + xs.length).toNat = xs.length - 1 by omega]
  exact h
theorem cutV_m1 {xs : List V} (h : 0 < xs.length) : cutV xs none (some (-1)) = xs.dropLast := by
  unfold cutV
  rw [HT.sIx_none, List.drop_zero, Nat.sub_zero, List.dropLast_eq_take]
  congr 1
  show (if (-1 : Int) < 0 then ((-1 : Int) + (xs.length : Int)).toNat else min (-1 : Int).toNat xs.length) = _
  rw [if_pos (by decide)]
  omega
theorem map_erase {α β : Type} (f : α → β) : ∀ (xs : List α) (k : Nat), (xs.map f).eraseIdx k = (xs.eraseIdx k).map f
  | [], _ => rfl
  | _ :: _, 0 => rfl
  | x :: xs, k + 1 => congrArg (f x :: ·) (map_erase f xs k)
/-- the same, none of it in the list fo -/
def BsX (fo : Addr) (H : Hp) (v : V) : Prop := ∃ r t n ws T, v = .ref r ∧ r ≠ fo ∧ t ≠ fo ∧ Bsd H r t n ws T
theorem BsX.same {fo : Addr} {H H' : Hp} {v : V} (h : BsX fo H v) (s : Same H H') : BsX fo H' v := by
  obtain ⟨r, t, n, ws, T, e, h1, h2, b⟩ := h
  exact ⟨r, t, n, ws, T, e, h1, h2, b.same s⟩
theorem BsX.put {fo : Addr} {H H' : Hp} {v : V} {xs ys : List V} (h : BsX fo H v) (p : Put H fo (.lst xs) H') (hf : H fo = some (.lst ys)) : BsX fo H' v := by
  obtain ⟨r, t, n, ws, T, e, h1, h2, b⟩ := h
  exact ⟨r, t, n, ws, T, e, h1, h2, ⟨p.k h1 b.at_, p.k h2 b.hT, b.tl.put p hf, b.on, b.n12, b.t8, b.ov⟩⟩
theorem BsX.of {fo : Addr} {H : Hp} {v : V} (h : BsX fo H v) : BsE H v := by
  obtain ⟨r, t, n, ws, T, e, h1, h2, b⟩ := h
  exact ⟨r, t, n, ws, T, e, b⟩
theorem tls_erase {H : Hp} : ∀ {ws : List Addr} {L : List (List Int)} (k : Nat), TLs H ws L → TLs H (ws.eraseIdx k) (L.eraseIdx k)
  | _, _, _, .nil => .nil
  | _, _, 0, .cons _ t => t
  | _, _, k + 1, .cons e t => .cons e (tls_erase k t)
theorem tls_sub {H : Hp} {us : List Addr} {M : List (List Int)} (t : TLs H us M) : ∀ {xs : List V}, (∀ x ∈ xs, x ∈ us.map V.ref) → ∃ ws L, xs = ws.map V.ref ∧ TLs H ws L ∧ ∀ m ∈ L, m ∈ M
  | [], _ => ⟨[], [], rfl, .nil, fun m h => nomatch h⟩
  | x :: xs, h => by
    obtain ⟨ws, L, rfl, t2, h2⟩ := tls_sub t fun y hy => h y (List.mem_cons_of_mem x hy)
    obtain ⟨a, ns, rfl, h3, h4⟩ := t.mem (h x List.mem_cons_self)
    exact ⟨a :: ws, ns :: L, rfl, .cons h4 t2, fun m hm => by
      rcases List.mem_cons.mp hm with rfl | hm
      · exact h3
      · exact h2 m hm⟩
section
variable {P : Program} {w : World} {K : PySem.W.Frag} {mg : Str → Option Value} {base : Heap}
def sp_walike (K : PySem.W.Frag) : Sp := fun vs H Q _ => ∃ (x q y r : Addr) (n n' : Nat) (T M T' M' : List (List Int)) (b : Bool), vs = [.ref x, .ref y, .bl b] ∧ Wd K H x q n T M ∧ Wd K H y r n' T' M' ∧ b = decide (n = n' ∧ M = M') ∧ ∀ H', Same H H' → Q (.bl true) H'
theorem weq_ok {x q y r : Addr} {n n' : Nat} {T M T' M' : List (List Int)} {H : Hp} {R : Bool → Hp → Prop} {mg : Str → Option Value} (WC : WCls K mg) (h : Wd K H x q n T M) (g : Wd K H y r n' T' M') (k : R (decide (n = n' ∧ M = M')) H) :
    ∃ dx fs, H x = some (.ins (wC K) dx fs) ∧ OthV K H (.ref y) ∧ sp_weqV K [.ref x, .ref y] H (fun v H' => ∃ r, v = .bl r ∧ R r H') E0 := by
  obtain ⟨dx, fs, hx⟩ := h.at
  obtain ⟨dy, gs, hy⟩ := g.at
  exact ⟨dx, fs, hx, oth_W WC hy, x, q, .ref y, n, T, M, rfl, h, .inl ⟨y, r, n', T', M', rfl, g, _, rfl, k⟩⟩
abbrev st_law_alike : Stmt := topS 53
theorem sc_law_alike : FnScope ["world", "other", "due"] ["world", "other", "due"] (defScope st_law_alike) := ⟨rfl, rfl, rfl, by decide +kernel, rfl, by decide +kernel, by decide +kernel⟩
theorem ok_law_alike (D : Df K mg "_law_alike" st_law_alike) (T : NoB mg) (CWorld___eq__ : MtC P w K mg base 1 "__eq__" ["self", "other"] (sp_weqV K)) (C_law_same : Cl P w K mg base 2 "_law_same" ["actual", "due"] sp_same) (WC : WCls K mg): Cl P w K mg base 3 "_law_alike" ["world", "other", "due"] (sp_walike K) := by
  refine cl_of D sc_law_alike (fun _ _ _ _ _ _ us hl => match us, hl with | [_, _, _], _ => rfl) (fun vs H Q E h => ?_) (fun f cdv A outer sh H vs Q E hr h => ?_)
  · obtain ⟨_, _, _, _, _, _, _, _, _, _, _, rfl, _⟩ := h; rfl
  obtain ⟨x, q, y, r, n, n', T0, M, T', M', b, rfl, h, g, hb, k⟩ := h
  refine ⟨_, (pss_cons (ps_if (PW.pt (pw_or (pt_not (pt_val (pe_cl C_law_same hr (by rfl) (pa_cons (pe_cmpR (op_eqV CWorld___eq__ hr) (pv 0) (pv 1) (nomark _)) (pa_cons (pv 2) pa_nil))))) (pw_or1 (pt_not (pt_val (pe_cl C_law_same hr (by rfl) (pa_cons (pe_cmpR (op_eqV CWorld___eq__ hr) (pv 1) (pv 0) (nomark _)) (pa_cons (pv 2) pa_nil)))))))) (pss_one (ps_ret pe_bl)) pss_nil)
    (pss_one (ps_ret (pe_and (pe_cl C_law_same hr (by rfl) (pa_cons (pe_cmpR (op_neV WC CWorld___eq__ hr) (pv 0) (pv 1) (nomark _)) (pa_cons (pe_not (pv 2)) pa_nil))) (pe_one (pe_cl C_law_same hr (by rfl) (pa_cons (pe_cmpR (op_neV WC CWorld___eq__ hr) (pv 1) (pv 0) (nomark _)) (pa_cons (pe_not (pv 2)) pa_nil)))))))), ?_⟩
  have e2 : decide (n' = n ∧ M' = M) = b := by rw [hb]; congr 1; exact propext ⟨fun z => ⟨z.1.symm, z.2.symm⟩, fun z => ⟨z.1.symm, z.2.symm⟩⟩
  rw [a_seq]
  walk_at "wn"
  refine weq_ok WC h g ?_
  rw [← hb]
  refine ⟨.bl b, .bl b, _, _, _, rfl, .lf (.bl _), .lf (.bl _), by decide, fun H1 s1 => ⟨_, rfl, ?_⟩⟩
  rw [if_neg (by decide)]
  refine weq_ok WC (g.same s1) (h.same s1) ?_
  rw [e2]
  refine ⟨.bl b, .bl b, _, _, _, rfl, .lf (.bl _), .lf (.bl _), by decide, fun H2 s2 => ⟨_, rfl, ?_⟩⟩
  rw [if_neg (by decide)]
  have s12 := s1.trans s2
  walk_at "wn"
  refine weq_ok WC (h.same s12) (g.same s12) ?_
  rw [← hb]
  refine ⟨.bl (!b), .bl (!b), _, _, _, rfl, .lf (.bl _), .lf (.bl _), by decide, fun H3 s3 => ⟨_, rfl, ?_⟩⟩
  rw [if_pos rfl]
  have s13 := s12.trans s3
  refine weq_ok WC (g.same s13) (h.same s13) ?_
  rw [e2]
  exact ⟨.bl (!b), .bl (!b), _, _, _, rfl, .lf (.bl _), .lf (.bl _), by decide, fun H4 s4 => k H4 (s13.trans s4)⟩
def sp_beside : Sp := fun vs H Q _ => ∃ (s l : Addr) (n : Nat) (t u : Addr) (ws us : List Addr) (T M : List (List Int)), vs = [.ref s, .int n, .ref t, .ref u] ∧ Sto s l H ∧ n ≤ 12 ∧ t ≠ s ∧ u ≠ s ∧ H t = some (.lst (ws.map V.ref)) ∧ TLs H ws T ∧ H u = some (.lst (us.map V.ref)) ∧ TLs H us M ∧ OnN n T ∧ Made n T M ∧ M.length ≤ 400 ∧ T.length ≤ 4 ∧
  ∀ p xs H', Ge s l H H' → H p = none → H' p = some (.lst xs) → (∀ x ∈ xs, BsE H' x) → xs.length ≤ 6 → Q (.ref p) H'
abbrev st_law_beside : Stmt := topS 52
theorem sc_law_beside : FnScope ["store", "points", "told", "made", "by", "some", "fewer", "wider", "found", "move"] ["store", "points", "told", "made"] (defScope st_law_beside) := ⟨rfl, rfl, rfl, by decide +kernel, rfl, by decide +kernel, by decide +kernel⟩
theorem ok_law_beside (D : Df K mg "_law_beside" st_law_beside) (T : NoB mg) (C_law_drawn : Cl P w K mg base 3 "_law_drawn" ["store", "things", "many"] sp_drawn) (C_law_move : Cl P w K mg base 4 "_law_move" ["store", "points"] sp_move) (C_law_place : Cl P w K mg base 3 "_law_place" ["store", "size"] sp_place) (C_law_renamed : Cl P w K mg base 1 "_law_renamed" ["move", "by"] sp_renJ) : Cl P w K mg base 6 "_law_beside" ["store", "points", "told", "made"] sp_beside := by
  refine cl_of D sc_law_beside (fun _ _ _ _ _ _ us hl => match us, hl with | [_, _, _, _], _ => rfl) (fun vs H Q E h => ?_) (fun f cdv A outer sh H vs Q E hr h => ?_)
  · obtain ⟨_, _, _, _, _, _, _, _, _, rfl, _⟩ := h; rfl
  obtain ⟨s, l, n, t, u, ws, us, T0, M, rfl, st, hn, hts, hus, ht, tt, hu, tu, on, md, hM, hT, k⟩ := h
  refine ⟨_, (pss_cons (ps_set (i := 4) sc_law_beside.nd rfl (Or.inr rfl) (pe_cl C_law_move hr (by rfl) (pa_cons (pv 0) (pa_cons (pv 1) pa_nil))))
    (pss_cons (ps_set (i := 5) sc_law_beside.nd rfl (Or.inl rfl) (pe_cl C_law_drawn hr (by rfl) (pa_cons (pv 0) (pa_cons (pv 3) (pa_cons pe_int pa_nil)))))
    (pss_cons (ps_set (i := 6) sc_law_beside.nd rfl (Or.inl rfl) (pe_callTy lst1 (by rfl) T.no_list (by decide +kernel) (pa_cons (pv 2) pa_nil)))
    (pss_cons (ps_if (pt_cmpR op_gt (pe_callB len1 (by rfl) T.no_len (by decide +kernel) (pa_cons (pv 6) pa_nil)) pe_int (nomark _)) (pss_one (ps_expr (pe_bm PySem.F.plainAttrs_list PySem.F.slot_list_pop PySem.F.type_list_pop mt_popAt (pv 6) (pa_cons (pe_cl C_law_place hr (by rfl) (pa_cons (pv 0) (pa_cons (pe_callB len1 (by rfl) T.no_len (by decide +kernel) (pa_cons (pv 6) pa_nil)) pa_nil))) pa_nil)))) pss_nil)
    (pss_cons (ps_setLc (i := 7) (own := [("move", 9)]) (g := gName 9) (tt := tYes) rfl sc_law_beside.nd rfl rfl (sw_true rfl rfl rfl (by decide +kernel)) (pi_sq (pv 2)) (blkOk_by (own := [("move", 9)]) (N := ["store", "points", "told", "made", "by", "some", "fewer", "wider", "found", "move"]) (sc := defScope st_law_beside) (by decide +kernel)) (fun _ _ _ _ _ => (pg_name (i := 9) sc_law_beside.nd rfl (Or.inl rfl))) (fun _ _ _ _ _ => pts_nil) (fun _ _ _ _ _ => (pe_op (op_catAK (K := K) rfl) (pv 9) (pe_tup (pa_cons (pv 1) pa_nil)))))
    (pss_cons (ps_set (i := 8) sc_law_beside.nd rfl (Or.inl rfl) (pe_lst (pa_cons (pe_lst (pa_cons (pv 1) (pa_cons (pe_op op_cat (pv 5) (pe_revL (pv 2))) pa_nil))) (pa_cons (pe_lst (pa_cons (pv 1) (pa_cons (pv 5) pa_nil))) (pa_cons (pe_lst (pa_cons (pv 1) (pa_cons (pv 6) pa_nil))) pa_nil)))))
    (pss_cons (ps_expr (pe_bm PySem.F.plainAttrs_list PySem.F.slot_list_append PySem.F.type_list_append mt_append (pv 8) (pa_cons (pe_lst (pa_cons (pv 1) (pa_cons (pe_lc (own := [("move", 9)]) (g := gName 9) (tt := tYes) rfl sc_law_beside.nd (pi_sq (pv 2)) (blkOk_by (own := [("move", 9)]) (N := ["store", "points", "told", "made", "by", "some", "fewer", "wider", "found", "move"]) (sc := defScope st_law_beside) (by decide +kernel)) (fun _ _ _ _ _ => (pg_name (i := 9) sc_law_beside.nd rfl (Or.inl rfl))) (fun _ _ _ _ _ => pts_nil) (fun _ _ _ _ _ => (pe_cl C_law_renamed hr (by rfl) (pa_cons (pv 9) (pa_cons (pv 4) pa_nil))))) pa_nil))) pa_nil)))
    (pss_cons (ps_if (pt_cmpR op_lt (pv 1) pe_int (nomark _)) (pss_one (ps_expr (pe_bm PySem.F.plainAttrs_list PySem.F.slot_list_append PySem.F.type_list_append mt_append (pv 8) (pa_cons (pe_lst (pa_cons (pe_op op_add (pv 1) pe_int) (pa_cons (pv 7) pa_nil))) pa_nil)))) pss_nil)
    (pss_cons (ps_if (PW.pt (pw_and (pt_cmpR op_gt (pv 1) pe_int (nomark _)) (pw_and1 (pt_val (pe_callB (cr_all rfl) (by rfl) T.no_all (by decide +kernel) (pa_cons (pe_lc (own := [("move", 9)]) (g := gName 9) (tt := tYes) rfl sc_law_beside.nd (pi_sq (pv 2)) (blkOk_by (own := [("move", 9)]) (N := ["store", "points", "told", "made", "by", "some", "fewer", "wider", "found", "move"]) (sc := defScope st_law_beside) (by decide +kernel)) (fun _ _ _ _ _ => (pg_name (i := 9) sc_law_beside.nd rfl (Or.inl rfl))) (fun _ _ _ _ _ => pts_nil) (fun _ _ _ _ _ => (pe_cmpR op_eq (pe_ix ix1 (pv 9) (pe_un un_neg pe_int) (fun _ _ => rfl)) (pe_op op_sub (pv 1) pe_int) (nomark _)))) pa_nil)))))) (pss_one (ps_expr (pe_bm PySem.F.plainAttrs_list PySem.F.slot_list_append PySem.F.type_list_append mt_append (pv 8) (pa_cons (pe_lst (pa_cons (pe_op op_sub (pv 1) pe_int) (pa_cons (pe_lc (own := [("move", 9)]) (g := gName 9) (tt := tYes) rfl sc_law_beside.nd (pi_sq (pv 2)) (blkOk_by (own := [("move", 9)]) (N := ["store", "points", "told", "made", "by", "some", "fewer", "wider", "found", "move"]) (sc := defScope st_law_beside) (by decide +kernel)) (fun _ _ _ _ _ => (pg_name (i := 9) sc_law_beside.nd rfl (Or.inl rfl))) (fun _ _ _ _ _ => pts_nil) (fun _ _ _ _ _ => (pe_slice (sl_tupAK (K := K) rfl) (pv 9) po_none (po_some (pe_un un_neg pe_int))))) pa_nil))) pa_nil)))) pss_nil)
    (pss_one (ps_ret (pv 8)))))))))))), ?_⟩
  have onM : OnN n M := fun m hm => ((md.mem m).mp hm).perm on
  walk_at "sn"
  refine ⟨s, l, n, rfl, st, by omega, by omega, fun b bs H1 g1 fb eb pb => ?_⟩
  rw [Int.toNat_natCast] at pb
  walk_at "sn"
  refine ⟨s, l, u, _, 3, rfl, g1.st, sq_l (g1.k hus hu), by rw [List.length_map, tu.len]; omega, by decide, fun sm H2 ys rest g2 fs es py ly => ?_⟩
  have g12 := g1.trans g2
  obtain ⟨sw, SL, rfl, ts, hsl⟩ := tls_sub (tu.ge st g12) (xs := ys) fun x hx => py.mem_iff.mp (List.mem_append_left _ hx)
  have lsl : SL.length ≤ 3 := by
    rw [← ts.len, ← List.length_map (f := V.ref), ly]
    split <;> omega
  have fsm : H sm = none := g1.fr fs
  walk_at "sn"
  refine ⟨_, sq_l (g12.k hts ht), fun F H3 n3 => ?_⟩
  have g13 := g12.new n3
  have fF : H F = none := g12.fr n3.fr
  have eb3 := n3.k (g2.k (g1.st.ne' eb (by intros; simp)) eb)
  refine seq_join (fun σ H' => Ge s l H H' ∧ ∃ fw FL, σ = [some (.ref s), some (.int n), some (.ref t), some (.ref u), some (.ref b), some (.ref sm), some (.ref F), none, none, none] ∧ H' F = some (.lst (fw.map V.ref)) ∧ TLs H' fw FL ∧ FL.Sublist T0 ∧ H' sm = some (.lst (sw.map V.ref)) ∧ TLs H' sw SL ∧ H' b = some (.tup (bs.map V.int))) (fun N hN => ?_) ?_
  · have eF := n3.at_
    have es3 := n3.k es
    have t3 := tt.ge st g13
    have ts3 := ts.same n3.same
    have Fs : F ≠ s := (st.ne fF).1
    have sms : sm ≠ s := (st.ne fsm).1
    have smF : sm ≠ F := fun e => by have := n3.fr; rw [← e, es] at this; cases this
    walk_at "wn"
    refine ⟨_, sq_l eF, ?_⟩
    split
    · refine ⟨tyl eF, _, sq_l eF, s, l, _, rfl, g13.st, by omega, by rw [List.length_map, tt.len]; omega, fun r H4 g4 r0 r1 => ?_⟩
      have g14 := g13.trans g4
      have eF4 := g4.k Fs eF
      show rPopAt (.ref F) [.int r] H4 _
      rw [b_popAt]
      obtain ⟨y, hy⟩ : ∃ y, (ws.map V.ref)[r.toNat]? = some y := ⟨_, List.getElem?_eq_getElem (by omega)⟩
      refine ⟨_, eF4, r.toNat, y, by omega, by have : (ws.map V.ref).length ≤ 4 := (by rw [List.length_map, tt.len]; exact hT); omega, seqIndex_of r0 (by omega), hy, fun H5 p5 => ?_⟩
      have g15 := g14.put st fF p5
      refine hN _ _ ⟨g15, ws.eraseIdx r.toNat, T0.eraseIdx r.toNat, rfl, by rw [p5.at_, map_erase], (tls_erase _ (tt.ge st g14)).put p5 eF4, List.eraseIdx_sublist _ _, p5.k smF (g4.k sms es3), (ts3.ge g13.st g4).put p5 eF4, p5.k (fun e => by rw [e, eF] at eb3; cases eb3) (g4.k (g13.st.ne' eb3 (by intros; simp)) eb3)⟩
    · exact hN _ _ ⟨g13, ws, T0, rfl, eF, t3, List.Sublist.refl _, es3, ts3, eb3⟩
  rintro _ H4 ⟨g4, fw, FL, rfl, eF, tF, sF, es4, ts4, eb4⟩
  have et4 := g4.k hts ht
  have tt4 := tt.ge st g4
  have st4 := g4.st
  rw [a_seq]
  walk_at "wn"
  refine cs_new (fun m => m ++ [(n : Int)]) (sq_l et4) tt4 (by omega) ?_ ?_
  · rintro C m mv H5 N s5 em hm hN
    refine ⟨rfl, ?_⟩
    walk_at "wn"
    refine ⟨szl (by decide), fun p H6 n6 => ?_⟩
    have lm := lenP (on mv hm)
    refine b_catU ⟨_, _, n6.k em, n6.at_, by rw [List.length_map, sizeLine_eq]; simp; omega, fun v H7 s7 e7 => ?_⟩
    exact hN _ _ (n6.same.trans s7) (by rw [e7]; simp)
  intro W ww H5 s5 fW eW tW
  have et5 := s5 _ _ et4
  walk_at "sn"
  refine ⟨_, SqL.of et5, fun rv H6 n6 => ?_⟩
  refine ⟨_, n6.k (s5 _ _ es4), _, n6.at_, by simp only [List.length_map, List.length_reverse]; rw [ts4.len, tt4.len, sizeLine_eq]; omega, fun ca H7 n7 => ⟨szl (by decide), fun p1 H8 n8 => ⟨szl (by decide), fun p2 H9 n9 => ⟨szl (by decide), fun p3 H10 n10 => ⟨szl (by decide), fun fo H11 n11 => ?_⟩⟩⟩⟩⟩
  have s57 := (s5.trans n6.same).trans n7.same
  have s8 := (n9.same.trans n10.same).trans n11.same
  have s7 := n8.same.trans s8
  have s411 := s57.trans s7
  have g11 := g4.same s411
  have inM : ∀ m ∈ T0, m ∈ M := fun m hm => (md.mem m).mpr (.told on hm)
  have nx : ∀ {p : Addr} {o : HO}, H10 p = some o → p ≠ fo := fun h e => by have := n11.fr; rw [← e, h] at this; cases this
  have b1 : BsX fo H11 (.ref p1) := by
    refine ⟨p1, ca, n, sw ++ ws.reverse, SL ++ T0.reverse, rfl, nx (n10.k (n9.k n8.at_)), nx (n10.k (n9.k (n8.k n7.at_))), ⟨s8 _ _ n8.at_, ?_, (ts4.same s411).app (tls_rev (tt4.same s411)), ?_, hn, by simp; omega, not_over_sub on md hM ?_⟩⟩
    · rw [s7 _ _ n7.at_]
      simp
    · intro m hm
      rcases List.mem_append.mp hm with hm | hm
      · exact onM m (hsl m hm)
      · exact on m (List.mem_reverse.mp hm)
    · intro m hm
      rcases List.mem_append.mp hm with hm | hm
      · exact hsl m hm
      · exact inM m (List.mem_reverse.mp hm)
  have b2 : BsX fo H11 (.ref p2) := ⟨p2, sm, n, sw, SL, rfl, nx (n10.k n9.at_), nx (n10.k (n9.k (n8.k (s57 _ _ es4)))), ⟨n11.k (n10.k n9.at_), s411 _ _ es4, ts4.same s411, fun m hm => onM m (hsl m hm), hn, by omega, not_over_sub on md hM hsl⟩⟩
  have lFL := sF.length_le
  have b3 : BsX fo H11 (.ref p3) := ⟨p3, F, n, fw, FL, rfl, nx n10.at_, nx (n10.k (n9.k (n8.k (s57 _ _ eF)))), ⟨n11.k n10.at_, s411 _ _ eF, tF.same s411, fun m hm => on m (sF.subset hm), hn, by omega, not_over_sub on md hM fun m hm => inM m (sF.subset hm)⟩⟩
  have efo := n11.at_
  have et11 := s411 _ _ et4
  have tt11 := tt4.same s411
  have eb11 := s411 _ _ eb4
  have eW11 := (n6.same.trans (n7.same.trans s7)) _ _ eW
  have tW11 := tW.same (n6.same.trans (n7.same.trans s7))
  have nW : W ≠ fo := nx (n10.k (n9.k (n8.k (n7.k (n6.k eW)))))
  have fWH : H W = none := g4.fr fW
  have ffo : H fo = none := g4.fr ((s57.trans (n8.same.trans (n9.same.trans n10.same))).free n11.fr)
  have nt : t ≠ fo := nx (n10.k (n9.k (n8.k (s57 _ _ et4))))
  have nb : b ≠ fo := nx (n10.k (n9.k (n8.k (s57 _ _ eb4))))
  walk_at "sn"
  refine ⟨tyl efo, ?_⟩
  refine cs_new (fun m => jn (ivL n bs) (jn m bs)) (sq_l et11) tt11 (by omega) ?_ ?_
  · rintro C m mv H12 N s12 em hm hN
    refine ⟨rfl, ?_⟩
    have pm := on mv hm
    have lm := lenP pm
    have lb := lenP pb
    walk_at "wn"
    refine ⟨m, b, mv, bs, rfl, em, s12 _ _ eb11, by omega, by omega, by rw [lm]; exact pm, by rw [lm]; exact pb, fun p rs H13 H14 s13 n14 lr pr er => ?_⟩
    have pr : rs.Perm (rng n) := by rw [lm] at pr; exact pr
    have e1 : jn (ivL n bs) (jn mv bs) = rs := by
      rw [← er, ← jn_assoc (ivL_perm pb) pb, jn_ivL pb, still_jn (lenP pr)]
    exact hN _ _ (s13.trans n14.same) (by rw [e1]; exact n14.at_)
  intro R rw' H12 s12 fR eR tR
  refine ⟨szl (by decide), fun q4 H13 n13 => ?_⟩
  have s1113 := s12.trans n13.same
  have efo13 := s1113 _ _ efo
  refine ⟨_, efo13, by simp [sizeLine_eq], fun H14 p14 => ?_⟩
  have onR : OnN n (T0.map fun m => jn (ivL n bs) (jn m bs)) := fun m' hm => by
    obtain ⟨m, hm2, rfl⟩ := List.mem_map.mp hm
    exact jn_perm (ivL_perm pb) (jn_perm (on m hm2) pb)
  have nR : R ≠ fo := fun e => by rw [e, efo] at fR; cases fR
  have nq4 : q4 ≠ fo := fun e => by have := n13.fr; rw [e, s12 _ _ efo] at this; cases this
  have b4 : BsX fo H13 (.ref q4) := ⟨q4, R, n, rw', _, rfl, nq4, nR, ⟨n13.at_, n13.k eR, tR.same n13.same, onR, hn, by rw [List.length_map]; omega, ren_over on md hM pb fun m' hm => by
    obtain ⟨m, hm2, rfl⟩ := List.mem_map.mp hm
    have pm := on m hm2
    refine ⟨m, hm2, jn_perm (ivL_perm pb) (jn_perm pm pb), ?_⟩
    rw [← jn_assoc pb (ivL_perm pb), ivL_jn pb, still_jn (by rw [jn_len, lenP pm])]⟩⟩
  have g14 := (g11.same s1113).put st ffo p14
  have hx14 : ∀ x ∈ [V.ref p1, V.ref p2, V.ref p3] ++ [V.ref q4], BsX fo H14 x := by
    intro x hx
    simp only [List.cons_append, List.nil_append, List.mem_cons, List.not_mem_nil, or_false] at hx
    rcases hx with rfl | rfl | rfl | rfl
    · exact (b1.same s1113).put p14 efo13
    · exact (b2.same s1113).put p14 efo13
    · exact (b3.same s1113).put p14 efo13
    · exact b4.put p14 efo13
  have et14 := p14.k nt (s1113 _ _ et11)
  have tt14 := (tt11.same s1113).put p14 efo13
  have eW14 := p14.k nW (s1113 _ _ eW11)
  have tW14 := (tW11.same s1113).put p14 efo13
  dsimp only
  refine seq_join (fun σ H' => Ge s l H H' ∧ ∃ xs, σ = [some (.ref s), some (.int n), some (.ref t), some (.ref u), some (.ref b), some (.ref sm), some (.ref F), some (.ref W), some (.ref fo), none] ∧ H' fo = some (.lst xs) ∧ (∀ x ∈ xs, BsX fo H' x) ∧ xs.length ≤ 5 ∧ H' t = some (.lst (ws.map V.ref)) ∧ TLs H' ws T0) (fun N hN => ?_) ?_
  · walk_at "wn"
    split
    · refine ⟨tyl p14.at_, szl (by decide), fun q5 H15 n15 => ?_⟩
      have efo15 := n15.k p14.at_
      refine ⟨_, efo15, by simp [sizeLine_eq], fun H16 p16 => ?_⟩
      have nq5 : q5 ≠ fo := fun e => by have := n15.fr; rw [e, p14.at_] at this; cases this
      have b5 : BsX fo H15 (.ref q5) := ⟨q5, W, n + 1, ww, _, rfl, nq5, nW, ⟨n15.at_, n15.k eW14, tW14.same n15.same, (fun m' hm => by
        obtain ⟨m, hm2, rfl⟩ := List.mem_map.mp hm
        exact wid_perm (on m hm2)), by omega, by rw [List.length_map]; omega, wid_over on md hM⟩⟩
      refine hN _ _ ⟨(g14.new n15).put st ffo p16, _, rfl, p16.at_, fun x hx => ?_, by simp, p16.k nt (n15.k et14), (tt14.same n15.same).put p16 efo15⟩
      rcases List.mem_append.mp hx with hx | hx
      · exact ((hx14 x hx).same n15.same).put p16 efo15
      · rw [List.mem_singleton.mp hx]
        exact b5.put p16 efo15
    · exact hN _ _ ⟨g14, _, rfl, p14.at_, hx14, by simp, et14, tt14⟩
  rintro _ H15 ⟨g15, xs, rfl, efo15, hx15, lx, et15, tt15⟩
  have fin : Q (.ref fo) H15 := k fo xs H15 g15 ffo efo15 (fun x hx => (hx15 x hx).of) (by omega)
  walk_at "sn"
  by_cases hn0 : ¬ 0 < n
  · rw [if_neg (by omega)]
    exact fin
  rw [if_pos (by omega)]
  refine cs_val (fun m => .bl (decide (m[n - 1]? = some ((n - 1 : Nat) : Int)))) (sq_l et15) tt15 (by omega) ?_ ?_
  · rintro C m mv H16 N s16 em hm hN
    have lm := lenP (on mv hm)
    obtain ⟨z, hz⟩ : ∃ z, mv[n - 1]? = some z := ⟨_, List.getElem?_eq_getElem (by omega)⟩
    refine ⟨rfl, ?_⟩
    walk_at "wn"
    have hz2 : (mv.map V.int)[(mv.map V.int).length - 1]? = some (.int z) := by rw [List.length_map, lm, List.getElem?_map, hz]; rfl
    refine ⟨_, sq_t em, .int z, atI_m1 hz2, ?_⟩
    have e5 : (decide (z = (n : Int) - 1)) = decide (mv[n - 1]? = some ((n - 1 : Nat) : Int)) := by
      rw [hz, Bool.eq_iff_iff, decide_eq_true_eq, decide_eq_true_eq, Option.some.injEq]
      exact ⟨fun e => by omega, fun e => by omega⟩
    rw [← e5] at hN
    walk_at "wn"
    exact hN
  intro C H16 s16 fC eC
  walk_at "wn"
  refine ⟨C, T0.map fun m => decide (m[n - 1]? = some ((n - 1 : Nat) : Int)), rfl, SqL.of (by rw [eC, List.map_map]; rfl), ?_⟩
  rw [List.all_map]
  refine ⟨_, rfl, ?_⟩
  have efo16 := s16 _ _ efo15
  by_cases hall : (T0.all (id ∘ fun m => decide (m[n - 1]? = some ((n - 1 : Nat) : Int)))) = true
  rotate_left
  · rw [if_neg hall]
    exact k fo xs H16 (g15.same s16) ffo efo16 (fun x hx => ((hx15 x hx).same s16).of) (by omega)
  rw [if_pos hall]
  have hl : ∀ m ∈ T0, m[n - 1]? = some ((n - 1 : Nat) : Int) := fun m hm => of_decide_eq_true (List.all_eq_true.mp hall m hm)
  obtain ⟨n', rfl⟩ : ∃ n', n = n' + 1 := ⟨n - 1, by omega⟩
  rw [Nat.add_sub_cancel] at hl
  refine ⟨tyl efo16, ?_⟩
  refine cs_new (fun m => m.dropLast) (sq_l (s16 _ _ et15)) (tt15.same s16) (by omega) ?_ ?_
  · rintro C2 m mv H17 N s17 em hm hN
    refine ⟨rfl, ?_⟩
    walk_at "wn"
    refine b_slU ⟨_, em, fun v H18 s18 e18 => ?_⟩
    exact hN _ _ s18 (by rw [e18, cutV_m1 (by rw [List.length_map, lenP (on mv hm)]; omega), List.map_dropLast])
  intro R2 rw2 H17 s17 fR2 eR2 tR2
  refine ⟨szl (by decide), fun q6 H18 n18 => ?_⟩
  have s1518 := (s16.trans s17).trans n18.same
  have efo18 := s1518 _ _ efo15
  refine ⟨_, efo18, by rw [sizeLine_eq]; omega, fun H19 p19 => ?_⟩
  have nR2 : R2 ≠ fo := fun e => by rw [e, efo16] at fR2; cases fR2
  have nq6 : q6 ≠ fo := fun e => by have := n18.fr; rw [e, s17 _ _ efo16] at this; cases this
  have on' : OnN n' (T0.map fun m => m.dropLast) := fun m' hm => by
    obtain ⟨m, hm2, rfl⟩ := List.mem_map.mp hm
    exact (nar_perm (on m hm2) (hl m hm2)).2
  have b6 : BsX fo H18 (.ref q6) := ⟨q6, R2, n', rw2, _, rfl, nq6, nR2, ⟨by rw [n18.at_]; congr 3; push_cast; congr 1; omega, n18.k eR2, tR2.same n18.same, on', by omega, by rw [List.length_map]; omega, nar_over on' (by
    rw [List.map_map]
    have : ∀ m ∈ T0, ((fun m => m ++ [(n' : Int)]) ∘ fun m => m.dropLast) m = m := fun m hm => (nar_perm (on m hm) (hl m hm)).1.symm
    rw [List.map_congr_left this, List.map_id'']
    exact fun _ => rfl) md hM⟩⟩
  refine k fo _ H19 ((g15.same s1518).put st ffo p19) ffo p19.at_ (fun x hx => ?_) (by simp; omega)
  rcases List.mem_append.mp hx with hx | hx
  · exact (((hx15 x hx).same s1518).put p19 efo18).of
  · rw [List.mem_singleton.mp hx]
    exact (b6.put p19 efo18).of
end

/-! ## K10C -/

theorem Arena.same {H H' : Hp} {p t u : Addr} {ws us : List Addr} {n : Nat} {T M : List (List Int)} (h : Arena H p t u ws us n T M) (s : Same H H') : Arena H' p t u ws us n T M := ⟨s _ _ h.at_, s _ _ h.told, s _ _ h.made, h.tw.same s, h.tu.same s, h.on, h.md, h.hn, h.hT, h.hM, h.ne⟩
theorem Arena.ge {H H' : Hp} {s l p t u : Addr} {ws us : List Addr} {n : Nat} {T M : List (List Int)} (h : Arena H p t u ws us n T M) (st : Sto s l H) (g : Ge s l H H') : Arena H' p t u ws us n T M :=
  ⟨g.k (st.ne' h.at_ (by intros; simp)) h.at_, g.k (st.neR h.told) h.told, g.k (st.neR h.made) h.made, h.tw.ge st g, h.tu.ge st g, h.on, h.md, h.hn, h.hT, h.hM, h.ne⟩
section
variable {P : Program} {w : World} {K : PySem.W.Frag} {mg : Str → Option Value} {base : Heap}
def sp_law10 (K : PySem.W.Frag) : Sp := fun vs H Q _ => ∃ (a : Addr) (ns : List Int), vs = [.ref a] ∧ SqL K H a (ns.map V.int) ∧ ns.length ≤ 63 ∧ ∀ H', Q (.bl true) H'
abbrev stlaw : Stmt := topS 54
theorem sclaw : FnScope ["script", "store", "most", "drawn", "points", "made", "world", "second", "other", "values", "value", "beside", "alike", "k"] ["script"] (defScope stlaw) := ⟨rfl, rfl, rfl, by decide +kernel, rfl, by decide +kernel, by decide +kernel⟩
theorem oklaw {f : Addr} {fd : FuncData} (F : FnP K "law" stlaw f fd) (T : NoB mg) (CWorld___eq__ : MtC P w K mg base 1 "__eq__" ["self", "other"] (sp_weqV K)) (CWorld___init__ : MkC P w K mg base 9 "World" ["points", "moves"] (sp_World K)) (C_law_alike : Cl P w K mg base 3 "_law_alike" ["world", "other", "due"] (sp_walike K)) (C_law_asked : Cl P w K mg base 11 "_law_asked" ["world", "points", "made", "value"] (sp_asked10 K)) (C_law_beside : Cl P w K mg base 6 "_law_beside" ["store", "points", "told", "made"] sp_beside) (C_law_group : Cl P w K mg base 2 "_law_group" ["points", "told", "most"] sp_group) (C_law_member : Cl P w K mg base 5 "_law_member" ["store", "points", "made"] sp_member) (C_law_same : Cl P w K mg base 2 "_law_same" ["actual", "due"] sp_same) (C_law_some_world : Cl P w K mg base 6 "_law_some_world" ["store", "most"] sp_somew) (C_law_store : Cl P w K mg base 1 "_law_store" ["script"] (sp_store K)) (C_law_take : Cl P w K mg base 2 "_law_take" ["store", "many"] sp_take) (C_law_value : Cl P w K mg base 6 "_law_value" ["store", "deep"] sp_value) (C_law_walks : Cl P w K mg base 5 "_law_walks" ["world", "made"] (sp_walks K)) (WC : WCls K mg): FnG P w K mg base CX0 13 f fd ["script"] (sp_law10 K) := by
  refine fnG_ofF F sclaw (fun vs H Q E h => ?_) (fun f cdv A outer sh H vs Q E hgd hr h => ?_)
  · obtain ⟨_, _, rfl, _⟩ := h; rfl
  obtain ⟨a, cells, rfl, hs, hcl, k⟩ := h
  refine ⟨_, (pss_cons (ps_set (i := 1) sclaw.nd rfl (Or.inr rfl) (pe_cl C_law_store hr (by rfl) (pa_cons (pv 0) pa_nil)))
    (pss_cons (ps_set (i := 2) sclaw.nd rfl (Or.inl rfl) pe_int)
    (pss_cons (ps_if (pt_cmpR op_eq (pe_cl C_law_take hr (by rfl) (pa_cons (pv 1) (pa_cons pe_int pa_nil))) pe_int (nomark _)) (pss_one (ps_set (i := 2) sclaw.nd rfl (Or.inl rfl) pe_int)) pss_nil)
    (pss_cons (ps_set (i := 3) sclaw.nd rfl (Or.inl rfl) (pe_cl C_law_some_world hr (by rfl) (pa_cons (pv 1) (pa_cons (pv 2) pa_nil))))
    (pss_cons (ps_set (i := 4) sclaw.nd rfl (Or.inr rfl) (pe_ix ix1 (pv 3) pe_int (fun _ _ => rfl)))
    (pss_cons (ps_set (i := 5) sclaw.nd rfl (Or.inr rfl) (pe_ix ix1 (pv 3) pe_int (fun _ _ => rfl)))
    (pss_cons (ps_set (i := 6) sclaw.nd rfl (Or.inl rfl) (pe_mkC CWorld___init__ takesN0 hr (by rfl) (pa_cons (pv 4) (pa_cons (pe_ix ix1 (pv 3) pe_int (fun _ _ => rfl)) pa_nil))))
    (pss_cons (ps_if (PW.pt (pw_or (pt_not (pt_val (pe_cl C_law_walks hr (by rfl) (pa_cons (pv 6) (pa_cons (pv 5) pa_nil))))) (pw_or1 (pt_not (pt_val (pe_cl C_law_alike hr (by rfl) (pa_cons (pv 6) (pa_cons (pv 6) (pa_cons pe_bl pa_nil))))))))) (pss_one (ps_ret pe_bl)) pss_nil)
    (pss_cons (ps_set (i := 7) sclaw.nd rfl (Or.inl rfl) (pe_cl C_law_some_world hr (by rfl) (pa_cons (pv 1) (pa_cons pe_int pa_nil))))
    (pss_cons (ps_set (i := 8) sclaw.nd rfl (Or.inl rfl) (pe_mkC CWorld___init__ takesN0 hr (by rfl) (pa_cons (pe_ix ix1 (pv 7) pe_int (fun _ _ => rfl)) (pa_cons (pe_ix ix1 (pv 7) pe_int (fun _ _ => rfl)) pa_nil))))
    (pss_cons (ps_set (i := 9) sclaw.nd rfl (Or.inl rfl) (pe_op op_cat (pe_lc (own := [("k", 13)]) (g := gName 13) (tt := tYes) rfl sclaw.nd (pi_range1 (by rfl) T.no_range (pa_cons pe_int pa_nil)) (blkOk_by (own := [("k", 13)]) (N := ["script", "store", "most", "drawn", "points", "made", "world", "second", "other", "values", "value", "beside", "alike", "k"]) (sc := defScope stlaw) (by decide +kernel)) (fun _ _ _ _ _ => (pg_name (i := 13) sclaw.nd rfl (Or.inl rfl))) (fun _ _ _ _ _ => pts_nil) (fun _ _ _ _ _ => (pe_cl C_law_member hr (by rfl) (pa_cons (pv 1) (pa_cons (pv 4) (pa_cons (pv 5) pa_nil)))))) (pe_lst (pa_cons (pe_ix ix1 (pv 5) (pe_un un_neg pe_int) (fun _ _ => rfl)) (pa_cons (pe_tupRg rfl (by rfl) T.no_tuple (prg_1 (by rfl) T.no_range (pv 4))) pa_nil)))))
    (pss_cons (ps_for PassesOwn.never rfl (pi_sq (pe_op op_cat (pe_op op_cat (pv 9) (pe_lst (pa_cons (pe_cl C_law_value hr (by rfl) (pa_cons (pv 1) (pa_cons (pe_op op_add pe_int (pe_cl C_law_take hr (by rfl) (pa_cons (pv 1) (pa_cons pe_int pa_nil)))) pa_nil))) (pa_cons (pe_ix ix1 (pe_ix ix1 (pv 7) pe_int (fun _ _ => rfl)) (pe_un un_neg pe_int) (fun _ _ => rfl)) pa_nil)))) (pe_slice sl_list (pv 9) po_none (po_some pe_int)))) (pg_name (i := 10) sclaw.nd rfl (Or.inl rfl)) (pss_one (ps_if (PW.pt (pw_or (pt_not (pt_val (pe_cl C_law_asked hr (by rfl) (pa_cons (pv 6) (pa_cons (pv 4) (pa_cons (pv 5) (pa_cons (pv 10) pa_nil))))))) (pw_or1 (pt_not (pt_val (pe_cl C_law_asked hr (by rfl) (pa_cons (pv 8) (pa_cons (pe_ix ix1 (pv 7) pe_int (fun _ _ => rfl)) (pa_cons (pe_ix ix1 (pv 7) pe_int (fun _ _ => rfl)) (pa_cons (pv 10) pa_nil)))))))))) (pss_one (ps_ret pe_bl)) pss_nil)))
    (pss_cons (ps_for PassesOwn.never rfl (pi_sq (pe_op op_cat (pe_cl C_law_beside hr (by rfl) (pa_cons (pv 1) (pa_cons (pv 4) (pa_cons (pe_ix ix1 (pv 3) pe_int (fun _ _ => rfl)) (pa_cons (pv 5) pa_nil))))) (pe_lst (pa_cons (pe_slice sl_list (pv 7) po_none (po_some pe_int)) (pa_cons (pe_slice sl_list (pv 3) po_none (po_some pe_int)) pa_nil))))) (pg_name (i := 11) sclaw.nd rfl (Or.inl rfl)) (pss_cons (ps_set (i := 12) sclaw.nd rfl (Or.inl rfl) (pe_and (pe_cmpR op_eq (pe_ix ix1 (pv 11) pe_int (fun _ _ => rfl)) (pv 4) (nomark _)) (pe_one (pe_cmpR (op_eqD hr.units) (pe_cl C_law_group hr (by rfl) (pa_cons (pv 4) (pa_cons (pe_ix ix1 (pv 11) pe_int (fun _ _ => rfl)) (pa_cons (pe_callB len1 (by rfl) T.no_len (by decide +kernel) (pa_cons (pv 5) pa_nil)) pa_nil)))) (pv 5) (nomark _)))))
    (pss_one (ps_if (pt_not (pt_val (pe_cl C_law_alike hr (by rfl) (pa_cons (pv 6) (pa_cons (pe_mkC CWorld___init__ takesN0 hr (by rfl) (pa_cons (pe_ix ix1 (pv 11) pe_int (fun _ _ => rfl)) (pa_cons (pe_ix ix1 (pv 11) pe_int (fun _ _ => rfl)) pa_nil))) (pa_cons (pv 12) pa_nil)))))) (pss_one (ps_ret pe_bl)) pss_nil))))
    (pss_cons (ps_for PassesOwn.never rfl (pi_sq (pe_lst (pa_cons (pv 5) (pa_cons (pe_callTy tup1 (by rfl) T.no_tuple (by decide +kernel) (pa_cons (pv 5) pa_nil)) (pa_cons (pv 4) (pa_cons pe_str (pa_cons pe_non pa_nil))))))) (pg_name (i := 10) sclaw.nd rfl (Or.inl rfl)) (pss_one (ps_if (PW.pt (pw_or (pt_not (pt_val (pe_cl C_law_same hr (by rfl) (pa_cons (pe_cmpR (op_eqV CWorld___eq__ hr) (pv 6) (pv 10) (nomark _)) (pa_cons pe_bl pa_nil))))) (pw_or1 (pt_not (pt_val (pe_cl C_law_same hr (by rfl) (pa_cons (pe_cmpR (op_neV WC CWorld___eq__ hr) (pv 6) (pv 10) (nomark _)) (pa_cons pe_bl pa_nil)))))))) (pss_one (ps_ret pe_bl)) pss_nil)))
    (pss_one (ps_ret (pe_and (pe_cl C_law_walks hr (by rfl) (pa_cons (pv 8) (pa_cons (pe_ix ix1 (pv 7) pe_int (fun _ _ => rfl)) pa_nil))) (pe_one (pe_cl C_law_walks hr (by rfl) (pa_cons (pv 6) (pa_cons (pv 5) pa_nil))))))))))))))))))))), ?_⟩
  walk_at "sn"
  refine ⟨a, cells, rfl, hs, by omega, fun s l H1 s1 hs1 st => ?_⟩
  walk_at "sn"
  refine seq_join (fun σ H' => Ge s l H1 H' ∧ ∃ m : Nat, σ = [some (.ref a), some (.ref s), some (.int m), none, none, none, none, none, none, none, none, none, none, none] ∧ 1 ≤ m ∧ m ≤ 400) (fun N hN => ?_) ?_
  · walk_at "wn"
    refine ⟨s, l, _, rfl, by decide, st, fun d H2 g2 d0 d1 _ => ?_⟩
    walk_at "wn"
    split
    · exact hN _ _ ⟨g2, 400, rfl, by decide, by decide⟩
    · exact hN _ _ ⟨g2, 24, rfl, by decide, by decide⟩
  rintro _ H2 ⟨g2, m, rfl, hm1, hm2⟩
  walk_at "sn"
  refine ⟨s, l, m, rfl, hm1, hm2, g2.st, fun p t u ws us n T0 M H3 g3 fp ft fu hT ar => ?_⟩
  have g13 := g2.trans g3
  have hn := ar.hn
  have hM := ar.hM
  walk_at "sn"
  refine ⟨_, sq_l ar.at_, ?_⟩
  walk_at "wn"
  walk_at "sn"
  refine ⟨_, sq_l ar.at_, .ref u, atI_2, ?_⟩
  walk_at "sn"
  refine ⟨_, sq_l ar.at_, .ref t, atI_1, ?_⟩
  refine world_ok hn (sq_l ar.told) ar.tw ar.on ar.hT (fun o => o.not ar.md hM) fun M' x q H4 s4 fx fq w => ?_
  obtain rfl : M = M' := ar.md.uniq w.md
  have ar4 := ar.same s4
  walk_at "sn"
  refine ⟨x, q, u, n, T0, M, us, rfl, w, ar4.made, ar4.tu, fun H5 s5 => ⟨_, rfl, ?_⟩⟩
  rw [if_neg (by decide)]
  refine ⟨x, q, x, q, n, n, T0, M, T0, M, true, rfl, w.same s5, w.same s5, by simp, fun H6 s6 => ⟨_, rfl, ?_⟩⟩
  rw [if_neg (by decide)]
  have s46 := s5.trans s6
  have w6 := w.same s46
  have ar6 := ar4.same s46
  have g16 := (g13.same s4).same s46
  walk_at "sn"
  refine ⟨s, l, 24, rfl, by decide, by decide, g16.st, fun p2 t2 u2 ws2 us2 n2 T2 M2 H7 g7 fp2 ft2 fu2 hT2 ar2 => ?_⟩
  have g17 := g16.trans g7
  have w7 := w6.ge g16.st g7
  have ar7 := ar6.ge g16.st g7
  walk_at "sn"
  refine ⟨_, sq_l ar2.at_, .int n2, atI_0, _, sq_l ar2.at_, .ref t2, atI_1, ?_⟩
  refine world_ok ar2.hn (sq_l ar2.told) ar2.tw ar2.on ar2.hT (fun o => o.not ar2.md ar2.hM) fun M' y r H8 s8 fy fr w2 => ?_
  obtain rfl : M2 = M' := ar2.md.uniq w2.md
  have g18 := g17.same s8
  have w8 := w7.same s8
  have ar8 := ar7.same s8
  have ar28 := ar2.same s8
  have st8 := g18.st
  have one : rng n ∈ M := (ar.md.mem _).mpr .still
  have one2 : rng n2 ∈ M2 := (ar2.md.mem _).mpr .still
  have M0 : M ≠ [] := fun e => by rw [e] at one; cases one
  walk_at "sn"
  refine ⟨by decide, by decide, ?_⟩
  refine cr_by (fun C i acc H' => Ge s l H8 H' ∧ H8 C = none ∧ (∀ v ∈ acc, Db [C, s] H' 100 v) ∧ acc.length = i) (fun C H0 n0 => ⟨(Ge.refl st8).new n0, n0.fr, fun v hv => (nomatch hv), rfl⟩) ?_ ?_
  · rintro C i acc H9 N hC hi hacc ⟨g9, fC, hv9, hl⟩ hN
    refine ⟨rfl, ?_⟩
    have ar9 := ar8.ge st8 g9
    walk_at "wn"
    refine ⟨s, l, n, u, us, M, [C, s], rfl, g9.st, g9.st.neR ar9.made, hn, ar9.made, ar9.tu, w.onM, M0, hM, (LvK.sto g9.st).cons hacc, by simp, fun v H10 g10 hv => ?_⟩
    refine cst (g10.k (st8.ne fC).1 hacc) (by rw [hl, sizeLine_eq]; omega) fun H11 p11 => hN _ _ p11.at_ ⟨(g9.trans g10).put st8 fC p11, fC, fun z hz => ?_, by simp [hl]⟩
    rcases List.mem_append.mp hz with hz | hz
    · exact ((hv9 z hz).ge g10 (by simp)).put p11 (by simp)
    · rw [List.mem_singleton.mp hz]
      exact hv.put p11 (by simp)
  intro C acc H9 fC hacc ⟨g9, _, hv9, hl⟩
  have ar9 := ar8.ge st8 g9
  have ar29 := ar28.ge st8 g9
  have hv9 : ∀ v ∈ acc, Db [s] H9 100 v := fun v hv => (hv9 v hv).sub (by simp)
  have st9 := g9.st
  have usl := ar9.tu.len
  obtain ⟨lv, hlv⟩ : ∃ v, (us.map V.ref)[(us.map V.ref).length - 1]? = some v := ⟨_, List.getElem?_eq_getElem (by rw [List.length_map, usl]; have := List.length_pos_iff.mpr M0; omega)⟩
  obtain ⟨la, lns, rfl, _, hlm, hla⟩ := ar9.tu.get hlv
  have hln := lenP (w.onM lns (List.mem_of_getElem? hlm))
  refine ⟨_, sq_l ar9.made, .ref la, atI_m1 hlv, rg_ok (by omega), fun rg H10 n10 => ⟨szl (by decide), fun b2 H11 n11 => ?_⟩⟩
  have erg := n10.at_
  rw [rgV_rng (by omega), Int.toNat_natCast] at erg
  walk_at "wn"
  have s911 := n10.same.trans n11.same
  refine ⟨_, s911 _ _ hacc, _, n11.at_, by simp [hl, sizeLine_eq], fun vl H12 n12 => ?_⟩
  have s912 := s911.trans n12.same
  have g12 := (g9.new n10).new n11 |>.new n12
  have st12 := g12.st
  have d12 : ∀ v ∈ acc ++ [V.ref la, V.ref rg], Db [s] H12 100 v := by
    intro v hv
    rcases List.mem_append.mp hv with hv | hv
    · exact (hv9 v hv).same s912
    · simp only [List.mem_cons, List.not_mem_nil, or_false] at hv
      rcases hv with rfl | rfl
      · have e := s912 _ _ hla
        exact ⟨_, _, .tup (by simpa using st12.net e) e (DwAll.ints _), by omega⟩
      · have e := n12.k (n11.k erg)
        exact ⟨_, _, .tup (by simpa using st12.net e) e (DwAll.ints _), by rw [rng_len]; omega⟩
  have ar12 := ar9.same s912
  have ar212 := ar29.same s912
  walk_at "sn"
  have vls : vl ≠ s := (st9.ne ((n10.same.trans n11.same).free n12.fr)).1
  refine ⟨s, l, _, rfl, by decide, st12, fun d H13 g13 d0 d1 _ => ?_⟩
  have d6 := d1 (by decide)
  walk_at "wn"
  have lvs : Lv [s] H13 := fun z hz => by
    obtain ⟨ns, i1, i2, i3, i4, i5, i6, h1, _⟩ := g13.st
    rw [List.mem_singleton.mp hz, h1]
    exact fun e => by cases e
  refine ⟨s, l, [s], _, rfl, g13.st, lvs, by simp, by omega, by omega, fun v H14 g14 hv => ?_⟩
  have g1214 := g13.trans g14
  have ar14 := ar12.ge st12 g1214
  have ar214 := ar212.ge st12 g1214
  have us2l := ar214.tu.len
  have M20 : M2 ≠ [] := fun e => by rw [e] at one2; cases one2
  obtain ⟨lv2, hlv2⟩ : ∃ v, (us2.map V.ref)[(us2.map V.ref).length - 1]? = some v := ⟨_, List.getElem?_eq_getElem (by rw [List.length_map, us2l]; have := List.length_pos_iff.mpr M20; omega)⟩
  obtain ⟨la2, lns2, rfl, _, hlm2, hla2⟩ := ar214.tu.get hlv2
  have hln2 := lenP (w2.onM lns2 (List.mem_of_getElem? hlm2))
  have h212 := ar2.hn
  refine ⟨_, sq_l ar214.at_, .ref u2, atI_2, ?_⟩
  walk_at "wn"
  refine ⟨_, sq_l ar214.made, .ref la2, atI_m1 hlv2, szl (by decide), fun b3 H15 n15 => ?_⟩
  have evl := g1214.k vls n12.at_
  refine ⟨_, n15.k evl, _, n15.at_, by simp [hl, sizeLine_eq], fun c1 H16 n16 => ?_⟩
  refine ⟨_, SqL.of (n16.k (n15.k evl)), fun c2 H17 n17 => ?_⟩
  refine ⟨_, n17.k n16.at_, _, n17.at_, by have := cutV_le10 (acc ++ [V.ref la, V.ref rg]) none (some 2); simp [hl, sizeLine_eq] at this ⊢; omega, fun vs H18 n18 => ?_⟩
  have s1418 := ((n15.same.trans n16.same).trans n17.same).trans n18.same
  have g1218 := g1214.same s1418
  have st18 := g1218.st
  have ar18 := ar14.same s1418
  have ar218 := ar214.same s1418
  have d14 : ∀ z ∈ acc ++ [V.ref la, V.ref rg], Db [s] H18 150 z := fun z hz => (((d12 z hz).ge g1214 (by simp)).same s1418).le (by decide)
  have dall : ∀ z ∈ (acc ++ [V.ref la, V.ref rg]) ++ [v, V.ref la2] ++ cutV (acc ++ [V.ref la, V.ref rg]) none (some 2), Db [s] H18 150 z := by
    intro z hz
    rcases List.mem_append.mp hz with hz | hz
    · rcases List.mem_append.mp hz with hz | hz
      · exact d14 z hz
      · simp only [List.mem_cons, List.not_mem_nil, or_false] at hz
        rcases hz with rfl | rfl
        · exact hv.same s1418
        · have e := s1418 _ _ hla2
          exact ⟨_, _, .tup (by simpa using st18.net e) e (DwAll.ints _), by omega⟩
    · exact d14 z (cutV_in10 hz)
  have lv18 : Lv [s] H18 := fun z hz => by
    obtain ⟨ns, i1, i2, i3, i4, i5, i6, h1, _⟩ := st18
    rw [List.mem_singleton.mp hz, h1]
    exact fun e => by cases e
  have w18 := (w8.ge st8 g9).same s912 |>.ge st12 g1218
  have w218 := (w2.ge st8 g9).same s912 |>.ge st12 g1218
  refine fs_by (sq_l n18.at_) (fun i σ H' => Same H18 H' ∧ ∃ v10, σ = [some (.ref a), some (.ref s), some (.int m), some (.ref p), some (.int n), some (.ref u), some (.ref x), some (.ref p2), some (.ref y), some (.ref vl), v10, none, none, none]) ⟨Same.refl _, _, rfl⟩ (fun i σ' H' ⟨s, _⟩ o ho => s _ _ ho) ?_ ?_
  · rintro i z _ H19 N hN hz ⟨s19, v10, rfl⟩
    obtain ⟨dz, nz, hd, hnz⟩ := dall z (List.mem_of_getElem? hz)
    have ar19 := ar18.same s19
    have ar219 := ar218.same s19
    walk_at "wn"
    refine ⟨x, q, u, n, T0, M, us, z, [s], dz, nz, rfl, w18.same s19, ar19.made, ar19.tu, lv18.same s19, hd.same s19, by omega, fun H20 s20 => ⟨_, rfl, ?_⟩⟩
    rw [if_neg (by decide)]
    have s1820 := s19.trans s20
    have ar220 := ar219.same s20
    refine ⟨_, sq_l ar220.at_, .int n2, atI_0, _, sq_l ar220.at_, .ref u2, atI_2, ?_⟩
    refine ⟨y, r, u2, n2, T2, M2, us2, z, [s], dz, nz, rfl, w218.same s1820, ar220.made, ar220.tu, lv18.same s1820, hd.same s1820, by omega, fun H21 s21 => ⟨_, rfl, ?_⟩⟩
    rw [if_neg (by decide)]
    exact hN _ _ ⟨s1820.trans s21, _, rfl⟩
  rintro _ H19 ⟨s19, v10, rfl⟩
  have g1219 := g1218.same s19
  have ar19 := ar18.same s19
  have ar219 := ar218.same s19
  have w19 := w18.same s19
  have w219 := w218.same s19
  have st19 := g1219.st
  walk_at "sn"
  refine ⟨_, sq_l ar19.at_, .ref t, atI_1, ?_⟩
  refine ⟨s, l, n, t, u, ws, us, T0, M, rfl, st19, hn, st19.neR ar19.told, st19.neR ar19.made, ar19.told, ar19.tw, ar19.made, ar19.tu, ar19.on, ar19.md, hM, hT, fun fo xs H20 g20 ffo efo hxs lxs => ?_⟩
  have ar20 := ar19.ge st19 g20
  have ar220 := ar219.ge st19 g20
  have w20 := w19.ge st19 g20
  have w220 := w219.ge st19 g20
  refine ⟨_, SqL.of ar220.at_, fun q1 H21 n21 => ⟨_, SqL.of (n21.k ar20.at_), fun q2 H22 n22 => ⟨szl (by decide), fun q3 H23 n23 => ?_⟩⟩⟩
  have s2023 := (n21.same.trans n22.same).trans n23.same
  have ar23 := ar20.same s2023
  have ar223 := ar220.same s2023
  have eq1 := n23.k (n22.k n21.at_)
  have eq2 := n23.k n22.at_
  rw [show (2 : Int) = ((2 : Nat) : Int) from rfl, cutV_take] at eq1 eq2
  walk_at "wn"
  refine ⟨_, s2023 _ _ efo, _, n23.at_, by simp [sizeLine_eq]; omega, fun al H24 n24 => ?_⟩
  have s2024 := s2023.trans n24.same
  have ar24 := ar23.same n24.same
  have ar224 := ar223.same n24.same
  have w24 := w20.same s2024
  have w224 := w220.same s2024
  have hall : ∀ z ∈ xs ++ [V.ref q1, V.ref q2], BsE H24 z := by
    intro z hz
    rcases List.mem_append.mp hz with hz | hz
    · exact (hxs z hz).same s2024
    · simp only [List.mem_cons, List.not_mem_nil, or_false] at hz
      rcases hz with rfl | rfl
      · exact ⟨q1, t2, n2, ws2, T2, rfl, n24.k eq1, ar224.told, ar224.tw, ar224.on, h212, ar224.hT, fun o => o.not ar2.md ar2.hM⟩
      · exact ⟨q2, t, n, ws, T0, rfl, n24.k eq2, ar24.told, ar24.tw, ar24.on, hn, ar24.hT, fun o => o.not ar.md hM⟩
  have ml : 0 < M.length := List.length_pos_iff.mpr M0
  refine fs_by (sq_l n24.at_) (fun i σ H' => Same H24 H' ∧ ∃ v11 v12, σ = [some (.ref a), some (.ref s), some (.int m), some (.ref p), some (.int n), some (.ref u), some (.ref x), some (.ref p2), some (.ref y), some (.ref vl), v10, v11, v12, none]) ⟨Same.refl _, _, _, rfl⟩ (fun i σ' H' ⟨s, _⟩ o ho => s _ _ ho) ?_ ?_
  · rintro i z _ H25 N hN hz ⟨s25, v11, v12, rfl⟩
    obtain ⟨rz, tz, nz, wz, Tz, rfl, bz0⟩ := hall z (List.mem_of_getElem? hz)
    have bz := bz0.same s25
    have ar25 := ar24.same s25
    refine seq_join (fun σ H' => Same H25 H' ∧ ∃ b : Bool, σ = [some (.ref a), some (.ref s), some (.int m), some (.ref p), some (.int n), some (.ref u), some (.ref x), some (.ref p2), some (.ref y), some (.ref vl), v10, some (.ref rz), some (.bl b), none] ∧ ∀ M', Made nz Tz M' → b = decide (n = nz ∧ M = M')) (fun N2 hN2 => ?_) ?_
    · walk_at "wn"
      refine ⟨_, sq_l bz.at_, .int nz, atI_0, ?_⟩
      walk_at "wn"
      by_cases hnz : (nz : Int) = (n : Int)
      · rw [if_pos hnz]
        obtain rfl : nz = n := by omega
        refine ⟨_, sq_l bz.at_, .ref tz, atI_1, _, sq_l ar25.made, ?_⟩
        rw [List.length_map, ar25.tu.len]
        refine ⟨nz, M.length, tz, wz, Tz, rfl, hn, ml, by omega, sq_l bz.hT, bz.tl, bz.on, fun ho H26 s26 => ?_, fun Mz uz pz H26 s26 _ epz tpz mdz hmz => ?_⟩
        · refine ⟨_, _, .non, tls_dp (s26 _ _ ar25.made) (ar25.tu.same s26) hn w.onM, by decide +kernel, shaped_encs M, ?_⟩
          refine hN2 _ _ ⟨s26, false, rfl, fun M' mdz => ?_⟩
          rw [decide_eq_false]
          rintro ⟨_, e⟩
          subst e
          exact ho.not mdz (Nat.le_refl _)
        · refine ⟨_, _, tls_dp epz tpz hn (fun g hg => ((mdz.mem g).mp hg).perm bz.on), tls_dp (s26 _ _ ar25.made) (ar25.tu.same s26) hn w.onM, shaped_encs Mz, shaped_encs M, ?_⟩
          rw [show PyData.eqv (.list (Mz.map encT)) (.list (M.map encT)) = decide (Mz = M) from eqv_encs Mz M]
          refine hN2 _ _ ⟨s26, _, rfl, fun M' mdz' => ?_⟩
          cases mdz.uniq mdz'
          rw [Bool.eq_iff_iff, decide_eq_true_eq, decide_eq_true_eq]
          exact ⟨fun e => ⟨rfl, e.symm⟩, fun e => e.2.symm⟩
      · rw [if_neg hnz]
        refine hN2 _ _ ⟨Same.refl _, false, rfl, fun M' _ => ?_⟩
        rw [decide_eq_false]
        rintro ⟨e, _⟩
        exact hnz (by omega)
    · rintro _ H26 ⟨s26, b, rfl, hb⟩
      have bz2 := bz.same s26
      have s2426 := s25.trans s26
      walk_at "wn"
      refine ⟨_, sq_l bz2.at_, .int nz, atI_0, _, sq_l bz2.at_, .ref tz, atI_1, ?_⟩
      refine world_ok bz2.n12 (sq_l bz2.hT) bz2.tl bz2.on bz2.t8 bz2.ov fun Mz xz qz H27 s27 fxz fqz wz' => ?_
      refine ⟨x, q, xz, qz, n, nz, T0, M, Tz, Mz, b, rfl, (w24.same s2426).same s27, wz', hb _ wz'.md, fun H28 s28 => ⟨_, rfl, ?_⟩⟩
      rw [if_neg (by decide)]
      exact hN _ _ ⟨(s2426.trans s27).trans s28, _, _, rfl⟩
  rintro _ H25 ⟨s25, v11, v12, rfl⟩
  have ar25 := ar24.same s25
  have ar225 := ar224.same s25
  walk_at "sn"
  refine ⟨_, ar25.made, fun tm H26 n26 => ⟨szl (by decide), fun vv H27 n27 => ?_⟩⟩
  have s2427 := (s25.trans n26.same).trans n27.same
  have etm := n27.k n26.at_
  have ar27 := ar24.same s2427
  have ar227 := ar224.same s2427
  have hty : ∀ z ∈ [V.ref u, V.ref tm, V.int n, V.str "world", V.non], ∃ tt, tt ∈ othT ∧ ∀ H', Same H27 H' → TyX K H' z (.type tt) := by
    intro z hz
    simp only [List.mem_cons, List.not_mem_nil, or_false] at hz
    rcases hz with rfl | rfl | rfl | rfl | rfl
    · exact ⟨"list", by simp [othT], fun H' s => .base (.lst (s _ _ ar27.made))⟩
    · exact ⟨"tuple", by simp [othT], fun H' s => .base (.tup (s _ _ etm))⟩
    · exact ⟨"int", by simp [othT], fun H' s => .base (.int _)⟩
    · exact ⟨"str", by simp [othT], fun H' s => .base (.str _)⟩
    · exact ⟨"NoneType", by simp [othT], fun H' s => .base .non⟩
  have wnot : ∀ {z : V} {H' : Hp} {R : Bool → Hp → Prop}, Same H27 H' → z ∈ [V.ref u, V.ref tm, V.int n, V.str "world", V.non] → R false H' →
      ∃ dx fs, H' x = some (.ins (wC K) dx fs) ∧ OthV K H' z ∧ sp_weqV K [.ref x, z] H' (fun v H2 => ∃ r, v = .bl r ∧ R r H2) E0 := by
    intro z H' R s' hz hR
    have w' := (w24.same s2427).same s'
    obtain ⟨dx, fs, hx⟩ := w'.at
    obtain ⟨tt, h1, h2⟩ := hty z hz
    exact ⟨dx, fs, hx, oth_of h1 (h2 H' s'), x, q, z, n, T0, M, rfl, w', .inr ⟨tt, h1, h2 H' s', _, rfl, hR⟩⟩
  dsimp only
  refine fs_by (sq_l n27.at_) (fun i σ H' => Same H27 H' ∧ ∃ v10, σ = [some (.ref a), some (.ref s), some (.int m), some (.ref p), some (.int n), some (.ref u), some (.ref x), some (.ref p2), some (.ref y), some (.ref vl), v10, v11, v12, none]) ⟨Same.refl _, _, rfl⟩ (fun i σ' H' ⟨s, _⟩ o ho => s _ _ ho) ?_ ?_
  · rintro i z _ H28 N hN hz ⟨s28, v10', rfl⟩
    have hz := List.mem_of_getElem? hz
    walk_at "wn"
    refine wnot s28 hz ?_
    refine ⟨.bl false, .bl false, _, _, _, rfl, .lf (.bl _), .lf (.bl _), by decide, fun H29 s29 => ⟨_, rfl, ?_⟩⟩
    rw [if_neg (by decide)]
    refine wnot (s28.trans s29) hz ?_
    refine ⟨.bl (!false), .bl true, _, _, _, rfl, .lf (.bl _), .lf (.bl _), by decide, fun H30 s30 => ⟨_, rfl, ?_⟩⟩
    rw [if_neg (by decide)]
    exact hN _ _ ⟨(s28.trans s29).trans s30, _, rfl⟩
  rintro _ H28 ⟨s28, v10', rfl⟩
  have ar28' := ar27.same s28
  have ar228 := ar227.same s28
  walk_at "wn"
  refine ⟨_, sq_l ar228.at_, .ref u2, atI_2, ?_⟩
  refine ⟨y, r, u2, n2, T2, M2, us2, rfl, (w224.same s2427).same s28, ar228.made, ar228.tu, fun H29 s29 => ⟨_, rfl, ?_⟩⟩
  rw [if_pos rfl]
  exact ⟨x, q, u, n, T0, M, us, rfl, ((w24.same s2427).same s28).same s29, (ar28'.same s29).made, (ar28'.same s29).tu, fun H30 _ => k H30⟩
end

/-! ## K10D -/
set_option maxHeartbeats 4000000 in
theorem hfacts {P : Program} {w : World} {K : PySem.W.Frag} {h : Heap} {mg : Str → Option Value} {f : Addr} (hfl : P.main.file = hfile) (htop : (P.main.scope.names.lookup ("super" : Str)).isSome = false) (X : K.In h) (G : h.Ns mainGlobals mg) (hf : mg ("law" : Str) = some (.ref f)) (ce : SaysW hfa hfn hfile hdi hks hen hmt K) :
    ∃ fd : FuncData, (∀ (s : Shared) (v : Value), BindsTo s fd ⟨[v], []⟩ [("script", v)]) ∧ ∀ base : Heap, K.In base → base.Ns mainGlobals mg → FnG P w K mg base CX0 13 f fd ["script"] (sp_law10 K) := by
  have c := ce.d
  have D_shown : Df K mg "shown" stshown := by
    obtain ⟨fd, F⟩ := c.def_ 0 (d := d_shown) rfl
    exact ⟨_, fd, F, He.glo_ok X G (c.fact 0 (f := .glo "shown") rfl)⟩
  have D_is_whole_moves : DfA K mg "is_whole_moves" "is_whole" stis_whole_moves := by
    obtain ⟨fd, F⟩ := c.def_ 1 (d := d_is_whole_moves) rfl
    exact ⟨_, fd, F, He.glo_ok X G (c.fact 1 (f := .glo "is_whole_moves") rfl)⟩
  have D_is_move : Df K mg "is_move" stis_move := by
    obtain ⟨fd, F⟩ := c.def_ 2 (d := d_is_move) rfl
    exact ⟨_, fd, F, He.glo_ok X G (c.fact 2 (f := .glo "is_move") rfl)⟩
  have D_check_number : Df K mg "check_number" stcheck_number := by
    obtain ⟨fd, F⟩ := c.def_ 3 (d := d_check_number) rfl
    exact ⟨_, fd, F, He.glo_ok X G (c.fact 3 (f := .glo "check_number") rfl)⟩
  have D_check_points : Df K mg "check_points" stcheck_points := by
    obtain ⟨fd, F⟩ := c.def_ 4 (d := d_check_points) rfl
    exact ⟨_, fd, F, He.glo_ok X G (c.fact 4 (f := .glo "check_points") rfl)⟩
  have D_still_move : Df K mg "still_move" ststill_move := by
    obtain ⟨fd, F⟩ := c.def_ 5 (d := d_still_move) rfl
    exact ⟨_, fd, F, He.glo_ok X G (c.fact 5 (f := .glo "still_move") rfl)⟩
  have D_is_whole_worlds : DfA K mg "is_whole_worlds" "is_whole" stis_whole_worlds := by
    obtain ⟨fd, F⟩ := c.def_ 6 (d := d_is_whole_worlds) rfl
    exact ⟨_, fd, F, He.glo_ok X G (c.fact 6 (f := .glo "is_whole_worlds") rfl)⟩
  have D_is_move_on : Df K mg "is_move_on" stis_move_on := by
    obtain ⟨fd, F⟩ := c.def_ 7 (d := d_is_move_on) rfl
    exact ⟨_, fd, F, He.glo_ok X G (c.fact 7 (f := .glo "is_move_on") rfl)⟩
  have D_need_points : Df K mg "need_points" stneed_points := by
    obtain ⟨fd, F⟩ := c.def_ 8 (d := d_need_points) rfl
    exact ⟨_, fd, F, He.glo_ok X G (c.fact 8 (f := .glo "need_points") rfl)⟩
  have D_need_moves : Df K mg "need_moves" stneed_moves := by
    obtain ⟨fd, F⟩ := c.def_ 9 (d := d_need_moves) rfl
    exact ⟨_, fd, F, He.glo_ok X G (c.fact 9 (f := .glo "need_moves") rfl)⟩
  have D_moved_row : Df K mg "moved_row" stmoved_row := by
    obtain ⟨fd, F⟩ := c.def_ 10 (d := d_moved_row) rfl
    exact ⟨_, fd, F, He.glo_ok X G (c.fact 10 (f := .glo "moved_row") rfl)⟩
  have D_generated : Df K mg "generated" stgenerated := by
    obtain ⟨fd, F⟩ := c.def_ 11 (d := d_generated) rfl
    exact ⟨_, fd, F, He.glo_ok X G (c.fact 11 (f := .glo "generated") rfl)⟩
  have D_law_store : Df K mg "_law_store" st_law_store := by
    obtain ⟨fd, F⟩ := c.def_ 12 (d := d_law_store) rfl
    exact ⟨_, fd, F, He.glo_ok X G (c.fact 12 (f := .glo "_law_store") rfl)⟩
  have D_law_mixed : Df K mg "_law_mixed" st_law_mixed := by
    obtain ⟨fd, F⟩ := c.def_ 13 (d := d_law_mixed) rfl
    exact ⟨_, fd, F, He.glo_ok X G (c.fact 13 (f := .glo "_law_mixed") rfl)⟩
  have D_law_take : Df K mg "_law_take" st_law_take := by
    obtain ⟨fd, F⟩ := c.def_ 14 (d := d_law_take) rfl
    exact ⟨_, fd, F, He.glo_ok X G (c.fact 14 (f := .glo "_law_take") rfl)⟩
  have D_law_pick : Df K mg "_law_pick" st_law_pick := by
    obtain ⟨fd, F⟩ := c.def_ 15 (d := d_law_pick) rfl
    exact ⟨_, fd, F, He.glo_ok X G (c.fact 15 (f := .glo "_law_pick") rfl)⟩
  have D_law_place : Df K mg "_law_place" st_law_place := by
    obtain ⟨fd, F⟩ := c.def_ 16 (d := d_law_place) rfl
    exact ⟨_, fd, F, He.glo_ok X G (c.fact 16 (f := .glo "_law_place") rfl)⟩
  have D_law_drawn : Df K mg "_law_drawn" st_law_drawn := by
    obtain ⟨fd, F⟩ := c.def_ 17 (d := d_law_drawn) rfl
    exact ⟨_, fd, F, He.glo_ok X G (c.fact 17 (f := .glo "_law_drawn") rfl)⟩
  have D_law_either : Df K mg "_law_either" st_law_either := by
    obtain ⟨fd, F⟩ := c.def_ 18 (d := d_law_either) rfl
    exact ⟨_, fd, F, He.glo_ok X G (c.fact 18 (f := .glo "_law_either") rfl)⟩
  have D_law_whole : Df K mg "_law_whole" st_law_whole := by
    obtain ⟨fd, F⟩ := c.def_ 19 (d := d_law_whole) rfl
    exact ⟨_, fd, F, He.glo_ok X G (c.fact 19 (f := .glo "_law_whole") rfl)⟩
  have D_law_sign : Df K mg "_law_sign" st_law_sign := by
    obtain ⟨fd, F⟩ := c.def_ 20 (d := d_law_sign) rfl
    exact ⟨_, fd, F, He.glo_ok X G (c.fact 20 (f := .glo "_law_sign") rfl)⟩
  have D_law_text : Df K mg "_law_text" st_law_text := by
    obtain ⟨fd, F⟩ := c.def_ 21 (d := d_law_text) rfl
    exact ⟨_, fd, F, He.glo_ok X G (c.fact 21 (f := .glo "_law_text") rfl)⟩
  have D_law_leaf : Df K mg "_law_leaf" st_law_leaf := by
    obtain ⟨fd, F⟩ := c.def_ 22 (d := d_law_leaf) rfl
    exact ⟨_, fd, F, He.glo_ok X G (c.fact 22 (f := .glo "_law_leaf") rfl)⟩
  have D_law_value : Df K mg "_law_value" st_law_value := by
    obtain ⟨fd, F⟩ := c.def_ 23 (d := d_law_value) rfl
    exact ⟨_, fd, F, He.glo_ok X G (c.fact 23 (f := .glo "_law_value") rfl)⟩
  have D_law_is_whole : Df K mg "_law_is_whole" st_law_is_whole := by
    obtain ⟨fd, F⟩ := c.def_ 24 (d := d_law_is_whole) rfl
    exact ⟨_, fd, F, He.glo_ok X G (c.fact 24 (f := .glo "_law_is_whole") rfl)⟩
  have D_law_same : Df K mg "_law_same" st_law_same := by
    obtain ⟨fd, F⟩ := c.def_ 25 (d := d_law_same) rfl
    exact ⟨_, fd, F, He.glo_ok X G (c.fact 25 (f := .glo "_law_same") rfl)⟩
  have D_law_frozen : Df K mg "_law_frozen" st_law_frozen := by
    obtain ⟨fd, F⟩ := c.def_ 26 (d := d_law_frozen) rfl
    exact ⟨_, fd, F, He.glo_ok X G (c.fact 26 (f := .glo "_law_frozen") rfl)⟩
  have D_law_after : Df K mg "_law_after" st_law_after := by
    obtain ⟨fd, F⟩ := c.def_ 27 (d := d_law_after) rfl
    exact ⟨_, fd, F, He.glo_ok X G (c.fact 27 (f := .glo "_law_after") rfl)⟩
  have D_law_renamed : Df K mg "_law_renamed" st_law_renamed := by
    obtain ⟨fd, F⟩ := c.def_ 28 (d := d_law_renamed) rfl
    exact ⟨_, fd, F, He.glo_ok X G (c.fact 28 (f := .glo "_law_renamed") rfl)⟩
  have D_law_move : Df K mg "_law_move" st_law_move := by
    obtain ⟨fd, F⟩ := c.def_ 29 (d := d_law_move) rfl
    exact ⟨_, fd, F, He.glo_ok X G (c.fact 29 (f := .glo "_law_move") rfl)⟩
  have D_law_move_fits : Df K mg "_law_move_fits" st_law_move_fits := by
    obtain ⟨fd, F⟩ := c.def_ 30 (d := d_law_move_fits) rfl
    exact ⟨_, fd, F, He.glo_ok X G (c.fact 30 (f := .glo "_law_move_fits") rfl)⟩
  have D_law_group : Df K mg "_law_group" st_law_group := by
    obtain ⟨fd, F⟩ := c.def_ 31 (d := d_law_group) rfl
    exact ⟨_, fd, F, He.glo_ok X G (c.fact 31 (f := .glo "_law_group") rfl)⟩
  have D_law_cut : Df K mg "_law_cut" st_law_cut := by
    obtain ⟨fd, F⟩ := c.def_ 32 (d := d_law_cut) rfl
    exact ⟨_, fd, F, He.glo_ok X G (c.fact 32 (f := .glo "_law_cut") rfl)⟩
  have D_law_block_moves : Df K mg "_law_block_moves" st_law_block_moves := by
    obtain ⟨fd, F⟩ := c.def_ 33 (d := d_law_block_moves) rfl
    exact ⟨_, fd, F, He.glo_ok X G (c.fact 33 (f := .glo "_law_block_moves") rfl)⟩
  have D_law_some_world : Df K mg "_law_some_world" st_law_some_world := by
    obtain ⟨fd, F⟩ := c.def_ 34 (d := d_law_some_world) rfl
    exact ⟨_, fd, F, He.glo_ok X G (c.fact 34 (f := .glo "_law_some_world") rfl)⟩
  have D_law_walks : Df K mg "_law_walks" st_law_walks := by
    obtain ⟨fd, F⟩ := c.def_ 35 (d := d_law_walks) rfl
    exact ⟨_, fd, F, He.glo_ok X G (c.fact 35 (f := .glo "_law_walks") rfl)⟩
  have D_law_member : Df K mg "_law_member" st_law_member := by
    obtain ⟨fd, F⟩ := c.def_ 36 (d := d_law_member) rfl
    exact ⟨_, fd, F, He.glo_ok X G (c.fact 36 (f := .glo "_law_member") rfl)⟩
  have D_law_asked : Df K mg "_law_asked" st_law_asked := by
    obtain ⟨fd, F⟩ := c.def_ 37 (d := d_law_asked) rfl
    exact ⟨_, fd, F, He.glo_ok X G (c.fact 37 (f := .glo "_law_asked") rfl)⟩
  have D_law_beside : Df K mg "_law_beside" st_law_beside := by
    obtain ⟨fd, F⟩ := c.def_ 38 (d := d_law_beside) rfl
    exact ⟨_, fd, F, He.glo_ok X G (c.fact 38 (f := .glo "_law_beside") rfl)⟩
  have D_law_alike : Df K mg "_law_alike" st_law_alike := by
    obtain ⟨fd, F⟩ := c.def_ 39 (d := d_law_alike) rfl
    exact ⟨_, fd, F, He.glo_ok X G (c.fact 39 (f := .glo "_law_alike") rfl)⟩
  have D_law : Df K mg "law" stlaw := by
    obtain ⟨fd, F⟩ := c.def_ 40 (d := d_law) rfl
    exact ⟨_, fd, F, He.glo_ok X G (c.fact 40 (f := .glo "law") rfl)⟩
  have T : NoB mg := ⟨He.free_ok X G (c.fact 41 (f := .free "len") rfl), He.free_ok X G (c.fact 42 (f := .free "int") rfl), He.free_ok X G (c.fact 43 (f := .free "bool") rfl), He.free_ok X G (c.fact 44 (f := .free "str") rfl), He.free_ok X G (c.fact 45 (f := .free "range") rfl), He.free_ok X G (c.fact 46 (f := .free "isinstance") rfl), He.free_ok X G (c.fact 47 (f := .free "tuple") rfl), He.free_ok X G (c.fact 48 (f := .free "list") rfl), He.free_ok X G (c.fact 49 (f := .free "min") rfl), He.free_ok X G (c.fact 50 (f := .free "max") rfl), He.free_ok X G (c.fact 51 (f := .free "sorted") rfl), He.free_ok X G (c.fact 52 (f := .free "enumerate") rfl), He.free_ok X G (c.fact 53 (f := .free "sum") rfl), He.free_ok X G (c.fact 54 (f := .free "any") rfl), He.free_ok X G (c.fact 55 (f := .free "all") rfl), He.free_ok X G (c.fact 56 (f := .free "zip") rfl), He.free_ok X G (c.fact 57 (f := .free "reversed") rfl), He.free_ok X G (c.fact 58 (f := .free "super") rfl), He.free_ok X G (c.fact 59 (f := .free "set") rfl), He.free_ok X G (c.fact 60 (f := .free "dict") rfl), He.free_ok X G (c.fact 61 (f := .free "ValueError") rfl), He.free_ok X G (c.fact 62 (f := .free "abs") rfl), He.free_ok X G (c.fact 63 (f := .free "repr") rfl), He.free_ok X G (c.fact 64 (f := .free "iter") rfl)⟩
  obtain ⟨tk_MOST_POINTS, G_MOST_POINTS⟩ := He.int_ok X G (c.fact 65 (f := .int "MOST_POINTS" 12) rfl)
  obtain ⟨tk_MOST_TOLD, G_MOST_TOLD⟩ := He.int_ok X G (c.fact 66 (f := .int "MOST_TOLD" 8) rfl)
  obtain ⟨tk_MOST_MADE, G_MOST_MADE⟩ := He.int_ok X G (c.fact 67 (f := .int "MOST_MADE" 400) rfl)
  have EH := ce.gH X G
  obtain ⟨fd, F⟩ := c.def_ 40 (d := d_law) rfl
  have e := hf.symm.trans (He.glo_ok X G (c.fact 40 (f := .glo "law") rfl))
  cases e
  refine ⟨fd, fun s v => FunD.bindsA (ps := ["script"]) F (fun _ _ _ _ _ _ us hl => match us, hl with | [_], _ => rfl) s [v] rfl, fun base _ _ => ?_⟩
  have WC : WCls K mg := ce.wcls X G
  have D_World___init__ : WIni K stWorld___init__ := by
    obtain ⟨e, o⟩ := ce.meth 0 (d := dm_World___init__) rfl
    exact mt_ini e o rfl rfl
  have D_World_points : PrD K "points" "World.points" stWorld_points := by
    obtain ⟨e, o⟩ := ce.meth 1 (d := dm_World_points) rfl
    exact mt_prop e o rfl
  have D_World_told : PrD K "told" "World.told" stWorld_told := by
    obtain ⟨e, o⟩ := ce.meth 2 (d := dm_World_told) rfl
    exact mt_prop e o rfl
  have D_World_made : PrD K "made" "World.made" stWorld_made := by
    obtain ⟨e, o⟩ := ce.meth 3 (d := dm_World_made) rfl
    exact mt_prop e o rfl
  have D_World___len__ : MtD K "__len__" "World.__len__" stWorld___len__ := by
    obtain ⟨e, o⟩ := ce.meth 4 (d := dm_World___len__) rfl
    exact mt_meth e o rfl
  have D_World___iter__ : MtD K "__iter__" "World.__iter__" stWorld___iter__ := by
    obtain ⟨e, o⟩ := ce.meth 5 (d := dm_World___iter__) rfl
    exact mt_meth e o rfl
  have D_World___contains__ : MtD K "__contains__" "World.__contains__" stWorld___contains__ := by
    obtain ⟨e, o⟩ := ce.meth 6 (d := dm_World___contains__) rfl
    exact mt_meth e o rfl
  have D_World___eq__ : MtD K "__eq__" "World.__eq__" stWorld___eq__ := by
    obtain ⟨e, o⟩ := ce.meth 7 (d := dm_World___eq__) rfl
    exact mt_meth e o rfl
  have CWorld___eq__ : MtC P w K mg base 1 "__eq__" ["self", "other"] (sp_weqV K) := okWorld___eq__ WC D_World___eq__ T  
  have Cmoved_row : Cl P w K mg base 1 "moved_row" ["row", "move"] sp_jn := okmoved_row D_moved_row T  
  have Cis_whole_moves : Cl P w K mg base 1 "is_whole_moves" ["value"] sp_isw := okis_whole_moves D_is_whole_moves T  
  have Cshown : Cl P w K mg base 1 "shown" ["value"] sp_shown := okshown D_shown T  
  have Er_BadNumber : ErrC P w K mg base 2 "BadNumber" (He.ga K "BadNumber") (okP [0, 0, 0]) ["value", "low", "high"] := by
    obtain ⟨cc, cda, fi, S, B, i1, i2, x1, x2, x3, x4⟩ := ce.sup hfl htop T.no_super (i := 0) (d := di_BadNumber) (ps := ["self", "value", "low", "high"]) rfl (fun _ _ _ _ _ _ _ us hl => match us, hl with | [_, _, _, _], _ => rfl)
    exact ⟨ce.g X G _ (by decide), x1, ⟨_, fi, ["self", "value", "low", "high"], i1, i2, B, okini_BadNumber S (x4 _ (by decide)) (x4 _ (by decide)) (x4 _ (by decide)) Cshown⟩, x2, x3, x4, by decide, okP_mono _⟩
  have Ccheck_number : ClX P w K mg base 4 "check_number" ["value", "low", "high"] (sp_number K) := okcheck_number D_check_number T Cis_whole_moves Er_BadNumber
  have Ccheck_points : ClX P w K mg base 5 "check_points" ["points"] (sp_points K) := okcheck_points D_check_points T Ccheck_number G_MOST_POINTS
  have Cstill_move : ClX P w K mg base 6 "still_move" ["points"] (sp_still K) := okstill_move D_still_move T Ccheck_points 
  have Er_TooMany : ErrC P w K mg base 2 "TooMany" (He.ga K "TooMany") (okP [1, 0]) ["what", "limit"] := by
    obtain ⟨cc, cda, fi, S, B, i1, i2, x1, x2, x3, x4⟩ := ce.sup hfl htop T.no_super (i := 2) (d := di_TooMany) (ps := ["self", "what", "limit"]) rfl (fun _ _ _ _ _ _ _ us hl => match us, hl with | [_, _, _], _ => rfl)
    exact ⟨ce.g X G _ (by decide), x1, ⟨_, fi, ["self", "what", "limit"], i1, i2, B, okini_TooMany S (x4 _ (by decide)) (x4 _ (by decide)) Cshown⟩, x2, x3, x4, by decide, okP_mono _⟩
  have Cgenerated : ClX P w K mg base 7 "generated" ["points", "told"] (sp_gen K) := okgenerated D_generated T Cmoved_row Cstill_move G_MOST_MADE Er_TooMany
  have Cis_move : Cl P w K mg base 2 "is_move" ["value"] sp_is_move := okis_move D_is_move T Cis_whole_moves G_MOST_POINTS
  have Cis_move_on : Cl P w K mg base 3 "is_move_on" ["points", "value"] sp_mvon := okis_move_on D_is_move_on T Cis_move 
  have Er_NotAMove : ErrC P w K mg base 2 "NotAMove" (He.ga K "NotAMove") (okP [0]) ["index"] := by
    obtain ⟨cc, cda, fi, S, B, i1, i2, x1, x2, x3, x4⟩ := ce.sup hfl htop T.no_super (i := 1) (d := di_NotAMove) (ps := ["self", "index"]) rfl (fun _ _ _ _ _ _ _ us hl => match us, hl with | [_, _], _ => rfl)
    exact ⟨ce.g X G _ (by decide), x1, ⟨_, fi, ["self", "index"], i1, i2, B, okini_NotAMove S (x4 _ (by decide)) Cshown⟩, x2, x3, x4, by decide, okP_mono _⟩
  have Cneed_moves : ClX P w K mg base 4 "need_moves" ["points", "moves", "what", "limit"] (sp_chks K) := okneed_moves D_need_moves T Cis_move_on Er_TooMany Er_NotAMove
  have Cis_whole_worlds : Cl P w K mg base 1 "is_whole_worlds" ["value"] sp_isw := okis_whole_worlds D_is_whole_worlds T  
  have Cneed_points : ClX P w K mg base 4 "need_points" ["value"] (sp_points K) := okneed_points D_need_points T Cis_whole_worlds G_MOST_POINTS Er_BadNumber
  have CWorld___init__ : MkC P w K mg base 9 "World" ["points", "moves"] (sp_World K) := okWorld___init__ WC D_World___init__ T Cgenerated Cneed_moves Cneed_points G_MOST_TOLD
  have C_law_is_whole : Cl P w K mg base 1 "_law_is_whole" ["value"] sp_isw := ok_law_is_whole D_law_is_whole T  
  have C_law_same : Cl P w K mg base 2 "_law_same" ["actual", "due"] sp_same := ok_law_same D_law_same T C_law_is_whole 
  have C_law_alike : Cl P w K mg base 3 "_law_alike" ["world", "other", "due"] (sp_walike K) := ok_law_alike D_law_alike T CWorld___eq__ C_law_same WC
  have CWorld___contains__ : MtC P w K mg base 2 "__contains__" ["self", "value"] (sp_wcont K) := okWorld___contains__ WC D_World___contains__ T Cis_whole_worlds 
  have C_law_frozen : Cl P w K mg base 10 "_law_frozen" ["value", "deep"] (sp_frozen 10) := frozen_all D_law_frozen T 10
  have C_law_move_fits : Cl P w K mg base 2 "_law_move_fits" ["value", "points"] sp_fitsN := ok_law_move_fits D_law_move_fits T C_law_is_whole 
  have C_law_asked : Cl P w K mg base 11 "_law_asked" ["world", "points", "made", "value"] (sp_asked10 K) := ok_law_asked D_law_asked T CWorld___contains__ C_law_frozen C_law_move_fits C_law_same 
  have C_law_mixed : Cl P w K mg base 1 "_law_mixed" ["seed", "turn"] sp_mixed := ok_law_mixed D_law_mixed T  
  have C_law_take : Cl P w K mg base 2 "_law_take" ["store", "many"] sp_take := ok_law_take D_law_take T C_law_mixed 
  have C_law_drawn : Cl P w K mg base 3 "_law_drawn" ["store", "things", "many"] sp_drawn := ok_law_drawn D_law_drawn T C_law_take 
  have C_law_move : Cl P w K mg base 4 "_law_move" ["store", "points"] sp_move := ok_law_move D_law_move T C_law_drawn C_law_take 
  have C_law_place : Cl P w K mg base 3 "_law_place" ["store", "size"] sp_place := ok_law_place D_law_place T C_law_take 
  have C_law_renamed : Cl P w K mg base 1 "_law_renamed" ["move", "by"] sp_renJ := ok_law_renamed D_law_renamed T  
  have C_law_beside : Cl P w K mg base 6 "_law_beside" ["store", "points", "told", "made"] sp_beside := ok_law_beside D_law_beside T C_law_drawn C_law_move C_law_place C_law_renamed 
  have C_law_after : Cl P w K mg base 1 "_law_after" ["first", "second"] sp_jn := ok_law_after D_law_after T  
  have C_law_group : Cl P w K mg base 2 "_law_group" ["points", "told", "most"] sp_group := ok_law_group D_law_group T C_law_after 
  have C_law_pick : Cl P w K mg base 3 "_law_pick" ["store", "things"] sp_pick := ok_law_pick D_law_pick T C_law_take 
  have C_law_member : Cl P w K mg base 5 "_law_member" ["store", "points", "made"] sp_member := ok_law_member D_law_member T C_law_move C_law_pick C_law_take 
  have C_law_block_moves : Cl P w K mg base 3 "_law_block_moves" ["store", "points"] sp_blk := ok_law_block_moves D_law_block_moves T C_law_take 
  have C_law_cut : Cl P w K mg base 3 "_law_cut" ["points", "told", "most"] sp_cut := ok_law_cut D_law_cut T C_law_group 
  have C_law_some_world : Cl P w K mg base 6 "_law_some_world" ["store", "most"] sp_somew := ok_law_some_world D_law_some_world T C_law_block_moves C_law_cut C_law_move C_law_place C_law_take 
  have C_law_store : Cl P w K mg base 1 "_law_store" ["script"] (sp_store K) := ok_law_store D_law_store T  
  have C_law_either : Cl P w K mg base 3 "_law_either" ["store", "entries"] sp_either := ok_law_either D_law_either T C_law_take 
  have C_law_sign : Cl P w K mg base 3 "_law_sign" ["store"] sp_sign := ok_law_sign D_law_sign T C_law_take 
  have C_law_text : Cl P w K mg base 4 "_law_text" ["store", "most"] sp_text := ok_law_text D_law_text T C_law_place C_law_sign 
  have C_law_whole : Cl P w K mg base 4 "_law_whole" ["store"] sp_whole := ok_law_whole D_law_whole T C_law_pick C_law_take 
  have C_law_leaf : Cl P w K mg base 5 "_law_leaf" ["store"] sp_leaf := ok_law_leaf D_law_leaf T C_law_take C_law_text C_law_whole 
  have C_law_value : Cl P w K mg base 6 "_law_value" ["store", "deep"] sp_value := ok_law_value D_law_value T C_law_either C_law_leaf C_law_take 
  have CWorld___iter__ : MtI P w K mg base 1 "__iter__" ["self"] (sp_witer K) := okWorld___iter__ WC D_World___iter__ T  
  have CWorld___len__ : MtC P w K mg base 1 "__len__" ["self"] (sp_wlen K) := okWorld___len__ WC D_World___len__ T  
  have C_law_walks : Cl P w K mg base 5 "_law_walks" ["world", "made"] (sp_walks K) := ok_law_walks D_law_walks T CWorld___iter__ CWorld___len__ C_law_same 
  exact oklaw (P := P) (w := w) (base := base) F T CWorld___eq__ CWorld___init__ C_law_alike C_law_asked C_law_beside C_law_group C_law_member C_law_same C_law_some_world C_law_store C_law_take C_law_value C_law_walks WC
end Ho
open PySem PySem.W PySem.Calls PyProof.Rows
set_option maxRecDepth 100000 in
set_option maxHeartbeats 0 in
theorem PySem.Challenge.cw_heldorder_k10_world_as_collection_holds : PySem.Challenge.rw_heldorder_k10_world_as_collection.Holds := by
  w_on; o_law
  refine HandSHeadRun.head_any (r := OpenLaw.row PySem.Challenge.rw_heldorder_k10_world_as_collection) (q := view (OpenLaw.row PySem.Challenge.rw_heldorder_k10_world_as_collection).prog [54]) (H := Ho.hhk) (ob := Ho.hob) (M := 30000) (loose := Ho.hloose) (d := HandSHeadRun.topDef (OpenLaw.row PySem.Challenge.rw_heldorder_k10_world_as_collection).prog 54) (kwd := []) Ho.hob_eq
    (by kernel_rfl) (fun s => by kernel_rfl) Ho.hrun (by kernel_rfl) (by kernel_rfl) (by kernel_rfl) (by rfl) (by first | assumption | decide +kernel) (by decide +kernel) ⟨rfl, rfl, rfl, rfl, rfl, by decide +kernel⟩ ?hw ?hc
  case hw => w_witness2
  case hc =>
    refine Ho.walk_ofG (l := PySem.Challenge.rw_heldorder_k10_world_as_collection) (n := 63) (k := 13) (x := "script") (CX := L2.CX0) rfl (by decide) (by kernel_rfl) ⟨rfl, by decide, by decide⟩ ?F (fun _ _ _ _ z => z)
    intro w mg fa h Y G hmg0
    obtain ⟨K, KX, c⟩ := Y
    have hmg : mg ("law" : PySem.Str) = some (.ref fa) := by
      have e : (HandSHeadRun.topDef (OpenLaw.row PySem.Challenge.rw_heldorder_k10_world_as_collection).prog 54).name = ("law" : PySem.Str) := by kernel_rfl
      rw [← e]
      exact hmg0
    obtain ⟨fd, hb, hF⟩ := Ho.hfacts (P := (PySem.Challenge.rw_heldorder_k10_world_as_collection).prog) (w := w) rfl (by kernel_rfl) KX G hmg c
    exact ⟨K, fd, (Ho.sp_law10 K), KX, hb, fun H a ns hl _ hS => ⟨a, ns, rfl, hS, hl, fun _ => rfl⟩, hF⟩

