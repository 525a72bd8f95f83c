import PyProof.Rows.All
import Wide.All
import OpenK.AllK
import Wide.FinOn
import KE.KStateDown
import Lean
import HandS.ForMost
import HandS.IsInst
import HandS.Style
import HandS.Wide
import HandS.TupMul
import HandS.Conv
import HandS.TupAny
import HandS.TupLe
import HandS.SortInts
import HandS.Codes
import HandS.StrMore
import HandS.FStr
import HandS.Walk
import HandS.More
import HandS.Defaults
import HandS.Head0
import HandS.Head1
import HandS.Head2
import HandS.HeadEnd
import HandS.HeadHook1
import HandS.HeadHook2
import PySem.Challenge.RW_heldorder_k00_moves_known
set_option Elab.async false
set_option linter.all false
set_option maxRecDepth 100000
set_option maxHeartbeats 4000000
namespace Ho
open PySem PySem.Spec PyProof.Rows L2
/-! ## HoA -/


/-- the items of a tracked list or tuple -/
def sq (H : Hp) (p : Addr) : Option (List V) := match H p with
  | some (.lst xs) => some xs
  | some (.tup xs) => some xs
  | _ => none
theorem sq_l {H : Hp} {p : Addr} {xs : List V} (h : H p = some (.lst xs)) : sq H p = some xs := by unfold sq; rw [h]
theorem sq_t {H : Hp} {p : Addr} {xs : List V} (h : H p = some (.tup xs)) : sq H p = some xs := by unfold sq; rw [h]
theorem sq_or {H : Hp} {p : Addr} {xs : List V} (h : sq H p = some xs) : H p = some (.lst xs) ∨ H p = some (.tup xs) := by
  unfold sq at h
  cases e : H p with
  | none => rw [e] at h; cases h
  | some o => rw [e] at h; cases o <;> first | (cases h; first | exact .inl rfl | exact .inr rfl) | cases h

def rIx1 : R2 := fun x y H Q => ∃ p i xs v, x = .ref p ∧ y = .int i ∧ sq H p = some xs ∧ atI xs i = some v ∧ Q v H
def rLen1 : List V → Hp → VK → Prop := fun vs H Q => ∃ p xs, vs = [.ref p] ∧ sq H p = some xs ∧ Q (.int xs.length) H
def tyN (H : Hp) (x : V) : Option String := match x with
  | .non => some "NoneType"
  | .bl _ => some "bool"
  | .int _ => some "int"
  | .str _ => some "str"
  | .ref p => match H p with
    | some (.lst _) => some "list"
    | some (.tup _) => some "tuple"
    | some (.dK _) => some "dict"
    | some (.dT _) => some "dict"
    | _ => none
  | _ => none
def rIsi1 : List V → Hp → VK → Prop := fun vs H Q => ∃ x T t b, vs = [x, .ty T] ∧ tyN H x = some t ∧ kitB t T = some b ∧ Q (.bl b) H
def rIsTF : R2 := fun x y H Q => ∃ b, y = .bl b ∧ Q (.bl (decide (x = .bl b))) H
section
variable {X : Cx}
theorem ix1 : IxR X rIx1 := by
  intro value slice pins s σ H x y v u Q I rx ry h hs
  obtain ⟨p, i, xs, z, rfl, rfl, hq, he, q⟩ := h
  rcases sq_or hq with hq | hq
  · exact ix_list value slice pins s σ H _ _ v u Q I rx ry ⟨p, xs, i, z, rfl, rfl, SqL.of hq, he, q⟩ hs
  · exact ix_tup value slice pins s σ H _ _ v u Q I rx ry ⟨p, xs, i, z, rfl, rfl, SqT.of hq, he, q⟩ hs
theorem len1 : CallR X (.builtin "len") rLen1 := by
  intro pins s σ H xs us Q I r h
  obtain ⟨p, ys, rfl, hq, q⟩ := h
  rcases sq_or hq with hq | hq
  · exact call_len pins s σ H _ us Q I r ⟨_, _, rfl, .inl ⟨_, SqL.of hq, rfl⟩, q⟩
  · exact call_len pins s σ H _ us Q I r ⟨_, _, rfl, .inr ⟨_, SqT.of hq, rfl⟩, q⟩
theorem tyN_ty {K : PySem.W.Frag} {H : Hp} {x : V} {t : String} (h : tyN H x = some t) : TyX K H x (.type t) := by
  cases x with
  | non => cases h; exact .base .non
  | bl b => cases h; exact .base (.bl b)
  | int i => cases h; exact .base (.int i)
  | str z => cases h; exact .base (.str z)
  | byt b => cases h
  | flt b => cases h
  | ty n => cases h
  | ref p =>
    unfold tyN at h
    simp only at h
    cases e : H p with
    | none => rw [e] at h; cases h
    | some o =>
      rw [e] at h
      cases o <;> first
        | (cases h; first | exact .base (.lst e) | exact .base (.tup e) | exact .base (.dK e) | exact .base (.dT e))
        | cases h
theorem isi1 : CallR X (.builtin "isinstance") rIsi1 := by
  intro pins s σ H xs us Q I r h
  obtain ⟨x, T, t, b, rfl, ht, hk, q⟩ := h
  exact call_isi pins s σ H _ us Q I r ⟨x, .ty T, .type t, .type T, b, rfl, .ty T, tyN_ty ht, kit_ty hk, q⟩
end

section
variable {X : Cx}
theorem is_plain_bl {x : V} {v : Value} {b : Bool} (r : RelV x v) : plainIs v (.bool b) = true ∧ (v == Value.bool b) = decide (x = .bl b) := by
  cases x with
  | bl a => cases (show v = Value.bool a from r); exact ⟨rfl, by cases a <;> cases b <;> rfl⟩
  | non => cases (show v = Value.none from r); exact ⟨rfl, by simp⟩
  | ref a => cases (show v = Value.ref a from r); exact ⟨rfl, by simp⟩
  | ty a => cases (show v = Value.type a from r); exact ⟨rfl, by simp⟩
  | int i => obtain ⟨t, rfl⟩ := r; exact ⟨rfl, by simp⟩
  | str i => obtain ⟨t, rfl⟩ := r; exact ⟨rfl, by simp⟩
  | byt i => obtain ⟨t, rfl⟩ := r; exact ⟨rfl, by simp⟩
  | flt i => obtain ⟨t, rfl⟩ := r; exact ⟨rfl, by simp⟩
theorem op_isTF : OpR X (compareOp .Is) rIsTF := by
  intro pins s σ H x y v u Q I rx ry h
  obtain ⟨b, rfl, q⟩ := h
  cases (show u = Value.bool b from ry)
  obtain ⟨h1, h2⟩ := is_plain_bl (b := b) rx
  exact wpAny_is_plain h1 (by rw [h2]; exact ⟨.bl _, H, I, rfl, q⟩)
def iSq (K : PySem.W.Frag) (tl : TE) : TI := fun σ H R => tl σ H fun x H1 => ∃ a xs, x = .ref a ∧ ((H1 a = some (.lst xs) ∧ R (Itl K a) H1) ∨ (H1 a = some (.tup xs) ∧ R (Itt K a) H1))
theorem pi_sq {tg l : Expr} {tl : TE} (hl : PE X l tl) : PI X tg l (iSq X.K tl) := by
  refine ⟨fun pins s σ H R I h => ?_⟩
  refine thn (hl.run pins s σ H _ I h) fun v s1 ⟨x, H1, I1, r1, q1⟩ => ?_
  obtain ⟨a, xs, rfl, ⟨hq, q⟩ | ⟨hq, q⟩⟩ := q1
  · cases r1
    obtain ⟨its, rv, p, hz⟩ := I1.list (SqL.of hq)
    refine wpAny_pyIter_list p.isList ?_
    refine ⟨s1.heap.objs.size, [s1.heap.objs.size], _, _, H1, rfl, I1.kept (t' := s1.toks) fun b o e => Heap.get?_push_of_some _ e, turn_list a _, ⟨_, Heap.get?_push_size _ rfl, rfl, rfl⟩, fun b hb => ?_, q⟩
    have e : b = s1.heap.objs.size := by simpa using hb
    subst e
    exact I1.fpOk (Nat.le_refl _) (I1.hok.fresh (Nat.le_refl _))
  · cases r1
    obtain ⟨its, rv, p, hz⟩ := I1.tuple (SqT.of hq)
    refine wpAny_pyIter_tuple (show s1.heap.IsTuple a its.toArray from p) ?_
    refine ⟨s1.heap.objs.size, [s1.heap.objs.size], _, _, H1, rfl, I1.kept (t' := s1.toks) fun b o e => Heap.get?_push_of_some _ e, turn_tuple a _, ⟨_, Heap.get?_push_size _ rfl, rfl, rfl⟩, fun b hb => ?_, q⟩
    have e : b = s1.heap.objs.size := by simpa using hb
    subst e
    exact I1.fpOk (Nat.le_refl _) (I1.hok.fresh (Nat.le_refl _))
end
/-! ### defs that let nothing out -/
def Cl (P : Program) (w : World) (K : PySem.W.Frag) (mg : Str → Option Value) (base : Heap) (k : Nat) (x : Str) (ps : List Str) (sp : Sp) : Prop :=
  ∃ f fd, mg x = some (.ref f) ∧ PySem.W.keepIn K (.ref f) = true ∧ (∀ (s : Shared) (us : List Value), us.length = ps.length → BindsTo s fd ⟨us, []⟩ (ps.zip us)) ∧ FnOk P w K mg base CX0 k f fd ps sp
abbrev FnP (K : PySem.W.Frag) (x : Str) (st : Stmt) (f : Addr) (fd : FuncData) : Prop := FunD K x x (defArgs st) (defBody st) (defScope st) [] [] f fd
def Df (K : PySem.W.Frag) (mg : Str → Option Value) (x : Str) (st : Stmt) : Prop := ∃ f fd, FnP K x st f fd ∧ mg x = some (.ref f)
section
variable {P : Program} {w : World} {K : PySem.W.Frag} {mg : Str → Option Value} {base : Heap}
theorem Cl.mono {j k : Nat} {x : Str} {ps : List Str} {sp : Sp} (C : Cl P w K mg base j x ps sp) (h : j ≤ k) : Cl P w K mg base k x ps sp := by
  obtain ⟨f, fd, a, b, c, d⟩ := C
  exact ⟨f, fd, a, b, c, d.mono h⟩
theorem cl_of {x : Str} {st : Stmt} {N ps : List Str} {k : Nat} {sp : Sp} (D : Df K mg x st) (S : FnScope N ps (defScope st))
    (hb : ∀ (kV doc pm : Value) (an : Option Addr) (cdv ct : Value) (us : List Value), us.length = ps.length → bindArgs (PySem.W.fnOf x x (defArgs st) (defBody st) (defScope st) .none kV doc pm an cdv ct) ⟨us, []⟩ = pure (ps.zip us))
    (len : ∀ vs H Q E, sp vs H Q E → vs.length = ps.length)
    (hbody : ∀ (f : Addr) (cdv : Value) (A : Around) (outer : List Env) (s : Shared) (H : Hp) (vs : List V) (Q : VK) (E : XK), Room k (A.deeper (envOfC x (defScope st) s.heap.objs.size f cdv)) → sp vs H Q E →
      ∃ t, PSs (cxOf CX0 P w K mg base N x (defScope st) f cdv A outer s H E).nox (defBody st) t ∧ t { nx := fun _ H' => Q .non H', rt := Q } (start N vs) H) : Cl P w K mg base (k + 1) x ps sp := by
  obtain ⟨f, fd, F, g⟩ := D
  refine ⟨f, fd, g, F.kp, F.bindsA hb, F.ok S len fun cdv A outer s H vs Q E hr hsp => ?_⟩
  obtain ⟨t, h, q⟩ := hbody f cdv A outer s H vs Q E hr hsp
  exact ⟨t, h.nox, q⟩
end
theorem fn_ofF {P : Program} {w : World} {K : PySem.W.Frag} {mg : Str → Option Value} {base : Heap} {x : Str} {st : Stmt} {N ps : List Str} {k : Nat} {sp : Sp} {f : Addr} {fd : FuncData} (F : FnP K x st f fd) (S : FnScope N ps (defScope st))
    (len : ∀ vs H Q E, sp vs H Q E → vs.length = ps.length)
    (hbody : ∀ (f : Addr) (cdv : Value) (A : Around) (outer : List Env) (s : Shared) (H : Hp) (vs : List V) (Q : VK) (E : XK), Room k (A.deeper (envOfC x (defScope st) s.heap.objs.size f cdv)) → sp vs H Q E →
      ∃ t, PSs (cxOf CX0 P w K mg base N x (defScope st) f cdv A outer s H E).nox (defBody st) t ∧ t { nx := fun _ H' => Q .non H', rt := Q } (start N vs) H) : FnOk P w K mg base CX0 (k + 1) f fd ps sp := by
  refine F.ok S len fun cdv A outer s H vs Q E hr hsp => ?_
  obtain ⟨t, h, q⟩ := hbody f cdv A outer s H vs Q E hr hsp
  exact ⟨t, h.nox, q⟩
section
variable {X : Cx}
theorem pe_cl {j k : Nat} {x : Str} {ps : List Str} {sp : Sp} {p pos : Pos} {e : Expr} {es : List Expr} {t : TA} (C : Cl X.prog X.w X.K X.mg X.base j x ps sp) (hr : Room k X.A) (hg : Gl X x) (ha : PA X (e :: es) t) (hjk : j ≤ k := by decide)
    (hdb : (x == ("__debug__" : Str)) = false := by decide) (he : starEach (e :: es) X.env = (false, eval e X.env) :: starEach es X.env := by rfl) (hpl : (backTo pos (starEach es X.env)).any (·.1) = false := by rfl) :
    PE X (.Call (.Name x p) (e :: es) [] pos) (tCall sp [] E0 t) := by
  obtain ⟨f, fd, a, b, c, d⟩ := C
  exact pe_call d (hr.mono hjk) hg a b (fun s us _ hl => by rw [List.append_nil] at hl ⊢; exact c s us hl) .nil pass0 ha hdb he hpl
end
/-! ### heaps that have grown, heaps that have changed -/
structure New (H : Hp) (p : Addr) (o : HO) (H' : Hp) : Prop where
  fr : H p = none
  at_ : H' p = some o
  old : ∀ b, b ≠ p → H' b = H b
structure Put (H : Hp) (p : Addr) (o : HO) (H' : Hp) : Prop where
  at_ : H' p = some o
  old : ∀ b, b ≠ p → H' b = H b
theorem New.eq {H H' : Hp} {p : Addr} {o : HO} (n : New H p o H') : H' = upd H p o := by
  funext b
  by_cases e : b = p
  · rw [e, n.at_, upd_same]
  · rw [n.old b e, upd_ne e]
theorem Put.eq {H H' : Hp} {p : Addr} {o : HO} (n : Put H p o H') : H' = upd H p o := by
  funext b
  by_cases e : b = p
  · rw [e, n.at_, upd_same]
  · rw [n.old b e, upd_ne e]
theorem New.mk' {H : Hp} {p : Addr} {o : HO} (h : H p = none) : New H p o (upd H p o) := ⟨h, upd_same, fun _ e => upd_ne e⟩
theorem Put.mk' {H : Hp} {p : Addr} {o : HO} : Put H p o (upd H p o) := ⟨upd_same, fun _ e => upd_ne e⟩
theorem New.ne {H H' : Hp} {p b : Addr} {o u : HO} (n : New H p o H') (h : H b = some u) : b ≠ p := ne_of_none h n.fr
theorem New.k {H H' : Hp} {p b : Addr} {o u : HO} (n : New H p o H') (h : H b = some u) : H' b = some u := (n.old b (n.ne h)).trans h
theorem New.same {H H' : Hp} {p : Addr} {o : HO} (n : New H p o H') : Same H H' := fun _ _ h => n.k h
theorem Put.k {H H' : Hp} {p b : Addr} {o u : HO} (n : Put H p o H') (ne : b ≠ p) (h : H b = some u) : H' b = some u := (n.old b ne).trans h
def Nw (H : Hp) (o : HO) (Q : Addr → Hp → Prop) : Prop := ∀ p H', New H p o H' → Q p H'
def Wr (H : Hp) (p : Addr) (o : HO) (Q : Hp → Prop) : Prop := ∀ H', Put H p o H' → Q H'
theorem nw_eq {H : Hp} {o : HO} {Q : VK} : (∀ p, H p = none → Q (.ref p) (upd H p o)) = Nw H o fun p H' => Q (.ref p) H' := by
  apply propext; constructor
  · intro h p H' n; rw [n.eq]; exact h p n.fr
  · intro h p hp; exact h p _ (New.mk' hp)
theorem wr_eq {H : Hp} {p : Addr} {o : HO} {Q : Hp → Prop} : Q (upd H p o) = Wr H p o Q := by
  apply propext; constructor
  · intro h H' n; rw [n.eq]; exact h
  · intro h; exact h _ Put.mk'
/-- what stood is as it was, but what stands at s -/
def Kp (s : Addr) (H H' : Hp) : Prop := ∀ b o, b ≠ s → H b = some o → H' b = some o
theorem Kp.refl {s : Addr} {H : Hp} : Kp s H H := fun _ _ _ h => h
theorem Kp.trans {s : Addr} {H H1 H2 : Hp} (a : Kp s H H1) (b : Kp s H1 H2) : Kp s H H2 := fun c o ne h => b c o ne (a c o ne h)
theorem Kp.same {s : Addr} {H H1 : Hp} (a : Same H H1) : Kp s H H1 := fun c o _ h => a c o h
theorem Kp.put {s : Addr} {H H1 : Hp} {o : HO} (a : Put H s o H1) : Kp s H H1 := fun c u ne h => a.k ne h
theorem Kp.k {s b : Addr} {H H' : Hp} {o : HO} (a : Kp s H H') (ne : b ≠ s) (h : H b = some o) : H' b = some o := a b o ne h
theorem Kp.fresh {s b : Addr} {H H' : Hp} (a : Kp s H H') (ne : b ≠ s) (h : H' b = none) : H b = none := by
  cases e : H b with
  | none => rfl
  | some o => rw [a b o ne e] at h; cases h
/-! ### rules of my own, and what the library's say -/
section
variable {X : Cx}
theorem CallR_imp {f : Value} {r r' : List V → Hp → VK → Prop} (h : CallR X f r) (i : ∀ xs H Q, r' xs H Q → r xs H Q) : CallR X f r' := fun pins s σ H xs us Q I rv q => h pins s σ H xs us Q I rv (i _ _ _ q)
theorem OpR_imp {f : Value → Value → Sem Value} {r r' : R2} (h : OpR X f r) (i : ∀ x y H Q, r' x y H Q → r x y H Q) : OpR X f r' := fun pins s σ H x y v u Q I rx ry q => h pins s σ H x y v u Q I rx ry (i _ _ _ _ q)
theorem MtR_imp {id : String} {r r' : V → List V → Hp → VK → Prop} (h : MtR X id r) (i : ∀ x xs H Q, r' x xs H Q → r x xs H Q) : MtR X id r' := fun pins s σ H x xs v us Q I rx rv q => h pins s σ H x xs v us Q I rx rv (i _ _ _ _ q)
def qInt : List V → Hp → VK → Prop := fun xs H Q => match xs with
  | [.int i] => Q (.int i) H
  | [.bl b] => Q (.int (if b then 1 else 0)) H
  | _ => False
theorem int1 : CallR X (.type "int") qInt := CallR_imp call_int1 fun xs H Q h => by
  unfold qInt at h
  split at h
  · exact .inl ⟨_, rfl, h⟩
  · exact .inr ⟨_, rfl, h⟩
  · exact h.elim
/-- list(x), x a list or a tuple -/
def qLst : List V → Hp → VK → Prop := fun xs H Q => match xs with
  | [.ref p] => ∃ ys, sq H p = some ys ∧ Nw H (.lst ys) fun l H' => Q (.ref l) H'
  | _ => False
theorem lst1 : CallR X (.type "list") qLst := CallR_imp call_list_of fun xs H Q h => by
  unfold qLst at h
  split at h
  · obtain ⟨ys, hs, q⟩ := h
    refine ⟨_, ys, rfl, ?_, ?_⟩
    · rcases sq_or hs with h | h
      · exact .inl (SqL.of h)
      · exact .inr (SqT.of h)
    · rw [nw_eq]; exact q
  · exact h.elim
/-- tuple(x), x a list -/
def qTup : List V → Hp → VK → Prop := fun xs H Q => match xs with
  | [.ref p] => ∃ ys, H p = some (.lst ys) ∧ Nw H (.tup ys) fun l H' => Q (.ref l) H'
  | _ => False
theorem tup1 : CallR X (.type "tuple") qTup := CallR_imp call_tuple_of fun xs H Q h => by
  unfold qTup at h
  split at h
  · obtain ⟨ys, hs, q⟩ := h
    refine ⟨_, ys, rfl, .inl ⟨SqL.of hs, ?_⟩⟩
    rw [nw_eq]; exact q
  · exact h.elim
end
section
variable {H : Hp} {Q : VK} {K : PySem.W.Frag}
theorem b_int {i : Int} : qInt [.int i] H Q = Q (.int i) H := rfl
theorem b_intb {b : Bool} : qInt [.bl b] H Q = Q (.int (if b then 1 else 0)) H := rfl
theorem b_list {p : Addr} : qLst [.ref p] H Q = ∃ ys, sq H p = some ys ∧ Nw H (.lst ys) fun l H' => Q (.ref l) H' := rfl
theorem b_tuple {p : Addr} : qTup [.ref p] H Q = ∃ ys, H p = some (.lst ys) ∧ Nw H (.tup ys) fun l H' => Q (.ref l) H' := rfl
theorem b_ix {p : Addr} {i : Int} : rIx1 (.ref p) (.int i) H Q = ∃ xs, sq H p = some xs ∧ ∃ v, atI xs i = some v ∧ Q v H := by
  unfold rIx1; apply propext; constructor
  · rintro ⟨_, _, xs, v, h1, h2, h⟩; cases h1; cases h2; exact ⟨xs, h.1, v, h.2⟩
  · rintro ⟨xs, h0, v, h⟩; exact ⟨_, _, xs, v, rfl, rfl, h0, h⟩
theorem b_len {p : Addr} : rLen1 [.ref p] H Q = ∃ xs, sq H p = some xs ∧ Q (.int xs.length) H := by
  unfold rLen1; apply propext; constructor
  · rintro ⟨_, xs, h1, h⟩; cases h1; exact ⟨xs, h⟩
  · rintro ⟨xs, h⟩; exact ⟨_, xs, rfl, h⟩
theorem b_setL {p : Addr} {k : Int} {v : V} {Q : Hp → Prop} : rSetL (.ref p) (.int k) v H Q = ∃ xs, H p = some (.lst xs) ∧ ∃ j, ixN xs.length k = some j ∧ Wr H p (.lst (xs.set j v)) Q := by
  unfold rSetL; apply propext; constructor
  · rintro ⟨_, xs, _, j, h1, h2, h3, h4, h⟩; cases h1; cases h2; rw [wr_eq (Q := Q)] at h; exact ⟨xs, h3, j, h4, h⟩
  · rintro ⟨xs, h3, j, h4, h⟩; rw [← wr_eq (Q := Q)] at h; exact ⟨_, xs, _, j, rfl, rfl, h3, h4, h⟩
theorem b_app {p : Addr} {y : V} : rAppend (.ref p) [y] H Q = ∃ xs, H p = some (.lst xs) ∧ xs.length < sizeLine ∧ Wr H p (.lst (xs ++ [y])) fun H' => Q .non H' := by
  unfold rAppend; apply propext; constructor
  · rintro ⟨_, xs, _, h1, h2, h3, h4, h⟩; cases h1; cases h2; rw [wr_eq (Q := fun H' => Q .non H')] at h; exact ⟨xs, h3, h4, h⟩
  · rintro ⟨xs, h3, h4, h⟩; rw [← wr_eq (Q := fun H' => Q .non H')] at h; exact ⟨_, xs, _, rfl, rfl, h3, h4, h⟩
theorem b_pop {p : Addr} : rPop (.ref p) [] H Q = ∃ xs, H p = some (.lst xs) ∧ ∃ y, xs[xs.length - 1]? = some y ∧ Wr H p (.lst xs.dropLast) fun H' => Q y H' := by
  unfold rPop; apply propext; constructor
  · rintro ⟨_, xs, y, h1, h2, h3, h4, h⟩; cases h1; rw [wr_eq (Q := fun H' => Q y H')] at h; exact ⟨xs, h3, y, h4, h⟩
  · rintro ⟨xs, h3, y, h4, h⟩; rw [← wr_eq (Q := fun H' => Q y H')] at h; exact ⟨_, xs, y, rfl, rfl, h3, h4, h⟩
theorem b_popAt {p : Addr} {i : Int} : rPopAt (.ref p) [.int i] H Q = ∃ xs, H p = some (.lst xs) ∧ ∃ k y, -(2 ^ 63) ≤ i ∧ i < 2 ^ 63 ∧ seqIndex? i xs.length = some k ∧ xs[k]? = some y ∧ Wr H p (.lst (xs.eraseIdx k)) fun H' => Q y H' := by
  unfold rPopAt; apply propext; constructor
  · rintro ⟨_, xs, _, k, y, h1, h2, h3, a, b, c, d, h⟩; cases h1; cases h2; rw [wr_eq (Q := fun H' => Q y H')] at h; exact ⟨xs, h3, k, y, a, b, c, d, h⟩
  · rintro ⟨xs, h3, k, y, a, b, c, d, h⟩; rw [← wr_eq (Q := fun H' => Q y H')] at h; exact ⟨_, xs, _, k, y, rfl, rfl, h3, a, b, c, d, h⟩
theorem b_sl {p : Addr} {lo hi : Option Int} : rSlL K (.ref p) lo hi H Q = ∃ xs, SqL K H p xs ∧ Nw H (.lst (cutV xs lo hi)) fun q H' => Q (.ref q) H' := by
  unfold rSlL; apply propext; constructor
  · rintro ⟨_, xs, h1, h2, h⟩; cases h1; rw [nw_eq] at h; exact ⟨xs, h2, h⟩
  · rintro ⟨xs, h2, h⟩; rw [← nw_eq] at h; exact ⟨_, xs, rfl, h2, h⟩
theorem b_rep {p : Addr} {k : Int} : rRep (.ref p) (.int k) H Q = ∃ xs, H p = some (.lst xs) ∧ -(2 ^ 63) ≤ k ∧ k < 2 ^ 63 ∧ xs.length * k.toNat ≤ sizeLine ∧ Nw H (.lst (List.replicate k.toNat xs).flatten) fun q H' => Q (.ref q) H' := by
  unfold rRep; apply propext; constructor
  · rintro ⟨_, _, xs, h1, h2, h3, a, b, c, h⟩; cases h1; cases h2; rw [nw_eq] at h; exact ⟨xs, h3, a, b, c, h⟩
  · rintro ⟨xs, h3, a, b, c, h⟩; rw [← nw_eq] at h; exact ⟨_, _, xs, rfl, rfl, h3, a, b, c, h⟩
theorem b_cat {p q : Addr} : rCat (.ref p) (.ref q) H Q = ∃ xs, H p = some (.lst xs) ∧ ∃ zs, H q = some (.lst zs) ∧ xs.length + zs.length ≤ sizeLine ∧ Nw H (.lst (xs ++ zs)) fun q H' => Q (.ref q) H' := by
  unfold rCat; apply propext; constructor
  · rintro ⟨_, _, xs, zs, h1, h2, h3, h4, a, h⟩; cases h1; cases h2; rw [nw_eq] at h; exact ⟨xs, h3, zs, h4, a, h⟩
  · rintro ⟨xs, h3, zs, h4, a, h⟩; rw [← nw_eq] at h; exact ⟨_, _, xs, zs, rfl, rfl, h3, h4, a, h⟩
theorem b_lstRg {σ : L2.St} {te : L2.St → Hp → (Int → Int → Hp → Prop) → Prop} : tLstRg te σ H Q = te σ H fun a b H1 => RgOk a b ∧ Nw H1 (.lst (rgV a b)) fun q H' => Q (.ref q) H' := by
  unfold tLstRg; simp only [nw_eq]
theorem b_tupRg {σ : L2.St} {te : L2.St → Hp → (Int → Int → Hp → Prop) → Prop} : tTupRg te σ H Q = te σ H fun a b H1 => RgOk a b ∧ Nw H1 (.tup (rgV a b)) fun q H' => Q (.ref q) H' := by
  unfold tTupRg; simp only [nw_eq]
theorem b_rg1 {σ : L2.St} {ta : TE} {Q : Int → Int → Hp → Prop} : tRg1 ta σ H Q = ta σ H fun x H1 => ∃ n, x = .int n ∧ Q 0 n H1 := rfl
theorem b_rg2 {σ : L2.St} {ta tb : TE} {Q : Int → Int → Hp → Prop} : tRg2 ta tb σ H Q = ta σ H fun x H1 => tb σ H1 fun y H2 => ∃ i j, x = .int i ∧ y = .int j ∧ Q i j H2 := rfl
theorem tyl {p : Addr} {xs : List V} (h : H p = some (.lst xs)) : tyV K "list" (.ref p) H := .inl ⟨rfl, _, SqL.of h⟩
end
structure NoB (mg : Str → Option Value) : Prop where
  no_len : mg "len" = none
  no_int : mg "int" = none
  no_bool : mg "bool" = none
  no_str : mg "str" = none
  no_range : mg "range" = none
  no_isinstance : mg "isinstance" = none
  no_tuple : mg "tuple" = none
  no_list : mg "list" = none
  no_min : mg "min" = none
  no_max : mg "max" = none
  no_sorted : mg "sorted" = none
/-! ### what readings say, applied -/
section
variable {σ : L2.St} {H : Hp} {Q : VK} {D : Ends} {K : PySem.W.Frag}
theorem a_var {i : Nat} : tVar i σ H Q = ∃ v, σ[i]? = some (some v) ∧ Q v H := rfl
theorem a_c {v : V} : tC v σ H Q = Q v H := rfl
theorem a_op {r : R2} {a b : TE} : tOp r a b σ H Q = a σ H fun x H1 => b σ H1 fun y H2 => r x y H2 Q := rfl
theorem a_un {r : V → Hp → VK → Prop} {a : TE} : tUn r a σ H Q = a σ H fun x H1 => r x H1 Q := rfl
theorem a_test {a : TE} {Q : Bool → Hp → Prop} : tTest a σ H Q = a σ H fun x H1 => ∃ k, x = .bl k ∧ Q k H1 := rfl
theorem a_b {a : TE} {Q : Bool → Hp → Prop} : tB a σ H Q = a σ H fun x H1 => ∃ k, x = .bl k ∧ Q k H1 := rfl
theorem a_and {t u : TT} {Q : Bool → Hp → Prop} : tAnd t u σ H Q = t σ H fun c H1 => if c = true then u σ H1 Q else Q false H1 := rfl
theorem a_or {t u : TT} {Q : Bool → Hp → Prop} : tOr t u σ H Q = t σ H fun c H1 => if c = true then Q true H1 else u σ H1 Q := rfl
theorem a_not {t : TT} {Q : Bool → Hp → Prop} : tNot t σ H Q = t σ H fun c H1 => Q (!c) H1 := rfl
theorem a_andV {a b : TE} : tAndV a b σ H Q = a σ H fun x H1 => ∃ c, x = .bl c ∧ if c = true then b σ H1 Q else Q (.bl false) H1 := rfl
theorem a_orV {a b : TE} : tOrV a b σ H Q = a σ H fun x H1 => ∃ c, x = .bl c ∧ if c = true then Q (.bl true) H1 else b σ H1 Q := rfl
theorem a_notV {a : TE} : tNotV a σ H Q = a σ H fun x H1 => ∃ c, x = .bl c ∧ Q (.bl (!c)) H1 := rfl
theorem a_if {t : TT} {a b : TE} : tIf t a b σ H Q = t σ H fun c H1 => if c = true then a σ H1 Q else b σ H1 Q := rfl
theorem a_next : tNext D σ H = D.nx σ H := rfl
theorem a_seq {t u : TS} : tSeq t u D σ H = t { D with nx := u D } σ H := rfl
theorem a_break : tBreak D σ H = D.bk σ H := rfl
theorem a_cont : tCont D σ H = D.ct σ H := rfl
theorem a_drop {a : TE} : tDrop a D σ H = a σ H fun _ H1 => D.nx σ H1 := rfl
theorem a_ret {a : TE} : tRet a D σ H = a σ H D.rt := rfl
theorem a_retN : tRetN D σ H = D.rt .non H := rfl
theorem a_ifS {c : TT} {t u : TS} : tIfS c t u D σ H = c σ H fun b H1 => if b = true then t D σ H1 else u D σ H1 := rfl
theorem a_asg {a : TE} {g : TG} : tAsg a g D σ H = a σ H fun x H1 => g x σ H1 D.nx := rfl
theorem a_name {i : Nat} {v : V} {Q : L2.St → Hp → Prop} : gName i v σ H Q = Q (σ.set i (some v)) H := rfl
theorem a_sub {o i : TE} {t : TSet} {v : V} {Q : L2.St → Hp → Prop} : gSub o i t v σ H Q = o σ H fun o H1 => i σ H1 fun i H2 => t o i v H2 fun H3 => Q σ H3 := rfl
theorem a_nil {Q : List V → Hp → Prop} : tNil σ H Q = Q [] H := rfl
theorem a_cons {a : TE} {r : TA} {Q : List V → Hp → Prop} : tCons a r σ H Q = a σ H fun x H1 => r σ H1 fun xs H2 => Q (x :: xs) H2 := rfl
theorem a_tup {t : TA} : tTup t σ H Q = t σ H fun xs H1 => xs.length ≤ sizeLine ∧ Nw H1 (.tup xs) fun p H' => Q (.ref p) H' := by unfold tTup; simp only [nw_eq]
theorem a_lst {t : TA} : tLst t σ H Q = t σ H fun xs H1 => xs.length ≤ sizeLine ∧ Nw H1 (.lst xs) fun p H' => Q (.ref p) H' := by unfold tLst; simp only [nw_eq]
theorem a_call {sp : Sp} {E : XK} {t : TA} : tCall sp [] E t σ H Q = t σ H fun vs H1 => sp vs H1 Q E := by
  unfold tCall; simp only [List.append_nil]
theorem a_cb {r : List V → Hp → VK → Prop} {t : TA} : tCB r t σ H Q = t σ H fun vs H1 => r vs H1 Q := rfl
theorem a_bm0 {T : String} {r : V → List V → Hp → VK → Prop} {to : TE} : tBM0 K T r to σ H Q = to σ H fun x H1 => tyV K T x H1 ∧ r x [] H1 Q := rfl
theorem a_bm {T : String} {r : V → List V → Hp → VK → Prop} {to : TE} {t : TA} : tBM K T r to t σ H Q = to σ H fun x H1 => tyV K T x H1 ∧ t σ H1 fun xs H2 => r x xs H2 Q := rfl
theorem a_sl {r : V → Option Int → Option Int → Hp → VK → Prop} {te : TE} {tl th : TO} : tSl r te tl th σ H Q = te σ H fun x H1 => tl σ H1 fun l H2 => th σ H2 fun u H3 => r x l u H3 Q := rfl
theorem a_nopart {Q : Option Int → Hp → Prop} : tNoPart σ H Q = Q none H := rfl
theorem a_part {t : TE} {Q : Option Int → Hp → Prop} : tPart t σ H Q = t σ H fun x H1 => ∃ i, x = .int i ∧ Q (some i) H1 := rfl
theorem a_aug {i : Nat} {te : TE} {ti : TIp} : tAug i te ti D σ H = ∃ x, σ[i]? = some (some x) ∧ te σ H fun y H1 => ti x y H1 fun z H2 => D.nx (σ.set i (some z)) H2 := rfl
theorem b_rI {C : Int → Int → Prop} {g : Int → Int → V} {x y : Int} : rI C g (.int x) (.int y) H Q = (C x y ∧ Q (g x y) H) := by
  unfold rI; apply propext; constructor
  · rintro ⟨i, j, h1, h2, h⟩; cases h1; cases h2; exact h
  · intro h; exact ⟨x, y, rfl, rfl, h⟩
theorem b_rI0 {g : Int → Int → V} {x y : Int} : rI0 g (.int x) (.int y) H Q = Q (g x y) H := by
  unfold rI0; apply propext; constructor
  · rintro ⟨i, j, h1, h2, h⟩; cases h1; cases h2; exact h
  · intro h; exact ⟨x, y, rfl, rfl, h⟩
theorem b_rU {g : Int → V} {x : Int} : rU g (.int x) H Q = Q (g x) H := by
  unfold rU; apply propext; constructor
  · rintro ⟨i, h1, h⟩; cases h1; exact h
  · intro h; exact ⟨x, rfl, h⟩
theorem b_eq {x y : V} : rEq x y H Q = (scal x y = true ∧ Q (.bl (decide (x = y))) H) := rfl
theorem b_ne {x y : V} : rNe x y H Q = (scal x y = true ∧ Q (.bl (!decide (x = y))) H) := rfl
theorem b_isTF {x : V} {b : Bool} : rIsTF x (.bl b) H Q = Q (.bl (decide (x = .bl b))) H := by
  unfold rIsTF; apply propext; constructor
  · rintro ⟨i, h1, h⟩; cases h1; exact h
  · intro h; exact ⟨b, rfl, h⟩
end
theorem seq_join {t u : TS} {D : Ends} {σ : L2.St} {H : Hp} (M : L2.St → Hp → Prop) (h2 : ∀ N : L2.St → Hp → Prop, (∀ σ H, M σ H → N σ H) → t { D with nx := N } σ H) (h1 : ∀ σ H, M σ H → u D σ H) : tSeq t u D σ H := h2 (u D) h1
theorem ixN_7 : ixN 7 1 = some 1 ∧ ixN 7 2 = some 2 ∧ ixN 7 3 = some 3 ∧ ixN 7 4 = some 4 ∧ ixN 7 5 = some 5 ∧ ixN 7 6 = some 6 := by decide
theorem atI_of {α : Type} {xs : List α} {i : Int} {v : α} (h0 : 0 ≤ i) (h : xs[i.toNat]? = some v) : atI xs i = some v := by
  have hl := (List.getElem?_eq_some_iff.mp h).1
  unfold atI ixN
  rw [if_pos h0, if_pos (by omega)]
  exact h
theorem atI_0 {α : Type} {a : α} {r : List α} : atI (a :: r) 0 = some a := atI_of (by decide) rfl
theorem atI_1 {α : Type} {a b : α} {r : List α} : atI (a :: b :: r) 1 = some b := atI_of (by decide) rfl
theorem atI_2 {α : Type} {a b c : α} {r : List α} : atI (a :: b :: c :: r) 2 = some c := atI_of (by decide) rfl
theorem atI_3 {α : Type} {a b c d : α} {r : List α} : atI (a :: b :: c :: d :: r) 3 = some d := atI_of (by decide) rfl
theorem atI_4 {α : Type} {a b c d e : α} {r : List α} : atI (a :: b :: c :: d :: e :: r) 4 = some e := atI_of (by decide) rfl
theorem atI_5 {α : Type} {a b c d e f : α} {r : List α} : atI (a :: b :: c :: d :: e :: f :: r) 5 = some f := atI_of (by decide) rfl
theorem atI_6 {α : Type} {a b c d e f g : α} {r : List α} : atI (a :: b :: c :: d :: e :: f :: g :: r) 6 = some g := atI_of (by decide) rfl
theorem ixN_of {n : Nat} {i : Int} (h0 : 0 ≤ i) (h : i < n) : ixN n i = some i.toNat := by
  unfold ixN
  rw [if_pos h0, if_pos h]
theorem fm_bound {x m : Int} (h : 0 < m) : 0 ≤ x.fmod m ∧ x.fmod m < m := ⟨Int.fmod_nonneg_of_pos x h, Int.fmod_lt_of_pos x h⟩
theorem cm_lit {i j : Int} (h : -(2 ^ 64) < j ∧ j < 2 ^ 64) : CMul i j := .inr h
theorem cm_fm {x y m : Int} (h : 0 < m) (h2 : m < 2 ^ 64) : CMul (x.fmod m) y := .inl (by have := fm_bound (x := x) h; omega)
theorem scal_ii {i j : Int} : scal (.int i) (.int j) = true := rfl
theorem scal_bb {i j : Bool} : scal (.bl i) (.bl j) = true := rfl
theorem scal_ss {i j : Str} : scal (.str i) (.str j) = true := rfl
theorem scal_is {i : Int} {j : Str} : scal (.int i) (.str j) = true := rfl
theorem scal_si {i : Int} {j : Str} : scal (.str j) (.int i) = true := rfl
/-! ### loops -/
section
variable {σ : L2.St} {H : Hp} {Q : VK} {D : Ends} {K : PySem.W.Frag} {g : TG} {tb : TS} {tt : TT} {te : TE} {vs : List Nat} {ta : TA} {tl : TE}
def FRg (lo : Int) (n : Nat) (g : TG) (tb : TS) (D : Ends) (σ : L2.St) (H : Hp) : Prop := ∃ W : Nat → Nat → L2.St → Hp → Prop, (∃ m, W 0 m σ H) ∧ ∀ i m σ H, W i m σ H →
      ((Itr lo n).stop i H ∧ D.nx σ H) ∨ ((Itr lo n).go i H ∧ ∃ N : L2.St → Hp → Prop, (∀ σ' H', N σ' H' → ∃ m', m' < m ∧ W (i + 1) m' σ' H') ∧ ∀ x H', (Itr lo n).yld i H x H' → g x σ H' fun σ2 H2 => tb { D with nx := N, ct := N, bk := D.nx } σ2 H2)
theorem a_forR : tFor (iRng1 ta) g tb D σ H = ta σ H fun vs H1 => ∃ j : Int, vs = [.int j] ∧ -(2 ^ 62) ≤ j ∧ j < 2 ^ 62 ∧ FRg 0 j.toNat g tb D σ H1 := rfl
theorem a_forR2 : tFor (iRng2 ta) g tb D σ H = ta σ H fun vs H1 => ∃ i j : Int, vs = [.int i, .int j] ∧ (-(2 ^ 62) ≤ i ∧ i < 2 ^ 62 ∧ -(2 ^ 62) ≤ j ∧ j < 2 ^ 62) ∧ FRg i (j - i).toNat g tb D σ H1 := rfl
theorem fr_by {lo : Int} {n : Nat} (Pv : Nat → L2.St → Hp → Prop) (h0 : Pv 0 σ H)
    (hs : ∀ i σ H (N : L2.St → Hp → Prop), (∀ σ' H', Pv (i + 1) σ' H' → N σ' H') → i < n → Pv i σ H → g (.int (lo + i)) σ H fun σ2 H2 => tb { D with nx := N, ct := N, bk := D.nx } σ2 H2) (hd : ∀ σ H, Pv n σ H → D.nx σ H) : FRg lo n g tb D σ H := for_range Pv h0 (fun i σ H => hs i σ H _ fun _ _ z => z) hd
def FSq (K : PySem.W.Frag) (a : Addr) (g : TG) (tb : TS) (D : Ends) (σ : L2.St) (H : Hp) : Prop := ∃ xs, (H a = some (.lst xs) ∧ tFor (fun _ H R => R (Itl K a) H) g tb D σ H) ∨ (H a = some (.tup xs) ∧ tFor (fun _ H R => R (Itt K a) H) g tb D σ H)
def FSqV (K : PySem.W.Frag) (x : V) (g : TG) (tb : TS) (D : Ends) (σ : L2.St) (H : Hp) : Prop := ∃ a xs, x = .ref a ∧ ((H a = some (.lst xs) ∧ tFor (fun _ H R => R (Itl K a) H) g tb D σ H) ∨ (H a = some (.tup xs) ∧ tFor (fun _ H R => R (Itt K a) H) g tb D σ H))
theorem a_forS : tFor (iSq K tl) g tb D σ H = tl σ H fun x H1 => FSqV K x g tb D σ H1 := rfl
theorem b_fsq {a : Addr} : FSqV K (.ref a) g tb D σ H = FSq K a g tb D σ H := by
  unfold FSqV FSq; apply propext; constructor
  · rintro ⟨b, xs, e, h⟩; cases e; exact ⟨xs, h⟩
  · rintro ⟨xs, h⟩; exact ⟨a, xs, rfl, h⟩
theorem fs_by {a : Addr} {xs : List V} (hq : sq H a = some xs) (Pv : Nat → L2.St → Hp → Prop) (h0 : Pv 0 σ H) (hl : ∀ i σ' H', Pv i σ' H' → ∀ o, H a = some o → H' a = some o)
    (hs : ∀ i x σ H (N : L2.St → Hp → Prop), (∀ σ' H', Pv (i + 1) σ' H' → N σ' H') → xs[i]? = some x → Pv i σ H → g x σ H fun σ2 H2 => tb { D with nx := N, ct := N, bk := D.nx } σ2 H2) (hd : ∀ σ H, Pv xs.length σ H → D.nx σ H) : FSq K a g tb D σ H := by
  rcases sq_or hq with h | h
  · exact ⟨xs, .inl ⟨h, for_list Pv h0 (fun i σ' H' _ p => SqL.of (hl i σ' H' p _ h)) (fun i x σ H => hs i x σ H _ fun _ _ z => z) hd⟩⟩
  · exact ⟨xs, .inr ⟨h, for_tup Pv h0 (fun i σ' H' _ p => SqT.of (hl i σ' H' p _ h)) (fun i x σ H => hs i x σ H _ fun _ _ z => z) hd⟩⟩
/-! ### comprehensions -/
def CRg (lo : Int) (n : Nat) (g : TG) (tt : TT) (te : TE) (vs : List Nat) (σ : L2.St) (H : Hp) (Q : VK) : Prop := tLc (fun _ H R => R (Itr lo n) H) g tt te vs σ H Q
theorem a_lcR : tLc (iRng1 ta) g tt te vs σ H Q = ta σ H fun ws H1 => ∃ j : Int, ws = [.int j] ∧ -(2 ^ 62) ≤ j ∧ j < 2 ^ 62 ∧ CRg 0 j.toNat g tt te vs σ H1 Q := rfl
theorem a_lcR2 : tLc (iRng2 ta) g tt te vs σ H Q = ta σ H fun ws H1 => ∃ i j : Int, ws = [.int i, .int j] ∧ (-(2 ^ 62) ≤ i ∧ i < 2 ^ 62 ∧ -(2 ^ 62) ≤ j ∧ j < 2 ^ 62) ∧ CRg i (j - i).toNat g tt te vs σ H1 Q := rfl
/-- the end of a comprehension's turn -/
def CSt (C : Addr) (N : Hp → Prop) (y : V) (H : Hp) : Prop := ∃ acc, H C = some (.lst acc) ∧ acc.length < sizeLine ∧ N (upd H C (.lst (acc ++ [y])))
theorem cst {C : Addr} {N : Hp → Prop} {y : V} {H : Hp} {acc : List V} (h : H C = some (.lst acc)) (hl : acc.length < sizeLine) (hn : ∀ H5, Put H C (.lst (acc ++ [y])) H5 → N H5) : CSt C N y H := ⟨acc, h, hl, hn _ Put.mk'⟩
theorem cr_by {lo : Int} {n : Nat} (Pv : Addr → Nat → List V → Hp → Prop) (h0 : ∀ C H0, New H C (.lst []) H0 → Pv C 0 [] H0)
    (hs : ∀ C i acc H1 N, H C = none → i < n → H1 C = some (.lst acc) → Pv C i acc H1 → (∀ acc' H5, H5 C = some (.lst acc') → Pv C (i + 1) acc' H5 → N H5) → g (.int (lo + i)) (wipe σ vs) H1 fun σ2 H2 => wipe σ2 vs = wipe σ vs ∧ tt σ2 H2 fun b H3 =>
      if b = true then te σ2 H3 fun y H4 => CSt C N y H4 else N H3)
    (hd : ∀ C acc H1, H C = none → H1 C = some (.lst acc) → Pv C n acc H1 → Q (.ref C) H1) : CRg lo n g tt te vs σ H Q := by
  intro C hC
  refine lc_range (fun i H1 => ∃ acc, H1 C = some (.lst acc) ∧ Pv C i acc H1) ⟨[], upd_same, h0 C _ (New.mk' hC)⟩ (fun i H1 hi ⟨acc, ha, p⟩ => ?_) (fun H1 ⟨acc, ha, p⟩ => hd C acc H1 hC ha p)
  exact hs C i acc H1 _ hC hi ha p fun acc' H5 h5 p5 => ⟨acc', h5, p5⟩
def CSq (K : PySem.W.Frag) (a : Addr) (g : TG) (tt : TT) (te : TE) (vs : List Nat) (σ : L2.St) (H : Hp) (Q : VK) : Prop := ∃ xs, (H a = some (.lst xs) ∧ tLc (fun _ H R => R (Itl K a) H) g tt te vs σ H Q) ∨ (H a = some (.tup xs) ∧ tLc (fun _ H R => R (Itt K a) H) g tt te vs σ H Q)
def CSqV (K : PySem.W.Frag) (x : V) (g : TG) (tt : TT) (te : TE) (vs : List Nat) (σ : L2.St) (H : Hp) (Q : VK) : Prop := ∃ a xs, x = .ref a ∧ ((H a = some (.lst xs) ∧ tLc (fun _ H R => R (Itl K a) H) g tt te vs σ H Q) ∨ (H a = some (.tup xs) ∧ tLc (fun _ H R => R (Itt K a) H) g tt te vs σ H Q))
theorem a_lcS : tLc (iSq K tl) g tt te vs σ H Q = tl σ H fun x H1 => CSqV K x g tt te vs σ H1 Q := rfl
theorem b_csq {a : Addr} : CSqV K (.ref a) g tt te vs σ H Q = CSq K a g tt te vs σ H Q := by
  unfold CSqV CSq; apply propext; constructor
  · rintro ⟨b, xs, e, h⟩; cases e; exact ⟨xs, h⟩
  · rintro ⟨xs, h⟩; exact ⟨a, xs, rfl, h⟩
theorem cs_by {a : Addr} {xs : List V} (hq : sq H a = some xs) (Pv : Addr → Nat → List V → Hp → Prop) (h0 : ∀ C H0, New H C (.lst []) H0 → Pv C 0 [] H0) (hl : ∀ C i acc H', H C = none → Pv C i acc H' → ∀ o, H a = some o → H' a = some o)
    (hs : ∀ C i x acc H1 N, H C = none → xs[i]? = some x → H1 C = some (.lst acc) → Pv C i acc H1 → (∀ acc' H5, H5 C = some (.lst acc') → Pv C (i + 1) acc' H5 → N H5) → g x (wipe σ vs) H1 fun σ2 H2 => wipe σ2 vs = wipe σ vs ∧ tt σ2 H2 fun b H3 =>
      if b = true then te σ2 H3 fun y H4 => CSt C N y H4 else N H3)
    (hd : ∀ C acc H1, H C = none → H1 C = some (.lst acc) → Pv C xs.length acc H1 → Q (.ref C) H1) : CSq K a g tt te vs σ H Q := by
  rcases sq_or hq with h | h
  · refine ⟨xs, .inl ⟨h, fun C hC => ?_⟩⟩
    refine lc_list (fun i H1 => ∃ acc, H1 C = some (.lst acc) ∧ Pv C i acc H1) ⟨[], upd_same, h0 C _ (New.mk' hC)⟩ (fun i H1 _ ⟨acc, ha, p⟩ => SqL.of (hl C i acc H1 hC p _ h)) (fun i x H1 hi ⟨acc, ha, p⟩ => ?_) (fun H1 ⟨acc, ha, p⟩ => hd C acc H1 hC ha p)
    exact hs C i x acc H1 _ hC hi ha p fun acc' H5 h5 p5 => ⟨acc', h5, p5⟩
  · refine ⟨xs, .inr ⟨h, fun C hC => ?_⟩⟩
    refine lc_tup (fun i H1 => ∃ acc, H1 C = some (.lst acc) ∧ Pv C i acc H1) ⟨[], upd_same, h0 C _ (New.mk' hC)⟩ (fun i H1 _ ⟨acc, ha, p⟩ => SqT.of (hl C i acc H1 hC p _ h)) (fun i x H1 hi ⟨acc, ha, p⟩ => ?_) (fun H1 ⟨acc, ha, p⟩ => hd C acc H1 hC ha p)
    exact hs C i x acc H1 _ hC hi ha p fun acc' H5 h5 p5 => ⟨acc', h5, p5⟩
/-! ### while -/
def WSt (N : L2.St → Hp → Prop) (tb : TS) (D : Ends) (σ : L2.St) (b : Bool) (H : Hp) : Prop := if b = true then tb { D with nx := N, ct := N, bk := D.nx } σ H else D.nx σ H
theorem wh_by {c : TT} (Pv : Nat → L2.St → Hp → Prop) (m : Nat) (h0 : Pv m σ H) (hs : ∀ m σ H (N : L2.St → Hp → Prop) (R : Bool → Hp → Prop), (∀ m' σ' H', m' < m → Pv m' σ' H' → N σ' H') → (∀ b H1, WSt N tb D σ b H1 → R b H1) → Pv m σ H → c σ H R) : tWhile c tb D σ H := by
  refine ⟨Pv, ⟨m, h0⟩, fun m σ H p => ?_⟩
  refine hs m σ H (fun σ' H' => ∃ m', m' < m ∧ Pv m' σ' H') _ (fun m' σ' H' h p => ⟨m', h, p⟩) (fun b H1 h => ?_) p
  unfold WSt at h
  cases b with
  | true => exact ⟨_, fun _ _ z => z, h⟩
  | false => exact h
theorem wst {N : L2.St → Hp → Prop} {b : Bool} (ht : b = true → tb { D with nx := N, ct := N, bk := D.nx } σ H) (hf : b = false → D.nx σ H) : WSt N tb D σ b H := by
  cases b with
  | true => exact ht rfl
  | false => exact hf rfl
end
theorem wipe_nil {σ : L2.St} : wipe σ [] = σ := rfl
theorem wipe_cons {σ : L2.St} {v : Nat} {vs : List Nat} : wipe σ (v :: vs) = (wipe σ vs).set v none := rfl
theorem a_yes {σ : L2.St} {H : Hp} {Q : Bool → Hp → Prop} : tYes σ H Q = Q true H := rfl
/-! ### data -/
inductive Lf : V → PyData → Nat → Prop
  | non : Lf .non .none 1
  | bl (b : Bool) : Lf (.bl b) (.bool b) 1
  | int (i : Int) : Lf (.int i) (.int i) 1
  | str (x : Str) : Lf (.str x) (.str x) (x.length + 1)
theorem Lf.pos {v : V} {d : PyData} {n : Nat} (h : Lf v d n) : 0 < n := by cases h <;> omega
mutual
inductive Dw (E : List Addr) (H : Hp) : V → PyData → Nat → Prop
  | lf {v : V} {d : PyData} {n : Nat} : Lf v d n → Dw E H v d n
  | lst {a : Addr} {xs : List V} {ds : List PyData} {n : Nat} : a ∉ E → H a = some (.lst xs) → DwAll E H xs ds n → Dw E H (.ref a) (.list ds) (n + 1)
  | tup {a : Addr} {xs : List V} {ds : List PyData} {n : Nat} : a ∉ E → H a = some (.tup xs) → DwAll E H xs ds n → Dw E H (.ref a) (.tuple ds) (n + 1)
inductive DwAll (E : List Addr) (H : Hp) : List V → List PyData → Nat → Prop
  | nil : DwAll E H [] [] 0
  | cons {v : V} {vs : List V} {d : PyData} {ds : List PyData} {n m : Nat} : Dw E H v d n → DwAll E H vs ds m → DwAll E H (v :: vs) (d :: ds) (n + m)
end
mutual
theorem Dw.kp {E : List Addr} {H H' : Hp} (k : ∀ a o, a ∉ E → H a = some o → H' a = some o) : ∀ {v : V} {d : PyData} {n : Nat}, Dw E H v d n → Dw E H' v d n
  | _, _, _, .lf l => .lf l
  | _, _, _, .lst ne h a => .lst ne (k _ _ ne h) (DwAll.kp k a)
  | _, _, _, .tup ne h a => .tup ne (k _ _ ne h) (DwAll.kp k a)
theorem DwAll.kp {E : List Addr} {H H' : Hp} (k : ∀ a o, a ∉ E → H a = some o → H' a = some o) : ∀ {v : List V} {d : List PyData} {n : Nat}, DwAll E H v d n → DwAll E H' v d n
  | _, _, _, .nil => .nil
  | _, _, _, .cons a b => .cons (Dw.kp k a) (DwAll.kp k b)
end
theorem Dw.pos {E : List Addr} {H : Hp} {v : V} {d : PyData} {n : Nat} (h : Dw E H v d n) : 0 < n := by
  cases h with
  | lf l => exact l.pos
  | lst => omega
  | tup => omega
theorem DwAll.len {E : List Addr} {H : Hp} : ∀ {v : List V} {d : List PyData} {n : Nat}, DwAll E H v d n → v.length = d.length ∧ v.length ≤ n
  | _, _, _, .nil => ⟨rfl, Nat.le_refl _⟩
  | _, _, _, .cons a b => by
    have h1 := DwAll.len b
    have h2 := a.pos
    simp only [List.length_cons]
    omega
theorem DwAll.app {E : List Addr} {H : Hp} : ∀ {v : List V} {d : List PyData} {n : Nat} {v' : List V} {d' : List PyData} {n' : Nat}, DwAll E H v d n → DwAll E H v' d' n' → DwAll E H (v ++ v') (d ++ d') (n + n')
  | _, _, _, _, _, n', .nil, b => by rw [Nat.zero_add]; exact b
  | _, _, _, _, _, _, .cons (n := n) (m := m) a r, b => by rw [Nat.add_assoc]; exact .cons a (DwAll.app r b)
theorem DwAll.one {E : List Addr} {H : Hp} {v : V} {d : PyData} {n : Nat} (h : Dw E H v d n) : DwAll E H [v] [d] n := .cons h .nil
theorem DwAll.get {E : List Addr} {H : Hp} : ∀ {v : List V} {d : List PyData} {n i : Nat} {x : V}, DwAll E H v d n → v[i]? = some x → ∃ e m, d[i]? = some e ∧ Dw E H x e m ∧ m ≤ n
  | _, _, _, _, _, .nil, h => by simp at h
  | _, _, _, 0, x, .cons (n := n) (m := m) a r, h => by
    simp at h; subst h
    exact ⟨_, _, rfl, a, by omega⟩
  | _, _, _, i + 1, x, .cons (n := n) (m := m) a r, h => by
    obtain ⟨e, k, h1, h2, h3⟩ := DwAll.get (i := i) (x := x) r (by simpa using h)
    exact ⟨e, k, by simpa using h1, h2, by omega⟩
theorem DwAll.mem {E : List Addr} {H : Hp} {v : List V} {d : List PyData} {n : Nat} {x : V} (h : DwAll E H v d n) (hx : x ∈ v) : ∃ e m, e ∈ d ∧ Dw E H x e m ∧ m ≤ n := by
  obtain ⟨i, hi⟩ := List.getElem?_of_mem hx
  obtain ⟨e, m, h1, h2, h3⟩ := h.get hi
  exact ⟨e, m, List.mem_of_getElem? h1, h2, h3⟩
/-- any list of data -/
theorem DwAll.of {E : List Addr} {H : Hp} {b : Nat} : ∀ {v : List V}, (∀ x ∈ v, ∃ d n, Dw E H x d n ∧ n ≤ b) → ∃ ds n, DwAll E H v ds n ∧ n ≤ b * v.length
  | [], _ => ⟨[], 0, .nil, by simp⟩
  | x :: r, h => by
    obtain ⟨d, n, h1, h2⟩ := h x List.mem_cons_self
    obtain ⟨ds, m, h3, h4⟩ := DwAll.of (v := r) fun y hy => h y (List.mem_cons_of_mem _ hy)
    refine ⟨d :: ds, n + m, .cons h1 h3, ?_⟩
    rw [List.length_cons, Nat.mul_add]
    omega
theorem DwAll.ints {E : List Addr} {H : Hp} : ∀ ns : List Int, DwAll E H (ns.map V.int) (ns.map PyData.int) ns.length
  | [] => .nil
  | n :: r => by
    have := DwAll.cons (E := E) (H := H) (Dw.lf (.int n)) (DwAll.ints r)
    rw [List.length_cons, Nat.add_comm]
    exact this
/-- the law's store at s, its list of cells at l -/
def Sto (s l : Addr) (H : Hp) : Prop := ∃ (ns : List Int) (i1 i2 i3 i4 i5 i6 : Int), H s = some (.lst [.ref l, .int i1, .int i2, .int i3, .int i4, .int i5, .int i6]) ∧ H l = some (.lst (ns.map V.int)) ∧ l ≠ s ∧ 0 ≤ i1
theorem Sto.put {s l : Addr} {H H' : Hp} {ns : List Int} {i1 i2 i3 i4 i5 i6 : Int} (hl : H l = some (.lst (ns.map V.int))) (ne : l ≠ s) (n : Put H s (.lst [.ref l, .int i1, .int i2, .int i3, .int i4, .int i5, .int i6]) H') (h1 : 0 ≤ i1) : Sto s l H' :=
  ⟨ns, i1, i2, i3, i4, i5, i6, n.at_, n.k ne hl, ne, h1⟩
theorem Sto.ne {s l p : Addr} {H : Hp} (h : Sto s l H) (hp : H p = none) : p ≠ s ∧ p ≠ l := by
  obtain ⟨ns, i1, i2, i3, i4, i5, i6, hs, hl, ne, h1⟩ := h
  exact ⟨(ne_of_none hs hp).symm, (ne_of_none hl hp).symm⟩
theorem Sto.keep {s l : Addr} {H H' : Hp} (h : Sto s l H) (a : ∀ o, H s = some o → H' s = some o) (b : ∀ o, H l = some o → H' l = some o) : Sto s l H' := by
  obtain ⟨ns, i1, i2, i3, i4, i5, i6, hs, hl, ne, h1⟩ := h
  exact ⟨ns, i1, i2, i3, i4, i5, i6, a _ hs, b _ hl, ne, h1⟩
theorem Sto.same {s l : Addr} {H H' : Hp} (h : Sto s l H) (a : Same H H') : Sto s l H' := h.keep (fun _ => a _ _) fun _ => a _ _
structure Ge (s l : Addr) (H H' : Hp) : Prop where
  kp : Kp s H H'
  st : Sto s l H'
section
variable {s l p : Addr} {H H1 H2 : Hp} {o : HO}
theorem Ge.refl (h : Sto s l H) : Ge s l H H := ⟨Kp.refl, h⟩
theorem Ge.trans (a : Ge s l H H1) (b : Ge s l H1 H2) : Ge s l H H2 := ⟨a.kp.trans b.kp, b.st⟩
theorem Ge.same (a : Ge s l H H1) (b : Same H1 H2) : Ge s l H H2 := ⟨a.kp.trans (Kp.same b), a.st.same b⟩
theorem Ge.new (a : Ge s l H H1) (n : New H1 p o H2) : Ge s l H H2 := a.same n.same
theorem Ge.fr (a : Ge s l H H1) (h : H1 p = none) : H p = none := a.kp.fresh (a.st.ne h).1 h
/-- a store to an object that is new since H -/
theorem Ge.put (a : Ge s l H H1) (h0 : Sto s l H) (hp : H p = none) (n : Put H1 p o H2) : Ge s l H H2 := by
  have e := h0.ne hp
  exact ⟨fun b u hb hu => n.k (ne_of_none hu hp) (a.kp b u hb hu), a.st.keep (fun _ h => n.k e.1.symm h) fun _ h => n.k e.2.symm h⟩
theorem Ge.at (a : Ge s l H1 H2) (h0 : Sto s l H) (hp : H p = none) (h : H1 p = some o) : H2 p = some o := a.kp.k (h0.ne hp).1 h
theorem Ge.k (a : Ge s l H1 H2) (ne : p ≠ s) (h : H1 p = some o) : H2 p = some o := a.kp.k ne h
end
theorem Kp.sq {s p : Addr} {H H' : Hp} {xs : List V} (a : Kp s H H') (ne : p ≠ s) (h : sq H p = some xs) : sq H' p = some xs := by
  rcases sq_or h with h | h
  · exact sq_l (a.k ne h)
  · exact sq_t (a.k ne h)
theorem cxK {CX : CXT} {P : Program} {w : World} {K : PySem.W.Frag} {mg : Str → Option Value} {base : Heap} {N : List Str} {q : Str} {sc : Scope} {f : Addr} {cd : Value} {A : Around} {outer : List Env} {s : Shared} {H : Hp} {E : XK} : (cxOf CX P w K mg base N q sc f cd A outer s H E).K = K := rfl
theorem Sto.ne' {s l p : Addr} {H : Hp} {o : HO} (h : Sto s l H) (hp : H p = some o) (hb : ∀ m i1 i2 i3 i4 i5 i6, o ≠ .lst [.ref m, .int i1, .int i2, .int i3, .int i4, .int i5, .int i6]) : p ≠ s := by
  obtain ⟨ns, i1, i2, i3, i4, i5, i6, hs, hl, ne, h1⟩ := h
  rintro rfl
  rw [hp] at hs
  exact hb _ _ _ _ _ _ _ (Option.some.inj hs)
section
variable {σ : L2.St} {H : Hp} {Q : VK}
theorem a_m1 {r : V → List V → Hp → VK → Prop} {a b : TE} : tM1 r a b σ H Q = a σ H fun x H1 => (∃ z, x = .str z) ∧ b σ H1 fun y H2 => r x [y] H2 Q := rfl
theorem b_ixS {z : Str} {i : Int} : rIxS (.str z) (.int i) H Q = (z.length ≤ sizeLine ∧ ∃ c, atI z.cps.toList i = some c ∧ Q (.str ⟨#[c]⟩) H) := by
  unfold rIxS; apply propext; constructor
  · rintro ⟨_, _, c, h1, h2, h3, h4, h⟩; cases h1; cases h2; exact ⟨h3, c, h4, h⟩
  · rintro ⟨h3, c, h4, h⟩; exact ⟨_, _, c, rfl, rfl, h3, h4, h⟩
theorem b_slS {z : Str} {lo hi : Option Int} : rSlS (.str z) lo hi H Q = (z.length ≤ sizeLine ∧ Q (.str (cutS z lo hi)) H) := by
  unfold rSlS; apply propext; constructor
  · rintro ⟨_, h1, h3, h⟩; cases h1; exact ⟨h3, h⟩
  · rintro ⟨h3, h⟩; exact ⟨_, rfl, h3, h⟩
end
theorem len_app (a b : Str) : (a ++ b).length = a.length + b.length := by
  show (Array.size (a.cps ++ b.cps)) = _
  rw [Array.size_append]
  rfl
theorem tl_app (a b : Str) : (a ++ b).cps.toList = a.cps.toList ++ b.cps.toList := by
  show (a.cps ++ b.cps).toList = _
  rw [Array.toList_append]
theorem len_tl (a : Str) : a.cps.toList.length = a.length := by simp [Str.length]
/-- signs from the space to the tilde and line feeds -/
def Vis (z : Str) : Prop := ∀ c ∈ z.cps.toList, c = 10 ∨ (32 ≤ c ∧ c < 127)
theorem Vis.app {a b : Str} (h : Vis a) (h' : Vis b) : Vis (a ++ b) := by
  intro c hc
  rw [tl_app] at hc
  rcases List.mem_append.mp hc with z | z
  · exact h c z
  · exact h' c z
theorem Vis.cut {a : Str} (h : Vis a) (lo hi : Option Int) : Vis (cutS a lo hi) := by
  intro c hc
  unfold cutS at hc
  exact h c (List.mem_of_mem_drop (List.mem_of_mem_take (by simpa using hc)))
theorem joinL_nil : ∀ ps : List (List Nat), TL.joinL [] ps = ps.flatten
  | [] => rfl
  | [p] => by simp [TL.joinL]
  | p :: q :: r => by
    have e := joinL_nil (q :: r)
    show p ++ ([] ++ TL.joinL [] (q :: r)) = _
    rw [e] <;> simp
theorem join_tl (ys : List Str) : (Txt.join ("" : Str) ys).cps.toList = (ys.map fun z => z.cps.toList).flatten := by
  have e := TL.tl_join ("" : Str) ys
  rw [← TL.join_eq] at e
  have e0 : TL.tl ("" : Str) = [] := by decide +kernel
  rw [e0, joinL_nil] at e
  exact e
mutual
theorem Dw.sub {E E' : List Addr} {H : Hp} (k : ∀ a, a ∈ E' → a ∈ E) : ∀ {v : V} {d : PyData} {n : Nat}, Dw E H v d n → Dw E' H v d n
  | _, _, _, .lf l => .lf l
  | _, _, _, .lst ne h a => .lst (fun z => ne (k _ z)) h (DwAll.sub k a)
  | _, _, _, .tup ne h a => .tup (fun z => ne (k _ z)) h (DwAll.sub k a)
theorem DwAll.sub {E E' : List Addr} {H : Hp} (k : ∀ a, a ∈ E' → a ∈ E) : ∀ {v : List V} {d : List PyData} {n : Nat}, DwAll E H v d n → DwAll E' H v d n
  | _, _, _, .nil => .nil
  | _, _, _, .cons a b => .cons (Dw.sub k a) (DwAll.sub k b)
end
/-- these addresses are taken -/
def Lv (E : List Addr) (H : Hp) : Prop := ∀ a ∈ E, H a ≠ none
section
variable {s l p : Addr} {E : List Addr} {H H1 H2 : Hp} {o : HO} {v : V} {d : PyData} {n : Nat}
theorem Lv.out (h : Lv E H) (hp : H p = none) : p ∉ E := fun z => h p z hp
theorem Lv.cons (h : Lv E H) (hp : H p = some o) : Lv (p :: E) H := fun a ha => by
  rcases List.mem_cons.mp ha with z | z
  · rw [z, hp]; exact fun q => by cases q
  · exact h a z
theorem Lv.ge (h : Lv E H) (g : Ge s l H H1) : Lv E H1 := fun a ha => by
  by_cases e : a = s
  · obtain ⟨ns, i1, i2, i3, i4, i5, i6, hs, _⟩ := g.st
    rw [e, hs]; exact fun q => by cases q
  · have := h a ha
    cases q : H a with
    | none => exact absurd q this
    | some o => rw [g.k e q]; exact fun z => by cases z
theorem Lv.same (h : Lv E H) (g : Same H H1) : Lv E H1 := fun a ha => by
  have := h a ha
  cases q : H a with
  | none => exact absurd q this
  | some o => rw [g _ _ q]; exact fun z => by cases z
theorem Dw.ge (h : Dw E H v d n) (g : Ge s l H H1) (hs : s ∈ E) : Dw E H1 v d n := h.kp fun a o ha e => g.k (fun z => ha (z ▸ hs)) e
theorem Dw.same (h : Dw E H v d n) (g : Same H H1) : Dw E H1 v d n := h.kp fun a o _ e => g a o e
theorem Dw.new (h : Dw E H v d n) (g : New H p o H1) : Dw E H1 v d n := h.same g.same
theorem Dw.put (h : Dw E H v d n) (g : Put H p o H1) (hp : p ∈ E) : Dw E H1 v d n := h.kp fun a o ha e => g.k (fun z => ha (z ▸ hp)) e
theorem DwAll.ge {vs : List V} {ds : List PyData} (h : DwAll E H vs ds n) (g : Ge s l H H1) (hs : s ∈ E) : DwAll E H1 vs ds n := h.kp fun a o ha e => g.k (fun z => ha (z ▸ hs)) e
theorem DwAll.same {vs : List V} {ds : List PyData} (h : DwAll E H vs ds n) (g : Same H H1) : DwAll E H1 vs ds n := h.kp fun a o _ e => g a o e
theorem DwAll.put {vs : List V} {ds : List PyData} (h : DwAll E H vs ds n) (g : Put H p o H1) (hp : p ∈ E) : DwAll E H1 vs ds n := h.kp fun a o ha e => g.k (fun z => ha (z ▸ hp)) e
end
/-- data of at most so much weight -/
def Db (E : List Addr) (H : Hp) (b : Nat) (v : V) : Prop := ∃ d n, Dw E H v d n ∧ n ≤ b
section
variable {s l p : Addr} {E E' : List Addr} {H H1 H2 : Hp} {o : HO} {v : V} {b b' : Nat} {xs : List V}
theorem Db.le (h : Db E H b v) (hb : b ≤ b') : Db E H b' v := by
  obtain ⟨d, n, h, hn⟩ := h
  exact ⟨d, n, h, Nat.le_trans hn hb⟩
theorem Db.sub (h : Db E H b v) (k : ∀ a, a ∈ E' → a ∈ E) : Db E' H b v := by
  obtain ⟨d, n, h, hn⟩ := h
  exact ⟨d, n, h.sub k, hn⟩
theorem Db.ge (h : Db E H b v) (g : Ge s l H H1) (hs : s ∈ E) : Db E H1 b v := by
  obtain ⟨d, n, h, hn⟩ := h
  exact ⟨d, n, h.ge g hs, hn⟩
theorem Db.same (h : Db E H b v) (g : Same H H1) : Db E H1 b v := by
  obtain ⟨d, n, h, hn⟩ := h
  exact ⟨d, n, h.same g, hn⟩
theorem Db.put (h : Db E H b v) (g : Put H p o H1) (hp : p ∈ E) : Db E H1 b v := by
  obtain ⟨d, n, h, hn⟩ := h
  exact ⟨d, n, h.put g hp, hn⟩
theorem Db.seq (h : ∀ x ∈ xs, Db E H b x) (hp : p ∉ E) (hq : H p = some (.tup xs) ∨ H p = some (.lst xs)) : Db E H (b * xs.length + 1) (.ref p) := by
  obtain ⟨ds, n, h1, h2⟩ := DwAll.of h
  rcases hq with q | q
  · exact ⟨_, _, .tup hp q h1, by omega⟩
  · exact ⟨_, _, .lst hp q h1, by omega⟩
end
theorem all_app {p : V → Prop} {xs : List V} {y : V} (h : ∀ x ∈ xs, p x) (hy : p y) : ∀ x ∈ xs ++ [y], p x := fun x hx => by
  rcases List.mem_append.mp hx with q | q
  · exact h x q
  · rw [List.mem_singleton.mp q]; exact hy
mutual
theorem Dw.fresh {E : List Addr} {C : Addr} {H : Hp} (k : H C = none) : ∀ {v : V} {d : PyData} {n : Nat}, Dw E H v d n → Dw (C :: E) H v d n
  | _, _, _, .lf l => .lf l
  | _, _, _, .lst ne h a => .lst (fun z => by
      rcases List.mem_cons.mp z with q | q
      · rw [q, k] at h; cases h
      · exact ne q) h (DwAll.fresh k a)
  | _, _, _, .tup ne h a => .tup (fun z => by
      rcases List.mem_cons.mp z with q | q
      · rw [q, k] at h; cases h
      · exact ne q) h (DwAll.fresh k a)
theorem DwAll.fresh {E : List Addr} {C : Addr} {H : Hp} (k : H C = none) : ∀ {v : List V} {d : List PyData} {n : Nat}, DwAll E H v d n → DwAll (C :: E) H v d n
  | _, _, _, .nil => .nil
  | _, _, _, .cons a b => .cons (Dw.fresh k a) (DwAll.fresh k b)
end
theorem kb_all : kitB "NoneType" "int" = some false ∧ kitB "bool" "int" = some true ∧ kitB "int" "int" = some true ∧ kitB "str" "int" = some false ∧ kitB "list" "int" = some false ∧ kitB "tuple" "int" = some false ∧ kitB "dict" "int" = some false ∧ kitB "NoneType" "bool" = some false ∧ kitB "bool" "bool" = some true ∧ kitB "int" "bool" = some false ∧ kitB "str" "bool" = some false ∧ kitB "list" "bool" = some false ∧ kitB "tuple" "bool" = some false ∧ kitB "dict" "bool" = some false ∧ kitB "NoneType" "str" = some false ∧ kitB "bool" "str" = some false ∧ kitB "int" "str" = some false ∧ kitB "str" "str" = some true ∧ kitB "list" "str" = some false ∧ kitB "tuple" "str" = some false ∧ kitB "dict" "str" = some false ∧ kitB "NoneType" "list" = some false ∧ kitB "bool" "list" = some false ∧ kitB "int" "list" = some false ∧ kitB "str" "list" = some false ∧ kitB "list" "list" = some true ∧ kitB "tuple" "list" = some false ∧ kitB "dict" "list" = some false ∧ kitB "NoneType" "tuple" = some false ∧ kitB "bool" "tuple" = some false ∧ kitB "int" "tuple" = some false ∧ kitB "str" "tuple" = some false ∧ kitB "list" "tuple" = some false ∧ kitB "tuple" "tuple" = some true ∧ kitB "dict" "tuple" = some false := by decide +kernel
theorem b_isi {x : V} {T : String} {H : Hp} {Q : VK} : rIsi1 [x, .ty T] H Q = ∃ t, tyN H x = some t ∧ ∃ b, kitB t T = some b ∧ Q (.bl b) H := by
  unfold rIsi1; apply propext; constructor
  · rintro ⟨_, _, t, b, h1, h2, h3, h⟩; cases h1; exact ⟨t, h2, b, h3, h⟩
  · rintro ⟨t, h2, b, h3, h⟩; exact ⟨_, _, t, b, rfl, h2, h3, h⟩
theorem ty_non {H : Hp} : tyN H .non = some "NoneType" := rfl
theorem ty_bl {H : Hp} {b : Bool} : tyN H (.bl b) = some "bool" := rfl
theorem ty_int {H : Hp} {b : Int} : tyN H (.int b) = some "int" := rfl
theorem ty_str {H : Hp} {b : Str} : tyN H (.str b) = some "str" := rfl
theorem ty_l {H : Hp} {p : Addr} {xs : List V} (h : H p = some (.lst xs)) : tyN H (.ref p) = some "list" := by unfold tyN; simp only [h]
theorem ty_t {H : Hp} {p : Addr} {xs : List V} (h : H p = some (.tup xs)) : tyN H (.ref p) = some "tuple" := by unfold tyN; simp only [h]
theorem cl_false {P : Program} {w : World} {K : PySem.W.Frag} {mg : Str → Option Value} {base : Heap} {x : Str} {st : Stmt} {ps : List Str} (D : Df K mg x st)
    (hb : ∀ (kV doc pm : Value) (an : Option Addr) (cdv ct : Value) (us : List Value), us.length = ps.length → bindArgs (PySem.W.fnOf x x (defArgs st) (defBody st) (defScope st) .none kV doc pm an cdv ct) ⟨us, []⟩ = pure (ps.zip us)) (k : Nat) {sp : Sp} (hf : ∀ vs H Q E, ¬ sp vs H Q E) : Cl P w K mg base k x ps sp := by
  obtain ⟨f, fd, F, g⟩ := D
  exact ⟨f, fd, g, F.kp, F.bindsA hb, fun vs H Q E h => (hf _ _ _ _ h).elim, fun A outer s H args us vs Q E _ _ _ _ h => (hf _ _ _ _ h).elim⟩
def isWh : V → Bool
  | .int _ => true
  | _ => false
theorem wh_i {i : Int} : isWh (.int i) = true := rfl
theorem wh_s {i : Str} : isWh (.str i) = false := rfl
theorem wh_b {i : Bool} : isWh (.bl i) = false := rfl
theorem wh_r {i : Addr} : isWh (.ref i) = false := rfl
theorem wh_n : isWh .non = false := rfl
theorem same_sq {p : Addr} {H H' : Hp} {xs : List V} (a : Same H H') (h : sq H p = some xs) : sq H' p = some xs := by
  rcases sq_or h with h | h
  · exact sq_l (a _ _ h)
  · exact sq_t (a _ _ h)
theorem Put.same {H H1 H2 : Hp} {p : Addr} {o : HO} (n : Put H1 p o H2) (a : Same H H1) (hp : H p = none) : Same H H2 := fun b u e => n.k (ne_of_none e hp) (a _ _ e)
def qIns : V → List V → Hp → VK → Prop := fun x vs H Q => match x, vs with
  | .ref l, [.int i, y] => ∃ xs, H l = some (.lst xs) ∧ xs.length < sizeLine ∧ 0 ≤ i ∧ i < 2 ^ 63 ∧ Wr H l (.lst (xs.take i.toNat ++ [y] ++ xs.drop i.toNat)) fun H' => Q .non H'
  | _, _ => False
theorem ins1 {X : Cx} : MtR X "list.insert" qIns := MtR_imp mt_insert fun x vs H Q h => by
  unfold qIns at h
  split at h
  · obtain ⟨xs, h1, h2, h3, h4, q⟩ := h
    refine ⟨_, xs, _, _, rfl, rfl, h1, h2, h3, h4, ?_⟩
    rw [wr_eq (Q := fun H' => Q .non H')]
    exact q
  · exact h.elim
section
variable {σ : L2.St} {H : Hp} {Q : VK} {K : PySem.W.Frag}
theorem b_ins {l : Addr} {i : Int} {y : V} : qIns (.ref l) [.int i, y] H Q = ∃ xs, H l = some (.lst xs) ∧ xs.length < sizeLine ∧ 0 ≤ i ∧ i < 2 ^ 63 ∧ Wr H l (.lst (xs.take i.toNat ++ [y] ++ xs.drop i.toNat)) fun H' => Q .non H' := rfl
theorem a_revL {te : TE} : tRevL K te σ H Q = te σ H fun x H1 => ∃ a xs, x = .ref a ∧ SqL K H1 a xs ∧ Nw H1 (.lst xs.reverse) fun q H' => Q (.ref q) H' := by
  unfold tRevL; simp only [nw_eq]
theorem idx_ints {p : Addr} {ns : List Int} {c : Int} (h : H p = some (.lst (ns.map V.int))) (hc : c ∈ ns) (hq : ∀ j : Nat, j < ns.length → ns[j]? = some c → Q (.int j) H) : rIndex K (.ref p) [.int c] H Q := by
  have hl := List.idxOf_lt_length_of_mem hc
  have hg : ns[ns.idxOf c]? = some c := by
    rw [List.getElem?_eq_getElem hl, List.getElem_idxOf hl]
  refine ⟨p, ns.map V.int, .int c, ns.idxOf c, .int c, rfl, rfl, SqL.of h, rfl, ?_, by rw [List.getElem?_map, hg]; rfl, ?_, fun m z hm hz => ?_, hq _ hl hg⟩
  · rw [List.all_map]; exact List.all_eq_true.mpr fun _ _ => rfl
  · simp [eqV]
  · rw [List.getElem?_map] at hz
    have hml : m < ns.length := by omega
    rw [List.getElem?_eq_getElem hml] at hz
    cases hz
    have : ns[m] ≠ c := fun e => by
      have := List.not_of_lt_findIdx (p := (· == c)) (xs := ns) (i := m) (by simpa [List.idxOf] using hm)
      simp [e] at this
    simp [eqV, this]
theorem cut_le (z : Str) (lo hi : Option Int) : (cutS z lo hi).length ≤ z.length := cutS_length z lo hi
end
theorem str_len10 {a : Int} {k : Nat} (hk : 0 < k) (h : a.natAbs < 10 ^ k) : (Str.ofString (toString a)).length ≤ k + 1 := by
  rw [PySem.ofString_length]; exact int_text_length_le10 hk h
def qIsT : List V → Hp → VK → Prop := fun vs H Q => match vs with
  | [x, .ref tp] => ∃ a b, H tp = some (.tup [.ty a, .ty b]) ∧ ∃ t, tyN H x = some t ∧ ∃ r1, kitB t a = some r1 ∧ ∃ r2, kitB t b = some r2 ∧ Q (.bl (r1 || r2)) H
  | _ => False
theorem isiT1 {X : Cx} : CallR X (.builtin "isinstance") qIsT := by
  intro pins s σ H xs us Q I r h
  unfold qIsT at h
  split at h
  · obtain ⟨a, b, hT, t, ht, r1, h1, r2, h2, q⟩ := h
    refine call_isiT pins s σ H _ us Q I r ⟨_, _, [.ty a, .ty b], .type t, [.type a, .type b], r1 || r2, rfl, hT, .cons (.ty a) (.cons (.ty b) .nil), tyN_ty ht, ?_, q⟩
    refine kitAny_cons (kit_ty h1) (fun e => ?_) (fun e => by rw [e]; rfl)
    refine kitAny_cons (kit_ty h2) (fun e' => by rw [e, e']; exact kitAny_nil) (fun e' => by rw [e, e']; rfl)
  · exact h.elim
theorem b_isT {x : V} {tp : Addr} {H : Hp} {Q : VK} : qIsT [x, .ref tp] H Q = ∃ a b, H tp = some (.tup [.ty a, .ty b]) ∧ ∃ t, tyN H x = some t ∧ ∃ r1, kitB t a = some r1 ∧ ∃ r2, kitB t b = some r2 ∧ Q (.bl (r1 || r2)) H := rfl
section
open PySem AutoSeq1 PyProof.Rows
variable {prog : Program} {w : World} {A : Around} {E : Value → Shared → Prop} {s : Shared}
theorem collect_seq2 {Q : List Value → Shared → Prop} (it : Addr) {T : String} {o : Obj} {items : Array Value} {n : Nat} (hT : T = "list" ∨ T = "tuple")
    (ho : s.heap.get? it = some o) (hc : o.cls = .type T) (hd : o.data = .seq items n)
    (hQ : ∀ h', (∀ b o', s.heap.get? b = some o' → h'.get? b = some o') → s.heap.objs.size < h'.objs.size → Q items.toList { s with heap := h' }) (hsz : items.size ≤ sizeLine := by size_fits) :
    wpAny (model prog w) A (collect (.ref it)) Q E s := by
  unfold collect
  refine wpAny_bind (wpAny_runValue (codeAny_builtin F.entry_proto_collect ?_))
  rw [Around.under_plainId F.plain_proto_collect _]
  show wpAny _ A.in1 (newList [] >>= fun l => again (.builtin "list.__iadd__" ⟨[l, .ref it], []⟩)) _ _ s
  refine wpAny_bind (wpAny_newObj_type ?_)
  refine wpAny_pure ⟨plainId_quiet F.plain_list_iadd _, codeAny_builtin F.entry_list_iadd ?_⟩
  rw [Around.under_plainId F.plain_list_iadd _]
  show wpAny _ A.in1 (Builtin.List.listExtendWith (.ref s.heap.objs.size) (.ref it) (.ref s.heap.objs.size)) _ _ _
  have hS : (s.heap.push { cls := .type "list", data := .seq ([] : List Value).toArray }).get? s.heap.objs.size = some { cls := .type "list", data := .seq #[] 0 } := Heap.get?_push_size _ rfl
  have hS₂ := Heap.get?_update_self (Obj.mapSeq (· ++ items)) hS rfl
  have fin' : wpAny (model prog w) A (match Value.ref s.heap.objs.size with
      | Value.ref a => do
        match (← load a).data with
          | Data.seq xs _ => pure xs.toList
          | _ => unsupported "internal:collect"
      | _ => unsupported "internal:collect") Q E { s with heap := (s.heap.push { cls := .type "list", data := .seq ([] : List Value).toArray }).update s.heap.objs.size (Obj.mapSeq (· ++ items)) } := by
    show wpAny _ A (load s.heap.objs.size >>= _) _ _ _
    refine wpAny_bind (wpAny_load hS₂ ?_)
    refine wpAny_pure ?_
    have e : ((#[] : Array Value) ++ items).toList = items.toList := by simp
    show Q ((#[] : Array Value) ++ items).toList _
    rw [e]
    refine hQ _ (fun b o' hb => ?_) (by rw [Heap.size_update, size_push']; exact Nat.lt_succ_self _)
    exact (Heap.get?_update_other _ _ (Nat.ne_of_gt (Heap.lt_size hb))).trans (Heap.get?_push_of_some _ hb)
  refine wpAny_mono (wpAny_extend_seq (hsz := hsz) (A := A) (R := fun r s' => r = .ok (.ret (.ref s.heap.objs.size)) ∧ s' = { s with heap := (s.heap.push { cls := .type "list", data := .seq ([] : List Value).toArray }).update s.heap.objs.size (Obj.mapSeq (· ++ items)) })
    (s := { s with heap := s.heap.push { cls := .type "list", data := .seq ([] : List Value).toArray } }) _ it _ 0 hT hS (Heap.get?_push_of_some _ ho) hc hd ⟨rfl, rfl⟩) (fun fin s' h => ?_) (fun e s' h => ?_)
  · cases fin with
    | done f =>
      obtain ⟨e, rfl⟩ := h
      cases e
      exact fin'
    | again c' => exact ⟨h.1, codeAny_mono h.2 fun r s'' hr => by obtain ⟨rfl, rfl⟩ := hr; exact fin'⟩
  · exact absurd h.1 (by simp)

end
open PySem PySem.Spec PyProof.Rows L2
section
variable {prog : Program} {w : World} {A : Around} {E : Value → Shared → Prop} {s : Shared}
/-- sorted of a list or a tuple of ints -/
theorem sorted_seq {a : Addr} {T : String} {o : Obj} {vs : List Value} {ns : List Int} {n : Nat} {Q : Value → Shared → Prop} (hT : T = "list" ∨ T = "tuple") (ho : s.heap.get? a = some o) (hc : o.cls = .type T) (hd : o.data = .seq vs.toArray n)
    (hI : IntsAre vs ns) (h64 : vs.length < 64)
    (h : ∀ (h' : Heap) (p : Addr) (out : Array Value) (ns' : List Int) (e : Nat), (∀ b u, s.heap.get? b = some u → h'.get? b = some u) → s.heap.objs.size ≤ p → h'.get? p = some (seqObj "list" out e) → IntsAre out.toList ns' → ns'.Perm ns → ns'.Pairwise (· ≤ ·) → Q (.ref p) { s with heap := h' }) :
    wpAny (model prog w) A (call (.builtin "sorted") [.ref a]) Q E s := by
  refine Calls.call_function_entry kind_sorted plain_sorted entry_sorted (args_sorted1 _) ?_
  unfold Builtin.«sorted»
  refine wpAny_bind (m := checkCount "sorted" 1 1 _) (wpAny_pure ?_)
  refine wpAny_bind (collect_seq2 a hT ho hc hd (fun h1 k1 big0 => ?_) (by rw [sizeLine_eq]; simp only [List.size_toArray]; omega))
  refine wpAny_bind (wpAny_newList ?_)
  have hoL : (h1.push (seqObj "list" vs.toArray 0)).get? h1.objs.size = some (seqObj "list" vs.toArray 0) := Heap.get?_push_size _ rfl
  have big : s.heap.objs.size ≤ h1.objs.size := Nat.le_of_lt big0
  refine wpAny_bind (wpAny_holding (wpAny_call_entry slot_list_sort ⟨_, hoL, rfl⟩ entry_list_sort (list_sort_tree hoL hI h64 fun out ns' a1 a2 a3 => ⟨_, rfl, ?_⟩) (args_list_sort _)))
  obtain ⟨e, he⟩ := sortedHeap_at (out := out) hoL
  refine wpAny_pure ⟨_, rfl, h _ _ out ns' e (fun b u hb => ?_) big he a1 a2 a3⟩
  have hlt := Heap.lt_size (k1 _ _ hb)
  rw [sortedHeap_old (Nat.ne_of_lt hlt) (by rw [size_push']; exact Nat.lt_succ_of_lt hlt)]
  exact Heap.get?_push_of_some _ (k1 _ _ hb)
end
def qSorted : List V → Hp → VK → Prop := fun vs H Q => ∃ (a : Addr) (ns : List Int), vs = [.ref a] ∧ sq H a = some (ns.map V.int) ∧ ns.length < 64 ∧ ∀ (ns' : List Int) (p : Addr) (H' : Hp), ns'.Perm ns → ns'.Pairwise (· ≤ ·) → New H p (.lst (ns'.map V.int)) H' → Q (.ref p) H'
theorem sorted1 {X : Cx} : CallR X (.builtin "sorted") qSorted := by
  intro pins s σ H vs us Q I r h
  obtain ⟨a, ns, rfl, hs, h64, q⟩ := h
  rw [Vals.ref1 r]
  have fin : ∀ (its : List Value), Vals (ns.map V.int) its → ∀ (T : String) (o : Obj) (n : Nat), (T = "list" ∨ T = "tuple") → s.heap.get? a = some o → o.cls = .type T → o.data = .seq its.toArray n → wpAny (model X.prog X.w) X.A (call (.builtin "sorted") [.ref a]) (EP X pins σ Q) X.xe s := by
    intro its rv T o n hT ho hc hd
    have hi := rv.ints
    refine sorted_seq hT ho hc hd hi (by rw [hi.length]; exact h64) fun h' p out ns' e kp hp he h1 h2 h3 => ?_
    have hlen : (ns'.map V.int).length ≤ sizeLine := by rw [List.length_map, h2.length_eq]; exact small64 h64
    exact ⟨.ref p, upd H p (.lst (ns'.map V.int)), I.laid (t' := s.toks) kp hp ⟨hlen, out.toList, e, vals_of_ints h1, he⟩, rfl, q ns' p _ h2 h3 (New.mk' (I.hok.fresh hp))⟩
  rcases sq_or hs with hq | hq
  · obtain ⟨its, rv, pl, _⟩ := I.list (SqL.of hq)
    obtain ⟨o, ho, hc, n, hd⟩ := pl.isList
    exact fin its rv _ o n (.inl rfl) ho hc hd
  · obtain ⟨its, rv, pl, _⟩ := I.tuple (SqT.of hq)
    obtain ⟨o, ho, hc, n, hd⟩ := pl
    exact fin its rv _ o n (.inr rfl) ho hc hd
theorem b_sorted {p : Addr} {H : Hp} {Q : VK} : qSorted [.ref p] H Q = ∃ ns : List Int, sq H p = some (ns.map V.int) ∧ ns.length < 64 ∧ ∀ (ns' : List Int) (p : Addr) (H' : Hp), ns'.Perm ns → ns'.Pairwise (· ≤ ·) → New H p (.lst (ns'.map V.int)) H' → Q (.ref p) H' := by
  unfold qSorted; apply propext; constructor
  · rintro ⟨_, ns, h1, h⟩; cases h1; exact ⟨ns, h⟩
  · rintro ⟨ns, h⟩; exact ⟨_, ns, rfl, h⟩
/-! ### tuple * int -/
theorem tuple_mul_self (l : Addr) (items : Array Value) (n : Nat) (dd : Option Addr) (sl : Array (Option Value)) (x : Int) (u : Tok) (c0 : (decide (x < -(2 ^ 63)) || decide (x ≥ 2 ^ 63)) = false) (c1 : (items.isEmpty || x == 1) = true) :
    Meets (Builtin.«tuple.__mul__» ⟨[.ref l, .int x u], []⟩) (fun _ R s => s.heap.get? l = some { cls := .type "tuple", dict := dd, data := .seq items n, slots := sl } ∧ R (.ok (.ret (Value.ref l))) s) :=
  .of_wp fun prog w A R s h => by
    obtain ⟨hp, g, d, tk, os⟩ := s
    obtain ⟨hl, h⟩ := h
    have f1 := AutoSeq1.idx_int
    have hex : Shared.TypeIs ⟨hp, g, d, tk, os⟩ (.ref l) "tuple" := ⟨_, hl, rfl⟩
    wp_walk using AutoSeq1.wpAny_loadPart' hl, wpAny_typeOf hex
    refine wpAny_ite_false (decide_eq_false (by rw [c0]; exact Bool.false_ne_true)) ?_
    wp_walk using AutoSeq1.wpAny_loadPart' hl, wpAny_typeOf hex
    exact ⟨_, rfl, h⟩
def qRepT : R2 := fun x y H Q => match x, y with
  | .ref l, .int k => ∃ xs, H l = some (.tup xs) ∧ 1 ≤ k ∧ (xs.length : Int) * k ≤ 4000000 ∧ k ≤ 4000000 ∧ (k = 1 ∨ xs = [] → Q (.ref l) H) ∧ (∀ p H', New H p (.tup (List.replicate k.toNat xs).flatten) H' → Q (.ref p) H')
  | _, _ => False
section
variable {X : Cx}
theorem op_repT1 : OpR X (binaryOp .Mult) qRepT := by
  intro pins s σ H x y v u Q I rx ry h
  unfold qRepT at h
  split at h
  · rename_i l k
    obtain ⟨xs, hT, h1, h2, hk, qs, q⟩ := h
    cases rx
    obtain ⟨t, rfl⟩ := ry
    obtain ⟨its, r, ⟨⟨cls, dd, data, sl⟩, ho, hc, n, hd⟩, hs⟩ := I.tuple (SqT.of hT)
    simp only at hc hd
    subst hc hd
    have hle : its.length = xs.length := r.length.symm
    have hsz0 : its.toArray.size = xs.length := by rw [List.size_toArray, hle]
    have c0 : (decide (k < -(2 ^ 63)) || decide (k ≥ 2 ^ 63)) = false := by
      rw [decide_eq_false (by omega), decide_eq_false (by omega)] <;> rfl
    by_cases hz : k = 1 ∨ xs = []
    · have c1 : (its.toArray.isEmpty || k == 1) = true := by
        rcases hz with e | e
        · rw [e]; simp
        · subst e
          have : its = [] := List.eq_nil_of_length_eq_zero hle
          rw [this]; rfl
      refine wpAny_binaryOp_repeat_ref (T := "tuple") (U := "int") (by decide) ⟨_, ho, rfl⟩ (fun s' => typeIs_int s' k t) noFill_tuple_mul F.fills_int_mul F.slot_int_rmul repeat_tuple F.slot_int_index.lookup
        (call_meets F.slot_int_rmul (typeIs_int s k t) F.entry_int_rmul (F.args_int_rmul_2 _ _) (int_rmul_tuple k t l its.toArray n dd sl)
          ⟨ho, rfl, ⟨_, ho, rfl⟩, call_meets F.slot_tuple_mul ⟨_, ho, rfl⟩ F.entry_tuple_mul (F.args_tuple_mul_2 _ _) (tuple_mul_self l its.toArray n dd sl k t c0 c1) ⟨ho, ?_⟩⟩)
      exact ⟨.ref l, H, I, rfl, qs hz⟩
    · have hk2 : 2 ≤ k := by
        rcases Int.lt_or_le k 2 with z | z
        · exact absurd (.inl (by omega)) hz
        · exact z
      have hne : xs ≠ [] := fun e => hz (.inr e)
      have hi : its.toArray.isEmpty = false := by
        cases its with
        | nil => exact absurd (List.eq_nil_of_length_eq_zero hle.symm) hne
        | cons a b => rfl
      have e2 : ((its.toArray.size : Nat) : Int) * k ≤ 4000000 := by rw [hsz0]; exact h2
      have flen : (List.replicate k.toNat its).flatten.length ≤ sizeLine := by
        rw [PyProof.Rows.lm_len_rep_flat, hle, sizeLine_eq]
        have : ((k.toNat * xs.length : Nat) : Int) ≤ 4000000 := by
          rw [Int.natCast_mul, Int.mul_comm, show ((k.toNat : Nat) : Int) = k by omega]; exact h2
        omega
      have c1 : (its.toArray.isEmpty || k == 1) = false := by
        rw [hi, Bool.false_or]
        exact beq_eq_false_iff_ne.mpr (by omega)
      have c2 : (decide (k ≤ 0) || its.toArray.isEmpty) = false := by
        rw [hi, Bool.or_false]
        exact decide_eq_false (by omega)
      have c4 : Builtin.Tuple.tupleTooMany (((its.toArray.size : Nat) : Int) * k) = false := by
        unfold Builtin.Tuple.tupleTooMany
        rw [sizeLine_eq]
        exact decide_eq_false (by omega)
      refine wpAny_binaryOp_repeat_ref (T := "tuple") (U := "int") (by decide) ⟨_, ho, rfl⟩ (fun s' => typeIs_int s' k t) noFill_tuple_mul F.fills_int_mul F.slot_int_rmul repeat_tuple F.slot_int_index.lookup
        (call_meets F.slot_int_rmul (typeIs_int s k t) F.entry_int_rmul (F.args_int_rmul_2 _ _) (int_rmul_tuple k t l its.toArray n dd sl)
          ⟨ho, rfl, ⟨_, ho, rfl⟩, call_meets F.slot_tuple_mul ⟨_, ho, rfl⟩ F.entry_tuple_mul (F.args_tuple_mul_2 _ _) (tuple_mulW l its.toArray n dd sl k t c0 c1 c2 (by omega) c4 (by rw [size_rep, List.size_toArray]; exact flen)) ⟨ho, ?_⟩⟩)
      rw [size_rep]
      refine ⟨.ref s.heap.objs.size, upd H s.heap.objs.size (.tup (List.replicate k.toNat xs).flatten), I.laid (t' := s.toks) (o := .tup (List.replicate k.toNat xs).flatten) (fun b ob q => Heap.get?_push_of_some _ q) (Nat.le_refl _) ?_, rfl, q _ _ (New.mk' (I.hok.fresh (Nat.le_refl _)))⟩
      refine ⟨?_, _, r.rep k.toNat, IsTup.new _ _⟩
      rw [(r.rep k.toNat).length]
      exact flen
  · exact h.elim
end
theorem b_repT {l : Addr} {k : Int} {H : Hp} {Q : VK} : qRepT (.ref l) (.int k) H Q = ∃ xs, H l = some (.tup xs) ∧ 1 ≤ k ∧ (xs.length : Int) * k ≤ 4000000 ∧ k ≤ 4000000 ∧ (k = 1 ∨ xs = [] → Q (.ref l) H) ∧ (∀ p H', New H p (.tup (List.replicate k.toNat xs).flatten) H' → Q (.ref p) H') := rfl

/-! ## HoM -/
/-- 0, 1, .. n - 1 -/
def rng (n : Nat) : List Int := (List.range n).map fun (i : Nat) => (i : Int)
theorem rng_len (n : Nat) : (rng n).length = n := by simp [rng]
theorem mem_rng {n : Nat} {x : Int} : x ∈ rng n ↔ 0 ≤ x ∧ x < n := by
  unfold rng
  rw [List.mem_map]
  constructor
  · rintro ⟨i, h, rfl⟩; have := List.mem_range.mp h; omega
  · intro h; exact ⟨x.toNat, List.mem_range.mpr (by omega), by omega⟩
theorem rng_nodup (n : Nat) : (rng n).Nodup := by
  unfold rng
  exact List.Pairwise.map _ (fun (a b : Nat) (h : a ≠ b) (e : (a : Int) = b) => h (by omega)) List.nodup_range
theorem rgV_rng {j : Int} (h : 0 ≤ j) : rgV 0 j = (rng j.toNat).map V.int := by
  unfold rgV rng
  rw [List.map_map]
  have : (j - 0).toNat = j.toNat := by omega
  rw [this]
  refine List.map_congr_left fun i _ => ?_
  simp
theorem rng_get {n i : Nat} (h : i < n) : (rng n)[i]? = some (i : Int) := by simp [rng, h]
def unV : V → Int
  | .int i => i
  | _ => 0
theorem perm_ints {xs : List V} {L : List Int} (h : xs.Perm (L.map V.int)) : ∃ L' : List Int, xs = L'.map V.int ∧ L'.Perm L := by
  refine ⟨xs.map unV, ?_, ?_⟩
  · rw [List.map_map]
    have : xs.map (V.int ∘ unV) = xs.map id := List.map_congr_left fun x hx => by
      have := h.mem_iff.mp hx
      obtain ⟨i, _, rfl⟩ := List.mem_map.mp this
      rfl
    rw [this, List.map_id]
  · have := h.map unV
    rw [List.map_map] at this
    have e : L.map (unV ∘ V.int) = L := by
      have : L.map (unV ∘ V.int) = L.map id := List.map_congr_left fun x _ => rfl
      rw [this, List.map_id]
    rwa [e] at this
theorem append_ints {xs ys : List V} {L : List Int} (h : xs ++ ys = L.map V.int) : ∃ a b, xs = a.map V.int ∧ ys = b.map V.int ∧ L = a ++ b := by
  obtain ⟨a, b, rfl, rfl, rfl⟩ := List.map_eq_append_iff.mp h.symm
  exact ⟨a, b, rfl, rfl, rfl⟩
/-- a ring of points, each carried to the next -/
theorem ring_perm {n : Nat} {r rest ns : List Int} (hp : (r ++ rest).Perm (rng n)) (hl : ns.length = n)
    (h1 : ∀ k, k < r.length → ∃ x y, r[k]? = some x ∧ r[(k + 1) % r.length]? = some y ∧ ns[x.toNat]? = some y) (h2 : ∀ p, p < n → (p : Int) ∉ r → ns[p]? = some (p : Int)) : ns.Perm (rng n) := by
  let f : Int → Int := fun x => (ns[x.toNat]?).getD 0
  have e : ns = (rng n).map f := by
    apply List.ext_getElem?
    intro i
    by_cases hi : i < n
    · rw [List.getElem?_map, rng_get hi]
      show _ = some ((ns[((i : Nat) : Int).toNat]?).getD 0)
      rw [Int.toNat_natCast, List.getElem?_eq_getElem (by omega)]
      rfl
    · rw [List.getElem?_eq_none (by omega), List.getElem?_eq_none (by simp [rng_len]; omega)]
  have nd : (r ++ rest).Nodup := (hp.nodup_iff).mpr (rng_nodup n)
  have er : rest.map f = rest := by
    have : rest.map f = rest.map id := List.map_congr_left fun x hx => by
      have hm := mem_rng.mp (hp.mem_iff.mp (List.mem_append_right r hx))
      have hr : x ∉ r := fun z => (List.nodup_append.mp nd).2.2 _ z _ hx rfl
      have := h2 x.toNat (by omega) (by rw [show ((x.toNat : Nat) : Int) = x by omega]; exact hr)
      show (ns[x.toNat]?).getD 0 = x
      rw [this]
      show ((x.toNat : Nat) : Int) = x
      omega
    rw [this, List.map_id]
  have err : (r.map f).Perm r := by
    cases r with
    | nil => exact .refl _
    | cons a t =>
      have : (a :: t).map f = t ++ [a] := by
        apply List.ext_getElem?
        intro k
        by_cases hk : k < t.length + 1
        · obtain ⟨x, y, e1, e2, e3⟩ := h1 k hk
          rw [List.getElem?_map, e1]
          show some ((ns[x.toNat]?).getD 0) = _
          rw [e3]
          show some y = _
          rw [← e2]
          by_cases hk2 : k < t.length
          · rw [List.getElem?_append_left hk2, List.length_cons, Nat.mod_eq_of_lt (by omega)]
            simp
          · have : k = t.length := by omega
            subst this
            rw [List.length_cons, Nat.mod_self]
            simp
        · rw [List.getElem?_eq_none (by simp; omega), List.getElem?_eq_none (by simp; omega)]
      rw [this]
      exact List.perm_append_singleton a t
  rw [e]
  refine (hp.symm.map f).trans ?_
  rw [List.map_append, er]
  exact (err.append_right rest).trans hp
theorem rev_perm {n : Nat} : ((rng n).map fun k => (n : Int) - 1 - k).Perm (rng n) := by
  have : ((rng n).map fun k => (n : Int) - 1 - k) = (rng n).reverse := by
    apply List.ext_getElem?
    intro i
    by_cases hi : i < n
    · rw [List.getElem?_map, rng_get hi, List.getElem?_reverse (by rw [rng_len]; exact hi), rng_len, rng_get (by omega)]
      simp only [Option.map_some]
      congr 1
      omega
    · rw [List.getElem?_eq_none (by simp [rng_len]; omega), List.getElem?_eq_none (by simp [rng_len]; omega)]
  rw [this]
  exact List.reverse_perm _
theorem rot_perm {n s : Nat} (hs : s ≤ n) : ((rng n).map fun k => (k + (s : Int)).fmod n).Perm (rng n) := by
  have : ((rng n).map fun k => (k + (s : Int)).fmod n) = (rng n).drop s ++ (rng n).take s := by
    apply List.ext_getElem?
    intro i
    by_cases hi : i < n
    · rw [List.getElem?_map, rng_get hi]
      simp only [Option.map_some]
      have ef : (((i : Nat) : Int) + s).fmod n = (((i + s) % n : Nat) : Int) := by
        rw [Int.fmod_eq_emod_of_nonneg _ (by omega)]
        push_cast
        rfl
      rw [ef]
      by_cases hk : i + s < n
      · rw [List.getElem?_append_left (by rw [List.length_drop, rng_len]; omega), List.getElem?_drop, rng_get (by omega), Nat.mod_eq_of_lt hk]
        congr 1
        omega
      · rw [List.getElem?_append_right (by rw [List.length_drop, rng_len]; omega), List.length_drop, rng_len, List.getElem?_take]
        rw [if_pos (by omega), rng_get (by omega)]
        congr 1
        have : (i + s) % n = i + s - n := by rw [Nat.mod_eq_sub_mod (by omega), Nat.mod_eq_of_lt (by omega)]
        omega
    · rw [List.getElem?_eq_none (by simp [rng_len]; omega), List.getElem?_eq_none (by simp [rng_len]; omega)]
  rw [this]
  exact List.perm_append_comm.trans (by rw [List.take_append_drop])
theorem sub_perm {α : Type} [DecidableEq α] : ∀ {R xs : List α}, R.Nodup → (∀ a ∈ R, a ∈ xs) → xs.length ≤ R.length → xs.Perm R
  | [], xs, _, _, hl => by
    have : xs = [] := List.eq_nil_of_length_eq_zero (by simpa using hl)
    rw [this]
  | a :: R, xs, nd, h, hl => by
    have ha := h a List.mem_cons_self
    have e := List.perm_cons_erase ha
    have nd' := List.nodup_cons.mp nd
    refine e.trans (.cons a (sub_perm nd'.2 (fun b hb => ?_) ?_))
    · have : b ≠ a := fun z => nd'.1 (z ▸ hb)
      exact (List.mem_erase_of_ne this).mpr (h b (List.mem_cons_of_mem _ hb))
    · have := e.length_eq
      simp only [List.length_cons] at this hl
      omega
theorem eqvAll_ints : ∀ a b : List Int, PyData.eqvAll (a.map .int) (b.map .int) = decide (a = b)
  | [], [] => rfl
  | [], _ :: _ => by simp [PyData.eqvAll]
  | _ :: _, [] => by simp [PyData.eqvAll]
  | x :: a, y :: b => by
    simp only [List.map_cons, PyData.eqvAll, PyData.eqv, eqvAll_ints a b]
    by_cases h : x = y <;> simp [h]
theorem eqv_ints (a b : List Int) : PyData.eqv (.list (a.map .int)) (.list (b.map .int)) = decide (a = b) := by
  simp only [PyData.eqv, eqvAll_ints]
theorem eqv_intsT (a b : List Int) : PyData.eqv (.tuple (a.map .int)) (.tuple (b.map .int)) = decide (a = b) := by
  simp only [PyData.eqv, eqvAll_ints]
theorem lay_ints : ∀ a : List Int, PyData.canLayAll0 (a.map .int) = true
  | [] => rfl
  | x :: a => by simp only [List.map_cons, PyData.canLayAll0, PyData.canLay0, lay_ints a, Bool.and_self]
theorem depth_ints : ∀ a : List Int, PyData.depthAll (a.map .int) ≤ 1
  | [] => by simp [PyData.depthAll]
  | x :: a => by
    have := depth_ints a
    simp only [List.map_cons, PyData.depthAll, PyData.depth]
    omega
theorem shaped_ints (a : List Int) : SeqAt.shaped (.list (a.map .int)) = true := by
  have := depth_ints a
  unfold SeqAt.shaped
  rw [Bool.and_eq_true, decide_eq_true_eq]
  refine ⟨lay_ints a, ?_⟩
  simp only [PyData.depth]
  omega
theorem shaped_intsT (a : List Int) : SeqAt.shaped (.tuple (a.map .int)) = true := by
  have := depth_ints a
  unfold SeqAt.shaped
  rw [Bool.and_eq_true, decide_eq_true_eq]
  refine ⟨lay_ints a, ?_⟩
  simp only [PyData.depth]
  omega
theorem dpAll_ints {K : PySem.W.Frag} {H : Hp} : ∀ a : List Int, DpAll K H (a.map V.int) (a.map .int)
  | [] => .nil
  | x :: a => .cons (.int x) (dpAll_ints a)
theorem perm_sorted_eq : ∀ {a b : List Int}, a.Perm b → a.Pairwise (· ≤ ·) → b.Pairwise (· ≤ ·) → a = b := by
  intro a b h ha hb
  exact h.eq_of_pairwise (fun x y _ _ h1 h2 => Int.le_antisymm h1 h2) ha hb
theorem rng_sorted (n : Nat) : (rng n).Pairwise (· ≤ ·) := by
  unfold rng
  rw [List.pairwise_map]
  exact List.pairwise_lt_range.imp fun h => by omega
theorem dw_ints {E : List Addr} {H : Hp} : ∀ {ns : List Int} {ds : List PyData} {n : Nat}, DwAll E H (ns.map V.int) ds n → ds = ns.map .int
  | [], _, _, .nil => rfl
  | x :: ns, _, _, .cons a b => by
    cases a with
    | lf l => cases l; rw [dw_ints (ns := ns) b]; rfl
theorem dw_ints' {E : List Addr} {H : Hp} : ∀ {ns : List Int} {xs : List V} {n : Nat}, DwAll E H xs (ns.map .int) n → xs = ns.map V.int
  | [], _, _, .nil => rfl
  | x :: ns, _, _, .cons a b => by
    cases a with
    | lf l => cases l; rw [dw_ints' (ns := ns) b]; rfl
/-- is such data a move -/
def IsMoveP (d : PyData) : Prop := ∃ ns : List Int, d = .tuple (ns.map .int) ∧ ns.length ≤ 12 ∧ ns.Perm (rng ns.length)
open Classical in
noncomputable def isMoveD (d : PyData) : Bool := decide (IsMoveP d)
theorem isMove_t {d : PyData} (h : IsMoveP d) : isMoveD d = true := by unfold isMoveD; exact @decide_eq_true _ (Classical.propDecidable _) h
theorem isMove_f {d : PyData} (h : ¬ IsMoveP d) : isMoveD d = false := by unfold isMoveD; exact @decide_eq_false _ (Classical.propDecidable _) h

/-! ## T1 -/
def topS (i : Nat) : Stmt := PySem.Challenge.pw_heldorder_k00_moves_known.main.body.getD i (.Pass ⟨0, 0, 0, 0⟩)
local macro_rules | `(tactic| walk_at "wp") => `(tactic| (try simp only [a_var, a_c, a_op, a_un, a_test, a_b, a_and, a_or, a_not, a_andV, a_orV, a_notV, a_if, a_next, a_seq, a_break, a_cont, a_drop, a_ret, a_retN, a_ifS, a_asg, a_name, a_sub, a_nil, a_cons, a_tup, a_lst, a_call, a_cb, a_bm0, a_bm, a_sl, a_nopart, a_part, a_aug, b_rI, b_rI0, b_rU, b_eq, b_ne, b_isTF, b_int, b_intb, b_list, b_tuple, b_ix, b_len, b_setL, b_app, b_pop, b_popAt, b_sl, b_rep, b_cat, b_lstRg, b_tupRg, b_rg1, b_rg2, a_forR, a_forR2, a_forS, b_fsq, a_lcR, a_lcR2, a_lcS, b_csq, wipe_nil, wipe_cons, a_yes, wh_i, wh_s, wh_b, wh_r, wh_n, Bool.not_eq_true, eq_self, not_true_eq_false, not_false_eq_true, b_isi, kb_all, ty_non, ty_bl, ty_int, ty_str, a_m1, b_ixS, b_slS, List.cons.injEq, and_assoc, exists_and_left, cxK, List.getElem?_cons_zero, List.getElem?_cons_succ, List.set_cons_zero, List.set_cons_succ, Option.some.injEq, exists_eq_left', exists_eq_left, V.bl.injEq, V.int.injEq, V.ref.injEq, V.str.injEq, HO.lst.injEq, HO.tup.injEq, decide_eq_true_eq, true_and, and_true, L2.start, List.map_cons, List.map_nil, List.length_cons, List.length_nil, Nat.zero_add, Nat.reduceAdd, Nat.reduceSub, List.replicate_succ, List.replicate_zero, List.cons_append, List.nil_append, if_true, if_false, Bool.false_eq_true, Bool.not_true, Bool.not_false, decide_not, Bool.not_eq_true', decide_eq_false_iff_not, scal_ii, scal_bb, scal_ss, scal_is, scal_si, reduceCtorEq, Bool.true_eq_false, decide_false, decide_true, if_pos, ne_eq, Int.reduceNeg, atI_0, atI_1, atI_2, atI_3, atI_4, atI_5, atI_6, ixN_7, b_ins, a_revL, b_isT, V.ty.injEq, Bool.true_or, Bool.or_true, Bool.false_or, Bool.or_false, Bool.or_self, b_sorted, b_repT]))
local macro_rules | `(tactic| walk_at "wps") => `(tactic| (try simp only [a_var, a_c, a_op, a_un, a_test, a_b, a_and, a_or, a_not, a_andV, a_orV, a_notV, a_if, a_next, a_seq, a_break, a_cont, a_drop, a_ret, a_retN, a_ifS, a_asg, a_name, a_sub, a_nil, a_cons, a_tup, a_lst, a_call, a_cb, a_bm0, a_bm, a_sl, a_nopart, a_part, a_aug, b_rI, b_rI0, b_rU, b_eq, b_ne, b_isTF, b_int, b_intb, b_list, b_tuple, b_ix, b_len, b_setL, b_app, b_pop, b_popAt, b_sl, b_rep, b_cat, b_lstRg, b_tupRg, b_rg1, b_rg2, a_forR, a_forR2, a_forS, b_fsq, a_lcR, a_lcR2, a_lcS, b_csq, wipe_nil, wipe_cons, a_yes, wh_i, wh_s, wh_b, wh_r, wh_n, Bool.not_eq_true, eq_self, not_true_eq_false, not_false_eq_true, b_isi, kb_all, ty_non, ty_bl, ty_int, ty_str, a_m1, b_ixS, b_slS, List.cons.injEq, and_assoc, exists_and_left, cxK, List.getElem?_cons_zero, List.getElem?_cons_succ, List.set_cons_zero, List.set_cons_succ, Option.some.injEq, exists_eq_left', exists_eq_left, V.bl.injEq, V.int.injEq, V.ref.injEq, V.str.injEq, HO.lst.injEq, HO.tup.injEq, decide_eq_true_eq, true_and, and_true, L2.start, List.map_cons, List.map_nil, List.length_cons, List.length_nil, Nat.zero_add, Nat.reduceAdd, Nat.reduceSub, List.replicate_succ, List.replicate_zero, List.cons_append, List.nil_append, if_true, if_false, Bool.false_eq_true, Bool.not_true, Bool.not_false, decide_not, Bool.not_eq_true', decide_eq_false_iff_not, scal_ii, scal_bb, scal_ss, scal_is, scal_si, reduceCtorEq, Bool.true_eq_false, decide_false, decide_true, if_pos, ne_eq, Int.reduceNeg, atI_0, atI_1, atI_2, atI_3, atI_4, atI_5, atI_6, ixN_7, b_ins, a_revL, b_isT, V.ty.injEq, Bool.true_or, Bool.or_true, Bool.false_or, Bool.or_false, Bool.or_self, b_sorted, b_repT, *]))
local macro_rules | `(tactic| walk_at "wq") => `(tactic| (try simp only [a_var, a_c, a_op, a_un, a_test, a_b, a_and, a_or, a_not, a_andV, a_orV, a_notV, a_if, a_next, a_break, a_cont, a_drop, a_ret, a_retN, a_ifS, a_asg, a_name, a_sub, a_nil, a_cons, a_tup, a_lst, a_call, a_cb, a_bm0, a_bm, a_sl, a_nopart, a_part, a_aug, b_rI, b_rI0, b_rU, b_eq, b_ne, b_isTF, b_int, b_intb, b_list, b_tuple, b_ix, b_len, b_setL, b_app, b_pop, b_popAt, b_sl, b_rep, b_cat, b_lstRg, b_tupRg, b_rg1, b_rg2, a_forR, a_forR2, a_forS, b_fsq, a_lcR, a_lcR2, a_lcS, b_csq, wipe_nil, wipe_cons, a_yes, wh_i, wh_s, wh_b, wh_r, wh_n, Bool.not_eq_true, eq_self, not_true_eq_false, not_false_eq_true, b_isi, kb_all, ty_non, ty_bl, ty_int, ty_str, a_m1, b_ixS, b_slS, List.cons.injEq, and_assoc, exists_and_left, cxK, List.getElem?_cons_zero, List.getElem?_cons_succ, List.set_cons_zero, List.set_cons_succ, Option.some.injEq, exists_eq_left', exists_eq_left, V.bl.injEq, V.int.injEq, V.ref.injEq, V.str.injEq, HO.lst.injEq, HO.tup.injEq, decide_eq_true_eq, true_and, and_true, L2.start, List.map_cons, List.map_nil, List.length_cons, List.length_nil, Nat.zero_add, Nat.reduceAdd, Nat.reduceSub, List.replicate_succ, List.replicate_zero, List.cons_append, List.nil_append, if_true, if_false, Bool.false_eq_true, Bool.not_true, Bool.not_false, decide_not, Bool.not_eq_true', decide_eq_false_iff_not, scal_ii, scal_bb, scal_ss, scal_is, scal_si, reduceCtorEq, Bool.true_eq_false, decide_false, decide_true, if_pos, ne_eq, Int.reduceNeg, atI_0, atI_1, atI_2, atI_3, atI_4, atI_5, atI_6, ixN_7, b_ins, a_revL, b_isT, V.ty.injEq, Bool.true_or, Bool.or_true, Bool.false_or, Bool.or_false, Bool.or_self, b_sorted, b_repT, *]))
local macro_rules | `(tactic| walk_at "wn") => `(tactic| (try simp only [a_var, a_c, a_op, a_un, a_test, a_b, a_and, a_or, a_not, a_andV, a_orV, a_notV, a_if, a_next, a_break, a_cont, a_drop, a_ret, a_retN, a_ifS, a_asg, a_name, a_sub, a_nil, a_cons, a_tup, a_lst, a_call, a_cb, a_bm0, a_bm, a_sl, a_nopart, a_part, a_aug, b_rI, b_rI0, b_rU, b_eq, b_ne, b_isTF, b_int, b_intb, b_list, b_tuple, b_ix, b_len, b_setL, b_app, b_pop, b_popAt, b_sl, b_rep, b_cat, b_lstRg, b_tupRg, b_rg1, b_rg2, a_forR, a_forR2, a_forS, b_fsq, a_lcR, a_lcR2, a_lcS, b_csq, wipe_nil, wipe_cons, a_yes, wh_i, wh_s, wh_b, wh_r, wh_n, Bool.not_eq_true, eq_self, not_true_eq_false, not_false_eq_true, b_isi, kb_all, ty_non, ty_bl, ty_int, ty_str, a_m1, b_ixS, b_slS, List.cons.injEq, and_assoc, exists_and_left, cxK, List.getElem?_cons_zero, List.getElem?_cons_succ, List.set_cons_zero, List.set_cons_succ, Option.some.injEq, exists_eq_left', exists_eq_left, V.bl.injEq, V.int.injEq, V.ref.injEq, V.str.injEq, HO.lst.injEq, HO.tup.injEq, decide_eq_true_eq, true_and, and_true, L2.start, List.map_cons, List.map_nil, List.length_cons, List.length_nil, Nat.zero_add, Nat.reduceAdd, Nat.reduceSub, List.replicate_succ, List.replicate_zero, List.cons_append, List.nil_append, if_true, if_false, Bool.false_eq_true, Bool.not_true, Bool.not_false, decide_not, Bool.not_eq_true', decide_eq_false_iff_not, scal_ii, scal_bb, scal_ss, scal_is, scal_si, reduceCtorEq, Bool.true_eq_false, decide_false, decide_true, if_pos, ne_eq, Int.reduceNeg, atI_0, atI_1, atI_2, atI_3, atI_4, atI_5, atI_6, ixN_7, b_ins, a_revL, b_isT, V.ty.injEq, Bool.true_or, Bool.or_true, Bool.false_or, Bool.or_false, Bool.or_self, b_sorted, b_repT]))
local macro_rules | `(tactic| walk_at "sq") => `(tactic| ((try dsimp only); rw [a_seq]; walk_at "wq"))

section
variable {P : Program} {w : World} {K : PySem.W.Frag} {mg : Str → Option Value} {base : Heap}

def sp_mixed : Sp := fun vs H Q _ => ∃ a b : Int, vs = [.int a, .int b] ∧ ∀ r, Q (.int r) H
abbrev st_law_mixed : Stmt := topS 6
theorem sc_law_mixed : FnScope ["seed", "turn", "first", "second"] ["seed", "turn"] (defScope st_law_mixed) := ⟨rfl, rfl, rfl, by decide +kernel, rfl, by decide +kernel, by decide +kernel⟩
theorem ok_law_mixed (D : Df K mg "_law_mixed" st_law_mixed) (T : NoB mg)  : Cl P w K mg base 1 "_law_mixed" ["seed", "turn"] sp_mixed := by
  refine cl_of D sc_law_mixed (fun _ _ _ _ _ _ us hl => match us, hl with | [_, _], _ => rfl) (fun vs H Q E h => ?_) (fun f cdv A outer sh H vs Q E hr h => ?_)
  · obtain ⟨_, _, rfl, _⟩ := h; rfl
  obtain ⟨a, b, rfl, k⟩ := h
  refine ⟨_, (pss_cons (ps_set (i := 2) sc_law_mixed.nd rfl (Or.inl rfl) (pe_op op_modN (pe_callTy int1 (by rfl) T.no_int (by decide +kernel) (pa_cons (pe_op op_add (pe_op op_add (pe_op op_mul (pv 0) pe_int) (pe_op op_mul (pv 1) pe_int)) pe_int) pa_nil)) pe_int))
    (pss_cons (ps_set (i := 3) sc_law_mixed.nd rfl (Or.inl rfl) (pe_op op_modN (pe_callTy int1 (by rfl) T.no_int (by decide +kernel) (pa_cons (pe_op op_add (pe_op op_add (pe_op op_mul (pv 2) (pv 2)) (pe_op op_mul (pv 0) pe_int)) (pv 1)) pa_nil)) pe_int))
    (pss_one (ps_ret (pe_op op_modN (pe_callTy int1 (by rfl) T.no_int (by decide +kernel) (pa_cons (pe_op op_add (pe_op op_mul (pv 3) (pv 3)) (pv 2)) pa_nil)) pe_int))))), ?_⟩
  walk_at "wp"
  exact ⟨cm_lit (by decide), cm_lit (by decide), by decide, cm_fm (by decide) (by decide), cm_lit (by decide), by decide, cm_fm (by decide) (by decide), by decide, k _⟩

def sp_take : Sp := fun vs H Q _ => ∃ (s l : Addr) (n : Int), vs = [.ref s, .int n] ∧ n < 2 ^ 62 ∧ Sto s l H ∧ ∀ r H', Ge s l H H' → 0 ≤ r → (2 ≤ n → r < n) → (n < 2 → r = 0) → Q (.int r) H'

abbrev st_law_take : Stmt := topS 7
theorem sc_law_take : FnScope ["store", "many", "cell", "digit"] ["store", "many"] (defScope st_law_take) := ⟨rfl, rfl, rfl, by decide +kernel, rfl, by decide +kernel, by decide +kernel⟩
theorem ok_law_take (D : Df K mg "_law_take" st_law_take) (T : NoB mg) (C_law_mixed : Cl P w K mg base 1 "_law_mixed" ["seed", "turn"] sp_mixed) : Cl P w K mg base 2 "_law_take" ["store", "many"] sp_take := by
  refine cl_of D sc_law_take (fun _ _ _ _ _ _ us hl => match us, hl with | [_, _], _ => rfl) (fun vs H Q E h => ?_) (fun f cdv A outer sh H vs Q E hr h => ?_)
  · obtain ⟨_, _, _, rfl, _⟩ := h; rfl
  obtain ⟨a, l, n, rfl, hn, ⟨ns, i1, i2, i3, i4, i5, i6, hs, hl, ne, h1⟩, k⟩ := h
  refine ⟨_, (pss_cons (ps_if (pt_cmpR op_lt (pv 1) pe_int (nomark _)) (pss_one (ps_ret pe_int)) pss_nil)
    (pss_cons (ps_if (PW.pt (pw_and (pt_cmpR op_lt (pe_ix ix1 (pv 0) pe_int (fun _ _ => rfl)) pe_int (nomark _)) (pw_and (pt_cmpR op_eq (pe_ix ix1 (pv 0) pe_int (fun _ _ => rfl)) pe_int (nomark _)) (pw_and1 (pt_cmpR op_lt (pe_ix ix1 (pv 0) pe_int (fun _ _ => rfl)) (pe_callB len1 (by rfl) T.no_len (by decide +kernel) (pa_cons (pe_ix ix1 (pv 0) pe_int (fun _ _ => rfl)) pa_nil)) (nomark _)))))) (pss_cons (ps_set (i := 2) sc_law_take.nd rfl (Or.inl rfl) (pe_ix ix1 (pe_ix ix1 (pv 0) pe_int (fun _ _ => rfl)) (pe_ix ix1 (pv 0) pe_int (fun _ _ => rfl)) (fun _ _ => rfl)))
    (pss_cons (ps_asg (pe_op op_add (pe_ix ix1 (pv 0) pe_int (fun _ _ => rfl)) pe_int) (pg_sub (pv 0) pe_int set_list))
    (pss_cons (ps_asg (pe_op op_modN (pe_callTy int1 (by rfl) T.no_int (by decide +kernel) (pa_cons (pe_op op_add (pe_op op_add (pe_op op_mul (pe_ix ix1 (pv 0) pe_int (fun _ _ => rfl)) pe_int) (pe_op op_modN (pe_callTy int1 (by rfl) T.no_int (by decide +kernel) (pa_cons (pv 2) pa_nil)) pe_int)) pe_int) pa_nil)) pe_int) (pg_sub (pv 0) pe_int set_list))
    (pss_one (ps_if (pt_cmpR op_ge (pv 2) (pe_op op_pow pe_int pe_int) (nomark _)) (pss_one (ps_asg (pv 2) (pg_sub (pv 0) pe_int set_list))) (pss_cons (ps_asg pe_int (pg_sub (pv 0) pe_int set_list))
    (pss_one (ps_asg (pe_op op_modN (pe_callTy int1 (by rfl) T.no_int (by decide +kernel) (pa_cons (pv 2) pa_nil)) pe_int) (pg_sub (pv 0) pe_int set_list))))))))) pss_nil)
    (pss_cons (ps_if (pt_cmpR op_ge (pe_ix ix1 (pv 0) pe_int (fun _ _ => rfl)) pe_int (nomark _)) (pss_cons (ps_set (i := 3) sc_law_take.nd rfl (Or.inl rfl) (pe_op op_modN (pe_callTy int1 (by rfl) T.no_int (by decide +kernel) (pa_cons (pe_ix ix1 (pv 0) pe_int (fun _ _ => rfl)) pa_nil)) (pv 1)))
    (pss_cons (ps_asg (pe_op op_fdivW (pe_ix ix1 (pv 0) pe_int (fun _ _ => rfl)) (pv 1)) (pg_sub (pv 0) pe_int set_list))
    (pss_one (ps_ret (pv 3))))) pss_nil)
    (pss_cons (ps_asg (pe_op op_add (pe_ix ix1 (pv 0) pe_int (fun _ _ => rfl)) pe_int) (pg_sub (pv 0) pe_int set_list))
    (pss_cons (ps_if (pt_cmpR op_gt (pe_ix ix1 (pv 0) pe_int (fun _ _ => rfl)) pe_int (nomark _)) (pss_cons (ps_asg (pe_op op_sub (pe_ix ix1 (pv 0) pe_int (fun _ _ => rfl)) pe_int) (pg_sub (pv 0) pe_int set_list))
    (pss_one (ps_ret (pe_op op_modN (pe_callTy int1 (by rfl) T.no_int (by decide +kernel) (pa_cons (pe_cl C_law_mixed hr (by rfl) (pa_cons (pe_ix ix1 (pv 0) pe_int (fun _ _ => rfl)) (pa_cons (pe_ix ix1 (pv 0) pe_int (fun _ _ => rfl)) pa_nil))) pa_nil)) (pv 1))))) pss_nil)
    (pss_one (ps_ret (pe_op op_modN (pe_callTy int1 (by rfl) T.no_int (by decide +kernel) (pa_cons (pe_cl C_law_mixed hr (by rfl) (pa_cons (pe_ix ix1 (pv 0) pe_int (fun _ _ => rfl)) (pa_cons (pe_ix ix1 (pv 0) pe_int (fun _ _ => rfl)) pa_nil))) pa_nil)) (pv 1))))))))), ?_⟩
  have hq := sq_l hs
  have hql := sq_l hl
  rw [a_seq]
  walk_at "wq"
  split
  · exact k 0 H ⟨Kp.refl, _, _, _, _, _, _, _, hs, hl, ne, h1⟩ (Int.le_refl _) (by omega) (fun _ => rfl)
  refine seq_join (fun σ H' => ∃ (v : Option V) (i1 i2 i3 i4 i5 i6 : Int), σ = [some (.ref a), some (.int n), v, none] ∧ Kp a H H' ∧ H' l = some (.lst (ns.map V.int)) ∧ 0 ≤ i1 ∧ H' a = some (.lst [.ref l, .int i1, .int i2, .int i3, .int i4, .int i5, .int i6])) (fun N hN => ?_) ?_
  · have out : N [some (V.ref a), some (V.int n), none, none] H := hN _ _ ⟨none, _, _, _, _, _, _, rfl, Kp.refl, hl, h1, hs⟩
    walk_at "wps"
    split
    · split
      · split
        · rename_i g1 g2 g3
          have g4 : i1.toNat < ns.length := by rw [List.length_map] at g3; omega
          refine ⟨.int ns[i1.toNat], atI_of h1 (by simp [g4]), fun H3 n3 => ?_⟩
          have hs3 := n3.at_
          have hq3 := sq_l n3.at_
          have hl3 := n3.k ne hl
          clear out
          walk_at "wps"
          refine ⟨cm_lit (by decide), by decide, by decide, fun H4 n4 => ?_⟩
          have hs4 := n4.at_
          have hl4 := n4.k ne hl3
          walk_at "wps"
          refine ⟨⟨by decide, by decide, by decide⟩, ?_⟩
          split
          · refine fun H5 n5 => hN _ _ ⟨_, _, _, _, _, _, _, rfl, ((Kp.put n3).trans (Kp.put n4)).trans (Kp.put n5), n5.k ne hl4, by omega, n5.at_⟩
          · refine fun H5 n5 => ?_
            have hs5 := n5.at_
            have hl5 := n5.k ne hl4
            walk_at "wps"
            refine ⟨by decide, fun H6 n6 => ?_⟩
            exact hN _ _ ⟨_, _, _, _, _, _, _, rfl, (((Kp.put n3).trans (Kp.put n4)).trans (Kp.put n5)).trans (Kp.put n6), n6.k ne hl5, by omega, n6.at_⟩
        · trivial
      · trivial
    · trivial
  · clear hs hq hql hl h1 i1 i2 i3 i4 i5 i6
    rintro _ H1 ⟨v, i1, i2, i3, i4, i5, i6, rfl, kp, hl, h1, hs⟩
    have hq := sq_l hs
    rw [a_seq]
    walk_at "wq"
    have hn2 : 0 < n := by omega
    split
    · rw [a_seq]
      walk_at "wps"
      refine ⟨by omega, ⟨hn2, ?_⟩, fun H2 n2 => ?_⟩
      · exact Nat.lt_trans (PySem.Flt.log2_lt_of (n := n.natAbs) (k := 62) (by decide) (by omega)) (by decide)
      · exact k _ H2 ⟨kp.trans (Kp.put n2), Sto.put hl ne n2 h1⟩ (fm_bound hn2).1 (fun _ => (fm_bound hn2).2) (fun z => by omega)
    · rw [a_seq]
      walk_at "wq"
      intro H2 n2
      try dsimp only
      have hs2 := n2.at_
      have hq2 := sq_l n2.at_
      have hl2 := n2.k ne hl
      rw [a_seq]
      walk_at "wq"
      split
      · rw [a_seq]
        walk_at "wq"
        intro H3 n3
        try dsimp only
        have hs3 := n3.at_
        have hq3 := sq_l n3.at_
        have hl3 := n3.k ne hl2
        walk_at "wq"
        refine ⟨_, _, rfl, fun r => ?_⟩
        walk_at "wq"
        exact ⟨by omega, k _ _ ⟨(kp.trans (Kp.put n2)).trans (Kp.put n3), _, _, _, _, _, _, _, hs3, hl3, ne, h1⟩ (fm_bound hn2).1 (fun _ => (fm_bound hn2).2) (fun z => by omega)⟩
      · refine ⟨_, _, rfl, fun r => ?_⟩
        walk_at "wq"
        exact ⟨by omega, k _ _ ⟨kp.trans (Kp.put n2), _, _, _, _, _, _, _, hs2, hl2, ne, h1⟩ (fm_bound hn2).1 (fun _ => (fm_bound hn2).2) (fun z => by omega)⟩
end

/-! ## T2 -/

theorem perm_erase {α : Type} : ∀ {xs : List α} {i : Nat} (h : i < xs.length), xs.Perm (xs[i] :: xs.eraseIdx i)
  | _ :: _, 0, _ => .refl _
  | a :: r, i + 1, h => by
    have e := perm_erase (xs := r) (i := i) (by simpa using h)
    exact (List.Perm.cons a e).trans (.swap ..)
section
variable {P : Program} {w : World} {K : PySem.W.Frag} {mg : Str → Option Value} {base : Heap}
/-! pick -/
def sp_pick : Sp := fun vs H Q _ => ∃ (s l p : Addr) (xs : List V), vs = [.ref s, .ref p] ∧ Sto s l H ∧ p ≠ s ∧ sq H p = some xs ∧ xs ≠ [] ∧ xs.length < 2 ^ 62 ∧ ∀ x H', Ge s l H H' → x ∈ xs → Q x H'
abbrev st_law_pick : Stmt := topS 8
theorem sc_law_pick : FnScope ["store", "things"] ["store", "things"] (defScope st_law_pick) := ⟨rfl, rfl, rfl, by decide +kernel, rfl, by decide +kernel, by decide +kernel⟩
theorem ok_law_pick (D : Df K mg "_law_pick" st_law_pick) (T : NoB mg) (C_law_take : Cl P w K mg base 2 "_law_take" ["store", "many"] sp_take) : Cl P w K mg base 3 "_law_pick" ["store", "things"] sp_pick := by
  refine cl_of D sc_law_pick (fun _ _ _ _ _ _ us hl => match us, hl with | [_, _], _ => rfl) (fun vs H Q E h => ?_) (fun f cdv A outer sh H vs Q E hr h => ?_)
  · obtain ⟨_, _, _, _, rfl, _⟩ := h; rfl
  obtain ⟨s, l, p, xs, rfl, st, ne, hq, hne, hl, k⟩ := h
  refine ⟨_, (pss_one (ps_ret (pe_ix ix1 (pv 1) (pe_cl C_law_take hr (by rfl) (pa_cons (pv 0) (pa_cons (pe_callB len1 (by rfl) T.no_len (by decide +kernel) (pa_cons (pv 1) pa_nil)) pa_nil))) (fun _ _ => rfl)))), ?_⟩
  walk_at "wps"
  refine ⟨s, l, _, rfl, by omega, st, fun r H1 g r0 r1 r2 => ?_⟩
  have hq1 := g.kp.sq ne hq
  walk_at "wps"
  have hp : 0 < xs.length := List.length_pos_iff.mpr hne
  have hr : r.toNat < xs.length := by
    by_cases z : xs.length < 2
    · rw [r2 (by omega)]; exact hp
    · have := r1 (by omega); omega
  exact ⟨xs[r.toNat], atI_of r0 (by simp [hr]), k _ _ g (List.getElem_mem hr)⟩
/-! place -/
def sp_place : Sp := fun vs H Q _ => ∃ (s l : Addr) (n : Int), vs = [.ref s, .int n] ∧ Sto s l H ∧ 1 ≤ n ∧ n < 2 ^ 62 ∧ ∀ r H', Ge s l H H' → 0 ≤ r → r < n → Q (.int r) H'
abbrev st_law_place : Stmt := topS 9
theorem sc_law_place : FnScope ["store", "size", "pick"] ["store", "size"] (defScope st_law_place) := ⟨rfl, rfl, rfl, by decide +kernel, rfl, by decide +kernel, by decide +kernel⟩
theorem ok_law_place (D : Df K mg "_law_place" st_law_place) (T : NoB mg) (C_law_take : Cl P w K mg base 2 "_law_take" ["store", "many"] sp_take) : Cl P w K mg base 3 "_law_place" ["store", "size"] sp_place := by
  refine cl_of D sc_law_place (fun _ _ _ _ _ _ us hl => match us, hl with | [_, _], _ => rfl) (fun vs H Q E h => ?_) (fun f cdv A outer sh H vs Q E hr h => ?_)
  · obtain ⟨_, _, _, rfl, _⟩ := h; rfl
  obtain ⟨s, l, n, rfl, st, hn1, hn2, k⟩ := h
  refine ⟨_, (pss_cons (ps_set (i := 2) sc_law_place.nd rfl (Or.inl rfl) (pe_cl C_law_take hr (by rfl) (pa_cons (pv 0) (pa_cons pe_int pa_nil))))
    (pss_cons (ps_if (pt_cmpR op_eq (pv 2) pe_int (nomark _)) (pss_one (ps_ret pe_int)) pss_nil)
    (pss_cons (ps_if (pt_cmpR op_eq (pv 2) pe_int (nomark _)) (pss_one (ps_ret (pe_op op_sub (pv 1) pe_int))) pss_nil)
    (pss_one (ps_ret (pe_cl C_law_take hr (by rfl) (pa_cons (pv 0) (pa_cons (pv 1) pa_nil)))))))), ?_⟩
  walk_at "wps"
  refine ⟨s, l, _, rfl, by decide, st, fun r H1 g r0 r1 r2 => ?_⟩
  walk_at "wps"
  split
  · exact k _ _ g (by omega) (by omega)
  · split
    · exact k _ _ g (by omega) (by omega)
    · refine ⟨s, l, _, rfl, hn2, g.st, fun r' H2 g2 q0 q1 q2 => k _ _ (g.trans g2) q0 ?_⟩
      by_cases z : n < 2
      · rw [q2 z]; omega
      · exact q1 (by omega)
/-! drawn -/
def sp_drawn : Sp := fun vs H Q _ => ∃ (s l p : Addr) (xs : List V) (n : Int), vs = [.ref s, .ref p, .int n] ∧ Sto s l H ∧ sq H p = some xs ∧ xs.length ≤ 1000 ∧ -(2 ^ 62) ≤ n ∧
  ∀ q H' ys rest, Ge s l H H' → H q = none → H' q = some (.lst ys) → (ys ++ rest).Perm xs → ys.length = (if (xs.length : Int) < n then (xs.length : Int) else n).toNat → Q (.ref q) H'
abbrev st_law_drawn : Stmt := topS 10
theorem sc_law_drawn : FnScope ["store", "things", "many", "pool", "found", "k", "at"] ["store", "things", "many"] (defScope st_law_drawn) := ⟨rfl, rfl, rfl, by decide +kernel, rfl, by decide +kernel, by decide +kernel⟩
theorem ok_law_drawn (D : Df K mg "_law_drawn" st_law_drawn) (T : NoB mg) (C_law_take : Cl P w K mg base 2 "_law_take" ["store", "many"] sp_take) : Cl P w K mg base 3 "_law_drawn" ["store", "things", "many"] sp_drawn := by
  refine cl_of D sc_law_drawn (fun _ _ _ _ _ _ us hl => match us, hl with | [_, _, _], _ => rfl) (fun vs H Q E h => ?_) (fun f cdv A outer sh H vs Q E hr h => ?_)
  · obtain ⟨_, _, _, _, _, rfl, _⟩ := h; rfl
  obtain ⟨s, l, p, xs, n, rfl, st, hq, hx, hn0, k⟩ := h
  refine ⟨_, (pss_cons (ps_set (i := 3) sc_law_drawn.nd rfl (Or.inl rfl) (pe_callTy lst1 (by rfl) T.no_list (by decide +kernel) (pa_cons (pv 1) pa_nil)))
    (pss_cons (ps_set (i := 4) sc_law_drawn.nd rfl (Or.inl rfl) (pe_lst pa_nil))
    (pss_cons (ps_for PassesOwn.never rfl (pi_range1 (by rfl) T.no_range (pa_cons (pe_callB (call_min2 rfl) (by rfl) T.no_min (by decide +kernel) (pa_cons (pv 2) (pa_cons (pe_callB len1 (by rfl) T.no_len (by decide +kernel) (pa_cons (pv 3) pa_nil)) pa_nil))) pa_nil)) (pg_name (i := 5) sc_law_drawn.nd rfl (Or.inl rfl)) (pss_cons (ps_set (i := 6) sc_law_drawn.nd rfl (Or.inl rfl) (pe_cl C_law_take hr (by rfl) (pa_cons (pv 0) (pa_cons (pe_callB len1 (by rfl) T.no_len (by decide +kernel) (pa_cons (pv 3) pa_nil)) pa_nil))))
    (pss_one (ps_expr (pe_bm PySem.F.plainAttrs_list PySem.F.slot_list_append PySem.F.type_list_append mt_append (pv 4) (pa_cons (pe_bm PySem.F.plainAttrs_list PySem.F.slot_list_pop PySem.F.type_list_pop mt_popAt (pv 3) (pa_cons (pv 6) pa_nil)) pa_nil))))))
    (pss_one (ps_ret (pv 4)))))), ?_⟩
  walk_at "wps"
  intro po H1 n1
  have g1 := (Ge.refl st).new n1
  refine ⟨Nat.zero_le _, fun fo H2 n2 => ?_⟩
  have g2 := g1.new n2
  have hpo2 := n2.k n1.at_
  have hq2 := sq_l hpo2
  walk_at "wps"
  refine ⟨by split <;> omega, by split <;> omega, ?_⟩
  refine fr_by (fun i σ H' => Ge s l H H' ∧ ∃ pl fd v v', σ = [some (.ref s), some (.ref p), some (.int n), some (.ref po), some (.ref fo), v, v'] ∧ H' po = some (.lst pl) ∧ H' fo = some (.lst fd) ∧ fd.length = i ∧ (fd ++ pl).Perm xs)
    ⟨g2, xs, [], none, none, rfl, hpo2, n2.at_, rfl, .refl _⟩ ?_ ?_
  · rintro i _ H3 N hN hi ⟨g3, pl, fd, v, v', rfl, h1, h2, h3, h4⟩
    have hq3 := sq_l h1
    have hl3 := h4.length_eq
    rw [List.length_append] at hl3
    walk_at "wps"
    refine ⟨s, l, _, rfl, by omega, g3.st, fun r H4 g4 r0 r1 r2 => ?_⟩
    have e1 := g4.at st n1.fr h1
    have e2 := g4.at st (g1.fr n2.fr) h2
    have g5 := g3.trans g4
    have hr : r.toNat < pl.length := by
      by_cases z : pl.length < 2
      · rw [r2 (by omega)]; have : i < xs.length := by split at hi <;> omega
        show 0 < _; omega
      · have := r1 (by omega); omega
    have nef : fo ≠ po := n2.ne n1.at_ |>.symm
    walk_at "wps"
    refine ⟨tyl e2, tyl e1, by omega, by omega, _, seqIndex_of r0 (by omega), pl[r.toNat], by simp [hr], fun H5 n5 => ?_⟩
    have f2 := n5.k nef e2
    walk_at "wps"
    refine ⟨by rw [sizeLine_eq]; omega, fun H6 n6 => ?_⟩
    refine hN _ _ ⟨(g5.put st n1.fr n5).put st (g1.fr n2.fr) n6, _, _, _, _, rfl, n6.k nef.symm n5.at_, n6.at_, by simp [h3], ?_⟩
    refine .trans ?_ h4
    rw [List.append_assoc]
    refine List.Perm.append_left _ ?_
    exact (perm_erase hr).symm
  · rintro _ H3 ⟨g3, pl, fd, v, v', rfl, h1, h2, h3, h4⟩
    walk_at "wps"
    exact k fo H3 fd pl g3 (g1.fr n2.fr) h2 h4 h3
end

/-! ## T3 -/

theorem szl {n : Nat} (h : n ≤ 16777216) : n ≤ sizeLine := by rw [sizeLine_eq]; exact h
theorem szl' {n : Nat} (h : n < 16777216) : n < sizeLine := by rw [sizeLine_eq]; exact h
section
variable {P : Program} {w : World} {K : PySem.W.Frag} {mg : Str → Option Value} {base : Heap}
/-! either -/
def sp_either : Sp := fun vs H Q _ => ∃ (s l p : Addr) (xs : List V), vs = [.ref s, .ref p] ∧ Sto s l H ∧ p ≠ s ∧ H p = some (.lst xs) ∧ ∀ q H', Ge s l H H' → H q = none → (H' q = some (.tup xs) ∨ H' q = some (.lst xs)) → Q (.ref q) H'
abbrev st_law_either : Stmt := topS 11
theorem sc_law_either : FnScope ["store", "entries"] ["store", "entries"] (defScope st_law_either) := ⟨rfl, rfl, rfl, by decide +kernel, rfl, by decide +kernel, by decide +kernel⟩
theorem ok_law_either (D : Df K mg "_law_either" st_law_either) (T : NoB mg) (C_law_take : Cl P w K mg base 2 "_law_take" ["store", "many"] sp_take) : Cl P w K mg base 3 "_law_either" ["store", "entries"] sp_either := by
  refine cl_of D sc_law_either (fun _ _ _ _ _ _ us hl => match us, hl with | [_, _], _ => rfl) (fun vs H Q E h => ?_) (fun f cdv A outer sh H vs Q E hr h => ?_)
  · obtain ⟨_, _, _, _, rfl, _⟩ := h; rfl
  obtain ⟨s, l, p, xs, rfl, st, ne, hp, k⟩ := h
  refine ⟨_, (pss_cons (ps_if (pt_cmpR op_eq (pe_cl C_law_take hr (by rfl) (pa_cons (pv 0) (pa_cons pe_int pa_nil))) pe_int (nomark _)) (pss_one (ps_ret (pe_callTy tup1 (by rfl) T.no_tuple (by decide +kernel) (pa_cons (pv 1) pa_nil)))) pss_nil)
    (pss_one (ps_ret (pe_callTy lst1 (by rfl) T.no_list (by decide +kernel) (pa_cons (pv 1) pa_nil))))), ?_⟩
  walk_at "wps"
  refine ⟨s, l, _, rfl, by decide, st, fun r H1 g r0 r1 r2 => ?_⟩
  have hp1 := g.k ne hp
  have hq1 := sq_l hp1
  walk_at "wps"
  split
  · exact fun q H2 n2 => k q H2 (g.new n2) (g.fr n2.fr) (.inl n2.at_)
  · exact fun q H2 n2 => k q H2 (g.new n2) (g.fr n2.fr) (.inr n2.at_)
/-! whole -/
def sp_whole : Sp := fun vs H Q _ => ∃ (s l : Addr), vs = [.ref s] ∧ Sto s l H ∧ ∀ r H', Ge s l H H' → -(10 ^ 30) < r → r < 10 ^ 30 → Q (.int r) H'
abbrev st_law_whole : Stmt := topS 12
theorem sc_law_whole : FnScope ["store", "pick", "edges", "number", "k"] ["store"] (defScope st_law_whole) := ⟨rfl, rfl, rfl, by decide +kernel, rfl, by decide +kernel, by decide +kernel⟩
theorem ok_law_whole (D : Df K mg "_law_whole" st_law_whole) (T : NoB mg) (C_law_pick : Cl P w K mg base 3 "_law_pick" ["store", "things"] sp_pick) (C_law_take : Cl P w K mg base 2 "_law_take" ["store", "many"] sp_take) : Cl P w K mg base 4 "_law_whole" ["store"] sp_whole := by
  refine cl_of D sc_law_whole (fun _ _ _ _ _ _ us hl => match us, hl with | [_], _ => rfl) (fun vs H Q E h => ?_) (fun f cdv A outer sh H vs Q E hr h => ?_)
  · obtain ⟨_, _, rfl, _⟩ := h; rfl
  obtain ⟨s, l, rfl, st, k⟩ := h
  refine ⟨_, (pss_cons (ps_set (i := 1) sc_law_whole.nd rfl (Or.inl rfl) (pe_cl C_law_take hr (by rfl) (pa_cons (pv 0) (pa_cons pe_int pa_nil))))
    (pss_cons (ps_if (pt_cmpR op_lt (pv 1) pe_int (nomark _)) (pss_one (ps_ret (pe_op op_sub (pe_cl C_law_take hr (by rfl) (pa_cons (pv 0) (pa_cons pe_int pa_nil))) pe_int))) pss_nil)
    (pss_cons (ps_if (pt_cmpR op_eq (pv 1) pe_int (nomark _)) (pss_cons (ps_set (i := 2) sc_law_whole.nd rfl (Or.inl rfl) (pe_lst (pa_cons (pe_un un_neg pe_int) (pa_cons pe_int (pa_cons pe_int (pa_cons pe_int (pa_cons pe_int (pa_cons pe_int (pa_cons pe_int (pa_cons pe_int (pa_cons pe_int (pa_cons pe_int (pa_cons pe_int (pa_cons pe_int (pa_cons pe_int (pa_cons pe_int (pa_cons pe_int (pa_cons pe_int (pa_cons pe_int (pa_cons pe_int (pa_cons pe_int (pa_cons pe_int pa_nil))))))))))))))))))))))
    (pss_cons (ps_set (i := 2) sc_law_whole.nd rfl (Or.inl rfl) (pe_op op_cat (pv 2) (pe_lst (pa_cons (pe_un un_neg pe_int) (pa_cons (pe_un un_neg pe_int) (pa_cons pe_int (pa_cons pe_int (pa_cons pe_int (pa_cons pe_int pa_nil)))))))))
    (pss_one (ps_ret (pe_cl C_law_pick hr (by rfl) (pa_cons (pv 0) (pa_cons (pv 2) pa_nil))))))) pss_nil)
    (pss_cons (ps_if (pt_cmpR op_eq (pv 1) pe_int (nomark _)) (pss_one (ps_ret (pe_op op_sub (pe_cl C_law_take hr (by rfl) (pa_cons (pv 0) (pa_cons pe_int pa_nil))) pe_int))) pss_nil)
    (pss_cons (ps_set (i := 3) sc_law_whole.nd rfl (Or.inl rfl) pe_int)
    (pss_cons (ps_for PassesOwn.never rfl (pi_range1 (by rfl) T.no_range (pa_cons pe_int pa_nil)) (pg_name (i := 4) sc_law_whole.nd rfl (Or.inl rfl)) (pss_one (ps_set (i := 3) sc_law_whole.nd rfl (Or.inl rfl) (pe_op op_add (pe_op op_mul (pv 3) pe_int) (pe_cl C_law_take hr (by rfl) (pa_cons (pv 0) (pa_cons pe_int pa_nil)))))))
    (pss_cons (ps_if (pt_cmpR op_eq (pv 1) pe_int (nomark _)) (pss_one (ps_ret (pe_un un_neg (pv 3)))) pss_nil)
    (pss_one (ps_ret (pv 3)))))))))), ?_⟩
  rw [a_seq]
  walk_at "wq"
  refine ⟨s, l, _, rfl, by decide, st, fun r H1 g r0 r1 r2 => ?_⟩
  walk_at "wps"
  split
  · refine ⟨s, l, _, rfl, by decide, g.st, fun r H2 g2 q0 q1 q2 => ?_⟩
    walk_at "wps"
    have := q1 (by decide)
    exact k _ _ (g.trans g2) (by omega) (by omega)
  · split
    · refine ⟨szl (by decide), fun p H2 n2 => ?_⟩
      walk_at "wps"
      refine ⟨szl (by decide), fun p3 H3 n3 => ?_⟩
      have e3 := n3.k n2.at_
      have f3 := n3.at_
      walk_at "wps"
      refine ⟨szl (by decide), fun p4 H4 n4 => ?_⟩
      have g4 := ((g.new n2).new n3).new n4
      have e4 := sq_l n4.at_
      walk_at "wps"
      refine ⟨s, l, p4, _, rfl, g4.st, (g4.st.ne' n4.at_ (by simp)), e4, by simp, by decide, fun x H5 g5 hx => ?_⟩
      simp only [List.mem_cons, List.not_mem_nil, or_false] at hx
      rcases hx with h | h | h | h | h | h | h | h | h | h | h | h | h | h | h | h | h | h | h | h | h | h | h | h | h | h <;> (rw [h]; exact k _ _ (g4.trans g5) (by decide) (by decide))
    · split
      · refine ⟨s, l, _, rfl, by decide, g.st, fun r H2 g2 q0 q1 q2 => ?_⟩
        walk_at "wps"
        have := q1 (by decide)
        exact k _ _ (g.trans g2) (by omega) (by omega)
      · refine ⟨by decide, by decide, ?_⟩
        refine fr_by (fun i σ H' => Ge s l H H' ∧ ∃ num v, σ = [some (.ref s), some (.int r), none, some (.int num), v] ∧ 0 ≤ num ∧ num < 1000000 ^ i) ⟨g, 0, none, rfl, by decide, by decide⟩ ?_ ?_
        · rintro i _ H3 N hN hi ⟨g3, num, v, rfl, h1, h2⟩
          walk_at "wps"
          refine ⟨cm_lit (by decide), s, l, _, rfl, by decide, g3.st, fun r' H4 g4 q0 q1 q2 => ?_⟩
          walk_at "wps"
          have := q1 (by decide)
          refine hN _ _ ⟨g3.trans g4, _, _, rfl, by omega, ?_⟩
          rw [Int.pow_succ]
          omega
        · rintro _ H3 ⟨g3, num, v, rfl, h1, h2⟩
          walk_at "wps"
          have h2 : num < 1000000 ^ 5 := h2
          split
          · exact k _ _ g3 (by omega) (by omega)
          · exact k _ _ g3 (by omega) (by omega)
/-! sign -/
def sp_sign : Sp := fun vs H Q _ => ∃ (s l : Addr), vs = [.ref s] ∧ Sto s l H ∧ ∀ z H', Ge s l H H' → z.length = 1 → Vis z → Q (.str z) H'
theorem signs_all : ((PySem.Str.ofString " !\"#$&'()*+,-./0123456789:;<=>?@ABCDEFGHIJKLMNOPQRSTUVWXYZ[\\]^_`" ++ PySem.Str.ofString "abcdefghijklmnopqrstuvwxyz{|}~\n" : Str).cps.toList.all fun c => decide (c = 10 ∨ (32 ≤ c ∧ c < 127))) = true := by decide +kernel
abbrev st_law_sign : Stmt := topS 13
theorem sc_law_sign : FnScope ["store", "signs"] ["store"] (defScope st_law_sign) := ⟨rfl, rfl, rfl, by decide +kernel, rfl, by decide +kernel, by decide +kernel⟩
theorem ok_law_sign (D : Df K mg "_law_sign" st_law_sign) (T : NoB mg) (C_law_take : Cl P w K mg base 2 "_law_take" ["store", "many"] sp_take) : Cl P w K mg base 3 "_law_sign" ["store"] sp_sign := by
  refine cl_of D sc_law_sign (fun _ _ _ _ _ _ us hl => match us, hl with | [_], _ => rfl) (fun vs H Q E h => ?_) (fun f cdv A outer sh H vs Q E hr h => ?_)
  · obtain ⟨_, _, rfl, _⟩ := h; rfl
  obtain ⟨s, l, rfl, st, k⟩ := h
  refine ⟨_, (pss_cons (ps_set (i := 1) sc_law_sign.nd rfl (Or.inl rfl) pe_str)
    (pss_cons (ps_set (i := 1) sc_law_sign.nd rfl (Or.inl rfl) (pe_op op_add_str (pv 1) pe_str))
    (pss_one (ps_ret (pe_ix ix_str (pv 1) (pe_cl C_law_take hr (by rfl) (pa_cons (pv 0) (pa_cons (pe_callB call_len_str (by rfl) T.no_len (by decide +kernel) (pa_cons (pv 1) pa_nil)) pa_nil))) (fun _ _ => rfl)))))), ?_⟩
  walk_at "wps"
  have e := signs_all
  have e2 : 0 < (PySem.Str.ofString " !\"#$&'()*+,-./0123456789:;<=>?@ABCDEFGHIJKLMNOPQRSTUVWXYZ[\\]^_`" ++ PySem.Str.ofString "abcdefghijklmnopqrstuvwxyz{|}~\n" : Str).length ∧ (PySem.Str.ofString " !\"#$&'()*+,-./0123456789:;<=>?@ABCDEFGHIJKLMNOPQRSTUVWXYZ[\\]^_`" ++ PySem.Str.ofString "abcdefghijklmnopqrstuvwxyz{|}~\n" : Str).length < 1000 := by decide +kernel
  refine ⟨szl (by decide +kernel), ?_⟩
  generalize (PySem.Str.ofString " !\"#$&'()*+,-./0123456789:;<=>?@ABCDEFGHIJKLMNOPQRSTUVWXYZ[\\]^_`" ++ PySem.Str.ofString "abcdefghijklmnopqrstuvwxyz{|}~\n" : Str) = z at e e2
  refine ⟨szl (by omega), s, l, _, rfl, by omega, st, fun r H1 g r0 r1 r2 => ?_⟩
  walk_at "wps"
  have hr : r.toNat < z.cps.toList.length := by
    rw [len_tl]
    by_cases q : z.length < 2
    · rw [r2 (by omega)]; exact e2.1
    · have := r1 (by omega); omega
  refine ⟨szl (by omega), z.cps.toList[r.toNat], atI_of r0 (by simp [hr]), k _ _ g rfl fun c hc => ?_⟩
  have hm : c ∈ z.cps.toList := by
    have q : c = z.cps.toList[r.toNat] := by simpa using hc
    rw [q]; exact List.getElem_mem hr
  exact of_decide_eq_true (List.all_eq_true.mp e c hm)
/-! text -/
def sp_text : Sp := fun vs H Q _ => ∃ (s l : Addr) (n : Int), vs = [.ref s, .int n] ∧ Sto s l H ∧ 0 ≤ n ∧ n ≤ 1000 ∧ ∀ z H', Ge s l H H' → (z.length : Int) ≤ n → Vis z → Q (.str z) H'
abbrev st_law_text : Stmt := topS 14
theorem sc_law_text : FnScope ["store", "most", "size", "k"] ["store", "most"] (defScope st_law_text) := ⟨rfl, rfl, rfl, by decide +kernel, rfl, by decide +kernel, by decide +kernel⟩
theorem ok_law_text (D : Df K mg "_law_text" st_law_text) (T : NoB mg) (C_law_place : Cl P w K mg base 3 "_law_place" ["store", "size"] sp_place) (C_law_sign : Cl P w K mg base 3 "_law_sign" ["store"] sp_sign) : Cl P w K mg base 4 "_law_text" ["store", "most"] sp_text := by
  refine cl_of D sc_law_text (fun _ _ _ _ _ _ us hl => match us, hl with | [_, _], _ => rfl) (fun vs H Q E h => ?_) (fun f cdv A outer sh H vs Q E hr h => ?_)
  · obtain ⟨_, _, _, rfl, _⟩ := h; rfl
  obtain ⟨s, l, n, rfl, st, hn1, hn2, k⟩ := h
  refine ⟨_, (pss_cons (ps_set (i := 2) sc_law_text.nd rfl (Or.inl rfl) (pe_cl C_law_place hr (by rfl) (pa_cons (pv 0) (pa_cons (pe_op op_add (pv 1) pe_int) pa_nil))))
    (pss_one (ps_ret (pe_join pe_str (pe_lc (own := [("k", 3)]) (g := gName 3) (tt := tYes) rfl sc_law_text.nd (pi_range1 (by rfl) T.no_range (pa_cons (pv 2) pa_nil)) (blkOk_by (own := [("k", 3)]) (N := ["store", "most", "size", "k"]) (sc := defScope st_law_text) (by decide +kernel)) (fun _ _ _ _ _ => (pg_name (i := 3) sc_law_text.nd rfl (Or.inl rfl))) (fun _ _ _ _ _ => pts_nil) (fun _ _ _ _ _ => (pe_cl C_law_sign hr (by rfl) (pa_cons (pv 0) pa_nil)))))))), ?_⟩
  walk_at "wps"
  refine ⟨s, l, _, rfl, st, by omega, by omega, fun r H1 g r0 r1 => ?_⟩
  walk_at "wps"
  refine ⟨⟨_, rfl⟩, by omega, by omega, ?_⟩
  refine cr_by (fun C i acc H' => H1 C = none ∧ Ge s l H H' ∧ acc.length = i ∧ ∃ ys : List Str, acc = ys.map V.str ∧ ∀ y ∈ ys, y.length = 1 ∧ Vis y) (fun C H0 n0 => ⟨n0.fr, g.new n0, rfl, [], rfl, by simp⟩) ?_ ?_
  · rintro C i acc H2 N hC hi ha ⟨hC', g2, hl, ys, rfl, hy⟩ hN
    walk_at "wps"
    refine ⟨s, l, rfl, g2.st, fun z H3 g3 z1 z2 => ?_⟩
    have e := g3.at g.st hC ha
    have e3 := g2.trans g3
    refine cst e (szl' (by rw [hl]; omega)) fun H5 n5 => hN _ _ n5.at_ ⟨hC, e3.put st (g.fr hC) n5, by simp [hl], ys ++ [z], by simp, fun y hm => ?_⟩
    rcases List.mem_append.mp hm with q | q
    · exact hy y q
    · rw [List.mem_singleton.mp q]; exact ⟨z1, z2⟩
  · rintro C acc H2 hC ha ⟨hC', g2, hl, ys, rfl, hy⟩
    rw [List.length_map] at hl
    have hsum : (ys.map (·.length)).sum = ys.length := by
      clear hl ha
      induction ys with
      | nil => rfl
      | cons a r ih =>
        have e1 := (hy a List.mem_cons_self).1
        have e2 := ih fun y hm => hy y (List.mem_cons_of_mem _ hm)
        simp only [List.map_cons, List.sum_cons, List.length_cons, e1, e2]
        omega
    have hz : (("" : Str).length) = 0 := by decide +kernel
    walk_at "wps"
    refine ⟨ys, .inl (SqL.of ha), ?_, ?_⟩
    · rw [hsum, hl]
      omega
    · have ej := join_tl ys
      refine k _ _ g2 ?_ ?_
      · rw [← len_tl]
        have : ((ys.map fun z => z.cps.toList).flatten).length = ys.length := by
          rw [List.length_flatten, List.map_map]
          have : (List.length ∘ fun z : Str => z.cps.toList) = fun z : Str => z.length := by funext z; exact len_tl z
          rw [this]; exact hsum
        rw [show (Txt.join (Str.ofString "") ys).cps.toList = _ from ej, this]
        omega
      · intro c hc
        rw [show (Txt.join (Str.ofString "") ys).cps.toList = _ from ej] at hc
        obtain ⟨L, h1, h2⟩ := List.mem_flatten.mp hc
        obtain ⟨y, h3, rfl⟩ := List.mem_map.mp h1
        exact (hy y h3).2 c h2
/-! leaf -/
def sp_leaf : Sp := fun vs H Q _ => ∃ (s l : Addr), vs = [.ref s] ∧ Sto s l H ∧ ∀ v d n H', Ge s l H H' → Lf v d n → n ≤ 7 → (∀ i, v = .int i → -(10 ^ 30) < i ∧ i < 10 ^ 30) → Q v H'
abbrev st_law_leaf : Stmt := topS 15
theorem sc_law_leaf : FnScope ["store", "pick"] ["store"] (defScope st_law_leaf) := ⟨rfl, rfl, rfl, by decide +kernel, rfl, by decide +kernel, by decide +kernel⟩
theorem ok_law_leaf (D : Df K mg "_law_leaf" st_law_leaf) (T : NoB mg) (C_law_take : Cl P w K mg base 2 "_law_take" ["store", "many"] sp_take) (C_law_text : Cl P w K mg base 4 "_law_text" ["store", "most"] sp_text) (C_law_whole : Cl P w K mg base 4 "_law_whole" ["store"] sp_whole) : Cl P w K mg base 5 "_law_leaf" ["store"] sp_leaf := by
  refine cl_of D sc_law_leaf (fun _ _ _ _ _ _ us hl => match us, hl with | [_], _ => rfl) (fun vs H Q E h => ?_) (fun f cdv A outer sh H vs Q E hr h => ?_)
  · obtain ⟨_, _, rfl, _⟩ := h; rfl
  obtain ⟨s, l, rfl, st, k⟩ := h
  refine ⟨_, (pss_cons (ps_set (i := 1) sc_law_leaf.nd rfl (Or.inl rfl) (pe_cl C_law_take hr (by rfl) (pa_cons (pv 0) (pa_cons pe_int pa_nil))))
    (pss_cons (ps_if (pt_cmpR op_eq (pv 1) pe_int (nomark _)) (pss_one (ps_ret pe_non)) pss_nil)
    (pss_cons (ps_if (pt_cmpR op_eq (pv 1) pe_int (nomark _)) (pss_one (ps_ret pe_bl)) pss_nil)
    (pss_cons (ps_if (pt_cmpR op_eq (pv 1) pe_int (nomark _)) (pss_one (ps_ret pe_bl)) pss_nil)
    (pss_cons (ps_if (pt_cmpR op_eq (pv 1) pe_int (nomark _)) (pss_one (ps_ret (pe_cl C_law_text hr (by rfl) (pa_cons (pv 0) (pa_cons pe_int pa_nil))))) pss_nil)
    (pss_cons (ps_if (pt_cmpR op_eq (pv 1) pe_int (nomark _)) (pss_one (ps_ret (pe_callTy call_str_int (by rfl) T.no_str (by decide +kernel) (pa_cons (pe_cl C_law_take hr (by rfl) (pa_cons (pv 0) (pa_cons pe_int pa_nil))) pa_nil)))) pss_nil)
    (pss_one (ps_ret (pe_cl C_law_whole hr (by rfl) (pa_cons (pv 0) pa_nil)))))))))), ?_⟩
  rw [a_seq]
  walk_at "wq"
  refine ⟨s, l, _, rfl, by decide, st, fun r H1 g r0 r1 r2 => ?_⟩
  have := r1 (by decide)
  walk_at "wps"
  split
  · exact k _ _ _ _ g .non (by decide) (by simp)
  split
  · exact k _ _ _ _ g (.bl _) (by decide) (by simp)
  split
  · exact k _ _ _ _ g (.bl _) (by decide) (by simp)
  split
  · exact ⟨s, l, _, rfl, g.st, by decide, by decide, fun z H2 g2 z1 z2 => k _ _ _ _ (g.trans g2) (.str z) (by omega) (by simp)⟩
  split
  · refine ⟨s, l, _, rfl, by decide, g.st, fun r' H2 g2 q0 q1 q2 => ?_⟩
    have := q1 (by decide)
    walk_at "wps"
    have hs : r'.natAbs.log2 < 1920 := Nat.lt_trans (PySem.Flt.log2_lt_of (n := r'.natAbs) (k := 62) (by decide) (by omega)) (by decide)
    refine ⟨hs, k _ _ _ _ (g.trans g2) (.str _) ?_ (by simp)⟩
    have : ∀ m : Nat, m < 13 → (toString (m : Int) : Str).length + 1 ≤ 7 := by decide +kernel
    have q := this r'.toNat (by omega)
    rw [show ((r'.toNat : Nat) : Int) = r' by omega] at q
    exact q
  · exact ⟨s, l, rfl, g.st, fun r' H2 g2 q0 q1 => k _ _ _ _ (g.trans g2) (.int _) (by decide) (fun i e => by cases e; exact ⟨q0, q1⟩)⟩
end

/-! ## T4 -/

theorem Lf.db {v : V} {d : PyData} {n b : Nat} {E : List Addr} {H : Hp} (h : Lf v d n) (hn : n ≤ b) : Db E H b v := ⟨d, n, .lf h, hn⟩
section
variable {P : Program} {w : World} {K : PySem.W.Frag} {mg : Str → Option Value} {base : Heap}
/-! value -/
def sp_value : Sp := fun vs H Q _ => ∃ (s l : Addr) (E : List Addr) (deep : Int), vs = [.ref s, .int deep] ∧ Sto s l H ∧ Lv E H ∧ s ∈ E ∧ -(2 ^ 60) < deep ∧ deep ≤ 50 ∧ ∀ v H', Ge s l H H' → Db E H' 150 v → Q v H'
abbrev st_law_value : Stmt := topS 16
theorem sc_law_value : FnScope ["store", "deep", "pick", "entries", "k", "size", "value", "j"] ["store", "deep"] (defScope st_law_value) := ⟨rfl, rfl, rfl, by decide +kernel, rfl, by decide +kernel, by decide +kernel⟩
theorem ok_law_value (D : Df K mg "_law_value" st_law_value) (T : NoB mg) (C_law_either : Cl P w K mg base 3 "_law_either" ["store", "entries"] sp_either) (C_law_leaf : Cl P w K mg base 5 "_law_leaf" ["store"] sp_leaf) (C_law_take : Cl P w K mg base 2 "_law_take" ["store", "many"] sp_take) : Cl P w K mg base 6 "_law_value" ["store", "deep"] sp_value := by
  refine cl_of D sc_law_value (fun _ _ _ _ _ _ us hl => match us, hl with | [_, _], _ => rfl) (fun vs H Q E h => ?_) (fun f cdv A outer sh H vs Q E hr h => ?_)
  · obtain ⟨_, _, _, _, rfl, _⟩ := h; rfl
  obtain ⟨s, l, E, deep, rfl, st, lv, hsE, hd0, hd1, k⟩ := h
  refine ⟨_, (pss_cons (ps_set (i := 2) sc_law_value.nd rfl (Or.inl rfl) (pe_cl C_law_take hr (by rfl) (pa_cons (pv 0) (pa_cons pe_int pa_nil))))
    (pss_cons (ps_if (PW.pt (pw_or (pt_cmpR op_lt (pv 1) pe_int (nomark _)) (pw_or1 (pt_cmpR op_eq (pv 2) pe_int (nomark _))))) (pss_one (ps_ret (pe_cl C_law_leaf hr (by rfl) (pa_cons (pv 0) pa_nil)))) pss_nil)
    (pss_cons (ps_set (i := 3) sc_law_value.nd rfl (Or.inl rfl) (pe_lst pa_nil))
    (pss_cons (ps_for PassesOwn.never rfl (pi_range1 (by rfl) T.no_range (pa_cons (pe_cl C_law_take hr (by rfl) (pa_cons (pv 0) (pa_cons pe_int pa_nil))) pa_nil)) (pg_name (i := 4) sc_law_value.nd rfl (Or.inl rfl)) (pss_one (ps_if (PW.pt (pw_and (pt_cmpR op_gt (pv 1) pe_int (nomark _)) (pw_and1 (pt_cmpR op_eq (pe_cl C_law_take hr (by rfl) (pa_cons (pv 0) (pa_cons pe_int pa_nil))) pe_int (nomark _))))) (pss_cons (ps_set (i := 5) sc_law_value.nd rfl (Or.inl rfl) (pe_cl C_law_take hr (by rfl) (pa_cons (pv 0) (pa_cons pe_int pa_nil))))
    (pss_one (ps_expr (pe_bm PySem.F.plainAttrs_list PySem.F.slot_list_append PySem.F.type_list_append mt_append (pv 3) (pa_cons (pe_cl C_law_either hr (by rfl) (pa_cons (pv 0) (pa_cons (pe_lc (own := [("j", 7)]) (g := gName 7) (tt := tYes) rfl sc_law_value.nd (pi_range1 (by rfl) T.no_range (pa_cons (pv 5) pa_nil)) (blkOk_by (own := [("j", 7)]) (N := ["store", "deep", "pick", "entries", "k", "size", "value", "j"]) (sc := defScope st_law_value) (by decide +kernel)) (fun _ _ _ _ _ => (pg_name (i := 7) sc_law_value.nd rfl (Or.inl rfl))) (fun _ _ _ _ _ => pts_nil) (fun _ _ _ _ _ => (pe_cl C_law_leaf hr (by rfl) (pa_cons (pv 0) pa_nil)))) pa_nil))) pa_nil))))) (pss_one (ps_expr (pe_bm PySem.F.plainAttrs_list PySem.F.slot_list_append PySem.F.type_list_append mt_append (pv 3) (pa_cons (pe_cl C_law_leaf hr (by rfl) (pa_cons (pv 0) pa_nil)) pa_nil)))))))
    (pss_cons (ps_set (i := 6) sc_law_value.nd rfl (Or.inl rfl) (pe_cl C_law_either hr (by rfl) (pa_cons (pv 0) (pa_cons (pv 3) pa_nil))))
    (pss_cons (ps_if (pt_cmpR op_eq (pv 2) pe_int (nomark _)) (pss_one (ps_for PassesOwn.never rfl (pi_range1 (by rfl) T.no_range (pa_cons (pe_cl C_law_take hr (by rfl) (pa_cons (pv 0) (pa_cons (pe_op op_sub (pv 1) pe_int) pa_nil))) pa_nil)) (pg_name (i := 4) sc_law_value.nd rfl (Or.inl rfl)) (pss_one (ps_set (i := 6) sc_law_value.nd rfl (Or.inl rfl) (pe_cl C_law_either hr (by rfl) (pa_cons (pv 0) (pa_cons (pe_lst (pa_cons (pv 6) pa_nil)) pa_nil))))))) pss_nil)
    (pss_one (ps_ret (pv 6))))))))), ?_⟩
  walk_at "sq"
  refine ⟨s, l, _, rfl, by decide, st, fun pk H1 g1 r0 r1 r2 => ?_⟩
  walk_at "wq"
  have leaf : ∀ (Q : VK) (H1 : Hp), (∀ v H', Ge s l H1 H' → (∃ d n, Lf v d n ∧ n ≤ 7) → Q v H') → Sto s l H1 → sp_leaf [.ref s] H1 Q E0 := fun Q H1 q st1 => ⟨s, l, rfl, st1, fun v d n H' g h1 h2 _ => q v H' g ⟨d, n, h1, h2⟩⟩
  have leaf1 : sp_leaf [.ref s] H1 Q E0 := leaf _ _ (fun v H' g ⟨d, n, h1, h2⟩ => k v H' (g1.trans g) (h1.db (by omega))) g1.st
  walk_at "sq"
  split
  · trivial
  split
  · trivial
  walk_at "sq"
  refine ⟨szl (by decide), fun po H2 n2 => ?_⟩
  have g2 := g1.new n2
  have hpo := g1.fr n2.fr
  have lv2 := (lv.ge g2).cons n2.at_
  have hpE : po ∉ E := lv.out hpo
  walk_at "sq"
  refine ⟨s, l, _, rfl, by decide, g2.st, fun m H3 g3 m0 m1 m2 => ?_⟩
  have hm := m1 (by decide)
  have g3' := g2.trans g3
  walk_at "wq"
  refine ⟨by omega, by omega, ?_⟩
  refine fr_by (fun i σ H' => Ge s l H H' ∧ ∃ xs v4 v5, σ = [some (.ref s), some (.int deep), some (.int pk), some (.ref po), v4, v5, none, none] ∧ H' po = some (.lst xs) ∧ xs.length = i ∧ ∀ x ∈ xs, Db (po :: E) H' 22 x)
    ⟨g3', [], _, _, rfl, g3.at g1.st n2.fr n2.at_, rfl, by simp⟩ ?_ ?_
  · rintro i _ H4 N hN hi ⟨g4, xs, v4, v5, rfl, e4, hl, hx⟩
    have lv4 : Lv (po :: E) H4 := (lv.ge g4).cons e4
    have leafs : ∀ (v5 : Option V) (H4' : Hp), Ge s l H4 H4' → sp_leaf [.ref s] H4' (fun v H5 => ∃ ys, H5 po = some (.lst ys) ∧ ys.length < sizeLine ∧ Wr H5 po (.lst (ys ++ [v])) fun H6 => N [some (.ref s), some (.int deep), some (.int pk), some (.ref po), some (.int (0 + (i : Int))), v5, none, none] H6) E0 := by
      intro v5 H4' g44
      refine leaf _ _ (fun v H5 g5 ⟨d, n, h1, h2⟩ => ?_) g44.st
      have e5 := (g44.trans g5).at st hpo e4
      refine ⟨xs, e5, szl' (by omega), fun H6 n6 => ?_⟩
      have g5' := g44.trans g5
      refine hN _ _ ⟨(g4.trans g5').put st hpo n6, _, _, _, rfl, n6.at_, by simp [hl], all_app (fun x hm => ((hx x hm).ge g5' (by simp [hsE])).put n6 (by simp)) (h1.db (by omega))⟩
    walk_at "wq"
    split
    · refine ⟨s, l, _, rfl, by decide, g4.st, fun c H5 g5 c0 c1 c2 => ?_⟩
      walk_at "wq"
      split
      · walk_at "sq"
        refine ⟨s, l, _, rfl, by decide, g5.st, fun z H6 g6 z0 z1 z2 => ?_⟩
        have hz := z1 (by decide)
        have g46 := g5.trans g6
        have e6 := g46.at st hpo e4
        walk_at "wq"
        refine ⟨tyl e6, by omega, by omega, ?_⟩
        refine cr_by (fun C j acc H' => Ge s l H6 H' ∧ acc.length = j ∧ ∀ x ∈ acc, ∃ d n, Lf x d n ∧ n ≤ 7) (fun C H0 n0 => ⟨(Ge.refl g6.st).new n0, rfl, by simp⟩) ?_ ?_
        · rintro C j acc H7 N' hC hj ha ⟨g7, hl7, h7⟩ hN'
          walk_at "wq"
          refine leaf _ _ (fun v H8 g8 hv => ?_) g7.st
          have e8 := g8.at g6.st hC ha
          exact cst e8 (szl' (by omega)) fun H9 n9 => hN' _ _ n9.at_ ⟨(g7.trans g8).put g6.st hC n9, by simp [hl7], all_app h7 hv⟩
        · rintro C acc H7 hC ha ⟨g7, hl7, h7⟩
          walk_at "wq"
          refine ⟨s, l, C, acc, rfl, g7.st, (g6.st.ne hC).1, ha, fun q H8 g8 q0 q1 => ?_⟩
          have g48 := (g46.trans g7).trans g8
          have e8 := g48.at st hpo e4
          refine ⟨xs, e8, szl' (by omega), fun H9 n9 => ?_⟩
          have lv7 := lv4.ge (g46.trans g7)
          have hq : Db (po :: E) H8 22 (.ref q) := by
            have := Db.seq (E := po :: E) (H := H8) (b := 7) (xs := acc) (p := q) (fun x hx => by obtain ⟨d, n, h1, h2⟩ := h7 x hx; exact h1.db h2) (lv7.out q0) q1
            exact this.le (by omega)
          refine hN _ _ ⟨(g4.trans g48).put st hpo n9, _, _, _, rfl, n9.at_, by simp [hl], all_app (fun x hm => ((hx x hm).ge g48 (by simp [hsE])).put n9 (by simp)) (hq.put n9 (by simp))⟩
      · walk_at "wq"
        first | exact ⟨tyl (g5.at st hpo e4), leafs _ _ g5⟩ | exact tyl (g5.at st hpo e4)
    · walk_at "wq"
      first | exact ⟨tyl e4, leafs _ _ (Ge.refl g4.st)⟩ | exact tyl e4
  · rintro _ H4 ⟨g4, xs, v4, v5, rfl, e4, hl, hx⟩
    walk_at "sq"
    refine ⟨s, l, po, xs, rfl, g4.st, (st.ne hpo).1, e4, fun q H5 g5 q0 q1 => ?_⟩
    have g45 := g4.trans g5
    have lv4 := lv.ge g4
    have hq : Db E H5 89 (.ref q) := by
      have := Db.seq (E := E) (H := H5) (b := 22) (xs := xs) (p := q) (fun x hm => ((hx x hm).ge g5 (by simp [hsE])).sub (fun a z => by simp [z])) (lv4.out q0) q1
      exact this.le (by omega)
    walk_at "sq"
    split
    · refine ⟨s, l, _, rfl, by omega, g5.st, fun c H6 g6 c0 c1 c2 => ?_⟩
      walk_at "wq"
      have hc : c ≤ 50 := by
        by_cases z : deep - 1 < 2
        · rw [c2 z]; decide
        · have := c1 (by omega); omega
      refine ⟨by omega, by omega, ?_⟩
      have g46 := g45.trans g6
      refine fr_by (fun i σ H' => Ge s l H H' ∧ ∃ vp v4 v, σ = [some (.ref s), some (.int deep), some (.int vp), some (.ref po), v4, v5, some v, none] ∧ Db E H' (89 + i) v)
        ⟨g46, _, _, _, rfl, hq.ge g6 hsE⟩ ?_ ?_
      · rintro i _ H7 N hN hi ⟨g7, vp, v4, v, rfl, hv⟩
        walk_at "wq"
        refine ⟨szl (by decide), fun p8 H8 n8 => ?_⟩
        walk_at "wq"
        have g8 := g7.new n8
        refine ⟨s, l, p8, [v], rfl, g8.st, (g7.st.ne n8.fr).1, n8.at_, fun q H9 g9 q0 q1 => ?_⟩
        refine hN _ _ ⟨g8.trans g9, _, _, _, rfl, ?_⟩
        have := Db.seq (E := E) (H := H9) (b := 89 + i) (xs := [v]) (p := q) (fun x hx => by rw [List.mem_singleton.mp hx]; exact (hv.same n8.same).ge g9 hsE) ((lv.ge g8).out q0) q1
        exact this.le (by simp only [List.length_singleton]; omega)
      · rintro _ H7 ⟨g7, vp, v4, v, rfl, hv⟩
        walk_at "wq"
        exact k _ _ g7 (hv.le (by omega))
    · walk_at "wq"
      exact k _ _ g45 (hq.le (by omega))
end

/-! ## T5 -/

section
variable {P : Program} {w : World} {K : PySem.W.Frag} {mg : Str → Option Value} {base : Heap}
/-! is_whole -/
def sp_isw : Sp := fun vs H Q _ => ∃ (v : V) (d : PyData) (n : Nat) (E : List Addr), vs = [v] ∧ Dw E H v d n ∧ Q (.bl (isWh v)) H
abbrev st_law_is_whole : Stmt := topS 17
theorem sc_law_is_whole : FnScope ["value"] ["value"] (defScope st_law_is_whole) := ⟨rfl, rfl, rfl, by decide +kernel, rfl, by decide +kernel, by decide +kernel⟩
theorem ok_law_is_whole (D : Df K mg "_law_is_whole" st_law_is_whole) (T : NoB mg)  : Cl P w K mg base 1 "_law_is_whole" ["value"] sp_isw := by
  refine cl_of D sc_law_is_whole (fun _ _ _ _ _ _ us hl => match us, hl with | [_], _ => rfl) (fun vs H Q E h => ?_) (fun f cdv A outer sh H vs Q E hr h => ?_)
  · obtain ⟨_, _, _, _, rfl, _⟩ := h; rfl
  obtain ⟨v, d, n, E, rfl, hv, k⟩ := h
  refine ⟨_, (pss_one (ps_ret (pe_and (pe_callB isi1 (by rfl) T.no_isinstance (by decide +kernel) (pa_cons (pv 0) (pa_cons (pe_bltn (by rfl) T.no_int (by decide +kernel) (show RelV (.ty "int") _ from rfl)) pa_nil))) (pe_one (pe_not (pe_callB isi1 (by rfl) T.no_isinstance (by decide +kernel) (pa_cons (pv 0) (pa_cons (pe_bltn (by rfl) T.no_bool (by decide +kernel) (show RelV (.ty "bool") _ from rfl)) pa_nil)))))))), ?_⟩
  cases hv with
  | lf l => cases l <;> (walk_at "wps"; exact k)
  | lst ne h a =>
    have ht := ty_l h
    walk_at "wps"
    exact k
  | tup ne h a =>
    have ht := ty_t h
    walk_at "wps"
    exact k
/-! same -/
inductive Its (H H' : Hp) : List V → Nat → Prop
  | nil : Its H H' [] 0
  | snoc {xs : List V} {m n k : Nat} {t : Addr} {a b : V} {d : PyData} : Its H H' xs m → H' t = some (.tup [a, b]) → Dw [] H a d n → Dw [] H b d k → Its H H' (xs ++ [.ref t]) (m + n)
theorem Its.len {H H' : Hp} {xs : List V} {m : Nat} (h : Its H H' xs m) : xs.length ≤ m := by
  induction h with
  | nil => exact Nat.le_refl _
  | snoc h e a b ih => have := a.pos; rw [List.length_append, List.length_singleton]; omega
theorem Its.keep {H H1 H2 : Hp} {xs : List V} {m : Nat} (h : Its H H1 xs m) (k : ∀ t ys, H1 t = some (.tup ys) → H2 t = some (.tup ys)) : Its H H2 xs m := by
  induction h with
  | nil => exact .nil
  | snoc h e a b ih => exact .snoc ih (k _ _ e) a b
def sp_same : Sp := fun vs H Q _ => ∃ (x y : V) (d : PyData) (n m : Nat), vs = [x, y] ∧ Dw [] H x d n ∧ Dw [] H y d m ∧ n ≤ 4000000 ∧ ∀ H', Same H H' → Q (.bl true) H'
abbrev st_law_same : Stmt := topS 18
theorem sc_law_same : FnScope ["actual", "due", "left", "pair", "one", "two", "k"] ["actual", "due"] (defScope st_law_same) := ⟨rfl, rfl, rfl, by decide +kernel, rfl, by decide +kernel, by decide +kernel⟩
theorem ok_law_same (D : Df K mg "_law_same" st_law_same) (T : NoB mg) (C_law_is_whole : Cl P w K mg base 1 "_law_is_whole" ["value"] sp_isw) : Cl P w K mg base 2 "_law_same" ["actual", "due"] sp_same := by
  refine cl_of D sc_law_same (fun _ _ _ _ _ _ us hl => match us, hl with | [_, _], _ => rfl) (fun vs H Q E h => ?_) (fun f cdv A outer sh H vs Q E hr h => ?_)
  · obtain ⟨_, _, _, _, _, rfl, _⟩ := h; rfl
  obtain ⟨x, y, d, n, m, rfl, hx, hy, hn, k⟩ := h
  refine ⟨_, (pss_cons (ps_set (i := 2) sc_law_same.nd rfl (Or.inl rfl) (pe_lst (pa_cons (pe_tup (pa_cons (pv 0) (pa_cons (pv 1) pa_nil))) pa_nil)))
    (pss_cons (ps_while PassesOwn.never (pt_cmpR op_gt (pe_callB len1 (by rfl) T.no_len (by decide +kernel) (pa_cons (pv 2) pa_nil)) pe_int (nomark _)) (pss_cons (ps_set (i := 3) sc_law_same.nd rfl (Or.inl rfl) (pe_bm0 PySem.F.plainAttrs_list PySem.F.slot_list_pop PySem.F.type_list_pop mt_pop (pv 2)))
    (pss_cons (ps_set (i := 4) sc_law_same.nd rfl (Or.inl rfl) (pe_ix ix1 (pv 3) pe_int (fun _ _ => rfl)))
    (pss_cons (ps_set (i := 5) sc_law_same.nd rfl (Or.inl rfl) (pe_ix ix1 (pv 3) pe_int (fun _ _ => rfl)))
    (pss_one (ps_if (PW.pt (pw_or (pt_cmpR op_isN (pv 5) pe_non (nomark _)) (pw_or (pt_cmpR op_isTF (pv 5) pe_bl (nomark _)) (pw_or1 (pt_cmpR op_isTF (pv 5) pe_bl (nomark _)))))) (pss_one (ps_if (pt_not (PW.pt (pw_or (PW.pt (pw_and (pt_cmpR op_isN (pv 5) pe_non (nomark _)) (pw_and1 (pt_cmpR op_isN (pv 4) pe_non (nomark _))))) (pw_or (PW.pt (pw_and (pt_cmpR op_isTF (pv 5) pe_bl (nomark _)) (pw_and1 (pt_cmpR op_isTF (pv 4) pe_bl (nomark _))))) (pw_or1 (PW.pt (pw_and (pt_cmpR op_isTF (pv 5) pe_bl (nomark _)) (pw_and1 (pt_cmpR op_isTF (pv 4) pe_bl (nomark _)))))))))) (pss_one (ps_ret pe_bl)) pss_nil)) (pss_one (ps_if (pt_val (pe_callB isi1 (by rfl) T.no_isinstance (by decide +kernel) (pa_cons (pv 5) (pa_cons (pe_bltn (by rfl) T.no_int (by decide +kernel) (show RelV (.ty "int") _ from rfl)) pa_nil)))) (pss_one (ps_if (PW.pt (pw_or (pt_not (pt_val (pe_cl C_law_is_whole hr (by rfl) (pa_cons (pv 4) pa_nil)))) (pw_or1 (pt_cmpR op_ne (pv 4) (pv 5) (nomark _))))) (pss_one (ps_ret pe_bl)) pss_nil)) (pss_one (ps_if (pt_val (pe_callB isi1 (by rfl) T.no_isinstance (by decide +kernel) (pa_cons (pv 5) (pa_cons (pe_bltn (by rfl) T.no_str (by decide +kernel) (show RelV (.ty "str") _ from rfl)) pa_nil)))) (pss_one (ps_if (PW.pt (pw_or (pt_not (pt_val (pe_callB isi1 (by rfl) T.no_isinstance (by decide +kernel) (pa_cons (pv 4) (pa_cons (pe_bltn (by rfl) T.no_str (by decide +kernel) (show RelV (.ty "str") _ from rfl)) pa_nil))))) (pw_or1 (pt_cmpR op_ne (pv 4) (pv 5) (nomark _))))) (pss_one (ps_ret pe_bl)) pss_nil)) (pss_cons (ps_if (PW.pt (pw_and (pt_val (pe_callB isi1 (by rfl) T.no_isinstance (by decide +kernel) (pa_cons (pv 5) (pa_cons (pe_bltn (by rfl) T.no_tuple (by decide +kernel) (show RelV (.ty "tuple") _ from rfl)) pa_nil)))) (pw_and1 (pt_not (pt_val (pe_callB isi1 (by rfl) T.no_isinstance (by decide +kernel) (pa_cons (pv 4) (pa_cons (pe_bltn (by rfl) T.no_tuple (by decide +kernel) (show RelV (.ty "tuple") _ from rfl)) pa_nil)))))))) (pss_one (ps_ret pe_bl)) pss_nil)
    (pss_cons (ps_if (PW.pt (pw_and (pt_val (pe_callB isi1 (by rfl) T.no_isinstance (by decide +kernel) (pa_cons (pv 5) (pa_cons (pe_bltn (by rfl) T.no_list (by decide +kernel) (show RelV (.ty "list") _ from rfl)) pa_nil)))) (pw_and1 (pt_not (pt_val (pe_callB isi1 (by rfl) T.no_isinstance (by decide +kernel) (pa_cons (pv 4) (pa_cons (pe_bltn (by rfl) T.no_list (by decide +kernel) (show RelV (.ty "list") _ from rfl)) pa_nil)))))))) (pss_one (ps_ret pe_bl)) pss_nil)
    (pss_cons (ps_if (pt_cmpR op_ne (pe_callB len1 (by rfl) T.no_len (by decide +kernel) (pa_cons (pv 4) pa_nil)) (pe_callB len1 (by rfl) T.no_len (by decide +kernel) (pa_cons (pv 5) pa_nil)) (nomark _)) (pss_one (ps_ret pe_bl)) pss_nil)
    (pss_one (ps_for PassesOwn.never rfl (pi_range1 (by rfl) T.no_range (pa_cons (pe_callB len1 (by rfl) T.no_len (by decide +kernel) (pa_cons (pv 5) pa_nil)) pa_nil)) (pg_name (i := 6) sc_law_same.nd rfl (Or.inl rfl)) (pss_one (ps_expr (pe_bm PySem.F.plainAttrs_list PySem.F.slot_list_append PySem.F.type_list_append mt_append (pv 2) (pa_cons (pe_tup (pa_cons (pe_ix ix1 (pv 4) (pv 6) (fun _ _ => rfl)) (pa_cons (pe_ix ix1 (pv 5) (pv 6) (fun _ _ => rfl)) pa_nil))) pa_nil)))))))))))))))))))
    (pss_one (ps_ret pe_bl)))), ?_⟩
  walk_at "sq"
  refine ⟨szl (by decide), fun t0 H1 n1 => ?_⟩
  walk_at "wq"
  refine ⟨szl (by decide), fun L H2 n2 => ?_⟩
  have s2 : Same H H2 := n1.same.trans n2.same
  have hL : H L = none := n1.same.free n2.fr
  walk_at "sq"
  refine wh_by (fun m σ H' => m ≤ 4000000 ∧ Same H H' ∧ ∃ xs v3 v4 v5 v6, σ = [some x, some y, some (.ref L), v3, v4, v5, v6] ∧ H' L = some (.lst xs) ∧ Its H H' xs m) n
    ⟨hn, s2, [.ref t0], _, _, _, _, rfl, n2.at_, by have := Its.snoc (H := H) (H' := H2) .nil (n2.k n1.at_) hx hy; simpa using this⟩ ?_
  rintro m _ H3 N R hN hR ⟨hm, s3, xs, v3, v4, v5, v6, rfl, e3, it⟩
  have hq := sq_l e3
  walk_at "wq"
  refine hR _ _ (wst (fun hb => ?_) (fun hb => ?_))
  · have hb : 0 < xs.length := by simpa using hb
    cases it with
    | nil => exact absurd hb (by simp)
    | @snoc xs m n' k' t a b d it et wa wb =>
      have htL : t ≠ L := ne_of et e3 (by intro z; cases z)
      walk_at "sq"
      refine ⟨tyl e3, .ref t, by simp, fun H4 n4 => ?_⟩
      have n4' : Put H3 L (.lst xs) H4 := by
        have e := List.dropLast_concat (l₁ := xs) (b := V.ref t)
        rw [e] at n4; exact n4
      clear n4
      have e4 := n4'.at_
      have et4 := n4'.k htL et
      have hq4 := sq_t et4
      have s4 : Same H H4 := fun b o e => n4'.k (ne_of_none e hL) (s3 _ _ e)
      have it4 : Its H H4 xs m := it.keep fun t ys e => n4'.k (ne_of e e3 (by intro z; cases z)) e
      walk_at "sq"
      walk_at "sq"
      have fin : N [some x, some y, some (.ref L), some (.ref t), some a, some b, v6] H4 := hN m _ _ (by have := wa.pos; omega) ⟨by omega, s4, xs, _, _, _, _, rfl, e4, it4⟩
      have loop : ∀ (ap bp : Addr) (as bs : List V) (ds : List PyData) (n1 k1 : Nat), sq H ap = some as → sq H bp = some bs → DwAll [] H as ds n1 → DwAll [] H bs ds k1 → n1 + 1 = n' → as.length = bs.length → FRg 0 bs.length (gName 6) (tDrop
            (tBM K "list" rAppend (tVar 2)
              (tCons (tTup (tCons (tOp rIx1 (tVar 4) (tVar 6)) (tCons (tOp rIx1 (tVar 5) (tVar 6)) tNil))) tNil)))
          { nx := N, rt := Q, bk := tRet (tC (V.bl true)) { nx := fun x H' => Q V.non H', rt := Q }, ct := N }
          [some x, some y, some (V.ref L), some (V.ref t), some (V.ref ap), some (V.ref bp), v6] H4 := by
        intro ap bp as bs ds n1 k1 qa qb da db hn1 hl
        refine fr_by (fun i σ H' => Same H H' ∧ ∃ ys v6 w r r', σ = [some x, some y, some (V.ref L), some (V.ref t), some (V.ref ap), some (V.ref bp), v6] ∧ H' L = some (.lst ys) ∧ Its H H' ys (m + w) ∧ DwAll [] H (as.drop i) (ds.drop i) r ∧ DwAll [] H (bs.drop i) (ds.drop i) r' ∧ w + r = n1)
          ⟨s4, xs, v6, 0, n1, k1, rfl, e4, it4, da, db, by omega⟩ ?_ ?_
        · rintro i _ H5 N' hN' hi ⟨s5, ys, v6, w, r, r', rfl, e5, it5, d5, d5', hw⟩
          have qa5 := same_sq s5 qa
          have qb5 := same_sq s5 qb
          have hia : i < as.length := by omega
          rw [List.drop_eq_getElem_cons hia] at d5
          rw [List.drop_eq_getElem_cons hi] at d5'
          generalize hd : ds.drop i = dd at d5 d5'
          cases d5 with
          | @cons _ _ d0 ds0 c1 c2 p1 p2 =>
            cases d5' with
            | @cons _ _ _ _ c3 c4 p3 p4 =>
              have hd1 : ds.drop (i + 1) = ds0 := by rw [← List.drop_drop, hd] <;> rfl
              walk_at "wq"
              refine ⟨tyl e5, as[i], atI_of (by omega) (by simp [hia]), bs[i], atI_of (by omega) (by simp [hi]), szl (by decide), fun t6 H6 n6 => ?_⟩
              have e6 := n6.k e5
              walk_at "wq"
              have hlen := it5.len
              refine ⟨szl' (by omega), fun H7 n7 => ?_⟩
              have ht6 : t6 ≠ L := (n6.ne e5).symm
              refine hN' _ _ ⟨n7.same (s5.trans n6.same) hL, _, _, w + c1, c2, c4, rfl, n7.at_, ?_, by rw [hd1]; exact p2, by rw [hd1]; exact p4, by omega⟩
              have it7 : Its H H7 ys (m + w) := it5.keep fun t ys e => n7.k (ne_of (n6.k e) e6 (by intro z; cases z)) (n6.k e)
              have := Its.snoc it7 (n7.k ht6 n6.at_) p1 p3
              rw [← Nat.add_assoc]
              exact this
        · rintro _ H5 ⟨s5, ys, v6, w, r, r', rfl, e5, it5, d5, d5', hw⟩
          exact hN (m + w) _ _ (by omega) ⟨by omega, s5, ys, _, _, _, _, rfl, e5, it5⟩
      cases wb with
      | lf l =>
        cases l with
        | non => cases wa with | lf l' => cases l'; walk_at "wps"; first | done | exact fin
        | bl c => cases wa with | lf l' => cases l'; cases c <;> walk_at "wps" <;> first | done | exact fin
        | int c =>
          cases wa with
          | lf l' =>
            cases l'
            walk_at "wps"
            refine ⟨.int c, .int c, 1, [], rfl, .lf (.int c), ?_⟩
            walk_at "wps"
        | str c => cases wa with | lf l' => cases l'; walk_at "wps"; first | done | exact fin
      | @lst bp bs ds k'' bne eb db =>
        cases wa with
        | lf l' => cases l'
        | @lst ap as _ n'' ane ea da =>
          have eb4 := s4 _ _ eb
          have ea4 := s4 _ _ ea
          have tb := ty_l eb4
          have ta := ty_l ea4
          have qb := sq_l eb4
          have qa := sq_l ea4
          walk_at "wps"
          have hl := da.len.1.trans db.len.1.symm
          have hl2 := da.len.2
          rw [if_neg (by omega)]
          exact ⟨by omega, by omega, loop ap bp as bs ds _ _ (sq_l ea) (sq_l eb) da db rfl hl⟩
      | @tup bp bs ds k'' bne eb db =>
        cases wa with
        | lf l' => cases l'
        | @tup ap as _ n'' ane ea da =>
          have eb4 := s4 _ _ eb
          have ea4 := s4 _ _ ea
          have tb := ty_t eb4
          have ta := ty_t ea4
          have qb := sq_t eb4
          have qa := sq_t ea4
          walk_at "wps"
          have hl := da.len.1.trans db.len.1.symm
          have hl2 := da.len.2
          rw [if_neg (by omega)]
          exact ⟨by omega, by omega, loop ap bp as bs ds _ _ (sq_t ea) (sq_t eb) da db rfl hl⟩
  · (walk_at "wq") <;> exact k _ s3
/-! frozen -/
def frz : Nat → PyData → PyData
  | n + 1, .list xs => .tuple [.str "list", .tuple (xs.map (frz n))]
  | n + 1, .tuple xs => .tuple [.str "tuple", .tuple (xs.map (frz n))]
  | _, d => d
def sp_frozen (N : Nat) : Sp := fun vs H Q _ => ∃ (v : V) (deep : Int) (E : List Addr) (d : PyData) (n : Nat), vs = [v, .int deep] ∧ 0 ≤ deep ∧ deep < N ∧ Lv E H ∧ Dw E H v d n ∧ n ≤ 1000000 ∧ ∀ u m H', Same H H' → Dw E H' u (frz deep.toNat d) m → m ≤ 8 * n → Q u H'
abbrev st_law_frozen : Stmt := topS 19
theorem sc_law_frozen : FnScope ["value", "deep", "part"] ["value", "deep"] (defScope st_law_frozen) := ⟨rfl, rfl, rfl, by decide +kernel, rfl, by decide +kernel, by decide +kernel⟩
theorem ok_law_frozen (D : Df K mg "_law_frozen" st_law_frozen) (T : NoB mg)  {n : Nat} (C_law_frozen : Cl P w K mg base n "_law_frozen" ["value", "deep"] (sp_frozen n)): Cl P w K mg base (n+1) "_law_frozen" ["value", "deep"] (sp_frozen (n+1)) := by
  refine cl_of D sc_law_frozen (fun _ _ _ _ _ _ us hl => match us, hl with | [_, _], _ => rfl) (fun vs H Q E h => ?_) (fun f cdv A outer sh H vs Q E hr h => ?_)
  · obtain ⟨_, _, _, _, _, rfl, _⟩ := h; rfl
  obtain ⟨v, deep, E, d, n', rfl, h0, h1, lv, hd, hn, k⟩ := h
  refine ⟨_, (pss_cons (ps_if (PW.pt (pw_and (pt_cmpR op_gt (pv 1) pe_int (nomark _)) (pw_and1 (pt_val (pe_callB isi1 (by rfl) T.no_isinstance (by decide +kernel) (pa_cons (pv 0) (pa_cons (pe_bltn (by rfl) T.no_list (by decide +kernel) (show RelV (.ty "list") _ from rfl)) pa_nil))))))) (pss_one (ps_ret (pe_tup (pa_cons pe_str (pa_cons (pe_callTy tup1 (by rfl) T.no_tuple (by decide +kernel) (pa_cons (pe_lc (own := [("part", 2)]) (g := gName 2) (tt := tYes) rfl sc_law_frozen.nd (pi_sq (pv 0)) (blkOk_by (own := [("part", 2)]) (N := ["value", "deep", "part"]) (sc := defScope st_law_frozen) (by decide +kernel)) (fun _ _ _ _ _ => (pg_name (i := 2) sc_law_frozen.nd rfl (Or.inl rfl))) (fun _ _ _ _ _ => pts_nil) (fun _ _ _ _ _ => (pe_cl C_law_frozen hr (by rfl) (pa_cons (pv 2) (pa_cons (pe_op op_sub (pv 1) pe_int) pa_nil)) (Nat.le_refl _)))) pa_nil)) pa_nil))))) pss_nil)
    (pss_cons (ps_if (PW.pt (pw_and (pt_cmpR op_gt (pv 1) pe_int (nomark _)) (pw_and1 (pt_val (pe_callB isi1 (by rfl) T.no_isinstance (by decide +kernel) (pa_cons (pv 0) (pa_cons (pe_bltn (by rfl) T.no_tuple (by decide +kernel) (show RelV (.ty "tuple") _ from rfl)) pa_nil))))))) (pss_one (ps_ret (pe_tup (pa_cons pe_str (pa_cons (pe_callTy tup1 (by rfl) T.no_tuple (by decide +kernel) (pa_cons (pe_lc (own := [("part", 2)]) (g := gName 2) (tt := tYes) rfl sc_law_frozen.nd (pi_sq (pv 0)) (blkOk_by (own := [("part", 2)]) (N := ["value", "deep", "part"]) (sc := defScope st_law_frozen) (by decide +kernel)) (fun _ _ _ _ _ => (pg_name (i := 2) sc_law_frozen.nd rfl (Or.inl rfl))) (fun _ _ _ _ _ => pts_nil) (fun _ _ _ _ _ => (pe_cl C_law_frozen hr (by rfl) (pa_cons (pv 2) (pa_cons (pe_op op_sub (pv 1) pe_int) pa_nil)) (Nat.le_refl _)))) pa_nil)) pa_nil))))) pss_nil)
    (pss_one (ps_ret (pv 0))))), ?_⟩
  have comp : ∀ (p : Addr) (xs : List V) (ds : List PyData) (m : Nat) (R : VK), 0 < deep → m ≤ 1000000 → sq H p = some xs → DwAll E H xs ds m →
      (∀ C acc H1 m', H C = none → Same H H1 → H1 C = some (.lst acc) → DwAll (C :: E) H1 acc (ds.map (frz (deep.toNat - 1))) m' → m' ≤ 8 * m → R (.ref C) H1) →
      CSq K p (gName 2) tYes (tCall (sp_frozen n) [] E0 (tCons (tVar 2) (tCons (tOp (rI0 fun i j => V.int (i - j)) (tVar 1) (tC (V.int 1))) tNil))) [2] [some (V.ref p), some (V.int deep), none] H R := by
    intro p xs ds m R hpos hm hq hd hR
    refine cs_by hq (fun C i acc H' => Same H H' ∧ ∃ m' r w, DwAll (C :: E) H' acc ((ds.take i).map (frz (deep.toNat - 1))) m' ∧ DwAll E H (xs.drop i) (ds.drop i) r ∧ m' ≤ 8 * w ∧ w + r = m)
      (fun C H0 n0 => ⟨n0.same, 0, m, 0, .nil, hd, by omega, by omega⟩) (fun C i acc H' _ ⟨s', _⟩ o e => s' _ _ e) ?_ ?_
    · rintro C i x acc H1 N hC hi ha ⟨s1, m', r, w, d1, d2, hw, hr⟩ hN
      have hlt : i < xs.length := (List.getElem?_eq_some_iff.mp hi).1
      have hx : xs[i] = x := (List.getElem?_eq_some_iff.mp hi).2
      rw [List.drop_eq_getElem_cons hlt, hx] at d2
      generalize hdd : ds.drop i = dd at d2
      cases d2 with
      | @cons _ _ d0 ds0 c1 c2 p1 p2 =>
        have hd1 : ds.drop (i + 1) = ds0 := by rw [← List.drop_drop, hdd] <;> rfl
        have hd2 : ds.take (i + 1) = ds.take i ++ [d0] := by rw [List.take_add, hdd] <;> rfl
        have lvC : Lv (C :: E) H1 := (lv.same s1).cons ha
        walk_at "wq"
        refine ⟨x, deep - 1, C :: E, d0, c1, rfl, by omega, by omega, lvC, (p1.fresh hC).same s1, by omega, fun u mu H2 s2 hu hmu => ?_⟩
        refine cst (s2 _ _ ha) (szl' (by have := d1.len.2; omega)) fun H3 n3 => hN _ _ n3.at_ ⟨n3.same (s1.trans s2) hC, m' + mu, c2, w + c1, ?_, by rw [hd1]; exact p2, by omega, by omega⟩
        rw [hd2, List.map_append]
        have hk : (deep - 1).toNat = deep.toNat - 1 := by omega
        rw [hk] at hu
        exact ((d1.same s2).put n3 (by simp)).app (.one (hu.put n3 (by simp)))
    · rintro C acc H1 hC ha ⟨s1, m', r, w, d1, d2, hw, hr⟩
      have hl := hd.len.1
      have e : ds.take xs.length = ds := by rw [hl]; exact List.take_length
      rw [e] at d1
      exact hR C acc H1 m' hC s1 ha d1 (by omega)
  have last : ∀ (tag : Str) (ds : List PyData) (m : Nat), tag.length ≤ 5 → m + 1 = n' → frz deep.toNat d = .tuple [.str tag, .tuple (ds.map (frz (deep.toNat - 1)))] → ∀ (C : Addr) (acc : List V) (H1 : Hp) (m' : Nat), H C = none → Same H H1 → H1 C = some (.lst acc) → DwAll (C :: E) H1 acc (ds.map (frz (deep.toNat - 1))) m' → m' ≤ 8 * m →
      Nw H1 (HO.tup acc) fun q H2 => Nw H2 (.tup [.str tag, .ref q]) fun p H' => Q (V.ref p) H' := by
    intro tag ds m ht hm hf C acc H1 m' hC s1 ha d1 hm' q H2 n2 p H3 n3
    have hlv2 := (lv.same s1).same n2.same
    have dq : Dw E H2 (.ref q) (.tuple (ds.map (frz (deep.toNat - 1)))) (m' + 1) := .tup ((lv.same s1).out n2.fr) n2.at_ ((d1.sub fun a z => by simp [z]).same n2.same)
    refine k _ (tag.length + 1 + (m' + 1 + 0) + 1) _ ((s1.trans n2.same).trans n3.same) ?_ (by omega)
    rw [hf]
    exact .tup (hlv2.out n3.fr) n3.at_ (.cons (.lf (.str tag)) (.cons (dq.same n3.same) .nil))
  cases hd with
  | lf l =>
    have e : frz deep.toNat d = d := by cases l <;> (cases deep.toNat <;> rfl)
    have fin : Q v H := k v _ H (Same.refl _) (by rw [e]; exact .lf l) (by have := l.pos; omega)
    cases l <;> (walk_at "wps"; (try (split <;> trivial)))
  | @lst a xs ds m ne h da =>
    have ht := ty_l h
    have fin : deep = 0 → Q (.ref a) H := fun z => k _ _ H (Same.refl _) (by rw [z]; exact .lst ne h da) (by omega)
    walk_at "wps"
    split
    · rename_i hp
      refine comp a xs ds m _ hp (by omega) (sq_l h) da fun C acc H1 m' hC s1 ha d1 hm' => ?_
      have hk : deep.toNat = deep.toNat - 1 + 1 := by omega
      have L := last "list" ds m (by decide +kernel) rfl (by rw [hk]; rfl) C acc H1 m' hC s1 ha d1 hm'
      walk_at "wn"
      refine ⟨acc, ha, fun q H2 n2 => ⟨szl (by decide), ?_⟩⟩
      exact L q H2 n2
    · exact fin (by omega)
  | @tup a xs ds m ne h da =>
    have ht := ty_t h
    have fin : deep = 0 → Q (.ref a) H := fun z => k _ _ H (Same.refl _) (by rw [z]; exact .tup ne h da) (by omega)
    walk_at "wps"
    split
    · rename_i hp
      refine comp a xs ds m _ hp (by omega) (sq_t h) da fun C acc H1 m' hC s1 ha d1 hm' => ?_
      have hk : deep.toNat = deep.toNat - 1 + 1 := by omega
      have L := last "tuple" ds m (by decide +kernel) rfl (by rw [hk]; rfl) C acc H1 m' hC s1 ha d1 hm'
      walk_at "wn"
      refine ⟨acc, ha, fun q H2 n2 => ⟨szl (by decide), ?_⟩⟩
      exact L q H2 n2
    · exact fin (by omega)
theorem frozen_all (D : Df K mg "_law_frozen" st_law_frozen) (T : NoB mg) : ∀ n, Cl P w K mg base n "_law_frozen" ["value", "deep"] (sp_frozen n)
  | 0 => cl_false D (fun _ _ _ _ _ _ us hl => match us, hl with | [_, _], _ => rfl) 0 fun vs H Q E h => by
    obtain ⟨v, deep, E, d, n, _, h0, h1, _⟩ := h
    omega
  | n + 1 => ok_law_frozen D T (frozen_all D T n)

end

/-! ## T6 -/

section
variable {P : Program} {w : World} {K : PySem.W.Frag} {mg : Str → Option Value} {base : Heap}
/-! move -/
def sp_move : Sp := fun vs H Q _ => ∃ (s l : Addr) (n : Int), vs = [.ref s, .int n] ∧ Sto s l H ∧ 0 ≤ n ∧ n ≤ 40 ∧ ∀ (q : Addr) (ns : List Int) H', Ge s l H H' → H q = none → H' q = some (.tup (ns.map V.int)) → ns.Perm (rng n.toNat) → Q (.ref q) H'
abbrev st_law_move : Stmt := topS 20
theorem sc_law_move : FnScope ["store", "points", "pick", "image", "size", "ring_row", "k", "shift"] ["store", "points"] (defScope st_law_move) := ⟨rfl, rfl, rfl, by decide +kernel, rfl, by decide +kernel, by decide +kernel⟩
theorem ok_law_move (D : Df K mg "_law_move" st_law_move) (T : NoB mg) (C_law_drawn : Cl P w K mg base 3 "_law_drawn" ["store", "things", "many"] sp_drawn) (C_law_take : Cl P w K mg base 2 "_law_take" ["store", "many"] sp_take) : Cl P w K mg base 4 "_law_move" ["store", "points"] sp_move := by
  refine cl_of D sc_law_move (fun _ _ _ _ _ _ us hl => match us, hl with | [_, _], _ => rfl) (fun vs H Q E h => ?_) (fun f cdv A outer sh H vs Q E hr h => ?_)
  · obtain ⟨_, _, _, rfl, _⟩ := h; rfl
  obtain ⟨s, l, n, rfl, st, hn0, hn1, k⟩ := h
  refine ⟨_, (pss_cons (ps_set (i := 2) sc_law_move.nd rfl (Or.inl rfl) (pe_cl C_law_take hr (by rfl) (pa_cons (pv 0) (pa_cons pe_int pa_nil))))
    (pss_cons (ps_set (i := 3) sc_law_move.nd rfl (Or.inl rfl) (pe_listRg rfl (by rfl) T.no_list (prg_1 (by rfl) T.no_range (pv 1))))
    (pss_cons (ps_if (PW.pt (pw_or (pt_cmpR op_eq (pv 2) pe_int (nomark _)) (pw_or1 (pt_cmpR op_lt (pv 1) pe_int (nomark _))))) (pss_one (ps_ret (pe_callTy tup1 (by rfl) T.no_tuple (by decide +kernel) (pa_cons (pv 3) pa_nil)))) pss_nil)
    (pss_cons (ps_if (pt_cmpR op_lt (pv 2) pe_int (nomark _)) (pss_cons (ps_set (i := 4) sc_law_move.nd rfl (Or.inl rfl) pe_int)
    (pss_cons (ps_if (pt_cmpR op_gt (pv 2) pe_int (nomark _)) (pss_one (ps_set (i := 4) sc_law_move.nd rfl (Or.inl rfl) (pe_op op_add pe_int (pe_cl C_law_take hr (by rfl) (pa_cons (pv 0) (pa_cons (pe_op op_sub (pv 1) pe_int) pa_nil)))))) pss_nil)
    (pss_cons (ps_set (i := 5) sc_law_move.nd rfl (Or.inl rfl) (pe_cl C_law_drawn hr (by rfl) (pa_cons (pv 0) (pa_cons (pv 3) (pa_cons (pv 4) pa_nil)))))
    (pss_cons (ps_for PassesOwn.never rfl (pi_range1 (by rfl) T.no_range (pa_cons (pv 4) pa_nil)) (pg_name (i := 6) sc_law_move.nd rfl (Or.inl rfl)) (pss_one (ps_asg (pe_ix ix1 (pv 5) (pe_op op_modN (pe_callTy int1 (by rfl) T.no_int (by decide +kernel) (pa_cons (pe_op op_add (pv 6) pe_int) pa_nil)) (pv 4)) (fun _ _ => rfl)) (pg_sub (pv 3) (pe_ix ix1 (pv 5) (pv 6) (fun _ _ => rfl)) set_list))))
    (pss_one (ps_ret (pe_callTy tup1 (by rfl) T.no_tuple (by decide +kernel) (pa_cons (pv 3) pa_nil)))))))) pss_nil)
    (pss_cons (ps_if (pt_cmpR op_eq (pv 2) pe_int (nomark _)) (pss_cons (ps_set (i := 7) sc_law_move.nd rfl (Or.inr rfl) (pe_op op_add pe_int (pe_cl C_law_take hr (by rfl) (pa_cons (pv 0) (pa_cons (pe_op op_sub (pv 1) pe_int) pa_nil)))))
    (pss_one (ps_ret (pe_callTy tup1 (by rfl) T.no_tuple (by decide +kernel) (pa_cons (pe_lc (own := [("k", 6)]) (g := gName 6) (tt := tYes) rfl sc_law_move.nd (pi_range1 (by rfl) T.no_range (pa_cons (pv 1) pa_nil)) (blkOk_by (own := [("k", 6)]) (N := ["store", "points", "pick", "image", "size", "ring_row", "k", "shift"]) (sc := defScope st_law_move) (by decide +kernel)) (fun _ _ _ _ _ => (pg_name (i := 6) sc_law_move.nd rfl (Or.inl rfl))) (fun _ _ _ _ _ => pts_nil) (fun _ _ _ _ _ => (pe_op op_modN (pe_callTy int1 (by rfl) T.no_int (by decide +kernel) (pa_cons (pe_op op_add (pv 6) (pv 7)) pa_nil)) (pv 1)))) pa_nil))))) pss_nil)
    (pss_cons (ps_if (pt_cmpR op_eq (pv 2) pe_int (nomark _)) (pss_one (ps_ret (pe_callTy tup1 (by rfl) T.no_tuple (by decide +kernel) (pa_cons (pe_lc (own := [("k", 6)]) (g := gName 6) (tt := tYes) rfl sc_law_move.nd (pi_range1 (by rfl) T.no_range (pa_cons (pv 1) pa_nil)) (blkOk_by (own := [("k", 6)]) (N := ["store", "points", "pick", "image", "size", "ring_row", "k", "shift"]) (sc := defScope st_law_move) (by decide +kernel)) (fun _ _ _ _ _ => (pg_name (i := 6) sc_law_move.nd rfl (Or.inl rfl))) (fun _ _ _ _ _ => pts_nil) (fun _ _ _ _ _ => (pe_op op_sub (pe_op op_sub (pv 1) pe_int) (pv 6)))) pa_nil)))) pss_nil)
    (pss_one (ps_ret (pe_callTy tup1 (by rfl) T.no_tuple (by decide +kernel) (pa_cons (pe_cl C_law_drawn hr (by rfl) (pa_cons (pv 0) (pa_cons (pv 3) (pa_cons (pv 1) pa_nil)))) pa_nil)))))))))), ?_⟩
  walk_at "sq"
  refine ⟨s, l, _, rfl, by decide, st, fun pk H1 g1 r0 r1 r2 => ?_⟩
  have := r1 (by decide)
  walk_at "sq"
  refine ⟨.of_le (by decide) (by omega) (by decide) hn0, fun im H2 n2 => ?_⟩
  have g2 := g1.new n2
  have him := g1.fr n2.fr
  have e2 := n2.at_
  rw [rgV_rng hn0] at e2
  have q2 := sq_l e2
  have idt : ∀ q H3, New H2 q (.tup ((rng n.toNat).map V.int)) H3 → Q (.ref q) H3 := fun q H3 n3 => k q _ H3 (g2.new n3) (g2.fr n3.fr) n3.at_ (.refl _)
  walk_at "sq"
  split
  · exact fun q H3 n3 => idt q H3 n3
  split
  · exact fun q H3 n3 => idt q H3 n3
  rename_i hp0 hp1
  walk_at "sq"
  split
  · walk_at "sq"
    have hn2 : 2 ≤ n := by omega
    refine seq_join (fun σ H' => ∃ sz, σ = [some (.ref s), some (.int n), some (.int pk), some (.ref im), some (.int sz), none, none, none] ∧ Ge s l H2 H' ∧ 2 ≤ sz ∧ sz ≤ n) (fun N hN => ?_) ?_
    · walk_at "wq"
      split
      · refine ⟨s, l, _, rfl, by omega, g2.st, fun r H3 g3 q0 q1 q2 => ?_⟩
        walk_at "wn"
        refine hN _ _ ⟨_, rfl, g3, by omega, ?_⟩
        by_cases z : n - 1 < 2
        · rw [q2 z]; omega
        · have := q1 (by omega); omega
      · exact hN _ _ ⟨2, rfl, Ge.refl g2.st, by omega, hn2⟩
    · rintro _ H3 ⟨sz, rfl, g23, hz1, hz2⟩
      have g3 := g2.trans g23
      have e3 := g23.at st him e2
      have q3 := sq_l e3
      walk_at "sq"
      refine ⟨s, l, im, _, sz, rfl, g3.st, q3, by rw [List.length_map, rng_len]; omega, by omega, fun qr H4 ys rest g34 hqr e4 hp hl => ?_⟩
      have g4 := g3.trans g34
      have ei4 := g34.at st him e3
      have hqr0 := g3.fr hqr
      have hne : im ≠ qr := ne_of_none e3 hqr
      obtain ⟨L, h1, h2⟩ := perm_ints hp
      obtain ⟨r, rst, rfl, rfl, rfl⟩ := append_ints h1
      have hrl : r.length = sz.toNat := by
        rw [List.length_map] at hl
        rw [List.length_map, rng_len] at hl
        rw [hl]; split <;> omega
      have hnd : r.Nodup := (List.nodup_append.mp ((h2.nodup_iff).mpr (rng_nodup _))).1
      have hmem : ∀ x ∈ r, 0 ≤ x ∧ x < n := fun x hx => by
        have := mem_rng.mp (h2.mem_iff.mp (List.mem_append_left _ hx)); omega
      walk_at "sq"
      refine ⟨by omega, by omega, ?_⟩
      refine fr_by (fun i σ H' => Ge s l H H' ∧ ∃ v6 ns, σ = [some (.ref s), some (.int n), some (.int pk), some (.ref im), some (.int sz), some (.ref qr), v6, none] ∧ H' im = some (.lst (ns.map V.int)) ∧ H' qr = some (.lst (r.map V.int)) ∧ ns.length = n.toNat ∧
          (∀ k, k < i → ∃ x y, r[k]? = some x ∧ r[(k + 1) % r.length]? = some y ∧ ns[x.toNat]? = some y) ∧ (∀ p : Nat, p < n.toNat → (p : Int) ∉ r.take i → ns[p]? = some (p : Int)))
        ⟨g4, none, rng n.toNat, rfl, ei4, e4, rng_len _, fun k h => absurd h (Nat.not_lt_zero _), fun p hp _ => rng_get hp⟩ ?_ ?_
      · rintro i _ H5 N hN hi ⟨g5, v6, ns, rfl, e5, f5, hl5, h5, h5'⟩
        have qf5 := sq_l f5
        have hir : i < r.length := by omega
        have hjr : (i + 1) % r.length < r.length := Nat.mod_lt _ (by omega)
        have ej : ((0 : Int) + (i : Int) + 1).fmod sz = (((i + 1) % r.length : Nat) : Int) := by
          rw [Int.fmod_eq_emod_of_nonneg _ (by omega), hrl]
          have : ((sz.toNat : Nat) : Int) = sz := by omega
          push_cast
          rw [this]
          congr 1
          omega
        have hx := hmem r[i] (List.getElem_mem hir)
        walk_at "wq"
        refine ⟨by omega, .int r[(i + 1) % r.length], atI_of (by omega) ?_, .int r[i], atI_of (by omega) ?_, ?_⟩
        · rw [← hrl, Int.toNat_natCast, List.getElem?_map, List.getElem?_eq_getElem hjr]
          rfl
        · simp [hir]
        walk_at "wq"
        refine ⟨r[i].toNat, ixN_of hx.1 (by rw [List.length_map, hl5]; omega), fun H6 n6 => ?_⟩
        refine hN _ _ ⟨g5.put st him n6, _, ns.set r[i].toNat r[(i + 1) % r.length], rfl, ?_, n6.k hne.symm f5, by rw [List.length_set, hl5], fun k hk => ?_, fun p hp hm => ?_⟩
        · rw [n6.at_, List.map_set]
          simp only [hrl]
        · by_cases hki : k = i
          · subst hki
            exact ⟨r[k], r[(k + 1) % r.length], by simp [hir], by simp [hjr], by rw [List.getElem?_set_self (by rw [hl5]; omega)]⟩
          · obtain ⟨x, y, a1, a2, a3⟩ := h5 k (by omega)
            refine ⟨x, y, a1, a2, ?_⟩
            have hk2 : k < r.length := (List.getElem?_eq_some_iff.mp a1).1
            have hxx : r[k] = x := (List.getElem?_eq_some_iff.mp a1).2
            have hx2 := hmem x (List.mem_of_getElem? a1)
            have : r[i] ≠ x := by
              rw [← hxx]
              intro e
              exact hki ((List.getElem?_inj hk2 hnd).mp (by rw [List.getElem?_eq_getElem hk2, List.getElem?_eq_getElem hir, e]))
            rw [List.getElem?_set_ne (by omega)]
            exact a3
        · rw [List.take_succ, List.mem_append, not_or] at hm
          have : r[i] ≠ (p : Int) := fun e => hm.2 (by simp [hir, e])
          rw [List.getElem?_set_ne (by omega)]
          exact h5' p hp hm.1
      · rintro _ H5 ⟨g5, v6, ns, rfl, e5, f5, hl5, h5, h5'⟩
        walk_at "wq"
        refine fun q H6 n6 => k q ns H6 (g5.new n6) (g5.fr n6.fr) n6.at_ (ring_perm h2 hl5 (fun k hk => h5 k (by omega)) fun p hp hm => h5' p hp ?_)
        rw [List.take_of_length_le (by omega)]
        exact hm
  have hn2 : 2 ≤ n := by omega
  walk_at "sq"
  split
  · walk_at "sq"
    refine ⟨s, l, _, rfl, by omega, g2.st, fun r H3 g3 q0 q1 q2 => ?_⟩
    have hr : r < n := by
      by_cases z : n - 1 < 2
      · rw [q2 z]; omega
      · have := q1 (by omega); omega
    have g3' := g2.trans g3
    walk_at "wq"
    refine ⟨by omega, by omega, ?_⟩
    refine cr_by (fun C i acc H' => Ge s l H H' ∧ acc = (((rng n.toNat).take i).map fun k => (k + (1 + r)).fmod n).map V.int) (fun C H0 n0 => ⟨g3'.new n0, by simp⟩) ?_ ?_
    · rintro C i acc H4 N hC hi ha ⟨g4, rfl⟩ hN
      walk_at "wq"
      refine ⟨by omega, cst ha (szl' (by simp; omega)) fun H5 n5 => hN _ _ n5.at_ ⟨g4.put st (g3'.fr hC) n5, ?_⟩⟩
      rw [List.take_succ, rng_get hi]
      simp
    · rintro C acc H4 hC ha ⟨g4, rfl⟩
      rw [List.take_of_length_le (by rw [rng_len]; omega)] at ha
      walk_at "wq"
      refine fun q H5 n5 => k q _ H5 (g4.new n5) (g4.fr n5.fr) n5.at_ ?_
      have := rot_perm (n := n.toNat) (s := (1 + r).toNat) (by omega)
      rw [show (((1 + r).toNat : Nat) : Int) = 1 + r by omega, show ((n.toNat : Nat) : Int) = n by omega] at this
      exact this
  walk_at "sq"
  split
  · walk_at "wq"
    refine ⟨by omega, by omega, ?_⟩
    refine cr_by (fun C i acc H' => Ge s l H H' ∧ acc = (((rng n.toNat).take i).map fun k => n - 1 - k).map V.int) (fun C H0 n0 => ⟨g2.new n0, by simp⟩) ?_ ?_
    · rintro C i acc H4 N hC hi ha ⟨g4, rfl⟩ hN
      walk_at "wq"
      refine cst ha (szl' (by simp; omega)) fun H5 n5 => hN _ _ n5.at_ ⟨g4.put st (g2.fr hC) n5, ?_⟩
      rw [List.take_succ, rng_get hi]
      simp
    · rintro C acc H4 hC ha ⟨g4, rfl⟩
      rw [List.take_of_length_le (by rw [rng_len]; omega)] at ha
      walk_at "wq"
      refine fun q H5 n5 => k q _ H5 (g4.new n5) (g4.fr n5.fr) n5.at_ ?_
      have := rev_perm (n := n.toNat)
      rw [show ((n.toNat : Nat) : Int) = n by omega] at this
      exact this
  · walk_at "wq"
    refine ⟨s, l, im, _, n, rfl, g2.st, q2, by rw [List.length_map, rng_len]; omega, by omega, fun qr H4 ys rest g34 hqr e4 hp hl => ?_⟩
    walk_at "wq"
    refine fun q H5 n5 => ?_
    have g4 := g2.trans g34
    obtain ⟨L, h1, h2⟩ := perm_ints hp
    obtain ⟨r, rst, rfl, rfl, rfl⟩ := append_ints h1
    have hll := h2.length_eq
    rw [List.length_append, rng_len] at hll
    have hrl : rst = [] := by
      rw [List.length_map, List.length_map, rng_len] at hl
      have : r.length = n.toNat := by rw [hl]; split <;> omega
      exact List.eq_nil_of_length_eq_zero (by omega)
    rw [hrl, List.append_nil] at h2
    exact k q r H5 (g4.new n5) (g4.fr n5.fr) n5.at_ h2
end

/-! ## T7 -/

theorem Db.tup1 {E : List Addr} {H : Hp} {b : Nat} {v : V} {p : Addr} (h : Db E H b v) (hp : p ∉ E) (hq : H p = some (.tup [v])) : Db E H (b + 1) (.ref p) := by
  have := Db.seq (E := E) (H := H) (b := b) (xs := [v]) (p := p) (fun x hx => by rw [List.mem_singleton.mp hx]; exact h) hp (.inl hq)
  simpa using this
theorem Db.int {E : List Addr} {H : Hp} {b : Nat} (i : Int) (h : 1 ≤ b) : Db E H b (.int i) := ⟨_, 1, .lf (.int i), h⟩
theorem Db.bl {E : List Addr} {H : Hp} {b : Nat} (i : Bool) (h : 1 ≤ b) : Db E H b (.bl i) := ⟨_, 1, .lf (.bl i), h⟩
theorem Db.non {E : List Addr} {H : Hp} {b : Nat} (h : 1 ≤ b) : Db E H b .non := ⟨_, 1, .lf .non, h⟩
theorem Db.str {E : List Addr} {H : Hp} {b : Nat} {z : Str} (h : z.length + 1 ≤ b) : Db E H b (.str z) := ⟨_, _, .lf (.str z), h⟩
section
variable {P : Program} {w : World} {K : PySem.W.Frag} {mg : Str → Option Value} {base : Heap}
/-! pick of a text -/
def sp_pickS : Sp := fun vs H Q _ => ∃ (s l : Addr) (z : Str), vs = [.ref s, .str z] ∧ Sto s l H ∧ 0 < z.length ∧ z.length ≤ 1000 ∧ ∀ c H', Ge s l H H' → c ∈ z.cps.toList → Q (.str ⟨#[c]⟩) H'
theorem ok_law_pickS (D : Df K mg "_law_pick" st_law_pick) (T : NoB mg) (C_law_take : Cl P w K mg base 2 "_law_take" ["store", "many"] sp_take) : Cl P w K mg base 3 "_law_pick" ["store", "things"] sp_pickS := by
  refine cl_of D sc_law_pick (fun _ _ _ _ _ _ us hl => match us, hl with | [_, _], _ => rfl) (fun vs H Q E h => ?_) (fun f cdv A outer sh H vs Q E hr h => ?_)
  · obtain ⟨_, _, _, rfl, _⟩ := h; rfl
  obtain ⟨s, l, z, rfl, st, hz0, hz1, k⟩ := h
  refine ⟨_, (pss_one (ps_ret (pe_ix ix_str (pv 1) (pe_cl C_law_take hr (by rfl) (pa_cons (pv 0) (pa_cons (pe_callB call_len_str (by rfl) T.no_len (by decide +kernel) (pa_cons (pv 1) pa_nil)) pa_nil))) (fun _ _ => rfl)))), ?_⟩
  walk_at "wps"
  refine ⟨szl (by omega), s, l, _, rfl, by omega, st, fun r H1 g r0 r1 r2 => ?_⟩
  walk_at "wps"
  have hr : r.toNat < z.cps.toList.length := by
    rw [len_tl]
    by_cases q : z.length < 2
    · rw [r2 (by omega)]; exact hz0
    · have := r1 (by omega); omega
  exact ⟨szl (by omega), z.cps.toList[r.toNat], atI_of r0 (by simp [hr]), k _ _ g (List.getElem_mem hr)⟩
/-! bad_move -/
def sp_bad_move : Sp := fun vs H Q _ => ∃ (s l m : Addr) (E : List Addr) (n : Nat) (ns : List Int), vs = [.ref s, .ref m] ∧ Sto s l H ∧ Lv E H ∧ s ∈ E ∧ m ≠ s ∧ H m = some (.tup (ns.map V.int)) ∧ ns.Perm (rng n) ∧ n ≤ 40 ∧ ∀ v H', Ge s l H H' → Db E H' 60 v → Q v H'
abbrev st_law_bad_move : Stmt := topS 21
theorem sc_law_bad_move : FnScope ["store", "move", "pick", "size", "image", "at"] ["store", "move"] (defScope st_law_bad_move) := ⟨rfl, rfl, rfl, by decide +kernel, rfl, by decide +kernel, by decide +kernel⟩
theorem ok_law_bad_move (D : Df K mg "_law_bad_move" st_law_bad_move) (T : NoB mg) (C_law_leaf : Cl P w K mg base 5 "_law_leaf" ["store"] sp_leaf) (C_law_place : Cl P w K mg base 3 "_law_place" ["store", "size"] sp_place) (C_law_take : Cl P w K mg base 2 "_law_take" ["store", "many"] sp_take) : Cl P w K mg base 6 "_law_bad_move" ["store", "move"] sp_bad_move := by
  refine cl_of D sc_law_bad_move (fun _ _ _ _ _ _ us hl => match us, hl with | [_, _], _ => rfl) (fun vs H Q E h => ?_) (fun f cdv A outer sh H vs Q E hr h => ?_)
  · obtain ⟨_, _, _, _, _, _, rfl, _⟩ := h; rfl
  obtain ⟨s, l, m, E, n, ns, rfl, st, lv, hsE, hms, hm, hp, hn, k⟩ := h
  have hnl : n = ns.length := by rw [hp.length_eq, rng_len]
  subst hnl
  have hmm : (ns.map V.int).length = ns.length := by rw [List.length_map]
  refine ⟨_, (pss_cons (ps_set (i := 2) sc_law_bad_move.nd rfl (Or.inl rfl) (pe_cl C_law_take hr (by rfl) (pa_cons (pv 0) (pa_cons pe_int pa_nil))))
    (pss_cons (ps_set (i := 3) sc_law_bad_move.nd rfl (Or.inl rfl) (pe_callB len1 (by rfl) T.no_len (by decide +kernel) (pa_cons (pv 1) pa_nil)))
    (pss_cons (ps_set (i := 4) sc_law_bad_move.nd rfl (Or.inl rfl) (pe_callTy lst1 (by rfl) T.no_list (by decide +kernel) (pa_cons (pv 1) pa_nil)))
    (pss_cons (ps_if (pt_cmpR op_eq (pv 2) pe_int (nomark _)) (pss_one (ps_ret (pv 4))) pss_nil)
    (pss_cons (ps_if (pt_cmpR op_eq (pv 2) pe_int (nomark _)) (pss_one (ps_ret (pe_callTy tup1 (by rfl) T.no_tuple (by decide +kernel) (pa_cons (pe_op op_cat (pv 4) (pe_lst (pa_cons (pv 3) pa_nil))) pa_nil)))) pss_nil)
    (pss_cons (ps_if (pt_cmpR op_eq (pv 2) pe_int (nomark _)) (pss_one (ps_ret (pe_cl C_law_leaf hr (by rfl) (pa_cons (pv 0) pa_nil)))) pss_nil)
    (pss_cons (ps_if (pt_cmpR op_eq (pv 3) pe_int (nomark _)) (pss_one (ps_ret (pe_tup (pa_cons (pe_cl C_law_leaf hr (by rfl) (pa_cons (pv 0) pa_nil)) pa_nil)))) pss_nil)
    (pss_cons (ps_set (i := 5) sc_law_bad_move.nd rfl (Or.inl rfl) (pe_cl C_law_place hr (by rfl) (pa_cons (pv 0) (pa_cons (pv 3) pa_nil))))
    (pss_cons (ps_if (pt_cmpR op_eq (pv 2) pe_int (nomark _)) (pss_one (ps_expr (pe_bm PySem.F.plainAttrs_list PySem.F.slot_list_pop PySem.F.type_list_pop mt_popAt (pv 4) (pa_cons (pv 5) pa_nil)))) (pss_one (ps_if (pt_cmpR op_eq (pv 2) pe_int (nomark _)) (pss_one (ps_asg (pv 3) (pg_sub (pv 4) (pv 5) set_list))) (pss_one (ps_if (pt_cmpR op_eq (pv 2) pe_int (nomark _)) (pss_one (ps_asg (pe_op op_add (pe_ix ix1 (pv 4) (pe_op op_modN (pe_callTy int1 (by rfl) T.no_int (by decide +kernel) (pa_cons (pe_op op_add (pv 5) pe_int) pa_nil)) (pv 3)) (fun _ _ => rfl)) (pe_callTy int1 (by rfl) T.no_int (by decide +kernel) (pa_cons (pe_cmpR op_eq (pv 3) pe_int (nomark _)) pa_nil))) (pg_sub (pv 4) (pv 5) set_list))) (pss_one (ps_if (pt_cmpR op_eq (pv 2) pe_int (nomark _)) (pss_one (ps_asg (pe_op op_sub (pe_ix ix1 (pv 4) (pv 5) (fun _ _ => rfl)) (pv 3)) (pg_sub (pv 4) (pv 5) set_list))) (pss_one (ps_if (PW.pt (pw_and (pt_cmpR op_eq (pv 2) pe_int (nomark _)) (pw_and1 (pt_cmpR op_gt (pv 3) pe_int (nomark _))))) (pss_one (ps_asg pe_bl (pg_sub (pv 4) (pe_bm PySem.F.plainAttrs_list PySem.F.slot_list_index PySem.F.type_list_index mt_index (pv 4) (pa_cons pe_int pa_nil)) set_list))) (pss_one (ps_asg pe_bl (pg_sub (pv 4) (pe_bm PySem.F.plainAttrs_list PySem.F.slot_list_index PySem.F.type_list_index mt_index (pv 4) (pa_cons pe_int pa_nil)) set_list))))))))))))
    (pss_one (ps_ret (pe_callTy tup1 (by rfl) T.no_tuple (by decide +kernel) (pa_cons (pv 4) pa_nil))))))))))))), ?_⟩
  walk_at "sq"
  refine ⟨s, l, _, rfl, by decide, st, fun pk H1 g1 r0 r1 r2 => ?_⟩
  have := r1 (by decide)
  have hm1 := g1.k hms hm
  have qm1 := sq_t hm1
  walk_at "sq"
  walk_at "sq"
  refine fun im H2 n2 => ?_
  have g2 := g1.new n2
  have him := g1.fr n2.fr
  have e2 := n2.at_
  have q2 := sq_l e2
  -- the end: tuple(image)
  have fin : ∀ (H3 : Hp) (xs : List V), Ge s l H H3 → H3 im = some (.lst xs) → xs.length ≤ 41 → (∀ x ∈ xs, Db E H3 1 x) → Nw H3 (.tup xs) fun q H' => Q (.ref q) H' := by
    intro H3 xs g3 e3 hl hx q H4 n4
    refine k _ _ (g3.new n4) ?_
    have := Db.seq (E := E) (H := H4) (b := 1) (xs := xs) (p := q) (fun x hm => (hx x hm).same n4.same) ((lv.ge g3).out n4.fr) (.inl n4.at_)
    exact this.le (by omega)
  have dints : ∀ (H3 : Hp) (ms : List Int), ∀ x ∈ ms.map V.int, Db E H3 1 x := fun H3 ms x hx => by
    obtain ⟨i, _, rfl⟩ := List.mem_map.mp hx
    exact .int i (by decide)
  have hlm : (ns.map V.int).length ≤ 41 := by rw [List.length_map]; omega
  walk_at "sq"
  split
  · refine k _ _ g2 ?_
    have := Db.seq (E := E) (H := H2) (b := 1) (xs := ns.map V.int) (p := im) (dints H2 ns) ((lv.ge g1).out n2.fr) (.inr e2)
    exact this.le (by omega)
  walk_at "sq"
  split
  · refine ⟨szl (by decide), fun p3 H3 n3 => ?_⟩
    have e3 := n3.k e2
    have f3 := n3.at_
    walk_at "wq"
    refine ⟨szl (by omega), fun p4 H4 n4 => ?_⟩
    have f4 := n4.at_
    walk_at "wq"
    refine fun q H5 n5 => k _ _ (((g2.new n3).new n4).new n5) ?_
    have := Db.seq (E := E) (H := H5) (b := 1) (xs := ns.map V.int ++ [V.int (ns.length : Int)]) (p := q) (all_app (dints H5 ns) (.int _ (by decide))) ((lv.ge ((g2.new n3).new n4)).out n5.fr) (.inl n5.at_)
    exact this.le (by rw [List.length_append, List.length_singleton]; omega)
  walk_at "sq"
  split
  · exact ⟨s, l, rfl, g2.st, fun v d c H' g h1 h2 _ => k _ _ (g2.trans g) (h1.db (by omega))⟩
  walk_at "sq"
  split
  · refine ⟨s, l, rfl, g2.st, fun v d c H3 g h1 h2 _ => ?_⟩
    walk_at "wq"
    refine ⟨szl (by decide), fun q H4 n4 => k _ _ ((g2.trans g).new n4) ?_⟩
    exact ((h1.db h2).tup1 ((lv.ge (g2.trans g)).out n4.fr) n4.at_).le (by omega)
  rename_i hz
  have hz0 : 0 < ns.length := by
    rcases Nat.eq_zero_or_pos ns.length with z | z
    · exact absurd (by rw [z]; rfl) hz
    · exact z
  walk_at "sq"
  refine ⟨s, l, _, rfl, g2.st, by omega, by omega, fun at_ H3 g3 a0 a1 => ?_⟩
  have g3' := g2.trans g3
  have e3 := g3.at st him e2
  have q3 := sq_l e3
  refine seq_join (fun σ H' => ∃ xs, σ = [some (.ref s), some (.ref m), some (.int pk), some (.int ns.length), some (.ref im), some (.int at_)] ∧ Ge s l H H' ∧ H' im = some (.lst xs) ∧ xs.length ≤ 41 ∧ ∀ x ∈ xs, Db E H' 1 x) (fun N hN => ?_) ?_
  · have ne : N [some (.ref s), some (.ref m), some (.int pk), some (.int ns.length), some (.ref im), some (.int at_)] H3 → True := fun _ => trivial
    have setv : ∀ (j : Nat) (v : V) (H4 : Hp), Db E H4 1 v → Put H3 im (.lst ((ns.map V.int).set j v)) H4 → N [some (.ref s), some (.ref m), some (.int pk), some (.int ns.length), some (.ref im), some (.int at_)] H4 := by
      intro j v H4 hv n4
      refine hN _ _ ⟨_, rfl, g3'.put st him n4, n4.at_, by rw [List.length_set]; exact hlm, fun x hx => ?_⟩
      rcases List.mem_or_eq_of_mem_set hx with h | h
      · exact dints H4 ns x h
      · rw [h]; exact hv
    have hix : ixN (ns.map V.int).length at_ = some at_.toNat := ixN_of a0 (by rw [List.length_map]; exact a1)
    have hat : atI (ns.map V.int) at_ = some (.int (ns[at_.toNat]'(by omega))) := atI_of a0 (by simp [show at_.toNat < ns.length by omega])
    walk_at "wn"
    split
    · refine ⟨tyl e3, _, e3, by omega, by omega, _, seqIndex_of a0 (by rw [List.length_map]; exact a1), .int (ns[at_.toNat]'(by omega)), by simp [show at_.toNat < ns.length by omega], fun H4 n4 => ?_⟩
      refine hN _ _ ⟨_, rfl, g3'.put st him n4, n4.at_, by rw [List.length_eraseIdx]; split <;> omega, fun x hx => dints H4 ns x (List.mem_of_mem_eraseIdx hx)⟩
    split
    · refine ⟨_, e3, _, hix, fun H4 n4 => setv _ _ H4 (.int _ (by decide)) n4⟩
    split
    · refine ⟨by omega, ?_⟩
      have hb := fm_bound (x := at_ + 1) (m := (ns.length : Int)) (by omega)
      refine ⟨_, q3, .int (ns[((at_ + 1).fmod ns.length).toNat]'(by omega)), atI_of hb.1 (by simp [show ((at_ + 1).fmod ns.length).toNat < ns.length by omega]), ?_⟩
      walk_at "wn"
      refine ⟨_, e3, _, hix, fun H4 n4 => setv _ _ H4 (.int _ (by decide)) n4⟩
    split
    · refine ⟨_, q3, _, hat, ?_⟩
      walk_at "wn"
      refine ⟨_, e3, _, hix, fun H4 n4 => setv _ _ H4 (.int _ (by decide)) n4⟩
    have m0 : (0 : Int) ∈ ns := hp.mem_iff.mpr (mem_rng.mpr (by omega))
    have last : ∃ xs, True := ⟨1, trivial⟩
    split
    · split
      · have m1 : (1 : Int) ∈ ns := hp.mem_iff.mpr (mem_rng.mpr (by omega))
        refine ⟨tyl e3, idx_ints e3 m1 fun j hj _ => ?_⟩
        walk_at "wn"
        refine ⟨_, e3, _, ixN_of (by omega) (by rw [List.length_map]; omega), fun H4 n4 => setv _ _ H4 (.bl _ (by decide)) n4⟩
      · refine ⟨tyl e3, idx_ints e3 m0 fun j hj _ => ?_⟩
        walk_at "wn"
        refine ⟨_, e3, _, ixN_of (by omega) (by rw [List.length_map]; omega), fun H4 n4 => setv _ _ H4 (.bl _ (by decide)) n4⟩
    · refine ⟨tyl e3, idx_ints e3 m0 fun j hj _ => ?_⟩
      walk_at "wn"
      refine ⟨_, e3, _, ixN_of (by omega) (by rw [List.length_map]; omega), fun H4 n4 => setv _ _ H4 (.bl _ (by decide)) n4⟩
  · rintro _ H4 ⟨xs, rfl, g4, e4, hl, hx⟩
    walk_at "wq"
    exact fin H4 xs g4 e4 hl hx
end

/-! ## T8 -/

/-- a list of data of at most so much weight -/
def Dl (E : List Addr) (H : Hp) (b : Nat) (xs : List V) : Prop := ∃ ds n, DwAll E H xs ds n ∧ n ≤ b
section
variable {s l p : Addr} {E E' : List Addr} {H H1 : Hp} {o : HO} {b b' c : Nat} {xs ys : List V} {v : V}
theorem DwAll.sublist : ∀ {xs ys : List V} {ds : List PyData} {n : Nat}, ys.Sublist xs → DwAll E H xs ds n → Dl E H n ys
  | _, _, _, _, .slnil, h => by cases h; exact ⟨[], 0, .nil, by omega⟩
  | _, _, _, _, .cons x s, h => by
    cases h with
    | cons a r =>
      obtain ⟨ds, m, h1, h2⟩ := DwAll.sublist s r
      exact ⟨ds, m, h1, by omega⟩
  | _, _, _, _, .cons₂ x s, h => by
    cases h with
    | cons a r =>
      obtain ⟨ds, m, h1, h2⟩ := DwAll.sublist s r
      exact ⟨_, _, .cons a h1, by omega⟩
theorem Dl.sl (h : Dl E H b xs) (s : ys.Sublist xs) : Dl E H b ys := by
  obtain ⟨ds, n, h1, h2⟩ := h
  obtain ⟨es, m, h3, h4⟩ := h1.sublist s
  exact ⟨es, m, h3, by omega⟩
theorem Dl.le (h : Dl E H b xs) (hb : b ≤ b') : Dl E H b' xs := by
  obtain ⟨ds, n, h1, h2⟩ := h
  exact ⟨ds, n, h1, by omega⟩
theorem Dl.app (h : Dl E H b xs) (h' : Dl E H c ys) : Dl E H (b + c) (xs ++ ys) := by
  obtain ⟨ds, n, h1, h2⟩ := h
  obtain ⟨es, m, h3, h4⟩ := h'
  exact ⟨_, _, h1.app h3, by omega⟩
theorem Dl.one (h : Db E H b v) : Dl E H b [v] := by
  obtain ⟨d, n, h1, h2⟩ := h
  exact ⟨_, _, .one h1, by omega⟩
theorem Dl.nil : Dl E H b [] := ⟨[], 0, .nil, by omega⟩
theorem Dl.len (h : Dl E H b xs) : xs.length ≤ b := by
  obtain ⟨d, n, h1, h2⟩ := h
  exact Nat.le_trans h1.len.2 h2
theorem Dl.rev (h : Dl E H b xs) : Dl E H b xs.reverse := by
  obtain ⟨ds, n, h1, h2⟩ := h
  suffices ∀ {xs : List V} {ds : List PyData} {n : Nat}, DwAll E H xs ds n → Dl E H n xs.reverse from (this h1).le h2
  intro xs ds n h
  clear h1 h2
  induction xs generalizing ds n with
  | nil => exact .nil
  | cons x r ih =>
    cases h with
    | @cons _ _ d _ a b w q =>
      rw [List.reverse_cons]
      have := (ih q).app (Dl.one ⟨d, a, w, Nat.le_refl _⟩)
      exact this.le (by omega)
theorem Dl.ge (h : Dl E H b xs) (g : Ge s l H H1) (hs : s ∈ E) : Dl E H1 b xs := by
  obtain ⟨ds, n, h1, h2⟩ := h
  exact ⟨ds, n, h1.ge g hs, h2⟩
theorem Dl.same (h : Dl E H b xs) (g : Same H H1) : Dl E H1 b xs := by
  obtain ⟨ds, n, h1, h2⟩ := h
  exact ⟨ds, n, h1.same g, h2⟩
theorem Dl.put (h : Dl E H b xs) (g : Put H p o H1) (hp : p ∈ E) : Dl E H1 b xs := by
  obtain ⟨ds, n, h1, h2⟩ := h
  exact ⟨ds, n, h1.put g hp, h2⟩
theorem Dl.fresh (h : Dl E H b xs) (hp : H p = none) : Dl (p :: E) H b xs := by
  obtain ⟨ds, n, h1, h2⟩ := h
  exact ⟨ds, n, h1.fresh hp, h2⟩
theorem Dl.sub (h : Dl E H b xs) (k : ∀ a, a ∈ E' → a ∈ E) : Dl E' H b xs := by
  obtain ⟨ds, n, h1, h2⟩ := h
  exact ⟨ds, n, h1.sub k, h2⟩
theorem Db.fresh (h : Db E H b v) (hp : H p = none) : Db (p :: E) H b v := by
  obtain ⟨ds, n, h1, h2⟩ := h
  exact ⟨ds, n, h1.fresh hp, h2⟩
theorem Dl.db (h : Dl E H b xs) (hp : p ∉ E) (hq : H p = some (.tup xs) ∨ H p = some (.lst xs)) : Db E H (b + 1) (.ref p) := by
  obtain ⟨ds, n, h1, h2⟩ := h
  rcases hq with q | q
  · exact ⟨_, _, .tup hp q h1, by omega⟩
  · exact ⟨_, _, .lst hp q h1, by omega⟩
theorem Dl.mem (h : Dl E H b xs) (hv : v ∈ xs) : Db E H b v := by
  obtain ⟨ds, n, h1, h2⟩ := h
  obtain ⟨e, m, _, h3, h4⟩ := h1.mem hv
  exact ⟨e, m, h3, by omega⟩
theorem Dl.set (h : Dl E H b xs) (hv : Db E H c v) (i : Nat) : Dl E H (b + c) (xs.set i v) := by
  by_cases hi : i < xs.length
  · rw [List.set_eq_take_append_cons_drop, if_pos hi]
    obtain ⟨ds, n, h1, h2⟩ := h
    have e : xs = xs.take i ++ xs.drop i := (List.take_append_drop i xs).symm
    suffices ∀ {as bs : List V} {ds : List PyData} {n : Nat}, DwAll E H (as ++ bs) ds n → ∃ a b, Dl E H a as ∧ Dl E H b bs ∧ a + b ≤ n by
      rw [e] at h1
      obtain ⟨a, b', q1, q2, q3⟩ := this h1
      have z : (xs.drop (i + 1)).Sublist (xs.drop i) := by rw [← List.drop_drop]; exact List.drop_sublist _ _
      have := q1.app ((Dl.one hv).app (q2.sl z))
      exact this.le (by omega)
    intro as bs ds n h
    clear h1 h2 e
    induction as generalizing ds n with
    | nil => exact ⟨0, n, .nil, ⟨ds, n, h, Nat.le_refl _⟩, by omega⟩
    | cons x r ih =>
      cases h with
      | @cons _ _ d _ a b w q =>
        obtain ⟨a', b', q1, q2, q3⟩ := ih q
        exact ⟨a + a', b', (Dl.one ⟨d, a, w, Nat.le_refl _⟩).app q1, q2, by omega⟩
  · rw [List.set_eq_of_length_le (by omega)]
    exact h.le (by omega)
theorem cutV_sub (xs : List V) (lo hi : Option Int) : (cutV xs lo hi).Sublist xs := (List.take_sublist _ _).trans (List.drop_sublist _ _)
/-- what data is -/
theorem Db.cases (h : Db E H b v) : (∃ d n, Lf v d n ∧ n ≤ b) ∨ ∃ a xs, v = .ref a ∧ a ∉ E ∧ (H a = some (.tup xs) ∨ H a = some (.lst xs)) ∧ Dl E H (b - 1) xs ∧ 1 ≤ b := by
  obtain ⟨d, n, h, hn⟩ := h
  cases h with
  | lf l => exact .inl ⟨d, n, l, hn⟩
  | lst ne e a => exact .inr ⟨_, _, rfl, ne, .inr e, ⟨_, _, a, by omega⟩, by omega⟩
  | tup ne e a => exact .inr ⟨_, _, rfl, ne, .inl e, ⟨_, _, a, by omega⟩, by omega⟩
end
section
variable {P : Program} {w : World} {K : PySem.W.Frag} {mg : Str → Option Value} {base : Heap}
/-! bent_text -/
def sp_bent_text : Sp := fun vs H Q _ => ∃ (s l : Addr) (t : Str), vs = [.ref s, .str t] ∧ Sto s l H ∧ t.length ≤ 1000000 ∧ ∀ z H', Ge s l H H' → z.length ≤ 4 * t.length + 2 → (Vis t → Vis z) → Q (.str z) H'
theorem one_vis {c : Nat} {z : Str} (h : c ∈ z.cps.toList) (v : Vis z) : Vis ⟨#[c]⟩ := fun x hx => by
  have : x = c := by simpa using hx
  rw [this]; exact v c h
theorem picked_vis : ((PySem.Str.ofString "() 0123456789-+,\nae" : Str).cps.toList.all fun c => decide (c = 10 ∨ (32 ≤ c ∧ c < 127))) = true ∧ 0 < (PySem.Str.ofString "() 0123456789-+,\nae" : Str).length ∧ (PySem.Str.ofString "() 0123456789-+,\nae" : Str).length ≤ 1000 := by decide +kernel
abbrev st_law_bent_text : Stmt := topS 22
theorem sc_law_bent_text : FnScope ["store", "text", "pick", "sign", "at"] ["store", "text"] (defScope st_law_bent_text) := ⟨rfl, rfl, rfl, by decide +kernel, rfl, by decide +kernel, by decide +kernel⟩
theorem ok_law_bent_text (D : Df K mg "_law_bent_text" st_law_bent_text) (T : NoB mg) (C_law_pickS : Cl P w K mg base 3 "_law_pick" ["store", "things"] sp_pickS) (C_law_place : Cl P w K mg base 3 "_law_place" ["store", "size"] sp_place) (C_law_sign : Cl P w K mg base 3 "_law_sign" ["store"] sp_sign) (C_law_take : Cl P w K mg base 2 "_law_take" ["store", "many"] sp_take) : Cl P w K mg base 6 "_law_bent_text" ["store", "text"] sp_bent_text := by
  refine cl_of D sc_law_bent_text (fun _ _ _ _ _ _ us hl => match us, hl with | [_, _], _ => rfl) (fun vs H Q E h => ?_) (fun f cdv A outer sh H vs Q E hr h => ?_)
  · obtain ⟨_, _, _, rfl, _⟩ := h; rfl
  obtain ⟨s, l, t, rfl, st, ht, k⟩ := h
  refine ⟨_, (pss_cons (ps_set (i := 2) sc_law_bent_text.nd rfl (Or.inl rfl) (pe_cl C_law_take hr (by rfl) (pa_cons (pv 0) (pa_cons pe_int pa_nil))))
    (pss_cons (ps_set (i := 3) sc_law_bent_text.nd rfl (Or.inl rfl) (pe_cl C_law_sign hr (by rfl) (pa_cons (pv 0) pa_nil)))
    (pss_cons (ps_if (pt_cmpR op_gt (pe_cl C_law_take hr (by rfl) (pa_cons (pv 0) (pa_cons pe_int pa_nil))) pe_int (nomark _)) (pss_one (ps_set (i := 3) sc_law_bent_text.nd rfl (Or.inl rfl) (pe_cl C_law_pickS hr (by rfl) (pa_cons (pv 0) (pa_cons pe_str pa_nil))))) pss_nil)
    (pss_cons (ps_if (pt_cmpR op_eq (pv 2) pe_int (nomark _)) (pss_one (ps_ret (pe_op op_add_str (pv 1) pe_str))) pss_nil)
    (pss_cons (ps_if (PW.pt (pw_or (pt_cmpR op_eq (pv 2) pe_int (nomark _)) (pw_or1 (pt_cmpR op_eq (pv 1) pe_str (nomark _))))) (pss_one (ps_ret (pe_op op_add_str (pv 1) (pv 3)))) pss_nil)
    (pss_cons (ps_set (i := 4) sc_law_bent_text.nd rfl (Or.inl rfl) (pe_cl C_law_place hr (by rfl) (pa_cons (pv 0) (pa_cons (pe_callB call_len_str (by rfl) T.no_len (by decide +kernel) (pa_cons (pv 1) pa_nil)) pa_nil))))
    (pss_cons (ps_if (pt_cmpR op_eq (pv 2) pe_int (nomark _)) (pss_one (ps_ret (pe_op op_add_str (pe_slice sl_str (pv 1) po_none (po_some (pv 4))) (pe_slice sl_str (pv 1) (po_some (pe_op op_add (pv 4) pe_int)) po_none)))) pss_nil)
    (pss_cons (ps_if (pt_cmpR op_eq (pv 2) pe_int (nomark _)) (pss_one (ps_ret (pe_op op_add_str (pe_op op_add_str (pe_slice sl_str (pv 1) po_none (po_some (pv 4))) (pe_ix ix_str (pv 1) (pv 4) (fun _ _ => rfl))) (pe_slice sl_str (pv 1) (po_some (pv 4)) po_none)))) pss_nil)
    (pss_cons (ps_if (pt_cmpR op_eq (pv 2) pe_int (nomark _)) (pss_one (ps_ret (pe_op op_add_str (pe_op op_add_str (pe_op op_add_str (pe_slice sl_str (pv 1) po_none (po_some (pv 4))) (pe_slice sl_str (pv 1) (po_some (pe_op op_add (pv 4) pe_int)) (po_some (pe_op op_add (pv 4) pe_int)))) (pe_ix ix_str (pv 1) (pv 4) (fun _ _ => rfl))) (pe_slice sl_str (pv 1) (po_some (pe_op op_add (pv 4) pe_int)) po_none)))) pss_nil)
    (pss_cons (ps_if (pt_cmpR op_eq (pv 2) pe_int (nomark _)) (pss_one (ps_ret (pe_slice sl_str (pv 1) po_none (po_some (pv 4))))) pss_nil)
    (pss_cons (ps_if (pt_cmpR op_eq (pv 2) pe_int (nomark _)) (pss_one (ps_ret (pe_op op_add_str (pe_op op_add_str (pe_slice sl_str (pv 1) po_none (po_some (pv 4))) (pv 3)) (pe_slice sl_str (pv 1) (po_some (pv 4)) po_none)))) pss_nil)
    (pss_one (ps_ret (pe_op op_add_str (pe_op op_add_str (pe_slice sl_str (pv 1) po_none (po_some (pv 4))) (pv 3)) (pe_slice sl_str (pv 1) (po_some (pe_op op_add (pv 4) pe_int)) po_none))))))))))))))), ?_⟩
  walk_at "sq"
  refine ⟨s, l, _, rfl, by decide, st, fun pk H1 g1 r0 r1 r2 => ?_⟩
  walk_at "sq"
  refine ⟨s, l, rfl, g1.st, fun sg H2 g2 z1 z2 => ?_⟩
  have g2' := g1.trans g2
  refine seq_join (fun σ H' => ∃ sg, σ = [some (.ref s), some (.str t), some (.int pk), some (.str sg), none] ∧ Ge s l H H' ∧ sg.length = 1 ∧ Vis sg) (fun N hN => ?_) ?_
  · walk_at "wq"
    refine ⟨s, l, _, rfl, by decide, g2.st, fun r H3 g3 q0 q1 q2 => ?_⟩
    walk_at "wn"
    split
    · refine ⟨s, l, _, rfl, g3.st, picked_vis.2.1, picked_vis.2.2, fun c H4 g4 hc => ?_⟩
      exact hN _ _ ⟨_, rfl, (g2'.trans g3).trans g4, rfl, one_vis hc fun x hx => of_decide_eq_true (List.all_eq_true.mp picked_vis.1 x hx)⟩
    · exact hN _ _ ⟨_, rfl, g2'.trans g3, z1, z2⟩
  · clear z1 z2
    rintro _ H3 ⟨sg, rfl, g3, z1, z2⟩
    walk_at "sq"
    have hlf : (Str.ofString "\n").length = 1 ∧ Vis (Str.ofString "\n") := ⟨by decide +kernel, fun c hc => by
      have : ∀ c ∈ (Str.ofString "\n").cps.toList, c = 10 := by decide +kernel
      exact .inl (this c hc)⟩
    split
    · exact ⟨szl (by omega), k _ _ g3 (by rw [len_app]; omega) fun v => v.app hlf.2⟩
    walk_at "sq"
    have app1 : t.length + sg.length ≤ sizeLine ∧ Q (V.str (t ++ sg)) H3 := ⟨szl (by omega), k _ _ g3 (by rw [len_app]; omega) fun v => v.app z2⟩
    split
    · exact ⟨szl (by omega), app1.2⟩
    split
    · exact ⟨szl (by omega), app1.2⟩
    rename_i hne
    have hpos : 0 < t.length := by
      rcases Nat.eq_zero_or_pos t.length with z | z
      · refine absurd ?_ hne
        obtain ⟨c⟩ := t
        have : c = #[] := Array.size_eq_zero_iff.mp z
        rw [this]; decide +kernel
      · exact z
    walk_at "sq"
    refine ⟨szl (by omega), s, l, _, rfl, g3.st, by omega, by omega, fun at_ H4 g4 a0 a1 => ?_⟩
    have g4' := g3.trans g4
    have hc : ∀ lo hi, (cutS t lo hi).length ≤ t.length := fun lo hi => cut_le t lo hi
    have hch : at_.toNat < t.cps.toList.length := by rw [len_tl]; omega
    have hat : atI t.cps.toList at_ = some t.cps.toList[at_.toNat] := atI_of a0 (by simp [hch])
    have h1 : ∀ c : Nat, (⟨#[c]⟩ : Str).length = 1 := fun c => rfl
    have hvc : Vis t → Vis ⟨#[t.cps.toList[at_.toNat]]⟩ := one_vis (List.getElem_mem hch)
    have hl : t.length ≤ sizeLine := szl (by omega)
    walk_at "sq"
    split
    · refine ⟨szl (by have := hc none (some at_); have := hc (some (at_ + 1)) none; omega), k _ _ g4' (by rw [len_app]; have := hc none (some at_); have := hc (some (at_ + 1)) none; omega) fun v => (v.cut _ _).app (v.cut _ _)⟩
    walk_at "sq"
    have c1 := hc none (some at_)
    have c2 := hc (some at_) none
    have c3 := hc (some (at_ + 1)) (some (at_ + 2))
    have c4 := hc (some (at_ + 2)) none
    have c5 := hc (some (at_ + 1)) none
    split
    · refine ⟨szl (by first | omega | (rw [h1]; omega)), szl (by rw [len_app]; first | omega | (rw [h1]; omega)), k _ _ g4' (by rw [len_app, len_app]; first | omega | (rw [h1]; omega)) fun v => ((v.cut _ _).app (hvc v)).app (v.cut _ _)⟩
    walk_at "sq"
    split
    · refine ⟨szl (by omega), szl (by rw [len_app]; first | omega | (rw [h1]; omega)), szl (by rw [len_app, len_app]; first | omega | (rw [h1]; omega)), k _ _ g4' (by rw [len_app, len_app, len_app]; first | omega | (rw [h1]; omega)) fun v => (((v.cut _ _).app (v.cut _ _)).app (hvc v)).app (v.cut _ _)⟩
    walk_at "sq"
    split
    · exact k _ _ g4' (by omega) fun v => v.cut _ _
    walk_at "sq"
    split
    · refine ⟨szl (by omega), szl (by rw [len_app]; omega), k _ _ g4' (by rw [len_app, len_app]; omega) fun v => ((v.cut _ _).app z2).app (v.cut _ _)⟩
    walk_at "wq"
    refine ⟨szl (by omega), szl (by rw [len_app]; omega), k _ _ g4' (by rw [len_app, len_app]; omega) fun v => ((v.cut _ _).app z2).app (v.cut _ _)⟩
/-! bent_leaf -/
def sp_bent_leaf : Sp := fun vs H Q _ => ∃ (s l : Addr) (E : List Addr) (v : V) (d : PyData) (n : Nat), vs = [.ref s, v] ∧ Sto s l H ∧ Lv E H ∧ s ∈ E ∧ Lf v d n ∧ n ≤ 1000000 ∧ ∀ u H', Ge s l H H' → Db E H' (4 * n + 40) u → Q u H'
abbrev st_law_bent_leaf : Stmt := topS 23
theorem sc_law_bent_leaf : FnScope ["store", "leaf", "pick"] ["store", "leaf"] (defScope st_law_bent_leaf) := ⟨rfl, rfl, rfl, by decide +kernel, rfl, by decide +kernel, by decide +kernel⟩
theorem ok_law_bent_leaf (D : Df K mg "_law_bent_leaf" st_law_bent_leaf) (T : NoB mg) (C_law_bent_text : Cl P w K mg base 6 "_law_bent_text" ["store", "text"] sp_bent_text) (C_law_take : Cl P w K mg base 2 "_law_take" ["store", "many"] sp_take) (C_law_whole : Cl P w K mg base 4 "_law_whole" ["store"] sp_whole) : Cl P w K mg base 7 "_law_bent_leaf" ["store", "leaf"] sp_bent_leaf := by
  refine cl_of D sc_law_bent_leaf (fun _ _ _ _ _ _ us hl => match us, hl with | [_, _], _ => rfl) (fun vs H Q E h => ?_) (fun f cdv A outer sh H vs Q E hr h => ?_)
  · obtain ⟨_, _, _, _, _, _, rfl, _⟩ := h; rfl
  obtain ⟨s, l, E, v, d, n, rfl, st, lv, hsE, hv, hn, k⟩ := h
  have hpos := hv.pos
  refine ⟨_, (pss_cons (ps_set (i := 2) sc_law_bent_leaf.nd rfl (Or.inl rfl) (pe_cl C_law_take hr (by rfl) (pa_cons (pv 0) (pa_cons pe_int pa_nil))))
    (pss_cons (ps_if (pt_cmpR op_eq (pv 2) pe_int (nomark _)) (pss_one (ps_ret pe_non)) pss_nil)
    (pss_cons (ps_if (pt_cmpR op_eq (pv 2) pe_int (nomark _)) (pss_one (ps_ret (pe_tup (pa_cons (pv 1) pa_nil)))) pss_nil)
    (pss_cons (ps_if (pt_val (pe_callB isi1 (by rfl) T.no_isinstance (by decide +kernel) (pa_cons (pv 1) (pa_cons (pe_bltn (by rfl) T.no_str (by decide +kernel) (show RelV (.ty "str") _ from rfl)) pa_nil)))) (pss_one (ps_ret (pe_cl C_law_bent_text hr (by rfl) (pa_cons (pv 0) (pa_cons (pv 1) pa_nil))))) pss_nil)
    (pss_cons (ps_if (PW.pt (pw_or (pt_cmpR op_isN (pv 1) pe_non (nomark _)) (pw_or (pt_cmpR op_isTF (pv 1) pe_bl (nomark _)) (pw_or1 (pt_cmpR op_isTF (pv 1) pe_bl (nomark _)))))) (pss_one (ps_ret (pe_cl C_law_take hr (by rfl) (pa_cons (pv 0) (pa_cons pe_int pa_nil))))) pss_nil)
    (pss_cons (ps_if (pt_cmpR op_eq (pv 2) pe_int (nomark _)) (pss_one (ps_ret (pe_cmpR op_ne (pv 1) pe_int (nomark _)))) pss_nil)
    (pss_cons (ps_if (pt_cmpR op_eq (pv 2) pe_int (nomark _)) (pss_one (ps_ret (pe_callTy call_str_int (by rfl) T.no_str (by decide +kernel) (pa_cons (pe_op op_modN (pe_callTy int1 (by rfl) T.no_int (by decide +kernel) (pa_cons (pv 1) pa_nil)) (pe_op op_pow pe_int pe_int)) pa_nil)))) pss_nil)
    (pss_cons (ps_if (pt_cmpR op_eq (pv 2) pe_int (nomark _)) (pss_one (ps_ret (pe_op op_add pe_int (pe_cl C_law_take hr (by rfl) (pa_cons (pv 0) (pa_cons pe_int pa_nil)))))) pss_nil)
    (pss_cons (ps_if (pt_cmpR op_eq (pv 2) pe_int (nomark _)) (pss_one (ps_ret (pe_cl C_law_whole hr (by rfl) (pa_cons (pv 0) pa_nil)))) pss_nil)
    (pss_one (ps_ret (pe_op op_sub (pe_op op_add (pe_op op_modN (pe_callTy int1 (by rfl) T.no_int (by decide +kernel) (pa_cons (pv 1) pa_nil)) (pe_op op_pow pe_int pe_int)) pe_int) (pe_op op_mul pe_int (pe_cl C_law_take hr (by rfl) (pa_cons (pv 0) (pa_cons pe_int pa_nil)))))))))))))))), ?_⟩
  walk_at "sq"
  refine ⟨s, l, _, rfl, by decide, st, fun pk H1 g1 r0 r1 r2 => ?_⟩
  walk_at "sq"
  split
  · exact k _ _ g1 (.non (by omega))
  walk_at "sq"
  split
  · refine ⟨szl (by decide), fun q H2 n2 => k _ _ (g1.new n2) ?_⟩
    exact ((hv.db (E := E) (H := H2) (Nat.le_refl _)).tup1 ((lv.ge g1).out n2.fr) n2.at_).le (by omega)
  walk_at "sq"
  have tk : sp_take [.ref s, .int 3] H1 Q E0 := ⟨s, l, _, rfl, by decide, g1.st, fun r H2 g2 q0 q1 q2 => k _ _ (g1.trans g2) (.int _ (by omega))⟩
  cases hv with
  | str z =>
    walk_at "wps"
    exact ⟨s, l, z, rfl, g1.st, by omega, fun z' H2 g2 hz _ => k _ _ (g1.trans g2) (.str (by omega))⟩
  | non => walk_at "wps"
  | bl b => cases b <;> walk_at "wps"
  | int i =>
    walk_at "wps"
    split
    · exact k _ _ g1 (.bl _ (by omega))
    have hb := fm_bound (x := i) (m := 10 ^ 29) (by decide)
    split
    · refine ⟨⟨by decide, by decide, by decide⟩, by decide, ?_⟩
      have e29 : (10 : Int) ^ Int.toNat 29 = 10 ^ 29 := rfl
      rw [e29]
      refine ⟨Nat.lt_trans (PySem.Flt.log2_lt_of (n := (i.fmod (10 ^ 29)).natAbs) (k := 100) (by decide) (by omega)) (by decide), k _ _ g1 (.str ?_)⟩
      have := str_len10 (a := i.fmod (10 ^ 29)) (k := 29) (by decide) (by omega)
      have e : (toString (i.fmod (10 ^ 29)) : Str).length ≤ 30 := this
      omega
    split
    · refine ⟨s, l, _, rfl, by decide, g1.st, fun r H2 g2 q0 q1 q2 => ?_⟩
      walk_at "wps"
      exact k _ _ (g1.trans g2) (.int _ (by omega))
    split
    · exact ⟨s, l, rfl, g1.st, fun r H2 g2 _ _ => k _ _ (g1.trans g2) (.int _ (by omega))⟩
    · refine ⟨⟨by decide, by decide, by decide⟩, by decide, s, l, _, rfl, by decide, g1.st, fun r H2 g2 q0 q1 q2 => ?_⟩
      have := q1 (by decide)
      walk_at "wps"
      refine ⟨.inl (by decide), k _ _ (g1.trans g2) (.int _ (by omega))⟩
end

/-! ## T9 -/

theorem seq_ty {s l a : Addr} {H : Hp} {xs : List V} (hs : a ≠ s) (h : H a = some (.tup xs) ∨ H a = some (.lst xs)) : ∃ t r, kitB t "tuple" = some r ∧ kitB t "list" = some (!r) ∧ ∀ H', Ge s l H H' → tyN H' (.ref a) = some t := by
  rcases h with h | h
  · exact ⟨"tuple", true, by decide +kernel, by decide +kernel, fun H' g => ty_t (g.k hs h)⟩
  · exact ⟨"list", false, by decide +kernel, by decide +kernel, fun H' g => ty_l (g.k hs h)⟩
theorem sq_of {a : Addr} {H : Hp} {xs : List V} (h : H a = some (.tup xs) ∨ H a = some (.lst xs)) : sq H a = some xs := by
  rcases h with h | h
  · exact sq_t h
  · exact sq_l h
theorem or_ge {s l a : Addr} {H H' : Hp} {xs : List V} (hs : a ≠ s) (g : Ge s l H H') (h : H a = some (.tup xs) ∨ H a = some (.lst xs)) : H' a = some (.tup xs) ∨ H' a = some (.lst xs) := by
  rcases h with h | h
  · exact .inl (g.k hs h)
  · exact .inr (g.k hs h)
section
variable {P : Program} {w : World} {K : PySem.W.Frag} {mg : Str → Option Value} {base : Heap}
/-! bent_part -/
def sp_bent_part : Sp := fun vs H Q _ => ∃ (s l a : Addr) (E : List Addr) (xs : List V) (n : Nat), vs = [.ref s, .ref a] ∧ Sto s l H ∧ Lv E H ∧ s ∈ E ∧ a ∉ E ∧ (H a = some (.tup xs) ∨ H a = some (.lst xs)) ∧ Dl E H n xs ∧ n ≤ 1000000 ∧ ∀ u H', Ge s l H H' → Db E H' (4 * n + 8) u → Q u H'
abbrev st_law_bent_part : Stmt := topS 24
theorem sc_law_bent_part : FnScope ["store", "part", "entries", "pick", "at"] ["store", "part"] (defScope st_law_bent_part) := ⟨rfl, rfl, rfl, by decide +kernel, rfl, by decide +kernel, by decide +kernel⟩
theorem ok_law_bent_part (D : Df K mg "_law_bent_part" st_law_bent_part) (T : NoB mg) (C_law_leaf : Cl P w K mg base 5 "_law_leaf" ["store"] sp_leaf) (C_law_place : Cl P w K mg base 3 "_law_place" ["store", "size"] sp_place) (C_law_take : Cl P w K mg base 2 "_law_take" ["store", "many"] sp_take) : Cl P w K mg base 6 "_law_bent_part" ["store", "part"] sp_bent_part := by
  refine cl_of D sc_law_bent_part (fun _ _ _ _ _ _ us hl => match us, hl with | [_, _], _ => rfl) (fun vs H Q E h => ?_) (fun f cdv A outer sh H vs Q E hr h => ?_)
  · obtain ⟨_, _, _, _, _, _, rfl, _⟩ := h; rfl
  obtain ⟨s, l, a, E, xs, n, rfl, st, lv, hsE, haE, ha, hd, hn, k⟩ := h
  have has : a ≠ s := fun z => haE (z ▸ hsE)
  have hlen := hd.len
  obtain ⟨ty, r, kr, _, hty⟩ := seq_ty (s := s) (l := l) has ha
  have qa := sq_of ha
  refine ⟨_, (pss_cons (ps_set (i := 2) sc_law_bent_part.nd rfl (Or.inl rfl) (pe_callTy lst1 (by rfl) T.no_list (by decide +kernel) (pa_cons (pv 1) pa_nil)))
    (pss_cons (ps_set (i := 3) sc_law_bent_part.nd rfl (Or.inl rfl) (pe_cl C_law_take hr (by rfl) (pa_cons (pv 0) (pa_cons pe_int pa_nil))))
    (pss_cons (ps_if (pt_cmpR op_eq (pv 3) pe_int (nomark _)) (pss_cons (ps_if (pt_val (pe_callB isi1 (by rfl) T.no_isinstance (by decide +kernel) (pa_cons (pv 1) (pa_cons (pe_bltn (by rfl) T.no_tuple (by decide +kernel) (show RelV (.ty "tuple") _ from rfl)) pa_nil)))) (pss_one (ps_ret (pv 2))) pss_nil)
    (pss_one (ps_ret (pe_callTy tup1 (by rfl) T.no_tuple (by decide +kernel) (pa_cons (pv 2) pa_nil))))) pss_nil)
    (pss_cons (ps_set (i := 4) sc_law_bent_part.nd rfl (Or.inl rfl) (pe_cl C_law_place hr (by rfl) (pa_cons (pv 0) (pa_cons (pe_op op_add (pe_callB len1 (by rfl) T.no_len (by decide +kernel) (pa_cons (pv 2) pa_nil)) pe_int) pa_nil))))
    (pss_cons (ps_if (pt_cmpR op_eq (pv 3) pe_int (nomark _)) (pss_one (ps_set (i := 2) sc_law_bent_part.nd rfl (Or.inl rfl) (pe_lst pa_nil))) (pss_one (ps_if (pt_cmpR op_eq (pv 3) pe_int (nomark _)) (pss_one (ps_set (i := 2) sc_law_bent_part.nd rfl (Or.inl rfl) (pe_revL (pv 2)))) (pss_one (ps_if (pt_cmpR op_lt (pv 3) pe_int (nomark _)) (pss_one (ps_set (i := 2) sc_law_bent_part.nd rfl (Or.inl rfl) (pe_op op_cat (pe_slice sl_list (pv 2) po_none (po_some (pv 4))) (pe_slice sl_list (pv 2) (po_some (pe_op op_add (pv 4) pe_int)) po_none)))) (pss_one (ps_if (pt_cmpR op_eq (pv 3) pe_int (nomark _)) (pss_one (ps_set (i := 2) sc_law_bent_part.nd rfl (Or.inl rfl) (pe_op op_cat (pe_op op_cat (pe_slice sl_list (pv 2) po_none (po_some (pv 4))) (pe_slice sl_list (pv 2) (po_some (pv 4)) (po_some (pe_op op_add (pv 4) pe_int)))) (pe_slice sl_list (pv 2) (po_some (pv 4)) po_none)))) (pss_one (ps_if (pt_cmpR op_eq (pv 3) pe_int (nomark _)) (pss_one (ps_set (i := 2) sc_law_bent_part.nd rfl (Or.inl rfl) (pe_op op_cat (pe_op op_cat (pe_op op_cat (pe_slice sl_list (pv 2) po_none (po_some (pv 4))) (pe_slice sl_list (pv 2) (po_some (pe_op op_add (pv 4) pe_int)) (po_some (pe_op op_add (pv 4) pe_int)))) (pe_slice sl_list (pv 2) (po_some (pv 4)) (po_some (pe_op op_add (pv 4) pe_int)))) (pe_slice sl_list (pv 2) (po_some (pe_op op_add (pv 4) pe_int)) po_none)))) (pss_one (ps_expr (pe_bm PySem.F.plainAttrs_list PySem.F.slot_list_insert PySem.F.type_list_insert ins1 (pv 2) (pa_cons (pv 4) (pa_cons (pe_cl C_law_leaf hr (by rfl) (pa_cons (pv 0) pa_nil)) pa_nil))))))))))))))
    (pss_cons (ps_if (pt_val (pe_callB isi1 (by rfl) T.no_isinstance (by decide +kernel) (pa_cons (pv 1) (pa_cons (pe_bltn (by rfl) T.no_tuple (by decide +kernel) (show RelV (.ty "tuple") _ from rfl)) pa_nil)))) (pss_one (ps_ret (pe_callTy tup1 (by rfl) T.no_tuple (by decide +kernel) (pa_cons (pv 2) pa_nil)))) pss_nil)
    (pss_one (ps_ret (pv 2))))))))), ?_⟩
  walk_at "sq"
  refine fun im H1 n1 => ?_
  have g1 := (Ge.refl st).new n1
  have him := n1.fr
  have e1 := n1.at_
  walk_at "sq"
  refine ⟨s, l, _, rfl, by decide, g1.st, fun pk H2 g12 r0 r1 r2 => ?_⟩
  have g2 := g1.trans g12
  have e2 := g12.at st him e1
  have q2 := sq_l e2
  have t2 := hty H2 g2
  walk_at "sq"
  split
  · walk_at "wps"
    cases r with
    | true =>
      rw [if_pos rfl]
      exact k _ _ g2 (((hd.ge g2 hsE).db (lv.out him) (.inr e2)).le (by omega))
    | false =>
      rw [if_neg (by decide)]
      exact fun q H3 n3 => k _ _ (g2.new n3) ((((hd.ge g2 hsE).same n3.same).db ((lv.ge g2).out n3.fr) (.inl n3.at_)).le (by omega))
  walk_at "sq"
  refine ⟨s, l, _, rfl, g2.st, by omega, by omega, fun at_ H3 g23 a0 a1 => ?_⟩
  have g3 := g2.trans g23
  have e3 := g23.at st him e2
  refine seq_join (fun σ H' => ∃ im ys, σ = [some (.ref s), some (.ref a), some (.ref im), some (.int pk), some (.int at_)] ∧ Ge s l H H' ∧ H im = none ∧ H' im = some (.lst ys) ∧ Dl E H' (4 * n + 7) ys) (fun N hN => ?_) ?_
  · have hd3 := hd.ge g3 hsE
    have cat : ∀ (H4 : Hp) (p q : Addr) (ys zs : List V) (b c : Nat) (R : Addr → Hp → Prop), Ge s l H H4 → H4 p = some (.lst ys) → H4 q = some (.lst zs) → Dl E H4 b ys → Dl E H4 c zs → b + c ≤ 4 * n + 7 →
        (∀ u H5, Ge s l H H5 → Same H4 H5 → H u = none → H5 u = some (.lst (ys ++ zs)) → Dl E H5 (b + c) (ys ++ zs) → R u H5) → ∃ xs, H4 p = some (.lst xs) ∧ ∃ zs, H4 q = some (.lst zs) ∧ xs.length + zs.length ≤ sizeLine ∧ Nw H4 (.lst (xs ++ zs)) R := by
      intro H4 p q ys zs b c R g4 ep eq db dc hbc hR
      have := db.len
      have := dc.len
      exact ⟨ys, ep, zs, eq, szl (by omega), fun u H5 n5 => hR u H5 (g4.new n5) n5.same (g4.fr n5.fr) n5.at_ ((db.app dc).same n5.same)⟩
    have cut : ∀ (H4 : Hp) (lo hi : Option Int) (R : Addr → Hp → Prop), Ge s l H H4 → H4 im = some (.lst xs) → (∀ u H5, Ge s l H H5 → Same H4 H5 → H u = none → H5 im = some (.lst xs) → H5 u = some (.lst (cutV xs lo hi)) → Dl E H5 n (cutV xs lo hi) → R u H5) → ∃ xs, SqL K H4 im xs ∧ Nw H4 (.lst (cutV xs lo hi)) R := by
      intro H4 lo hi R g4 ei hR
      exact ⟨xs, SqL.of ei, fun u H5 n5 => hR u H5 (g4.new n5) n5.same (g4.fr n5.fr) (n5.k ei) n5.at_ (((hd.ge g4 hsE).same n5.same).sl (cutV_sub _ _ _))⟩
    have don : ∀ (u : Addr) (H5 : Hp) (ys : List V) (b : Nat), Ge s l H H5 → H u = none → H5 u = some (.lst ys) → Dl E H5 b ys → b ≤ 4 * n + 7 → N [some (.ref s), some (.ref a), some (.ref u), some (.int pk), some (.int at_)] H5 := fun u H5 ys b g5 hu e5 d5 hb => hN _ _ ⟨u, ys, rfl, g5, hu, e5, d5.le hb⟩
    walk_at "wn"
    split
    · exact ⟨szl (by decide), fun u H4 n4 => don u H4 [] 0 (g3.new n4) (g3.fr n4.fr) n4.at_ .nil (by omega)⟩
    split
    · exact ⟨xs, SqL.of e3, fun u H4 n4 => don u H4 _ n (g3.new n4) (g3.fr n4.fr) n4.at_ ((hd3.same n4.same).rev) (by omega)⟩
    split
    · refine cut H3 _ _ _ g3 e3 fun u4 H4 g4 s4 f4 ei4 ep4 d4 => ?_
      walk_at "wn"
      refine cut H4 _ _ _ g4 ei4 fun u5 H5 g5 s5 f5 ei5 ep5 d5 => ?_
      walk_at "wn"
      refine cat H5 u4 u5 _ _ n n _ g5 (s5 _ _ ep4) ep5 (d4.same s5) d5 (by omega) fun u6 H6 g6 s6 f6 ep6 d6 => ?_
      exact don _ _ _ _ g6 f6 ep6 d6 (by omega)
    split
    · refine cut H3 _ _ _ g3 e3 fun u4 H4 g4 s4 f4 ei4 ep4 d4 => ?_
      walk_at "wn"
      refine cut H4 _ _ _ g4 ei4 fun u5 H5 g5 s5 f5 ei5 ep5 d5 => ?_
      walk_at "wn"
      refine cat H5 u4 u5 _ _ n n _ g5 (s5 _ _ ep4) ep5 (d4.same s5) d5 (by omega) fun u6 H6 g6 s6 f6 ep6 d6 => ?_
      walk_at "wn"
      refine cut H6 _ _ _ g6 (s6 _ _ ei5) fun u7 H7 g7 s7 f7 ei7 ep7 d7 => ?_
      walk_at "wn"
      refine cat H7 u6 u7 _ _ (n + n) n _ g7 (s7 _ _ ep6) ep7 (d6.same s7) d7 (by omega) fun u8 H8 g8 s8 f8 ep8 d8 => ?_
      exact don _ _ _ _ g8 f8 ep8 d8 (by omega)
    split
    · refine cut H3 _ _ _ g3 e3 fun u4 H4 g4 s4 f4 ei4 ep4 d4 => ?_
      walk_at "wn"
      refine cut H4 _ _ _ g4 ei4 fun u5 H5 g5 s5 f5 ei5 ep5 d5 => ?_
      walk_at "wn"
      refine cat H5 u4 u5 _ _ n n _ g5 (s5 _ _ ep4) ep5 (d4.same s5) d5 (by omega) fun u6 H6 g6 s6 f6 ep6 d6 => ?_
      walk_at "wn"
      refine cut H6 _ _ _ g6 (s6 _ _ ei5) fun u7 H7 g7 s7 f7 ei7 ep7 d7 => ?_
      walk_at "wn"
      refine cat H7 u6 u7 _ _ (n + n) n _ g7 (s7 _ _ ep6) ep7 (d6.same s7) d7 (by omega) fun u8 H8 g8 s8 f8 ep8 d8 => ?_
      walk_at "wn"
      refine cut H8 _ _ _ g8 (s8 _ _ ei7) fun u9 H9 g9 s9 f9 ei9 ep9 d9 => ?_
      walk_at "wn"
      refine cat H9 u8 u9 _ _ (n + n + n) n _ g9 (s9 _ _ ep8) ep9 (d8.same s9) d9 (by omega) fun u10 H10 g10 s10 f10 ep10 d10 => ?_
      exact don _ _ _ _ g10 f10 ep10 d10 (by omega)
    · refine ⟨tyl e3, s, l, rfl, g3.st, fun v d c H4 g34 h1 h2 _ => ?_⟩
      have e4 := g34.at st him e3
      have g4 := g3.trans g34
      walk_at "wn"
      refine ⟨xs, e4, szl' (by omega), a0, by omega, fun H5 n5 => ?_⟩
      have d5 : Dl E H5 n xs := (((hd.fresh him).ge g4 (by simp [hsE])).put n5 (by simp)).sub (fun z hz => by simp [hz])
      refine don _ _ _ (n + 7 + n) (g4.put st him n5) him n5.at_ ?_ (by omega)
      exact ((d5.sl (List.take_sublist _ _)).app (.one (h1.db h2))).app (d5.sl (List.drop_sublist _ _))
  · rintro _ H4 ⟨u, ys, rfl, g4, fu, eu, du⟩
    have t4 := hty H4 g4
    walk_at "sq"
    cases r with
    | true =>
      rw [if_pos rfl]
      exact fun q H5 n5 => k _ _ (g4.new n5) ((du.same n5.same).db ((lv.ge g4).out n5.fr) (.inl n5.at_))
    | false =>
      rw [if_neg (by decide)]
      walk_at "wq"
      exact k _ _ g4 (du.db (lv.out fu) (.inr eu))
/-! bent -/
/-- the way down: at each step a seq and a place in it -/
def PathOk (E : List Addr) (H : Hp) (n : Nat) (x : V) : Prop := ∃ t h xs, ∃ i : Nat, x = .ref t ∧ H t = some (.tup [.ref h, .int i]) ∧ h ∉ E ∧ (H h = some (.tup xs) ∨ H h = some (.lst xs)) ∧ Dl E H n xs ∧ i < xs.length
theorem PathOk.keep {E : List Addr} {H H' : Hp} {n : Nat} {x : V} (p : PathOk E H n x) (k : ∀ a xs, H a = some (.tup xs) → H' a = some (.tup xs)) (k2 : ∀ a o, a ∉ E → H a = some o → H' a = some o) : PathOk E H' n x := by
  obtain ⟨t, h, xs, i, rfl, e, hE, q, d, hi⟩ := p
  obtain ⟨ds, m, h1, h2⟩ := d
  refine ⟨t, h, xs, i, rfl, k _ _ e, hE, ?_, ⟨ds, m, h1.kp k2, h2⟩, hi⟩
  rcases q with q | q
  · exact .inl (k2 _ _ hE q)
  · exact .inr (k2 _ _ hE q)
theorem PathOk.ge {E : List Addr} {H H' : Hp} {n : Nat} {x : V} {s l : Addr} (p : PathOk E H n x) (st : Sto s l H) (g : Ge s l H H') (hs : s ∈ E) : PathOk E H' n x := by
  obtain ⟨ns, i1, i2, i3, i4, i5, i6, h1, _⟩ := st
  exact p.keep (fun a xs e => g.k (ne_of e h1 (by intro z; cases z)) e) fun a o ha e => g.k (fun z => ha (z ▸ hs)) e
theorem PathOk.same {E : List Addr} {H H' : Hp} {n : Nat} {x : V} (p : PathOk E H n x) (g : Same H H') : PathOk E H' n x := p.keep (fun a xs e => g _ _ e) fun a o _ e => g _ _ e
theorem PathOk.put {E : List Addr} {H H' : Hp} {n : Nat} {x : V} {q : Addr} {ys : List V} {o : HO} (p : PathOk E H n x) (hq : H q = some (.lst ys)) (g : Put H q o H') (hs : q ∈ E) : PathOk E H' n x :=
  p.keep (fun a xs e => g.k (ne_of e hq (by intro z; cases z)) e) fun a o ha e => g.k (fun z => ha (z ▸ hs)) e
def sp_bent : Sp := fun vs H Q _ => ∃ (s l : Addr) (E : List Addr) (v : V) (n : Nat), vs = [.ref s, v] ∧ Sto s l H ∧ Lv E H ∧ s ∈ E ∧ Db E H n v ∧ n ≤ 100000 ∧ ∀ u H', Ge s l H H' → Db E H' (9 * n + 50) u → Q u H'
abbrev st_law_bent : Stmt := topS 25
theorem sc_law_bent : FnScope ["store", "value", "path", "here", "k", "at", "step", "entries"] ["store", "value"] (defScope st_law_bent) := ⟨rfl, rfl, rfl, by decide +kernel, rfl, by decide +kernel, by decide +kernel⟩
theorem ok_law_bent (D : Df K mg "_law_bent" st_law_bent) (T : NoB mg) (C_law_bent_leaf : Cl P w K mg base 7 "_law_bent_leaf" ["store", "leaf"] sp_bent_leaf) (C_law_bent_part : Cl P w K mg base 6 "_law_bent_part" ["store", "part"] sp_bent_part) (C_law_place : Cl P w K mg base 3 "_law_place" ["store", "size"] sp_place) (C_law_take : Cl P w K mg base 2 "_law_take" ["store", "many"] sp_take) : Cl P w K mg base 8 "_law_bent" ["store", "value"] sp_bent := by
  refine cl_of D sc_law_bent (fun _ _ _ _ _ _ us hl => match us, hl with | [_, _], _ => rfl) (fun vs H Q E h => ?_) (fun f cdv A outer sh H vs Q E hr h => ?_)
  · obtain ⟨_, _, _, _, _, rfl, _⟩ := h; rfl
  obtain ⟨s, l, E, v, n, rfl, st, lv, hsE, hv, hn, k⟩ := h
  refine ⟨_, (pss_cons (ps_set (i := 2) sc_law_bent.nd rfl (Or.inl rfl) (pe_lst pa_nil))
    (pss_cons (ps_set (i := 3) sc_law_bent.nd rfl (Or.inl rfl) (pv 1))
    (pss_cons (ps_for PassesOwn.never rfl (pi_range1 (by rfl) T.no_range (pa_cons pe_int pa_nil)) (pg_name (i := 4) sc_law_bent.nd rfl (Or.inl rfl)) (pss_cons (ps_if (PW.pt (pw_or (pt_not (pt_val (pe_callB isiT1 (by rfl) T.no_isinstance (by decide +kernel) (pa_cons (pv 3) (pa_cons (pe_tup (pa_cons (pe_bltn (by rfl) T.no_list (by decide +kernel) (show RelV (.ty "list") _ from rfl)) (pa_cons (pe_bltn (by rfl) T.no_tuple (by decide +kernel) (show RelV (.ty "tuple") _ from rfl)) pa_nil))) pa_nil))))) (pw_or (pt_cmpR op_eq (pe_callB len1 (by rfl) T.no_len (by decide +kernel) (pa_cons (pv 3) pa_nil)) pe_int (nomark _)) (pw_or1 (pt_cmpR op_eq (pe_cl C_law_take hr (by rfl) (pa_cons (pv 0) (pa_cons pe_int pa_nil))) pe_int (nomark _)))))) (pss_one ps_break) pss_nil)
    (pss_cons (ps_set (i := 5) sc_law_bent.nd rfl (Or.inl rfl) (pe_cl C_law_place hr (by rfl) (pa_cons (pv 0) (pa_cons (pe_callB len1 (by rfl) T.no_len (by decide +kernel) (pa_cons (pv 3) pa_nil)) pa_nil))))
    (pss_cons (ps_expr (pe_bm PySem.F.plainAttrs_list PySem.F.slot_list_append PySem.F.type_list_append mt_append (pv 2) (pa_cons (pe_tup (pa_cons (pv 3) (pa_cons (pv 5) pa_nil))) pa_nil)))
    (pss_one (ps_set (i := 3) sc_law_bent.nd rfl (Or.inl rfl) (pe_ix ix1 (pv 3) (pv 5) (fun _ _ => rfl))))))))
    (pss_cons (ps_if (pt_val (pe_callB isiT1 (by rfl) T.no_isinstance (by decide +kernel) (pa_cons (pv 3) (pa_cons (pe_tup (pa_cons (pe_bltn (by rfl) T.no_list (by decide +kernel) (show RelV (.ty "list") _ from rfl)) (pa_cons (pe_bltn (by rfl) T.no_tuple (by decide +kernel) (show RelV (.ty "tuple") _ from rfl)) pa_nil))) pa_nil)))) (pss_one (ps_set (i := 3) sc_law_bent.nd rfl (Or.inl rfl) (pe_cl C_law_bent_part hr (by rfl) (pa_cons (pv 0) (pa_cons (pv 3) pa_nil))))) (pss_one (ps_set (i := 3) sc_law_bent.nd rfl (Or.inl rfl) (pe_cl C_law_bent_leaf hr (by rfl) (pa_cons (pv 0) (pa_cons (pv 3) pa_nil))))))
    (pss_cons (ps_for PassesOwn.never rfl (pi_sq (pe_revL (pv 2))) (pg_name (i := 6) sc_law_bent.nd rfl (Or.inl rfl)) (pss_cons (ps_set (i := 7) sc_law_bent.nd rfl (Or.inl rfl) (pe_callTy lst1 (by rfl) T.no_list (by decide +kernel) (pa_cons (pe_ix ix1 (pv 6) pe_int (fun _ _ => rfl)) pa_nil)))
    (pss_cons (ps_asg (pv 3) (pg_sub (pv 7) (pe_ix ix1 (pv 6) pe_int (fun _ _ => rfl)) set_list))
    (pss_one (ps_if (pt_val (pe_callB isi1 (by rfl) T.no_isinstance (by decide +kernel) (pa_cons (pe_ix ix1 (pv 6) pe_int (fun _ _ => rfl)) (pa_cons (pe_bltn (by rfl) T.no_tuple (by decide +kernel) (show RelV (.ty "tuple") _ from rfl)) pa_nil)))) (pss_one (ps_set (i := 3) sc_law_bent.nd rfl (Or.inl rfl) (pe_callTy tup1 (by rfl) T.no_tuple (by decide +kernel) (pa_cons (pv 7) pa_nil)))) (pss_one (ps_set (i := 3) sc_law_bent.nd rfl (Or.inl rfl) (pv 7))))))))
    (pss_one (ps_ret (pv 3)))))))), ?_⟩
  walk_at "sq"
  refine ⟨szl (by decide), fun pa H1 n1 => ?_⟩
  have g1 := (Ge.refl st).new n1
  have hpa := n1.fr
  have hsE' : s ∈ pa :: E := by simp [hsE]
  have hv1 := (hv.fresh hpa).same n1.same
  walk_at "sq"
  refine seq_join (fun σ H' => ∃ here path v4 v5, σ = [some (.ref s), some v, some (.ref pa), some here, v4, v5, none, none] ∧ Ge s l H H' ∧ H' pa = some (.lst path) ∧ path.length ≤ 5 ∧ (∀ x ∈ path, PathOk (pa :: E) H' n x) ∧ Db (pa :: E) H' n here) (fun N hN => ?_) ?_
  · walk_at "wn"
    refine ⟨by decide, by decide, ?_⟩
    refine fr_by (fun i σ H' => ∃ here path v4 v5, σ = [some (.ref s), some v, some (.ref pa), some here, v4, v5, none, none] ∧ Ge s l H H' ∧ H' pa = some (.lst path) ∧ path.length = i ∧ (∀ x ∈ path, PathOk (pa :: E) H' n x) ∧ Db (pa :: E) H' n here)
      ⟨v, [], none, none, rfl, g1, n1.at_, rfl, by simp, hv1⟩ ?_ ?_
    · rintro i _ H2 N' hN' hi ⟨here, path, v4, v5, rfl, g2, e2, hl, hp, hh⟩
      have hi5 : i < 5 := hi
      have stop : ∀ v4 v5 H3, Ge s l H2 H3 → N [some (.ref s), some v, some (.ref pa), some here, v4, v5, none, none] H3 := fun v4 v5 H3 g23 =>
        hN _ _ ⟨here, path, v4, v5, rfl, g2.trans g23, g23.at st hpa e2, by omega, fun x hx => (hp x hx).ge g2.st g23 hsE', hh.ge g23 hsE'⟩
      walk_at "wn"
      walk_at "sq"
      refine ⟨szl (by decide), fun tp H3 n3 => ?_⟩
      have tp3 := n3.at_
      have g23 := (Ge.refl g2.st).new n3
      rcases hh.cases with ⟨d, c, lf, _⟩ | ⟨a, xs, rfl, haE, ha, hd, hn1⟩
      · have st3 := stop (some (.int (0 + (i : Int)))) v5 H3 g23
        cases lf <;> walk_at "wps"
      · have has : a ≠ s := fun z => haE (z ▸ hsE')
        obtain ⟨ty, r, kr1, kr2, hty⟩ := seq_ty (s := s) (l := l) has ha
        have t3 := hty H3 g23
        have q3 := sq_of (or_ge has g23 ha)
        have st3 := stop (some (.int (0 + (i : Int)))) v5 H3 g23
        have hlen := hd.len
        have hr : ((!r) || r) = true := by cases r <;> rfl
        walk_at "wn"
        refine ⟨_, _, tp3, _, t3, _, kr2, _, kr1, ?_⟩
        rw [hr]
        walk_at "wn"
        refine ⟨xs, q3, ?_⟩
        split
        · exact st3
        rename_i hz
        have hz0 : 0 < xs.length := by omega
        refine ⟨s, l, _, rfl, by decide, g23.st, fun c H4 g34 c0 c1 c2 => ?_⟩
        have g24 := g23.trans g34
        walk_at "wn"
        split
        · exact stop _ _ _ g24
        have q4 := sq_of (or_ge has g24 ha)
        walk_at "sq"
        refine ⟨s, l, _, rfl, g34.st, by omega, by omega, fun at_ H5 g45 a0 a1 => ?_⟩
        have g25 := g24.trans g45
        have e5 := g25.at st hpa e2
        have g5 := g2.trans g25
        walk_at "sq"
        refine ⟨tyl e5, szl (by decide), fun t6 H6 n6 => ?_⟩
        have e6 := n6.k e5
        walk_at "wn"
        refine ⟨path, e6, szl' (by omega), fun H7 n7 => ?_⟩
        have g7 := (g5.new n6).put st hpa n7
        have ne6 : t6 ≠ pa := (n6.ne e5).symm
        have ha6 : H6 a = some (.tup xs) ∨ H6 a = some (.lst xs) := or_ge has (g25.new n6) ha
        have hapa : a ≠ pa := fun z => haE (by simp [z])
        have ha7 : H7 a = some (.tup xs) ∨ H7 a = some (.lst xs) := by
          rcases ha6 with z | z
          · exact .inl (n7.k hapa z)
          · exact .inr (n7.k hapa z)
        have q7 := sq_of ha7
        have hd7 : Dl (pa :: E) H7 (n - 1) xs := ((hd.ge g25 hsE').same n6.same).put n7 (by simp)
        have hat : at_.toNat < xs.length := by omega
        have e_at : ((at_.toNat : Nat) : Int) = at_ := by omega
        walk_at "wn"
        refine ⟨xs, q7, xs[at_.toNat], atI_of a0 (by simp [hat]), ?_⟩
        refine hN' _ _ ⟨_, _, _, _, rfl, g7, n7.at_, by simp [hl], ?_, (hd7.mem (List.getElem_mem hat)).le (by omega)⟩
        refine all_app (fun x hx => (((hp x hx).ge g2.st g25 hsE').same n6.same).put e6 n7 (by simp)) ?_
        refine ⟨t6, a, xs, at_.toNat, rfl, ?_, haE, ha7, hd7.le (by omega), hat⟩
        rw [e_at]
        exact n7.k ne6 n6.at_
    · rintro _ H2 ⟨here, path, v4, v5, rfl, g2, e2, hl, hp, hh⟩
      exact hN _ _ ⟨here, path, v4, v5, rfl, g2, e2, by rw [hl]; decide, hp, hh⟩
  · rintro _ H2 ⟨here, path, v4, v5, rfl, g2, e2, hl, hp, hh⟩
    have lv2 : Lv (pa :: E) H2 := (lv.ge g2).cons e2
    refine seq_join (fun σ H' => ∃ here v4 v5, σ = [some (.ref s), some v, some (.ref pa), some here, v4, v5, none, none] ∧ Ge s l H2 H' ∧ Db (pa :: E) H' (4 * n + 40) here) (fun N hN => ?_) ?_
    · walk_at "wn"
      refine ⟨szl (by decide), fun tp H3 n3 => ?_⟩
      have tp3 := n3.at_
      have g23 := (Ge.refl g2.st).new n3
      rcases hh.cases with ⟨d, c, lf, hc⟩ | ⟨a, xs, rfl, haE, ha, hd, hn1⟩
      · have call : sp_bent_leaf [.ref s, here] H3 (fun u H4 => N [some (.ref s), some v, some (.ref pa), some u, v4, v5, none, none] H4) E0 :=
          ⟨s, l, pa :: E, here, d, c, rfl, g23.st, lv2.same n3.same, hsE', lf, by omega, fun u H4 g34 hu => hN _ _ ⟨u, v4, v5, rfl, g23.trans g34, hu.le (by omega)⟩⟩
        cases lf <;> walk_at "wps"
      · have has : a ≠ s := fun z => haE (z ▸ hsE')
        obtain ⟨ty, r, kr1, kr2, hty⟩ := seq_ty (s := s) (l := l) has ha
        have t3 := hty H3 g23
        have hr : ((!r) || r) = true := by cases r <;> rfl
        walk_at "wn"
        refine ⟨_, _, tp3, _, t3, _, kr2, _, kr1, ?_⟩
        rw [hr]
        walk_at "wn"
        exact ⟨s, l, a, pa :: E, xs, n - 1, rfl, g23.st, lv2.same n3.same, hsE', haE, or_ge has g23 ha, hd.ge g23 hsE', by omega, fun u H4 g34 hu => hN _ _ ⟨u, v4, v5, rfl, g23.trans g34, hu.le (by omega)⟩⟩
    · clear hh here v4 v5
      rintro _ H3 ⟨here, v4, v5, rfl, g23, hh⟩
      have g3 := g2.trans g23
      have e3 := g23.at st hpa e2
      walk_at "sq"
      refine ⟨path, SqL.of e3, fun rv H4 n4 => ?_⟩
      have g34 := (Ge.refl g3.st).new n4
      have g4 := g3.new n4
      have hrv := g3.fr n4.fr
      walk_at "wn"
      refine fs_by (sq_l n4.at_) (fun i σ H' => ∃ here v4 v5 v6 v7, σ = [some (.ref s), some v, some (.ref pa), some here, v4, v5, v6, v7] ∧ Ge s l H H' ∧ H' rv = some (.lst path.reverse) ∧ H' pa = some (.lst path) ∧ (∀ x ∈ path, PathOk (pa :: E) H' n x) ∧ Db (pa :: E) H' (4 * n + 40 + i * (n + 1)) here)
        ⟨here, v4, v5, none, none, rfl, g4, n4.at_, n4.k e3, fun x hx => ((hp x hx).ge g2.st g23 hsE').same n4.same, (hh.same n4.same).le (by omega)⟩ (fun i σ' H' p o ho => by
          obtain ⟨_, _, _, _, _, _, _, e, _⟩ := p
          rw [n4.at_] at ho
          rw [e]; exact ho) ?_ ?_
      · rintro i x _ H5 N hN hi ⟨here, v4, v5, v6, v7, rfl, g5, er5, e5, hp5, hh5⟩
        have hx : x ∈ path := by
          have := List.mem_of_getElem? hi
          exact List.mem_reverse.mp this
        obtain ⟨t, h, xs, j, rfl, et, hE, hq, hd, hj⟩ := hp5 x hx
        have qt5 := sq_t et
        have qh5 := sq_of hq
        have lv5 : Lv (pa :: E) H5 := (lv.ge g5).cons e5
        have hhs : h ≠ s := fun z => hE (z ▸ hsE')
        obtain ⟨ty, r, kr1, kr2, hty⟩ := seq_ty (s := s) (l := l) hhs hq
        have hlen := hd.len
        walk_at "wn"
        walk_at "sq"
        refine fun im H6 n6 => ?_
        have him := g5.fr n6.fr
        have et6 := n6.k et
        have qt6 := sq_t et6
        have g56 := (Ge.refl g5.st).new n6
        walk_at "sq"
        refine ⟨xs, n6.at_, j, ixN_of (by omega) (by omega), fun H7 n7 => ?_⟩
        have g6 := g5.new n6
        have g7 := g6.put st him n7
        have ne_t : t ≠ im := n6.ne et
        have qt7 := sq_t (n7.k ne_t et6)
        have g57 : Ge s l H5 H7 := g56.put g5.st n6.fr n7
        have t7 := hty H7 g57
        have hd7 : Dl (pa :: E) H7 (n + (4 * n + 40 + i * (n + 1))) (xs.set j here) := by
          refine Dl.set ?_ ?_ j
          · exact (((hd.fresh n6.fr).same n6.same).put n7 (by simp)).sub fun z hz => List.mem_cons_of_mem _ hz
          · obtain ⟨dd, m, w1, w2⟩ := hh5
            exact ⟨dd, m, (((w1.fresh n6.fr).same n6.same).put n7 (by simp)).sub fun z hz => List.mem_cons_of_mem _ hz, w2⟩
        have hp7 : ∀ x ∈ path, PathOk (pa :: E) H7 n x := fun x hx => (hp5 x hx).keep (fun a ys e => n7.k (n6.ne e) (n6.k e)) fun a o _ e => n7.k (n6.ne e) (n6.k e)
        have er7 := n7.k (n6.ne er5) (n6.k er5)
        have e7 := n7.k (n6.ne e5) (n6.k e5)
        walk_at "wps"
        cases r with
        | true =>
          rw [if_pos rfl]
          refine ⟨_, n7.at_, fun q H8 n8 => hN _ _ ⟨_, _, _, _, _, rfl, g7.new n8, n8.k er7, n8.k e7, fun x hx => (hp7 x hx).same n8.same, ?_⟩⟩
          refine ((hd7.same n8.same).db (((lv.ge g7).cons e7).out n8.fr) (.inl n8.at_)).le ?_
          rw [Nat.add_mul]; omega
        | false =>
          rw [if_neg (by decide)]
          refine hN _ _ ⟨_, _, _, _, _, rfl, g7, er7, e7, hp7, ?_⟩
          refine (hd7.db (lv5.out n6.fr) (.inr n7.at_)).le ?_
          rw [Nat.add_mul]; omega
      · rintro _ H5 ⟨here, v4, v5, v6, v7, rfl, g5, er5, e5, hp5, hh5⟩
        walk_at "wq"
        refine k _ _ g5 ((hh5.sub fun z hz => List.mem_cons_of_mem _ hz).le ?_)
        rw [List.length_reverse]
        have : path.length * (n + 1) ≤ 5 * (n + 1) := Nat.mul_le_mul_right _ hl
        omega
/-! judged -/
def sp_judged : Sp := fun vs H Q _ => ∃ (s l : Addr) (E : List Addr) (v : V) (n : Nat), vs = [.ref s, v] ∧ Sto s l H ∧ Lv E H ∧ s ∈ E ∧ Db E H n v ∧ n ≤ 1000 ∧ ∀ u H', Ge s l H H' → Db E H' (81 * n + 500) u → Q u H'
abbrev st_law_judged : Stmt := topS 26
theorem sc_law_judged : FnScope ["store", "right", "pick", "bent"] ["store", "right"] (defScope st_law_judged) := ⟨rfl, rfl, rfl, by decide +kernel, rfl, by decide +kernel, by decide +kernel⟩
theorem ok_law_judged (D : Df K mg "_law_judged" st_law_judged) (T : NoB mg) (C_law_bent : Cl P w K mg base 8 "_law_bent" ["store", "value"] sp_bent) (C_law_take : Cl P w K mg base 2 "_law_take" ["store", "many"] sp_take) (C_law_value : Cl P w K mg base 6 "_law_value" ["store", "deep"] sp_value) : Cl P w K mg base 9 "_law_judged" ["store", "right"] sp_judged := by
  refine cl_of D sc_law_judged (fun _ _ _ _ _ _ us hl => match us, hl with | [_, _], _ => rfl) (fun vs H Q E h => ?_) (fun f cdv A outer sh H vs Q E hr h => ?_)
  · obtain ⟨_, _, _, _, _, rfl, _⟩ := h; rfl
  obtain ⟨s, l, E, v, n, rfl, st, lv, hsE, hv, hn, k⟩ := h
  refine ⟨_, (pss_cons (ps_set (i := 2) sc_law_judged.nd rfl (Or.inl rfl) (pe_cl C_law_take hr (by rfl) (pa_cons (pv 0) (pa_cons pe_int pa_nil))))
    (pss_cons (ps_if (pt_cmpR op_eq (pv 2) pe_int (nomark _)) (pss_one (ps_ret (pv 1))) pss_nil)
    (pss_cons (ps_if (pt_cmpR op_eq (pv 2) pe_int (nomark _)) (pss_one (ps_ret (pe_cl C_law_value hr (by rfl) (pa_cons (pv 0) (pa_cons (pe_op op_add pe_int (pe_cl C_law_take hr (by rfl) (pa_cons (pv 0) (pa_cons pe_int pa_nil)))) pa_nil))))) pss_nil)
    (pss_cons (ps_set (i := 3) sc_law_judged.nd rfl (Or.inl rfl) (pe_cl C_law_bent hr (by rfl) (pa_cons (pv 0) (pa_cons (pv 1) pa_nil))))
    (pss_cons (ps_if (pt_cmpR op_eq (pv 2) pe_int (nomark _)) (pss_one (ps_set (i := 3) sc_law_judged.nd rfl (Or.inl rfl) (pe_cl C_law_bent hr (by rfl) (pa_cons (pv 0) (pa_cons (pv 3) pa_nil))))) pss_nil)
    (pss_one (ps_ret (pv 3)))))))), ?_⟩
  walk_at "sq"
  refine ⟨s, l, _, rfl, by decide, st, fun pk H1 g1 r0 r1 r2 => ?_⟩
  walk_at "sq"
  split
  · exact k _ _ g1 ((hv.ge g1 hsE).le (by omega))
  walk_at "sq"
  split
  · refine ⟨s, l, _, rfl, by decide, g1.st, fun c H2 g2 c0 c1 c2 => ?_⟩
    have := c1 (by decide)
    walk_at "wn"
    exact ⟨s, l, E, _, rfl, g2.st, lv.ge (g1.trans g2), hsE, by omega, by omega, fun u H3 g3 hu => k _ _ ((g1.trans g2).trans g3) (hu.le (by omega))⟩
  walk_at "sq"
  refine ⟨s, l, E, v, n, rfl, g1.st, lv.ge g1, hsE, hv.ge g1 hsE, by omega, fun u H2 g2 hu => ?_⟩
  have g2' := g1.trans g2
  walk_at "sq"
  split
  · refine ⟨s, l, E, u, 9 * n + 50, rfl, g2.st, lv.ge g2', hsE, hu, by omega, fun u H3 g3 hu => ?_⟩
    walk_at "wn"
    exact k _ _ (g2'.trans g3) (hu.le (by omega))
  · walk_at "wn"
    exact k _ _ g2' (hu.le (by omega))
end

/-! ## T10 -/

section
variable {P : Program} {w : World} {K : PySem.W.Frag} {mg : Str → Option Value} {base : Heap}
/-! the program's is_whole -/
abbrev stis_whole : Stmt := topS 2
theorem scis_whole : FnScope ["value"] ["value"] (defScope stis_whole) := ⟨rfl, rfl, rfl, by decide +kernel, rfl, by decide +kernel, by decide +kernel⟩
theorem okis_whole (D : Df K mg "is_whole" stis_whole) (T : NoB mg)  : Cl P w K mg base 1 "is_whole" ["value"] sp_isw := by
  refine cl_of D scis_whole (fun _ _ _ _ _ _ us hl => match us, hl with | [_], _ => rfl) (fun vs H Q E h => ?_) (fun f cdv A outer sh H vs Q E hr h => ?_)
  · obtain ⟨_, _, _, _, rfl, _⟩ := h; rfl
  obtain ⟨v, d, n, E, rfl, hv, k⟩ := h
  refine ⟨_, (pss_one (ps_ret (pe_and (pe_callB isi1 (by rfl) T.no_isinstance (by decide +kernel) (pa_cons (pv 0) (pa_cons (pe_bltn (by rfl) T.no_int (by decide +kernel) (show RelV (.ty "int") _ from rfl)) pa_nil))) (pe_one (pe_not (pe_callB isi1 (by rfl) T.no_isinstance (by decide +kernel) (pa_cons (pv 0) (pa_cons (pe_bltn (by rfl) T.no_bool (by decide +kernel) (show RelV (.ty "bool") _ from rfl)) pa_nil)))))))), ?_⟩
  cases hv with
  | lf l => cases l <;> (walk_at "wps"; exact k)
  | lst ne h a =>
    have ht := ty_l h
    walk_at "wps"
    exact k
  | tup ne h a =>
    have ht := ty_t h
    walk_at "wps"
    exact k
/-! is_move -/
def sp_is_move : Sp := fun vs H Q _ => ∃ (v : V) (E : List Addr) (d : PyData) (n : Nat), vs = [v] ∧ Dw E H v d n ∧ ∀ H', Same H H' → Q (.bl (isMoveD d)) H'
theorem isWh_int {v : V} (h : isWh v = true) : ∃ i, v = .int i := by
  cases v <;> first | exact ⟨_, rfl⟩ | cases h
theorem ints_of : ∀ {xs : List V}, (∀ x ∈ xs, isWh x = true) → ∃ ns : List Int, xs = ns.map V.int
  | [], _ => ⟨[], rfl⟩
  | x :: r, h => by
    obtain ⟨i, rfl⟩ := isWh_int (h x List.mem_cons_self)
    obtain ⟨ns, rfl⟩ := ints_of fun y hy => h y (List.mem_cons_of_mem _ hy)
    exact ⟨i :: ns, rfl⟩
theorem not_move_leaf {v : V} {d : PyData} {n : Nat} (l : Lf v d n) : isMoveD d = false := isMove_f fun ⟨ns, e, _⟩ => by cases l <;> cases e
theorem not_move_list {ds : List PyData} : isMoveD (.list ds) = false := isMove_f fun ⟨ns, e, _⟩ => by cases e
abbrev stis_move : Stmt := topS 3
theorem scis_move : FnScope ["value", "entry"] ["value"] (defScope stis_move) := ⟨rfl, rfl, rfl, by decide +kernel, rfl, by decide +kernel, by decide +kernel⟩
theorem okis_move (D : Df K mg "is_move" stis_move) (T : NoB mg) (Cis_whole : Cl P w K mg base 1 "is_whole" ["value"] sp_isw) {tk : Tok} (G_MOST_POINTS : mg "MOST_POINTS" = some (.int 12 tk)): Cl P w K mg base 2 "is_move" ["value"] sp_is_move := by
  refine cl_of D scis_move (fun _ _ _ _ _ _ us hl => match us, hl with | [_], _ => rfl) (fun vs H Q E h => ?_) (fun f cdv A outer sh H vs Q E hr h => ?_)
  · obtain ⟨_, _, _, _, rfl, _⟩ := h; rfl
  obtain ⟨v, E, d, n, rfl, hv, k⟩ := h
  refine ⟨_, (pss_cons (ps_if (PW.pt (pw_or (pt_not (pt_val (pe_callB isi1 (by rfl) T.no_isinstance (by decide +kernel) (pa_cons (pv 0) (pa_cons (pe_bltn (by rfl) T.no_tuple (by decide +kernel) (show RelV (.ty "tuple") _ from rfl)) pa_nil))))) (pw_or1 (pt_cmpR op_gt (pe_callB len1 (by rfl) T.no_len (by decide +kernel) (pa_cons (pv 0) pa_nil)) (pe_glob (by rfl) G_MOST_POINTS (show RelV (.int 12) _ from ⟨_, rfl⟩)) (nomark _))))) (pss_one (ps_ret pe_bl)) pss_nil)
    (pss_cons (ps_for PassesOwn.never rfl (pi_sq (pv 0)) (pg_name (i := 1) scis_move.nd rfl (Or.inl rfl)) (pss_one (ps_if (pt_not (pt_val (pe_cl Cis_whole hr (by rfl) (pa_cons (pv 1) pa_nil)))) (pss_one (ps_ret pe_bl)) pss_nil)))
    (pss_one (ps_ret (pe_cmpR (op_eqD hr.units) (pe_callB sorted1 (by rfl) T.no_sorted (by decide +kernel) (pa_cons (pv 0) pa_nil)) (pe_listRg rfl (by rfl) T.no_list (prg_1 (by rfl) T.no_range (pe_callB len1 (by rfl) T.no_len (by decide +kernel) (pa_cons (pv 0) pa_nil)))) (nomark _)))))), ?_⟩
  cases hv with
  | lf l =>
    have fin : Q (.bl false) H := by have := k H (Same.refl _); rw [not_move_leaf l] at this; exact this
    cases l <;> walk_at "wps"
  | lst ne h a =>
    have ht := ty_l h
    have fin : Q (.bl false) H := by have := k H (Same.refl _); rw [not_move_list] at this; exact this
    walk_at "wps"
  | @tup a xs ds m ne h da =>
    have ht := ty_t h
    have qa := sq_t h
    have hl := da.len.1
    walk_at "sq"
    split
    · rename_i hlt
      have := k H (Same.refl _)
      rw [isMove_f fun ⟨ns, e, h1, _⟩ => by have h5 := congrArg List.length (PyData.tuple.inj e); rw [List.length_map] at h5; omega] at this
      exact this
    rename_i hlt
    have hlt : xs.length ≤ 12 := by omega
    walk_at "sq"
    refine fs_by qa (fun i σ H' => ∃ v1, σ = [some (.ref a), v1] ∧ H = H' ∧ ∀ x ∈ xs.take i, isWh x = true) ⟨none, rfl, rfl, by simp⟩ (fun i σ' H' p o ho => by obtain ⟨_, _, e, _⟩ := p; rw [← e]; exact ho) ?_ ?_
    · rintro i x _ _ N hN hi ⟨v1, rfl, rfl, hx⟩
      obtain ⟨e, c, h1, h2, h3⟩ := da.get hi
      walk_at "wn"
      refine ⟨x, e, c, E, rfl, h2, ?_⟩
      walk_at "wn"
      split
      · rename_i hw
        have := k H (Same.refl _)
        rw [isMove_f fun ⟨ns, ed, _⟩ => by
          cases ed
          have := dw_ints' da
          rw [this] at hi
          have hm := List.mem_of_getElem? hi
          obtain ⟨z, _, rfl⟩ := List.mem_map.mp hm
          cases hw] at this
        exact this
      · rename_i hw
        have hw : isWh x = true := by simpa using hw
        refine hN _ _ ⟨_, rfl, rfl, fun y hy => ?_⟩
        rw [List.take_succ, hi] at hy
        rcases List.mem_append.mp hy with z | z
        · exact hx y z
        · have : y = x := by simpa using z
          rw [this]; exact hw
    · rintro _ _ ⟨v1, rfl, rfl, hx⟩
      rw [List.take_length] at hx
      obtain ⟨ns, rfl⟩ := ints_of hx
      have hds := dw_ints da
      subst hds
      rw [List.length_map] at hlt
      have hlt12 : ns.length ≤ 12 := by omega
      walk_at "wq"
      refine ⟨ns, rfl, by omega, fun ns' p H2 hp hs n2 => ?_⟩
      have q2 := same_sq n2.same qa
      have e2 := n2.at_
      walk_at "wn"
      refine ⟨_, q2, .of_le (by decide) (by rw [List.length_map]; omega) (by decide) (by omega), fun q H3 n3 => ?_⟩
      have e3 := n3.at_
      rw [rgV_rng (by omega)] at e3
      refine ⟨.list (ns'.map .int), .list ((rng ns.length).map .int), .lst (SqL.of (n3.k e2)) (dpAll_ints _), ?_, shaped_ints _, shaped_ints _, ?_⟩
      · refine .lst (SqL.of (e3.trans ?_)) (dpAll_ints _)
        rw [List.length_map] <;> rfl
      · have kk := k H3 (n2.same.trans n3.same)
        rw [eqv_ints]
        by_cases hm : ns.Perm (rng ns.length)
        · rw [isMove_t ⟨ns, rfl, hlt12, hm⟩] at kk
          have : ns' = rng ns.length := perm_sorted_eq (hp.trans hm) hs (rng_sorted _)
          rw [decide_eq_true this]; exact kk
        · rw [isMove_f fun ⟨ms, e, _, h2⟩ => by
            have : ms = ns := by
              have e' := (PyData.tuple.inj e)
              exact ((List.map_inj_right fun _ _ h => PyData.int.inj h).mp e').symm
            rw [this] at h2; exact hm h2] at kk
          have : ¬ ns' = rng ns.length := fun e => hm (hp.symm.trans (by rw [e]))
          rw [decide_eq_false this]; exact kk
/-! counted -/
theorem move_counts {E : List Addr} {H : Hp} {xs : List V} {ds : List PyData} {n : Nat} (da : DwAll E H xs ds n) (hl : xs.length ≤ 12) : IsMoveP (.tuple ds) ↔ ∀ k, k < xs.length → xs.count (V.int (k : Int)) = 1 := by
  constructor
  · rintro ⟨ns, e, h1, h2⟩ k hk
    have e' := PyData.tuple.inj e
    subst e'
    have := dw_ints' da
    subst this
    rw [List.length_map] at hk
    have hp : (ns.map V.int).Perm ((rng ns.length).map V.int) := h2.map _
    rw [hp.count_eq]
    have nd : ((rng ns.length).map V.int).Nodup := List.Pairwise.map _ (fun a b (h : a ≠ b) z => h (V.int.inj z)) (rng_nodup _)
    rw [List.Nodup.count nd, if_pos (List.mem_map.mpr ⟨_, mem_rng.mpr ⟨by omega, by omega⟩, rfl⟩)]
  · intro h
    have hp : xs.Perm ((rng xs.length).map V.int) := by
      refine sub_perm (List.Pairwise.map _ (fun a b (h : a ≠ b) z => h (V.int.inj z)) (rng_nodup _)) (fun a ha => ?_) (by rw [List.length_map, rng_len]; exact Nat.le_refl _)
      obtain ⟨i, hi, rfl⟩ := List.mem_map.mp ha
      have := mem_rng.mp hi
      have c := h i.toNat (by omega)
      rw [show ((i.toNat : Nat) : Int) = i by omega] at c
      exact List.count_pos_iff.mp (by omega)
    obtain ⟨ns, rfl, hp2⟩ := perm_ints hp
    refine ⟨ns, by rw [dw_ints da], by rw [List.length_map] at hl; exact hl, ?_⟩
    rw [List.length_map] at hp2
    exact hp2
abbrev st_law_counted : Stmt := topS 27
theorem sc_law_counted : FnScope ["value", "k", "entry"] ["value"] (defScope st_law_counted) := ⟨rfl, rfl, rfl, by decide +kernel, rfl, by decide +kernel, by decide +kernel⟩
theorem ok_law_counted (D : Df K mg "_law_counted" st_law_counted) (T : NoB mg) (C_law_is_whole : Cl P w K mg base 1 "_law_is_whole" ["value"] sp_isw) : Cl P w K mg base 2 "_law_counted" ["value"] sp_is_move := by
  refine cl_of D sc_law_counted (fun _ _ _ _ _ _ us hl => match us, hl with | [_], _ => rfl) (fun vs H Q E h => ?_) (fun f cdv A outer sh H vs Q E hr h => ?_)
  · obtain ⟨_, _, _, _, rfl, _⟩ := h; rfl
  obtain ⟨v, E, d, n, rfl, hv, k⟩ := h
  refine ⟨_, (pss_cons (ps_if (PW.pt (pw_or (pt_not (pt_val (pe_callB isi1 (by rfl) T.no_isinstance (by decide +kernel) (pa_cons (pv 0) (pa_cons (pe_bltn (by rfl) T.no_tuple (by decide +kernel) (show RelV (.ty "tuple") _ from rfl)) pa_nil))))) (pw_or1 (pt_cmpR op_gt (pe_callB len1 (by rfl) T.no_len (by decide +kernel) (pa_cons (pv 0) pa_nil)) pe_int (nomark _))))) (pss_one (ps_ret pe_bl)) pss_nil)
    (pss_cons (ps_for PassesOwn.never rfl (pi_range1 (by rfl) T.no_range (pa_cons (pe_callB len1 (by rfl) T.no_len (by decide +kernel) (pa_cons (pv 0) pa_nil)) pa_nil)) (pg_name (i := 1) sc_law_counted.nd rfl (Or.inr rfl)) (pss_one (ps_if (pt_cmpR op_ne (pe_callB len1 (by rfl) T.no_len (by decide +kernel) (pa_cons (pe_lc (own := [("entry", 2)]) (g := gName 2) (tt := _) rfl sc_law_counted.nd (pi_sq (pv 0)) (blkOk_by (own := [("entry", 2)]) (N := ["value", "k", "entry"]) (sc := defScope st_law_counted) (by decide +kernel)) (fun _ _ _ _ _ => (pg_name (i := 2) sc_law_counted.nd rfl (Or.inl rfl))) (fun _ _ _ _ _ => (pts_one (PW.pt (pw_and (pt_val (pe_cl C_law_is_whole hr (by rfl) (pa_cons (pv 2) pa_nil))) (pw_and1 (pt_cmpR op_eq (pv 2) (pv 1) (nomark _))))))) (fun _ _ _ _ _ => (pv 2))) pa_nil)) pe_int (nomark _)) (pss_one (ps_ret pe_bl)) pss_nil)))
    (pss_one (ps_ret pe_bl)))), ?_⟩
  cases hv with
  | lf l =>
    have fin : Q (.bl false) H := by have := k H (Same.refl _); rw [not_move_leaf l] at this; exact this
    cases l <;> walk_at "wps"
  | lst ne h a =>
    have ht := ty_l h
    have fin : Q (.bl false) H := by have := k H (Same.refl _); rw [not_move_list] at this; exact this
    walk_at "wps"
  | @tup a xs ds m ne h da =>
    have ht := ty_t h
    have qa := sq_t h
    have hl := da.len.1
    walk_at "sq"
    split
    · rename_i hlt
      have := k H (Same.refl _)
      rw [isMove_f fun ⟨ns, e, h1, _⟩ => by have h5 := congrArg List.length (PyData.tuple.inj e); rw [List.length_map] at h5; omega] at this
      exact this
    rename_i hlt
    have hlt : xs.length ≤ 12 := by omega
    have mc := move_counts da hlt
    walk_at "sq"
    refine ⟨by omega, by omega, ?_⟩
    refine fr_by (fun i σ H' => ∃ v1, σ = [some (.ref a), v1, none] ∧ Same H H' ∧ ∀ k, k < i → xs.count (V.int (k : Int)) = 1) ⟨none, rfl, Same.refl _, fun k h => absurd h (Nat.not_lt_zero _)⟩ ?_ ?_
    · rintro i _ H1 N hN hi ⟨v1, rfl, s1, hc⟩
      have q1 := same_sq s1 qa
      walk_at "wn"
      refine cs_by q1 (fun C j acc H' => Same H1 H' ∧ acc.length = (xs.take j).count (V.int (i : Int))) (fun C H0 n0 => ⟨n0.same, by simp⟩) (fun C j acc H' _ p o ho => p.1 _ _ ho) ?_ ?_
      · rintro C j x acc H2 N2 hC hj ha ⟨s2, h2⟩ hN2
        obtain ⟨e, c, w1, w2, w3⟩ := da.get hj
        have w2' := w2.same (s1.trans s2)
        have hjl : j < xs.length := (List.getElem?_eq_some_iff.mp hj).1
        have tk : xs.take (j + 1) = xs.take j ++ [x] := by rw [List.take_succ, hj] <;> rfl
        have hle : (xs.take j).count (V.int (i : Int)) ≤ xs.length := Nat.le_trans List.count_le_length (by rw [List.length_take]; omega)
        have skip : ¬ x = V.int (i : Int) → N2 H2 := fun hx => hN2 _ _ ha ⟨s2, by rw [tk, List.count_append, List.count_singleton]; simp [hx, h2]⟩
        walk_at "wn"
        refine ⟨x, e, c, E, rfl, w2', ?_⟩
        cases hw : isWh x with
        | false =>
          have hx : ¬ x = V.int (i : Int) := fun z => by rw [z] at hw; cases hw
          have := skip hx
          walk_at "wq"
        | true =>
          obtain ⟨z, rfl⟩ := isWh_int hw
          walk_at "wn"
          split
          · rename_i hz
            refine cst ha (szl' (by omega)) fun H5 n5 => hN2 _ _ n5.at_ ⟨n5.same s2 hC, ?_⟩
            rw [tk, List.count_append, List.count_singleton, List.length_append, h2]
            have : z = (i : Int) := by omega
            simp [this]
          · rename_i hz
            refine skip fun e => ?_
            have := V.int.inj e
            omega
      · rintro C acc H2 hC ha ⟨s2, h2⟩
        rw [List.take_length] at h2
        have q2 := sq_l ha
        walk_at "wn"
        refine ⟨_, q2, ?_⟩
        split
        · rename_i hz
          have := k H2 (s1.trans s2)
          rw [isMove_f fun hm => by have := mc.mp hm i (by omega); omega] at this
          exact this
        · rename_i hz
          refine hN _ _ ⟨_, rfl, s1.trans s2, fun j hj => ?_⟩
          by_cases e : j = i
          · rw [e]; omega
          · exact hc j (by omega)
    · rintro _ H1 ⟨v1, rfl, s1, hc⟩
      have := k H1 s1
      rw [isMove_t (mc.mpr fun j hj => hc j (by omega))] at this
      walk_at "wn"
      exact this
end

/-! ## T11 -/

def AllI (xs : List V) : Prop := ∀ x ∈ xs, ∃ i, x = V.int i
theorem AllI.dl {E : List Addr} {H : Hp} : ∀ {xs : List V}, AllI xs → Dl E H xs.length xs
  | [], _ => .nil
  | x :: r, h => by
    obtain ⟨i, rfl⟩ := h x List.mem_cons_self
    have := (Dl.one (Db.int (E := E) (H := H) i (Nat.le_refl 1))).app (AllI.dl (xs := r) fun y hy => h y (List.mem_cons_of_mem _ hy))
    exact this.le (by simp only [List.length_cons]; omega)
theorem AllI.map (ns : List Int) : AllI (ns.map V.int) := fun x hx => by
  obtain ⟨i, _, rfl⟩ := List.mem_map.mp hx
  exact ⟨i, rfl⟩
theorem AllI.db {E : List Addr} {H : Hp} {xs : List V} {p : Addr} {b : Nat} (h : AllI xs) (hp : p ∉ E) (hq : H p = some (.tup xs) ∨ H p = some (.lst xs)) (hb : xs.length + 1 ≤ b) : Db E H b (.ref p) := (h.dl.db hp hq).le hb
theorem AllI.rep {xs : List V} {k : Nat} (h : AllI xs) : AllI (List.replicate k xs).flatten := fun x hx => by
  obtain ⟨l, hl, hx⟩ := List.mem_flatten.mp hx
  rw [(List.mem_replicate.mp hl).2] at hx
  exact h x hx
theorem rep_len (k : Nat) (xs : List V) : (List.replicate k xs).flatten.length = k * xs.length := by simp
section
variable {P : Program} {w : World} {K : PySem.W.Frag} {mg : Str → Option Value} {base : Heap}
/-! store -/
def sp_store (K : PySem.W.Frag) : Sp := fun vs H Q _ => ∃ (a : Addr) (ns : List Int), vs = [.ref a] ∧ SqL K H a (ns.map V.int) ∧ ns.length ≤ 1000 ∧ ∀ s l H', Same H H' → H s = none → Sto s l H' → Q (.ref s) H'
abbrev st_law_store : Stmt := topS 5
theorem sc_law_store : FnScope ["script", "cell"] ["script"] (defScope st_law_store) := ⟨rfl, rfl, rfl, by decide +kernel, rfl, by decide +kernel, by decide +kernel⟩
theorem ok_law_store (D : Df K mg "_law_store" st_law_store) (T : NoB mg)  : Cl P w K mg base 1 "_law_store" ["script"] (sp_store K) := by
  refine cl_of D sc_law_store (fun _ _ _ _ _ _ us hl => match us, hl with | [_], _ => rfl) (fun vs H Q E h => ?_) (fun f cdv A outer sh H vs Q E hr h => ?_)
  · obtain ⟨_, _, rfl, _⟩ := h; rfl
  obtain ⟨a, ns, rfl, hs, hn, k⟩ := h
  refine ⟨_, (pss_one (ps_ret (pe_lst (pa_cons (pe_lc (own := [("cell", 1)]) (g := gName 1) (tt := tYes) rfl sc_law_store.nd (pi_sq (pe_slice sl_list (pv 0) po_none (po_some pe_int))) (blkOk_by (own := [("cell", 1)]) (N := ["script", "cell"]) (sc := defScope st_law_store) (by decide +kernel)) (fun _ _ _ _ _ => (pg_name (i := 1) sc_law_store.nd rfl (Or.inl rfl))) (fun _ _ _ _ _ => pts_nil) (fun _ _ _ _ _ => (pe_callTy int1 (by rfl) T.no_int (by decide +kernel) (pa_cons (pv 1) pa_nil)))) (pa_cons pe_int (pa_cons pe_int (pa_cons pe_int (pa_cons pe_int (pa_cons pe_int (pa_cons pe_int pa_nil)))))))))), ?_⟩
  walk_at "wn"
  refine ⟨ns.map V.int, hs, fun p H1 n1 => ?_⟩
  have e1 := n1.at_
  have hc : ∃ ms : List Int, cutV (ns.map V.int) none (some 63) = ms.map V.int ∧ ms.length ≤ ns.length := by
    unfold cutV
    refine ⟨(ns.drop _).take _, by rw [← List.map_drop, ← List.map_take], ?_⟩
    rw [List.length_take, List.length_drop]
    omega
  obtain ⟨ms, em, hm⟩ := hc
  rw [em] at e1
  walk_at "wn"
  refine cs_by (sq_l e1) (fun C i acc H' => Same H1 H' ∧ acc = (ms.take i).map V.int) (fun C H0 n0 => ⟨n0.same, by simp⟩) (fun C i acc H' _ p o ho => p.1 _ _ ho) ?_ ?_
  · rintro C i x acc H2 N hC hi ha ⟨s2, rfl⟩ hN
    rw [List.getElem?_map] at hi
    cases e : ms[i]? with
    | none => rw [e] at hi; cases hi
    | some z =>
      rw [e] at hi
      cases hi
      walk_at "wn"
      refine cst ha (szl' (by rw [List.length_map, List.length_take]; omega)) fun H5 n5 => hN _ _ n5.at_ ⟨n5.same s2 hC, ?_⟩
      rw [List.take_succ, e]
      simp
  · rintro C acc H2 hC ha ⟨s2, rfl⟩
    rw [List.length_map, List.take_length] at ha
    walk_at "wn"
    refine ⟨szl (by decide), fun s H3 n3 => ?_⟩
    have sm := (n1.same.trans s2).trans n3.same
    exact k s C H3 sm ((n1.same.trans s2).free n3.fr) ⟨ms, 0, 0, 0, 0, 0, 0, n3.at_, n3.k ha, n3.ne ha, by decide⟩
/-! near -/
def sp_near : Sp := fun vs H Q _ => ∃ (s l : Addr) (E : List Addr), vs = [.ref s] ∧ Sto s l H ∧ Lv E H ∧ s ∈ E ∧ ∀ u H', Ge s l H H' → Db E H' 250000 u → Q u H'
abbrev st_law_near : Stmt := topS 28
theorem sc_law_near : FnScope ["store", "pick", "move", "many", "shift", "image", "p", "k"] ["store"] (defScope st_law_near) := ⟨rfl, rfl, rfl, by decide +kernel, rfl, by decide +kernel, by decide +kernel⟩
theorem ok_law_near (D : Df K mg "_law_near" st_law_near) (T : NoB mg) (C_law_bad_move : Cl P w K mg base 6 "_law_bad_move" ["store", "move"] sp_bad_move) (C_law_drawn : Cl P w K mg base 3 "_law_drawn" ["store", "things", "many"] sp_drawn) (C_law_judged : Cl P w K mg base 9 "_law_judged" ["store", "right"] sp_judged) (C_law_move : Cl P w K mg base 4 "_law_move" ["store", "points"] sp_move) (C_law_pick : Cl P w K mg base 3 "_law_pick" ["store", "things"] sp_pick) (C_law_place : Cl P w K mg base 3 "_law_place" ["store", "size"] sp_place) (C_law_take : Cl P w K mg base 2 "_law_take" ["store", "many"] sp_take) (C_law_value : Cl P w K mg base 6 "_law_value" ["store", "deep"] sp_value) (C_law_whole : Cl P w K mg base 4 "_law_whole" ["store"] sp_whole) : Cl P w K mg base 10 "_law_near" ["store"] sp_near := by
  refine cl_of D sc_law_near (fun _ _ _ _ _ _ us hl => match us, hl with | [_], _ => rfl) (fun vs H Q E h => ?_) (fun f cdv A outer sh H vs Q E hr h => ?_)
  · obtain ⟨_, _, _, rfl, _⟩ := h; rfl
  obtain ⟨s, l, E, rfl, st, lv, hsE, k⟩ := h
  refine ⟨_, (pss_cons (ps_set (i := 1) sc_law_near.nd rfl (Or.inl rfl) (pe_cl C_law_take hr (by rfl) (pa_cons (pv 0) (pa_cons pe_int pa_nil))))
    (pss_cons (ps_set (i := 2) sc_law_near.nd rfl (Or.inl rfl) (pe_cl C_law_move hr (by rfl) (pa_cons (pv 0) (pa_cons (pe_cl C_law_place hr (by rfl) (pa_cons (pv 0) (pa_cons pe_int pa_nil))) pa_nil))))
    (pss_cons (ps_if (pt_cmpR op_eq (pv 1) pe_int (nomark _)) (pss_one (ps_ret (pv 2))) pss_nil)
    (pss_cons (ps_if (pt_cmpR op_lt (pv 1) pe_int (nomark _)) (pss_one (ps_ret (pe_cl C_law_bad_move hr (by rfl) (pa_cons (pv 0) (pa_cons (pv 2) pa_nil))))) pss_nil)
    (pss_cons (ps_if (pt_cmpR op_eq (pv 1) pe_int (nomark _)) (pss_cons (ps_set (i := 3) sc_law_near.nd rfl (Or.inr rfl) (pe_op op_add pe_int (pe_cl C_law_place hr (by rfl) (pa_cons (pv 0) (pa_cons pe_int pa_nil)))))
    (pss_one (ps_ret (pe_callTy tup1 (by rfl) T.no_tuple (by decide +kernel) (pa_cons (pe_cl C_law_drawn hr (by rfl) (pa_cons (pv 0) (pa_cons (pe_listRg rfl (by rfl) T.no_list (prg_1 (by rfl) T.no_range (pv 3))) (pa_cons (pv 3) pa_nil)))) pa_nil))))) pss_nil)
    (pss_cons (ps_if (pt_cmpR op_eq (pv 1) pe_int (nomark _)) (pss_one (ps_ret (pe_cl C_law_value hr (by rfl) (pa_cons (pv 0) (pa_cons (pe_cl C_law_take hr (by rfl) (pa_cons (pv 0) (pa_cons pe_int pa_nil))) pa_nil))))) pss_nil)
    (pss_cons (ps_if (pt_cmpR op_eq (pv 1) pe_int (nomark _)) (pss_cons (ps_set (i := 4) sc_law_near.nd rfl (Or.inr rfl) (pe_cl C_law_pick hr (by rfl) (pa_cons (pv 0) (pa_cons (pe_lst (pa_cons pe_int (pa_cons (pe_un un_neg pe_int) (pa_cons (pe_un un_neg (pe_callB len1 (by rfl) T.no_len (by decide +kernel) (pa_cons (pv 2) pa_nil))) (pa_cons pe_int (pa_cons (pe_op op_fdivN (pe_cl C_law_whole hr (by rfl) (pa_cons (pv 0) pa_nil)) pe_int) pa_nil)))))) pa_nil))))
    (pss_cons (ps_setLc (i := 5) (own := [("p", 6)]) (g := gName 6) (tt := tYes) rfl sc_law_near.nd rfl rfl (sw_true rfl rfl rfl (by decide +kernel)) (pi_sq (pv 2)) (blkOk_by (own := [("p", 6)]) (N := ["store", "pick", "move", "many", "shift", "image", "p", "k"]) (sc := defScope st_law_near) (by decide +kernel)) (fun _ _ _ _ _ => (pg_name (i := 6) sc_law_near.nd rfl (Or.inl rfl))) (fun _ _ _ _ _ => pts_nil) (fun _ _ _ _ _ => (pe_op op_add (pv 6) (pv 4))))
    (pss_cons (ps_if (PW.pt (pw_and (pt_cmpR op_gt (pe_callB len1 (by rfl) T.no_len (by decide +kernel) (pa_cons (pv 2) pa_nil)) pe_int (nomark _)) (pw_and1 (pt_cmpR op_eq (pe_cl C_law_take hr (by rfl) (pa_cons (pv 0) (pa_cons pe_int pa_nil))) pe_int (nomark _))))) (pss_cons (ps_set (i := 5) sc_law_near.nd rfl (Or.inl rfl) (pe_callTy lst1 (by rfl) T.no_list (by decide +kernel) (pa_cons (pv 2) pa_nil)))
    (pss_one (ps_asg (pe_cl C_law_whole hr (by rfl) (pa_cons (pv 0) pa_nil)) (pg_sub (pv 5) (pe_cl C_law_place hr (by rfl) (pa_cons (pv 0) (pa_cons (pe_callB len1 (by rfl) T.no_len (by decide +kernel) (pa_cons (pv 2) pa_nil)) pa_nil))) set_list)))) pss_nil)
    (pss_one (ps_ret (pe_callTy tup1 (by rfl) T.no_tuple (by decide +kernel) (pa_cons (pv 5) pa_nil))))))) pss_nil)
    (pss_cons (ps_if (pt_cmpR op_eq (pv 1) pe_int (nomark _)) (pss_cons (ps_if (pt_cmpR op_eq (pe_cl C_law_take hr (by rfl) (pa_cons (pv 0) (pa_cons pe_int pa_nil))) pe_int (nomark _)) (pss_one (ps_ret (pe_op op_repT1 (pe_tup (pa_cons (pe_cl C_law_take hr (by rfl) (pa_cons (pv 0) (pa_cons pe_int pa_nil))) pa_nil)) pe_int))) pss_nil)
    (pss_cons (ps_set (i := 3) sc_law_near.nd rfl (Or.inr rfl) (pe_cl C_law_place hr (by rfl) (pa_cons (pv 0) (pa_cons pe_int pa_nil))))
    (pss_cons (ps_set (i := 5) sc_law_near.nd rfl (Or.inl rfl) (pe_callTy tup1 (by rfl) T.no_tuple (by decide +kernel) (pa_cons (pe_lc (own := [("k", 7)]) (g := gName 7) (tt := tYes) rfl sc_law_near.nd (pi_range1 (by rfl) T.no_range (pa_cons (pv 3) pa_nil)) (blkOk_by (own := [("k", 7)]) (N := ["store", "pick", "move", "many", "shift", "image", "p", "k"]) (sc := defScope st_law_near) (by decide +kernel)) (fun _ _ _ _ _ => (pg_name (i := 7) sc_law_near.nd rfl (Or.inl rfl))) (fun _ _ _ _ _ => pts_nil) (fun _ _ _ _ _ => (pe_cl C_law_place hr (by rfl) (pa_cons (pv 0) (pa_cons (pe_callB (call_max2 rfl) (by rfl) T.no_max (by decide +kernel) (pa_cons pe_int (pa_cons (pv 3) pa_nil))) pa_nil))))) pa_nil)))
    (pss_one (ps_ret (pe_op op_repT1 (pv 5) (pe_op op_add pe_int (pe_cl C_law_pick hr (by rfl) (pa_cons (pv 0) (pa_cons (pe_lst (pa_cons pe_int (pa_cons pe_int (pa_cons pe_int (pa_cons pe_int (pa_cons (pe_cl C_law_take hr (by rfl) (pa_cons (pv 0) (pa_cons pe_int pa_nil))) pa_nil)))))) pa_nil)))))))))) pss_nil)
    (pss_one (ps_ret (pe_cl C_law_judged hr (by rfl) (pa_cons (pv 0) (pa_cons (pv 2) pa_nil))))))))))))), ?_⟩
  walk_at "sq"
  refine ⟨s, l, _, rfl, by decide, st, fun pk H1 g1 r0 r1 r2 => ?_⟩
  have := r1 (by decide)
  walk_at "sq"
  refine ⟨s, l, _, rfl, g1.st, by decide, by decide, fun n H2 g12 n0 n1 => ?_⟩
  walk_at "wn"
  refine ⟨s, l, n, rfl, g12.st, n0, by omega, fun m ns H3 g23 hm em hp => ?_⟩
  have g2 := g1.trans g12
  have g3 := g2.trans g23
  have hmH := g2.fr hm
  have hms := (st.ne hmH).1
  have hl : ns.length ≤ 12 := by rw [hp.length_eq, rng_len]; omega
  have qm := sq_t em
  have hmd : Db E H3 41 (.ref m) := (AllI.map ns).db (lv.out hmH) (.inl em) (by rw [List.length_map]; omega)
  walk_at "sq"
  split
  · exact k _ _ g3 (hmd.le (by omega))
  walk_at "sq"
  split
  · exact ⟨s, l, m, E, n.toNat, ns, rfl, g3.st, lv.ge g3, hsE, hms, em, hp, by omega, fun v H4 g4 hv => k _ _ (g3.trans g4) (hv.le (by omega))⟩
  walk_at "sq"
  split
  · walk_at "sq"
    refine ⟨s, l, _, rfl, g3.st, by decide, by decide, fun c H4 g34 c0 c1 => ?_⟩
    have g4 := g3.trans g34
    walk_at "wn"
    refine ⟨.of_le (by decide) (by omega) (by decide) (by omega), fun p H5 n5 => ?_⟩
    have e5 := n5.at_
    rw [rgV_rng (by omega)] at e5
    have g5 := g4.new n5
    walk_at "wn"
    refine ⟨s, l, p, _, _, rfl, g5.st, sq_l e5, by rw [List.length_map, rng_len]; omega, by omega, fun q H6 ys rest g56 hq e6 hperm hlen => ?_⟩
    obtain ⟨L, h1, h2⟩ := perm_ints hperm
    obtain ⟨r, rst, rfl, rfl, rfl⟩ := append_ints h1
    have hll := h2.length_eq
    rw [List.length_append, rng_len] at hll
    walk_at "wn"
    refine ⟨_, e6, fun u H7 n7 => k _ _ ((g5.trans g56).new n7) ((AllI.map r).db ((lv.ge (g5.trans g56)).out n7.fr) (.inl n7.at_) (by rw [List.length_map]; omega))⟩
  walk_at "sq"
  split
  · refine ⟨s, l, _, rfl, by decide, g3.st, fun c H4 g34 c0 c1 c2 => ?_⟩
    have := c1 (by decide)
    have g4 := g3.trans g34
    walk_at "wn"
    exact ⟨s, l, E, _, rfl, g34.st, lv.ge g4, hsE, by omega, by omega, fun v H5 g5 hv => k _ _ (g4.trans g5) (hv.le (by omega))⟩
  walk_at "sq"
  split
  · walk_at "sq"
    refine ⟨s, l, rfl, g3.st, fun wh H4 g34 w0 w1 => ?_⟩
    have g4 := g3.trans g34
    walk_at "wn"
    refine ⟨⟨by decide, by decide⟩, szl (by decide), fun p H5 n5 => ?_⟩
    have g5 := g4.new n5
    have hp5 := g4.fr n5.fr
    walk_at "wn"
    refine ⟨s, l, p, _, rfl, g5.st, (st.ne hp5).1, sq_l n5.at_, by simp, by show 5 < 2 ^ 62; decide, fun x H6 g56 hx => ?_⟩
    have g6 := g5.trans g56
    obtain ⟨sh', rfl⟩ : ∃ i, x = V.int i := by
      simp only [List.mem_cons, List.not_mem_nil, or_false] at hx
      rcases hx with h | h | h | h | h <;> exact ⟨_, h⟩
    have em6 := (g34.trans ((Ge.refl g34.st).new n5 |>.trans g56)).k hms em
    walk_at "sq"
    refine cs_by (sq_t em6) (fun C i acc H' => Ge s l H H' ∧ AllI acc ∧ acc.length = i ∧ H' m = some (.tup (ns.map V.int))) (fun C H0 n0 => ⟨g6.new n0, by simp [AllI], rfl, n0.k em6⟩) (fun C i acc H' _ p o ho => by rw [em6] at ho; cases ho; exact p.2.2.2) ?_ ?_
    · rintro C i x acc H7 N hC hi ha ⟨g7, hai, hil, em7⟩ hN
      obtain ⟨z, rfl⟩ := AllI.map ns x (List.mem_of_getElem? hi)
      have hlt : i < (ns.map V.int).length := (List.getElem?_eq_some_iff.mp hi).1
      rw [List.length_map] at hlt
      walk_at "wn"
      refine cst ha (szl' (by omega)) fun H8 n8 => hN _ _ n8.at_ ⟨g7.put st (g6.fr hC) n8, all_app hai ⟨_, rfl⟩, by simp [hil], n8.k (ne_of em7 ha (by intro z; cases z)) em7⟩
    · rintro C acc H7 hC ha ⟨g7, hai, hil, em7⟩
      rw [List.length_map] at hil
      have fC := g6.fr hC
      refine seq_join (fun σ H' => ∃ vp im ys, σ = [some (.ref s), some (.int vp), some (.ref m), none, some (.int sh'), some (.ref im), none, none] ∧ Ge s l H H' ∧ H im = none ∧ H' im = some (.lst ys) ∧ AllI ys ∧ ys.length ≤ 12) (fun N hN => ?_) ?_
      · have qm7 := sq_t em7
        have keep := hN _ _ ⟨5, C, acc, rfl, g7, fC, ha, hai, by omega⟩
        walk_at "wn"
        refine ⟨_, qm7, ?_⟩
        rw [List.length_map]
        split
        · rename_i hz
          refine ⟨s, l, _, rfl, by decide, g7.st, fun c H8 g78 c0 c1 c2 => ?_⟩
          have g8 := g7.trans g78
          have em8 := g78.k hms em7
          walk_at "wn"
          split
          · walk_at "sq"
            refine ⟨_, sq_t em8, fun im H9 n9 => ?_⟩
            have g9 := g8.new n9
            have fim := g8.fr n9.fr
            walk_at "wn"
            refine ⟨s, l, rfl, g9.st, fun wv H10 g910 _ _ => ?_⟩
            have em10 := g910.k hms (n9.k em8)
            have e10 := g910.at st fim n9.at_
            walk_at "wn"
            refine ⟨_, sq_t em10, ?_⟩
            rw [List.length_map]
            refine ⟨s, l, _, rfl, g910.st, by omega, by omega, fun at_ H11 g1011 a0 a1 => ?_⟩
            have e11 := g1011.at st fim e10
            walk_at "wn"
            refine ⟨_, e11, _, ixN_of a0 (by rw [List.length_map]; exact a1), fun H12 n12 => hN _ _ ⟨_, im, _, rfl, ((g9.trans g910).trans g1011).put st fim n12, fim, n12.at_, fun y hy => ?_, by rw [List.length_set, List.length_map]; omega⟩⟩
            rcases List.mem_or_eq_of_mem_set hy with h | h
            · exact AllI.map ns y h
            · exact ⟨_, h⟩
          · exact hN _ _ ⟨_, C, acc, rfl, g8, fC, g78.at st fC ha, hai, by omega⟩
        · exact keep
      · rintro _ H8 ⟨vp, im, ys, rfl, g8, fim, e8, hai, hil⟩
        walk_at "wn"
        refine ⟨_, e8, fun u H9 n9 => k _ _ (g8.new n9) (hai.db ((lv.ge g8).out n9.fr) (.inl n9.at_) (by omega))⟩
  walk_at "sq"
  split
  · rw [a_seq]
    walk_at "wn"
    refine ⟨s, l, _, rfl, by decide, g3.st, fun c H4 g34 c0 c1 c2 => ?_⟩
    have g4 := g3.trans g34
    walk_at "wn"
    split
    · refine ⟨s, l, _, rfl, by decide, g34.st, fun c' H5 g45 d0 d1 d2 => ?_⟩
      have g5 := g4.trans g45
      walk_at "wn"
      refine ⟨szl (by decide), fun p H6 n6 => ?_⟩
      have g6 := g5.new n6
      walk_at "wn"
      have ai : AllI [V.int c'] := fun x hx => ⟨c', List.mem_singleton.mp hx⟩
      refine ⟨_, n6.at_, by decide, by show (1 : Int) * 200000 ≤ 4000000; decide, by decide, fun hz => ?_, fun q H7 n7 => ?_⟩
      · rcases hz with h | h
        · cases h
        · cases h
      · refine k _ _ (g6.new n7) (ai.rep.db ((lv.ge g6).out n7.fr) (.inl n7.at_) ?_)
        rw [rep_len]
        show 200000 * 1 + 1 ≤ 250000
        decide
    · walk_at "sq"
      refine ⟨s, l, _, rfl, g34.st, by decide, by decide, fun mm H5 g45 m0 m1 => ?_⟩
      have g5 := g4.trans g45
      walk_at "sq"
      refine ⟨by omega, by omega, ?_⟩
      refine cr_by (fun C i acc H' => Ge s l H H' ∧ AllI acc ∧ acc.length = i) (fun C H0 n0 => ⟨g5.new n0, by simp [AllI], rfl⟩) ?_ ?_
      · rintro C i acc H6 N hC hi ha ⟨g6, hai, hil⟩ hN
        walk_at "wn"
        refine ⟨s, l, _, rfl, g6.st, by split <;> omega, by split <;> omega, fun r H7 g67 _ _ => ?_⟩
        have e7 := g67.at st (g5.fr hC) ha
        refine cst e7 (szl' (by omega)) fun H8 n8 => hN _ _ n8.at_ ⟨(g6.trans g67).put st (g5.fr hC) n8, all_app hai ⟨_, rfl⟩, by simp [hil]⟩
      · rintro C acc H6 hC ha ⟨g6, hai, hil⟩
        walk_at "wn"
        refine ⟨_, ha, fun im H7 n7 => ?_⟩
        have g7 := g6.new n7
        have fim := g6.fr n7.fr
        walk_at "wn"
        refine ⟨s, l, _, rfl, by decide, g7.st, fun c' H8 g78 d0 d1 d2 => ?_⟩
        have g8 := g7.trans g78
        have := d1 (by decide)
        have e8 := g78.at st fim n7.at_
        walk_at "wn"
        refine ⟨szl (by decide), fun p H9 n9 => ?_⟩
        have g9 := g8.new n9
        walk_at "wn"
        refine ⟨s, l, p, _, rfl, g9.st, (st.ne (g8.fr n9.fr)).1, sq_l n9.at_, by simp, by show 5 < 2 ^ 62; decide, fun x H10 g910 hx => ?_⟩
        obtain ⟨z, rfl, z0, z1⟩ : ∃ i, x = V.int i ∧ 0 ≤ i ∧ i < 200 := by
          simp only [List.mem_cons, List.not_mem_nil, or_false] at hx
          rcases hx with h | h | h | h | h <;> exact ⟨_, h, by omega, by omega⟩
        have g10 := g9.trans g910
        have e10 := g910.at st fim (n9.k e8)
        walk_at "wn"
        have hml : (acc.length : Int) * (1 + z) ≤ 14 * 201 := Int.mul_le_mul (by omega) (by omega) (by omega) (by omega)
        refine ⟨_, e10, by omega, by omega, by omega, fun _ => k _ _ g10 (hai.db (lv.out fim) (.inl e10) (by omega)), fun q H11 n11 => ?_⟩
        refine k _ _ (g10.new n11) (hai.rep.db ((lv.ge g10).out n11.fr) (.inl n11.at_) ?_)
        rw [rep_len]
        have : (1 + z).toNat * acc.length ≤ 201 * 14 := Nat.mul_le_mul (by omega) (by omega)
        omega
  walk_at "wn"
  exact ⟨s, l, E, .ref m, 41, rfl, g3.st, lv.ge g3, hsE, hmd, by omega, fun u H4 g4 hu => k _ _ (g3.trans g4) (hu.le (by omega))⟩
end

/-! ## T12 -/

theorem kb_tt : kitB "tuple" "tuple" = some true := by decide +kernel
theorem Dw.bl0 {H : Hp} (b : Bool) : Dw [] H (.bl b) (.bool b) 1 := .lf (.bl b)
section
variable {P : Program} {w : World} {K : PySem.W.Frag} {mg : Str → Option Value} {base : Heap}
/-! answers -/
def sp_answers : Sp := fun vs H Q _ => ∃ (v : V) (E : List Addr) (d : PyData) (n : Nat), vs = [v] ∧ Lv E H ∧ Dw E H v d n ∧ n ≤ 400000 ∧ ∀ H', Same H H' → Q (.bl true) H'
abbrev st_law_answers : Stmt := topS 29
theorem sc_law_answers : FnScope ["value", "due", "before"] ["value"] (defScope st_law_answers) := ⟨rfl, rfl, rfl, by decide +kernel, rfl, by decide +kernel, by decide +kernel⟩
theorem ok_law_answers (D : Df K mg "_law_answers" st_law_answers) (T : NoB mg) (C_law_counted : Cl P w K mg base 2 "_law_counted" ["value"] sp_is_move) (C_law_frozen : Cl P w K mg base 9 "_law_frozen" ["value", "deep"] (sp_frozen 9)) (C_law_same : Cl P w K mg base 2 "_law_same" ["actual", "due"] sp_same) (Cis_move : Cl P w K mg base 2 "is_move" ["value"] sp_is_move) : Cl P w K mg base 10 "_law_answers" ["value"] sp_answers := by
  refine cl_of D sc_law_answers (fun _ _ _ _ _ _ us hl => match us, hl with | [_], _ => rfl) (fun vs H Q E h => ?_) (fun f cdv A outer sh H vs Q E hr h => ?_)
  · obtain ⟨_, _, _, _, rfl, _⟩ := h; rfl
  obtain ⟨v, E, d, n, rfl, lv, hv, hn, k⟩ := h
  refine ⟨_, (pss_cons (ps_set (i := 1) sc_law_answers.nd rfl (Or.inl rfl) (pe_cl C_law_counted hr (by rfl) (pa_cons (pv 0) pa_nil)))
    (pss_cons (ps_set (i := 2) sc_law_answers.nd rfl (Or.inl rfl) (pe_cl C_law_frozen hr (by rfl) (pa_cons (pv 0) (pa_cons pe_int pa_nil))))
    (pss_cons (ps_if (pt_not (pt_val (pe_cl C_law_same hr (by rfl) (pa_cons (pe_cl Cis_move hr (by rfl) (pa_cons (pv 0) pa_nil)) (pa_cons (pv 1) pa_nil))))) (pss_one (ps_ret pe_bl)) pss_nil)
    (pss_cons (ps_if (PW.pt (pw_and (pt_val (pe_callB isi1 (by rfl) T.no_isinstance (by decide +kernel) (pa_cons (pv 0) (pa_cons (pe_bltn (by rfl) T.no_tuple (by decide +kernel) (show RelV (.ty "tuple") _ from rfl)) pa_nil)))) (pw_and1 (pt_not (pt_val (pe_cl C_law_same hr (by rfl) (pa_cons (pe_cl Cis_move hr (by rfl) (pa_cons (pe_callTy lst1 (by rfl) T.no_list (by decide +kernel) (pa_cons (pv 0) pa_nil)) pa_nil)) (pa_cons pe_bl pa_nil)))))))) (pss_one (ps_ret pe_bl)) pss_nil)
    (pss_one (ps_ret (pe_and (pe_cl C_law_same hr (by rfl) (pa_cons (pe_cl Cis_move hr (by rfl) (pa_cons (pv 0) pa_nil)) (pa_cons (pv 1) pa_nil))) (pe_one (pe_cl C_law_same hr (by rfl) (pa_cons (pe_cl C_law_frozen hr (by rfl) (pa_cons (pv 0) (pa_cons pe_int pa_nil))) (pa_cons (pv 2) pa_nil))))))))))), ?_⟩
  walk_at "sq"
  refine ⟨v, E, d, n, rfl, hv, fun H1 s1 => ?_⟩
  walk_at "sq"
  refine ⟨v, 8, E, d, n, rfl, by decide, by decide, lv.same s1, hv.same s1, by omega, fun u m H2 s12 hu hm => ?_⟩
  have s2 := s1.trans s12
  walk_at "sq"
  refine ⟨v, E, d, n, rfl, hv.same s2, fun H3 s23 => ?_⟩
  have s3 := s2.trans s23
  walk_at "wn"
  refine ⟨.bl (isMoveD d), .bl (isMoveD d), .bool (isMoveD d), 1, 1, rfl, .bl0 _, .bl0 _, by decide, fun H4 s34 => ?_⟩
  have s4 := s3.trans s34
  walk_at "wn"
  have fin : ∀ H5, Same H H5 → Same H2 H5 → sp_is_move [v] H5 (fun x H1 => sp_same [x, .bl (isMoveD d)] H1 (fun x H1 => ∃ c, x = .bl c ∧ if c = true then sp_frozen 9 [v, .int 8] H1 (fun x H1 => sp_same [x, u] H1 Q E0) E0 else Q (.bl false) H1) E0) E0 := by
    intro H5 s5 s25
    refine ⟨v, E, d, n, rfl, hv.same s5, fun H6 s56 => ?_⟩
    have s6 := s5.trans s56
    refine ⟨.bl (isMoveD d), .bl (isMoveD d), .bool (isMoveD d), 1, 1, rfl, .bl0 _, .bl0 _, by decide, fun H7 s67 => ⟨true, rfl, ?_⟩⟩
    have s7 := s6.trans s67
    rw [if_pos rfl]
    refine ⟨v, 8, E, d, n, rfl, by decide, by decide, lv.same s7, hv.same s7, by omega, fun u2 m2 H8 s78 hu2 hm2 => ?_⟩
    have s8 := s7.trans s78
    refine ⟨u2, u, _, m2, m, rfl, hu2.sub (fun a z => absurd z (by simp)), ((hu.same (((s25.trans s56).trans s67).trans s78)).sub (fun a z => absurd z (by simp))), by omega, fun H9 s89 => k H9 (s8.trans s89)⟩
  have fin4 := fin H4 s4 (s23.trans s34)
  rw [a_seq]
  cases hv with
  | lf l => cases l <;> walk_at "wps"
  | lst ne h a =>
    have ht := ty_l (s4 _ _ h)
    walk_at "wps"
  | @tup a xs ds m' ne h da =>
    have ht := ty_t (s4 _ _ h)
    have qa := sq_t (s4 _ _ h)
    walk_at "wn"
    refine ⟨_, ht, _, kb_tt, ?_⟩
    walk_at "wn"
    refine ⟨_, qa, fun p H5 n5 => ?_⟩
    have s5 := s4.trans n5.same
    walk_at "wn"
    refine ⟨.ref p, [], .list ds, m' + 1, rfl, .lst (by simp) n5.at_ ((da.same s5).sub fun a z => absurd z (by simp)), fun H6 s56 => ?_⟩
    rw [not_move_list]
    walk_at "wn"
    refine ⟨.bl false, .bl false, .bool false, 1, 1, rfl, .bl0 _, .bl0 _, by decide, fun H7 s67 => ?_⟩
    walk_at "wn"
    exact fin H7 ((s5.trans s56).trans s67) (((((s23.trans s34).trans n5.same).trans s56).trans s67))
end

/-! ## T13 -/

def IB (ys : List V) : Prop := ∀ y ∈ ys, (∃ i, y = V.int i) ∨ ∃ b, y = V.bl b
theorem IB.all {H : Hp} : ∀ {ys : List V}, IB ys → ∃ ds, ∀ H : Hp, DwAll [] H ys ds ys.length
  | [], _ => ⟨[], fun H => .nil⟩
  | y :: r, h => by
    obtain ⟨ds, hd⟩ := IB.all (H := H) (ys := r) fun z hz => h z (List.mem_cons_of_mem _ hz)
    rcases h y List.mem_cons_self with ⟨i, rfl⟩ | ⟨b, rfl⟩
    · refine ⟨.int i :: ds, fun H => ?_⟩
      have := DwAll.cons (E := []) (H := H) (.lf (.int i)) (hd H)
      rw [List.length_cons, Nat.add_comm]; exact this
    · refine ⟨.bool b :: ds, fun H => ?_⟩
      have := DwAll.cons (E := []) (H := H) (.lf (.bl b)) (hd H)
      rw [List.length_cons, Nat.add_comm]; exact this
theorem dw_itup {H : Hp} {p : Addr} {ns : List Int} (h : H p = some (.tup (ns.map V.int))) : Dw [] H (.ref p) (.tuple (ns.map .int)) (ns.length + 1) := .tup (by simp) h (DwAll.ints ns)
theorem dw_ilst {H : Hp} {p : Addr} {ns : List Int} (h : H p = some (.lst (ns.map V.int))) : Dw [] H (.ref p) (.list (ns.map .int)) (ns.length + 1) := .lst (by simp) h (DwAll.ints ns)
theorem same_b {H : Hp} {Q : VK} {b c : Bool} (e : b = c) (k : ∀ H', Same H H' → Q (.bl true) H') : sp_same [.bl b, .bl c] H Q E0 := ⟨.bl b, .bl c, .bool b, 1, 1, rfl, .bl0 _, by rw [e]; exact .bl0 _, by decide, k⟩
section
variable {P : Program} {w : World} {K : PySem.W.Frag} {mg : Str → Option Value} {base : Heap}
def sp_law (K : PySem.W.Frag) : Sp := fun vs H Q _ => ∃ (a : Addr) (ns : List Int), vs = [.ref a] ∧ SqL K H a (ns.map V.int) ∧ ns.length ≤ 63 ∧ ∀ H', Q (.bl true) H'
abbrev stlaw : Stmt := topS 30
theorem sclaw : FnScope ["script", "store", "points", "good", "twin", "k", "wide"] ["script"] (defScope stlaw) := ⟨rfl, rfl, rfl, by decide +kernel, rfl, by decide +kernel, by decide +kernel⟩
theorem oklaw {f : Addr} {fd : FuncData} (F : FnP K "law" stlaw f fd) (T : NoB mg) (C_law_answers : Cl P w K mg base 10 "_law_answers" ["value"] sp_answers) (C_law_counted : Cl P w K mg base 2 "_law_counted" ["value"] sp_is_move) (C_law_drawn : Cl P w K mg base 3 "_law_drawn" ["store", "things", "many"] sp_drawn) (C_law_move : Cl P w K mg base 4 "_law_move" ["store", "points"] sp_move) (C_law_near : Cl P w K mg base 10 "_law_near" ["store"] sp_near) (C_law_place : Cl P w K mg base 3 "_law_place" ["store", "size"] sp_place) (C_law_same : Cl P w K mg base 2 "_law_same" ["actual", "due"] sp_same) (C_law_store : Cl P w K mg base 1 "_law_store" ["script"] (sp_store K)) (C_law_take : Cl P w K mg base 2 "_law_take" ["store", "many"] sp_take) (Cis_move : Cl P w K mg base 2 "is_move" ["value"] sp_is_move) : FnOk P w K mg base CX0 11 f fd ["script"] (sp_law K) := by
  refine fn_ofF F sclaw (fun vs H Q E h => ?_) (fun f cdv A outer sh H vs Q E hr h => ?_)
  · obtain ⟨_, _, rfl, _⟩ := h; rfl
  obtain ⟨a, cells, rfl, hs, hn, k⟩ := h
  refine ⟨_, (pss_cons (ps_set (i := 1) sclaw.nd rfl (Or.inl rfl) (pe_cl C_law_store hr (by rfl) (pa_cons (pv 0) pa_nil)))
    (pss_cons (ps_set (i := 2) sclaw.nd rfl (Or.inl rfl) (pe_cl C_law_place hr (by rfl) (pa_cons (pv 1) (pa_cons pe_int pa_nil))))
    (pss_cons (ps_set (i := 3) sclaw.nd rfl (Or.inl rfl) (pe_cl C_law_move hr (by rfl) (pa_cons (pv 1) (pa_cons (pv 2) pa_nil))))
    (pss_cons (ps_set (i := 4) sclaw.nd rfl (Or.inl rfl) (pe_callTy lst1 (by rfl) T.no_list (by decide +kernel) (pa_cons (pv 3) pa_nil)))
    (pss_cons (ps_for PassesOwn.never rfl (pi_range1 (by rfl) T.no_range (pa_cons (pv 2) pa_nil)) (pg_name (i := 5) sclaw.nd rfl (Or.inl rfl)) (pss_one (ps_if (PW.pt (pw_and (pt_cmpR op_lt (pe_ix ix1 (pv 3) (pv 5) (fun _ _ => rfl)) pe_int (nomark _)) (pw_and1 (pt_cmpR op_eq (pe_cl C_law_take hr (by rfl) (pa_cons (pv 1) (pa_cons pe_int pa_nil))) pe_int (nomark _))))) (pss_one (ps_asg (pe_cmpR op_eq (pe_ix ix1 (pv 3) (pv 5) (fun _ _ => rfl)) pe_int (nomark _)) (pg_sub (pv 4) (pv 5) set_list))) pss_nil)))
    (pss_cons (ps_for PassesOwn.never rfl (pi_range1 (by rfl) T.no_range (pa_cons pe_int pa_nil)) (pg_name (i := 5) sclaw.nd rfl (Or.inl rfl)) (pss_cons (ps_if (PW.pt (pw_or (pt_not (pt_val (pe_cl C_law_answers hr (by rfl) (pa_cons (pe_cl C_law_near hr (by rfl) (pa_cons (pv 1) pa_nil)) pa_nil)))) (pw_or1 (pt_not (pt_val (pe_cl C_law_same hr (by rfl) (pa_cons (pe_cl Cis_move hr (by rfl) (pa_cons (pv 3) pa_nil)) (pa_cons pe_bl pa_nil)))))))) (pss_one (ps_ret pe_bl)) pss_nil)
    (pss_one (ps_if (pt_not (pt_val (pe_cl C_law_same hr (by rfl) (pa_cons (pe_cl Cis_move hr (by rfl) (pa_cons (pe_callTy tup1 (by rfl) T.no_tuple (by decide +kernel) (pa_cons (pv 4) pa_nil)) pa_nil)) (pa_cons (pe_cl C_law_counted hr (by rfl) (pa_cons (pe_callTy tup1 (by rfl) T.no_tuple (by decide +kernel) (pa_cons (pv 4) pa_nil)) pa_nil)) pa_nil))))) (pss_one (ps_ret pe_bl)) pss_nil))))
    (pss_cons (ps_set (i := 6) sclaw.nd rfl (Or.inl rfl) (pe_cl C_law_drawn hr (by rfl) (pa_cons (pv 1) (pa_cons (pe_listRg rfl (by rfl) T.no_list (prg_1 (by rfl) T.no_range pe_int)) (pa_cons pe_int pa_nil)))))
    (pss_cons (ps_if (PW.pt (pw_or (pt_not (pt_val (pe_cl C_law_same hr (by rfl) (pa_cons (pe_cl Cis_move hr (by rfl) (pa_cons (pe_callTy tup1 (by rfl) T.no_tuple (by decide +kernel) (pa_cons (pv 6) pa_nil)) pa_nil)) (pa_cons pe_bl pa_nil))))) (pw_or1 (pt_not (pt_val (pe_cl C_law_same hr (by rfl) (pa_cons (pe_cl Cis_move hr (by rfl) (pa_cons (pe_callTy tup1 (by rfl) T.no_tuple (by decide +kernel) (pa_cons (pe_op op_cat (pv 6) (pe_lst (pa_cons pe_int pa_nil))) pa_nil)) pa_nil)) (pa_cons pe_bl pa_nil)))))))) (pss_one (ps_ret pe_bl)) pss_nil)
    (pss_one (ps_ret (pe_and (pe_cl C_law_same hr (by rfl) (pa_cons (pe_cl Cis_move hr (by rfl) (pa_cons (pe_tup pa_nil) pa_nil)) (pa_cons pe_bl pa_nil))) (pe_and (pe_cl C_law_same hr (by rfl) (pa_cons (pe_cl Cis_move hr (by rfl) (pa_cons (pv 6) pa_nil)) (pa_cons pe_bl pa_nil))) (pe_one (pe_cl C_law_same hr (by rfl) (pa_cons (pe_cl Cis_move hr (by rfl) (pa_cons (pe_tup (pa_cons pe_bl pa_nil)) pa_nil)) (pa_cons pe_bl pa_nil)))))))))))))))), ?_⟩
  walk_at "sq"
  refine ⟨a, cells, rfl, hs, by omega, fun s l H1 s1 hs1 st => ?_⟩
  walk_at "sq"
  refine ⟨s, l, _, rfl, st, by decide, by decide, fun n H2 g2 n0 n1 => ?_⟩
  walk_at "sq"
  refine ⟨s, l, n, rfl, g2.st, n0, by omega, fun gd ns H3 g23 hgd eg hp => ?_⟩
  have g3 := g2.trans g23
  have fgd := g2.fr hgd
  have hgs := (st.ne fgd).1
  have hnl : ns.length = n.toNat := by rw [hp.length_eq, rng_len]
  have qg := sq_t eg
  have mv : isMoveD (.tuple (ns.map .int)) = true := isMove_t ⟨ns, rfl, by omega, by rw [hnl]; exact hp⟩
  walk_at "sq"
  refine fun tw H4 n4 => ?_
  have g4 := g3.new n4
  have ftw := g3.fr n4.fr
  have eg4 := n4.k eg
  have netw : tw ≠ gd := (n4.ne eg).symm
  walk_at "sq"
  refine ⟨by omega, by omega, ?_⟩
  refine fr_by (fun i σ H' => ∃ v5 ys, σ = [some (.ref a), some (.ref s), some (.int n), some (.ref gd), some (.ref tw), v5, none] ∧ Ge s l H1 H' ∧ H' gd = some (.tup (ns.map V.int)) ∧ H' tw = some (.lst ys) ∧ IB ys ∧ ys.length = ns.length)
    ⟨none, _, rfl, g4, eg4, n4.at_, fun y hy => .inl (AllI.map ns y hy), by rw [List.length_map]⟩ ?_ ?_
  · rintro i _ H5 N hN hi ⟨v5, ys, rfl, g5, eg5, et5, hib, hyl⟩
    have hin : i < ns.length := by omega
    have qg5 := sq_t eg5
    have hat : atI (ns.map V.int) (0 + (i : Int)) = some (.int ns[i]) := atI_of (by omega) (by simp [hin])
    walk_at "wn"
    refine ⟨_, qg5, _, hat, ?_⟩
    walk_at "wn"
    split
    · refine ⟨s, l, _, rfl, by decide, g5.st, fun c H6 g56 c0 c1 c2 => ?_⟩
      have eg6 := g56.k hgs eg5
      have et6 := g56.at st ftw et5
      walk_at "wn"
      split
      · refine ⟨_, sq_t eg6, _, hat, ?_⟩
        walk_at "wn"
        refine ⟨ys, et6, i, ?_, fun H7 n7 => hN _ _ ⟨_, _, rfl, (g5.trans g56).put st ftw n7, n7.k netw.symm eg6, n7.at_, fun y hy => ?_, by rw [List.length_set, hyl]⟩⟩
        · have := ixN_of (n := ys.length) (i := 0 + (i : Int)) (by omega) (by omega)
          rw [this]; congr 1; omega
        · rcases List.mem_or_eq_of_mem_set hy with h | h
          · exact hib y h
          · exact .inr ⟨_, h⟩
      · exact hN _ _ ⟨_, ys, rfl, g5.trans g56, eg6, et6, hib, hyl⟩
    · exact hN _ _ ⟨_, ys, rfl, g5, eg5, et5, hib, hyl⟩
  · rintro _ H5 ⟨v5, ys, rfl, g5, eg5, et5, hib, hyl⟩
    obtain ⟨ds, hds⟩ := IB.all (H := H5) hib
    have st5 := g5.st
    walk_at "sq"
    refine ⟨by decide, by decide, ?_⟩
    refine fr_by (fun i σ H' => ∃ v5, σ = [some (.ref a), some (.ref s), some (.int n), some (.ref gd), some (.ref tw), v5, none] ∧ Ge s l H1 H' ∧ H' gd = some (.tup (ns.map V.int)) ∧ H' tw = some (.lst ys))
      ⟨v5, rfl, g5, eg5, et5⟩ ?_ ?_
    · rintro i _ H6 N hN hi ⟨v5, rfl, g6, eg6, et6⟩
      have lv6 : Lv [s] H6 := fun x hx => by
        obtain ⟨cs, i1, i2, i3, i4, i5, i6, e, _⟩ := g6.st
        rw [List.mem_singleton.mp hx, e]; exact fun z => by cases z
      walk_at "wn"
      walk_at "sq"
      refine ⟨s, l, [s], rfl, g6.st, lv6, by simp, fun u H7 g67 hu => ?_⟩
      obtain ⟨d, c, hu, hc⟩ := hu
      walk_at "wn"
      refine ⟨u, [s], d, c, rfl, lv6.ge g67, hu, by omega, fun H8 s78 => ?_⟩
      have g8 := (g6.trans g67).same s78
      have eg8 := s78 _ _ (g67.k hgs eg6)
      have et8 := s78 _ _ (g67.at st ftw et6)
      walk_at "wn"
      refine ⟨.ref gd, [], _, _, rfl, dw_itup eg8, fun H9 s89 => ?_⟩
      rw [mv]
      walk_at "wn"
      refine same_b rfl fun H10 s910 => ?_
      have s810 := s89.trans s910
      have et10 := s810 _ _ et8
      walk_at "wn"
      refine ⟨ys, et10, fun q H11 n11 => ?_⟩
      walk_at "wn"
      refine ⟨.ref q, [], .tuple ds, ys.length + 1, rfl, .tup (by simp) n11.at_ (hds _), fun H12 s12 => ?_⟩
      have s812 := (s810.trans n11.same).trans s12
      walk_at "wn"
      refine ⟨ys, s812 _ _ et8, fun q2 H13 n13 => ?_⟩
      walk_at "wn"
      refine ⟨.ref q2, [], .tuple ds, ys.length + 1, rfl, .tup (by simp) n13.at_ (hds _), fun H14 s14 => ?_⟩
      walk_at "wn"
      refine same_b rfl fun H15 s15 => ?_
      have s815 := ((s812.trans n13.same).trans s14).trans s15
      walk_at "wn"
      exact hN _ _ ⟨_, rfl, g8.same s815, s815 _ _ eg8, s815 _ _ et8⟩
    · rintro _ H6 ⟨v5, rfl, g6, eg6, et6⟩
      walk_at "sq"
      refine ⟨.of_le (by decide) (by decide) (by decide) (by decide), fun p H7 n7 => ?_⟩
      have e7 := n7.at_
      rw [rgV_rng (by decide)] at e7
      have g7 := g6.new n7
      walk_at "wn"
      refine ⟨s, l, p, _, _, rfl, g7.st, sq_l e7, by rw [List.length_map, rng_len]; decide, by decide, fun wd H8 ys' rest g78 hwd e8 hperm hlen => ?_⟩
      obtain ⟨L, h1, h2⟩ := perm_ints hperm
      obtain ⟨r, rst, rfl, rfl, rfl⟩ := append_ints h1
      have hll := h2.length_eq
      rw [List.length_append, rng_len] at hll
      have hrl : r.length = 12 := by
        rw [List.length_map, List.length_map, rng_len] at hlen
        rw [hlen]; rfl
      have hrst : rst = [] := List.eq_nil_of_length_eq_zero (by have : Int.toNat 12 = 12 := rfl; omega)
      rw [hrst, List.append_nil] at h2
      have mw : isMoveD (.tuple (r.map .int)) = true := isMove_t ⟨r, rfl, by omega, by rw [hrl]; exact h2⟩
      walk_at "sq"
      refine fun q H9 n9 => ?_
      walk_at "wn"
      refine ⟨.ref q, [], _, _, rfl, dw_itup n9.at_, fun H10 s10 => ?_⟩
      rw [mw]
      walk_at "wn"
      refine same_b rfl fun H11 s11 => ?_
      have s811 := (n9.same.trans s10).trans s11
      have e11 := s811 _ _ e8
      walk_at "wn"
      refine ⟨szl (by decide), fun p12 H12 n12 => ?_⟩
      walk_at "wn"
      refine ⟨_, n12.k e11, _, n12.at_, szl (by rw [List.length_map]; simp only [List.length_cons, List.length_nil]; omega), fun p13 H13 n13 => ?_⟩
      have s813 := (s811.trans n12.same).trans n13.same
      walk_at "wn"
      refine ⟨_, n13.at_, fun p14 H14 n14 => ?_⟩
      have e14 : H14 p14 = some (.tup ((r ++ [12]).map V.int)) := by rw [n14.at_, List.map_append] <;> rfl
      walk_at "wn"
      refine ⟨.ref p14, [], _, _, rfl, dw_itup e14, fun H15 s15 => ?_⟩
      have nm13 : isMoveD (PyData.tuple ((r ++ [12]).map PyData.int)) = false := isMove_f fun ⟨ms, e, hm, _⟩ => by
        have := congrArg List.length (PyData.tuple.inj e)
        simp only [List.length_map, List.length_append, List.length_singleton] at this
        omega
      rw [nm13]
      walk_at "wn"
      refine same_b rfl fun H16 s16 => ?_
      have s816 := ((s813.trans n14.same).trans s15).trans s16
      have e16 := s816 _ _ e8
      walk_at "wn"
      refine ⟨szl (by decide), fun p17 H17 n17 => ?_⟩
      walk_at "wn"
      refine ⟨.ref p17, [], .tuple [], 1, rfl, .tup (by simp) n17.at_ .nil, fun H18 s18 => ?_⟩
      rw [isMove_t (d := .tuple []) ⟨[], rfl, by decide, .refl _⟩]
      walk_at "wn"
      refine same_b rfl fun H19 s19 => ⟨true, rfl, ?_⟩
      have e19 := s19 _ _ (s18 _ _ (n17.k e16))
      rw [if_pos rfl]
      walk_at "wn"
      refine ⟨.ref wd, [], _, _, rfl, dw_ilst e19, fun H20 s20 => ?_⟩
      rw [not_move_list]
      walk_at "wn"
      refine same_b rfl fun H21 s21 => ⟨true, rfl, ?_⟩
      rw [if_pos rfl]
      walk_at "wn"
      refine ⟨szl (by decide), fun p22 H22 n22 => ?_⟩
      walk_at "wn"
      refine ⟨.ref p22, [], .tuple [.bool false], 2, rfl, .tup (by simp) n22.at_ (.cons (.lf (.bl false)) .nil), fun H23 s23 => ?_⟩
      rw [isMove_f (d := .tuple [.bool false]) fun ⟨ms, e, _, _⟩ => by
        cases ms with
        | nil => cases e
        | cons z r => cases e]
      exact same_b rfl fun H24 _ => k H24
end

/-! ## T14 -/
/-! ### the head -/
def d_is_whole : He.DefD := ⟨("is_whole", none), "is_whole", "is_whole", defArgs stis_whole, defBody stis_whole, defScope stis_whole, [], []⟩
def d_is_move : He.DefD := ⟨("is_move", none), "is_move", "is_move", defArgs stis_move, defBody stis_move, defScope stis_move, [], []⟩
def d_law_store : He.DefD := ⟨("_law_store", none), "_law_store", "_law_store", defArgs st_law_store, defBody st_law_store, defScope st_law_store, [], []⟩
def d_law_mixed : He.DefD := ⟨("_law_mixed", none), "_law_mixed", "_law_mixed", defArgs st_law_mixed, defBody st_law_mixed, defScope st_law_mixed, [], []⟩
def d_law_take : He.DefD := ⟨("_law_take", none), "_law_take", "_law_take", defArgs st_law_take, defBody st_law_take, defScope st_law_take, [], []⟩
def d_law_pick : He.DefD := ⟨("_law_pick", none), "_law_pick", "_law_pick", defArgs st_law_pick, defBody st_law_pick, defScope st_law_pick, [], []⟩
def d_law_place : He.DefD := ⟨("_law_place", none), "_law_place", "_law_place", defArgs st_law_place, defBody st_law_place, defScope st_law_place, [], []⟩
def d_law_drawn : He.DefD := ⟨("_law_drawn", none), "_law_drawn", "_law_drawn", defArgs st_law_drawn, defBody st_law_drawn, defScope st_law_drawn, [], []⟩
def d_law_either : He.DefD := ⟨("_law_either", none), "_law_either", "_law_either", defArgs st_law_either, defBody st_law_either, defScope st_law_either, [], []⟩
def d_law_whole : He.DefD := ⟨("_law_whole", none), "_law_whole", "_law_whole", defArgs st_law_whole, defBody st_law_whole, defScope st_law_whole, [], []⟩
def d_law_sign : He.DefD := ⟨("_law_sign", none), "_law_sign", "_law_sign", defArgs st_law_sign, defBody st_law_sign, defScope st_law_sign, [], []⟩
def d_law_text : He.DefD := ⟨("_law_text", none), "_law_text", "_law_text", defArgs st_law_text, defBody st_law_text, defScope st_law_text, [], []⟩
def d_law_leaf : He.DefD := ⟨("_law_leaf", none), "_law_leaf", "_law_leaf", defArgs st_law_leaf, defBody st_law_leaf, defScope st_law_leaf, [], []⟩
def d_law_value : He.DefD := ⟨("_law_value", none), "_law_value", "_law_value", defArgs st_law_value, defBody st_law_value, defScope st_law_value, [], []⟩
def d_law_is_whole : He.DefD := ⟨("_law_is_whole", none), "_law_is_whole", "_law_is_whole", defArgs st_law_is_whole, defBody st_law_is_whole, defScope st_law_is_whole, [], []⟩
def d_law_same : He.DefD := ⟨("_law_same", none), "_law_same", "_law_same", defArgs st_law_same, defBody st_law_same, defScope st_law_same, [], []⟩
def d_law_frozen : He.DefD := ⟨("_law_frozen", none), "_law_frozen", "_law_frozen", defArgs st_law_frozen, defBody st_law_frozen, defScope st_law_frozen, [], []⟩
def d_law_move : He.DefD := ⟨("_law_move", none), "_law_move", "_law_move", defArgs st_law_move, defBody st_law_move, defScope st_law_move, [], []⟩
def d_law_bad_move : He.DefD := ⟨("_law_bad_move", none), "_law_bad_move", "_law_bad_move", defArgs st_law_bad_move, defBody st_law_bad_move, defScope st_law_bad_move, [], []⟩
def d_law_bent_text : He.DefD := ⟨("_law_bent_text", none), "_law_bent_text", "_law_bent_text", defArgs st_law_bent_text, defBody st_law_bent_text, defScope st_law_bent_text, [], []⟩
def d_law_bent_leaf : He.DefD := ⟨("_law_bent_leaf", none), "_law_bent_leaf", "_law_bent_leaf", defArgs st_law_bent_leaf, defBody st_law_bent_leaf, defScope st_law_bent_leaf, [], []⟩
def d_law_bent_part : He.DefD := ⟨("_law_bent_part", none), "_law_bent_part", "_law_bent_part", defArgs st_law_bent_part, defBody st_law_bent_part, defScope st_law_bent_part, [], []⟩
def d_law_bent : He.DefD := ⟨("_law_bent", none), "_law_bent", "_law_bent", defArgs st_law_bent, defBody st_law_bent, defScope st_law_bent, [], []⟩
def d_law_judged : He.DefD := ⟨("_law_judged", none), "_law_judged", "_law_judged", defArgs st_law_judged, defBody st_law_judged, defScope st_law_judged, [], []⟩
def d_law_counted : He.DefD := ⟨("_law_counted", none), "_law_counted", "_law_counted", defArgs st_law_counted, defBody st_law_counted, defScope st_law_counted, [], []⟩
def d_law_near : He.DefD := ⟨("_law_near", none), "_law_near", "_law_near", defArgs st_law_near, defBody st_law_near, defScope st_law_near, [], []⟩
def d_law_answers : He.DefD := ⟨("_law_answers", none), "_law_answers", "_law_answers", defArgs st_law_answers, defBody st_law_answers, defScope st_law_answers, [], []⟩
def d_law : He.DefD := ⟨("law", none), "law", "law", defArgs stlaw, defBody stlaw, defScope stlaw, [], []⟩
def hfn : List He.DefD := [d_is_whole, d_is_move, d_law_store, d_law_mixed, d_law_take, d_law_pick, d_law_place, d_law_drawn, d_law_either, d_law_whole, d_law_sign, d_law_text, d_law_leaf, d_law_value, d_law_is_whole, d_law_same, d_law_frozen, d_law_move, d_law_bad_move, d_law_bent_text, d_law_bent_leaf, d_law_bent_part, d_law_bent, d_law_judged, d_law_counted, d_law_near, d_law_answers, d_law]
def hfa : List He.Fa := [.glo "is_whole", .glo "is_move", .glo "_law_store", .glo "_law_mixed", .glo "_law_take", .glo "_law_pick", .glo "_law_place", .glo "_law_drawn", .glo "_law_either", .glo "_law_whole", .glo "_law_sign", .glo "_law_text", .glo "_law_leaf", .glo "_law_value", .glo "_law_is_whole", .glo "_law_same", .glo "_law_frozen", .glo "_law_move", .glo "_law_bad_move", .glo "_law_bent_text", .glo "_law_bent_leaf", .glo "_law_bent_part", .glo "_law_bent", .glo "_law_judged", .glo "_law_counted", .glo "_law_near", .glo "_law_answers", .glo "law", .free "len", .free "int", .free "bool", .free "str", .free "range", .free "isinstance", .free "tuple", .free "list", .free "min", .free "max", .free "sorted", .int "MOST_POINTS" 12]
abbrev hR : PySem.W.OpenRow := PySem.W.OpenLaw.row PySem.Challenge.rw_heldorder_k00_moves_known
abbrev hhk : PySem.W.Hook := He.hookD 4 hfa hfn
def hob (s : PySem.W.SharedT) : He.AlD := He.obsDG 4 hfa hfn (HandSHeadRun.getT s)
theorem hob_eq (s : PySem.W.SharedT) : hob s = hhk.obs s.abs := He.obsDG_eq (HandSHeadRun.getT_eq s)
def hloose : List Str := ["MOST_POINTS", "is_whole", "is_move", "_law_store", "_law_mixed", "_law_take", "_law_pick", "_law_place", "_law_drawn", "_law_either", "_law_whole", "_law_sign", "_law_text", "_law_leaf", "_law_value", "_law_is_whole", "_law_same", "_law_frozen", "_law_move", "_law_bad_move", "_law_bent_text", "_law_bent_leaf", "_law_bent_part", "_law_bent", "_law_judged", "_law_counted", "_law_near", "_law_answers"]
theorem hrun (w : World) : HandSHeadRun.RunEq hR (PySem.W.view hR.prog [30]) hhk hob 4000 hloose w := by
  intro os
  kernel_rfl
set_option maxHeartbeats 4000000 in
theorem hfacts {P : Program} {w : World} {K : PySem.W.Frag} {h : Heap} {mg : Str → Option Value} {f : Addr} (X : K.In h) (G : h.Ns mainGlobals mg) (hf : mg ("law" : Str) = some (.ref f)) (c : He.SaysD hfa hfn K) :
    ∃ fd : FuncData, (∀ (s : Shared) (v : Value), BindsTo s fd ⟨[v], []⟩ [("script", v)]) ∧ ∀ base : Heap, K.In base → base.Ns mainGlobals mg → FnOk P w K mg base CX0 11 f fd ["script"] (sp_law K) := by
  have D_is_whole : Df K mg "is_whole" stis_whole := by
    obtain ⟨fd, F⟩ := c.def_ 0 (d := d_is_whole) rfl
    exact ⟨_, fd, F, He.glo_ok X G (c.fact 0 (f := .glo "is_whole") rfl)⟩
  have D_is_move : Df K mg "is_move" stis_move := by
    obtain ⟨fd, F⟩ := c.def_ 1 (d := d_is_move) rfl
    exact ⟨_, fd, F, He.glo_ok X G (c.fact 1 (f := .glo "is_move") rfl)⟩
  have D_law_store : Df K mg "_law_store" st_law_store := by
    obtain ⟨fd, F⟩ := c.def_ 2 (d := d_law_store) rfl
    exact ⟨_, fd, F, He.glo_ok X G (c.fact 2 (f := .glo "_law_store") rfl)⟩
  have D_law_mixed : Df K mg "_law_mixed" st_law_mixed := by
    obtain ⟨fd, F⟩ := c.def_ 3 (d := d_law_mixed) rfl
    exact ⟨_, fd, F, He.glo_ok X G (c.fact 3 (f := .glo "_law_mixed") rfl)⟩
  have D_law_take : Df K mg "_law_take" st_law_take := by
    obtain ⟨fd, F⟩ := c.def_ 4 (d := d_law_take) rfl
    exact ⟨_, fd, F, He.glo_ok X G (c.fact 4 (f := .glo "_law_take") rfl)⟩
  have D_law_pick : Df K mg "_law_pick" st_law_pick := by
    obtain ⟨fd, F⟩ := c.def_ 5 (d := d_law_pick) rfl
    exact ⟨_, fd, F, He.glo_ok X G (c.fact 5 (f := .glo "_law_pick") rfl)⟩
  have D_law_place : Df K mg "_law_place" st_law_place := by
    obtain ⟨fd, F⟩ := c.def_ 6 (d := d_law_place) rfl
    exact ⟨_, fd, F, He.glo_ok X G (c.fact 6 (f := .glo "_law_place") rfl)⟩
  have D_law_drawn : Df K mg "_law_drawn" st_law_drawn := by
    obtain ⟨fd, F⟩ := c.def_ 7 (d := d_law_drawn) rfl
    exact ⟨_, fd, F, He.glo_ok X G (c.fact 7 (f := .glo "_law_drawn") rfl)⟩
  have D_law_either : Df K mg "_law_either" st_law_either := by
    obtain ⟨fd, F⟩ := c.def_ 8 (d := d_law_either) rfl
    exact ⟨_, fd, F, He.glo_ok X G (c.fact 8 (f := .glo "_law_either") rfl)⟩
  have D_law_whole : Df K mg "_law_whole" st_law_whole := by
    obtain ⟨fd, F⟩ := c.def_ 9 (d := d_law_whole) rfl
    exact ⟨_, fd, F, He.glo_ok X G (c.fact 9 (f := .glo "_law_whole") rfl)⟩
  have D_law_sign : Df K mg "_law_sign" st_law_sign := by
    obtain ⟨fd, F⟩ := c.def_ 10 (d := d_law_sign) rfl
    exact ⟨_, fd, F, He.glo_ok X G (c.fact 10 (f := .glo "_law_sign") rfl)⟩
  have D_law_text : Df K mg "_law_text" st_law_text := by
    obtain ⟨fd, F⟩ := c.def_ 11 (d := d_law_text) rfl
    exact ⟨_, fd, F, He.glo_ok X G (c.fact 11 (f := .glo "_law_text") rfl)⟩
  have D_law_leaf : Df K mg "_law_leaf" st_law_leaf := by
    obtain ⟨fd, F⟩ := c.def_ 12 (d := d_law_leaf) rfl
    exact ⟨_, fd, F, He.glo_ok X G (c.fact 12 (f := .glo "_law_leaf") rfl)⟩
  have D_law_value : Df K mg "_law_value" st_law_value := by
    obtain ⟨fd, F⟩ := c.def_ 13 (d := d_law_value) rfl
    exact ⟨_, fd, F, He.glo_ok X G (c.fact 13 (f := .glo "_law_value") rfl)⟩
  have D_law_is_whole : Df K mg "_law_is_whole" st_law_is_whole := by
    obtain ⟨fd, F⟩ := c.def_ 14 (d := d_law_is_whole) rfl
    exact ⟨_, fd, F, He.glo_ok X G (c.fact 14 (f := .glo "_law_is_whole") rfl)⟩
  have D_law_same : Df K mg "_law_same" st_law_same := by
    obtain ⟨fd, F⟩ := c.def_ 15 (d := d_law_same) rfl
    exact ⟨_, fd, F, He.glo_ok X G (c.fact 15 (f := .glo "_law_same") rfl)⟩
  have D_law_frozen : Df K mg "_law_frozen" st_law_frozen := by
    obtain ⟨fd, F⟩ := c.def_ 16 (d := d_law_frozen) rfl
    exact ⟨_, fd, F, He.glo_ok X G (c.fact 16 (f := .glo "_law_frozen") rfl)⟩
  have D_law_move : Df K mg "_law_move" st_law_move := by
    obtain ⟨fd, F⟩ := c.def_ 17 (d := d_law_move) rfl
    exact ⟨_, fd, F, He.glo_ok X G (c.fact 17 (f := .glo "_law_move") rfl)⟩
  have D_law_bad_move : Df K mg "_law_bad_move" st_law_bad_move := by
    obtain ⟨fd, F⟩ := c.def_ 18 (d := d_law_bad_move) rfl
    exact ⟨_, fd, F, He.glo_ok X G (c.fact 18 (f := .glo "_law_bad_move") rfl)⟩
  have D_law_bent_text : Df K mg "_law_bent_text" st_law_bent_text := by
    obtain ⟨fd, F⟩ := c.def_ 19 (d := d_law_bent_text) rfl
    exact ⟨_, fd, F, He.glo_ok X G (c.fact 19 (f := .glo "_law_bent_text") rfl)⟩
  have D_law_bent_leaf : Df K mg "_law_bent_leaf" st_law_bent_leaf := by
    obtain ⟨fd, F⟩ := c.def_ 20 (d := d_law_bent_leaf) rfl
    exact ⟨_, fd, F, He.glo_ok X G (c.fact 20 (f := .glo "_law_bent_leaf") rfl)⟩
  have D_law_bent_part : Df K mg "_law_bent_part" st_law_bent_part := by
    obtain ⟨fd, F⟩ := c.def_ 21 (d := d_law_bent_part) rfl
    exact ⟨_, fd, F, He.glo_ok X G (c.fact 21 (f := .glo "_law_bent_part") rfl)⟩
  have D_law_bent : Df K mg "_law_bent" st_law_bent := by
    obtain ⟨fd, F⟩ := c.def_ 22 (d := d_law_bent) rfl
    exact ⟨_, fd, F, He.glo_ok X G (c.fact 22 (f := .glo "_law_bent") rfl)⟩
  have D_law_judged : Df K mg "_law_judged" st_law_judged := by
    obtain ⟨fd, F⟩ := c.def_ 23 (d := d_law_judged) rfl
    exact ⟨_, fd, F, He.glo_ok X G (c.fact 23 (f := .glo "_law_judged") rfl)⟩
  have D_law_counted : Df K mg "_law_counted" st_law_counted := by
    obtain ⟨fd, F⟩ := c.def_ 24 (d := d_law_counted) rfl
    exact ⟨_, fd, F, He.glo_ok X G (c.fact 24 (f := .glo "_law_counted") rfl)⟩
  have D_law_near : Df K mg "_law_near" st_law_near := by
    obtain ⟨fd, F⟩ := c.def_ 25 (d := d_law_near) rfl
    exact ⟨_, fd, F, He.glo_ok X G (c.fact 25 (f := .glo "_law_near") rfl)⟩
  have D_law_answers : Df K mg "_law_answers" st_law_answers := by
    obtain ⟨fd, F⟩ := c.def_ 26 (d := d_law_answers) rfl
    exact ⟨_, fd, F, He.glo_ok X G (c.fact 26 (f := .glo "_law_answers") rfl)⟩
  have D_law : Df K mg "law" stlaw := by
    obtain ⟨fd, F⟩ := c.def_ 27 (d := d_law) rfl
    exact ⟨_, fd, F, He.glo_ok X G (c.fact 27 (f := .glo "law") rfl)⟩
  have T : NoB mg := ⟨He.free_ok X G (c.fact 28 (f := .free "len") rfl), He.free_ok X G (c.fact 29 (f := .free "int") rfl), He.free_ok X G (c.fact 30 (f := .free "bool") rfl), He.free_ok X G (c.fact 31 (f := .free "str") rfl), He.free_ok X G (c.fact 32 (f := .free "range") rfl), He.free_ok X G (c.fact 33 (f := .free "isinstance") rfl), He.free_ok X G (c.fact 34 (f := .free "tuple") rfl), He.free_ok X G (c.fact 35 (f := .free "list") rfl), He.free_ok X G (c.fact 36 (f := .free "min") rfl), He.free_ok X G (c.fact 37 (f := .free "max") rfl), He.free_ok X G (c.fact 38 (f := .free "sorted") rfl)⟩
  obtain ⟨tk_MOST_POINTS, G_MOST_POINTS⟩ := He.int_ok X G (c.fact 39 (f := .int "MOST_POINTS" 12) rfl)
  obtain ⟨fd, F⟩ := c.def_ 27 (d := d_law) rfl
  have e := hf.symm.trans (He.glo_ok X G (c.fact 27 (f := .glo "law") rfl))
  cases e
  refine ⟨fd, fun s v => FunD.bindsA (ps := ["script"]) F (fun _ _ _ _ _ _ us hl => match us, hl with | [_], _ => rfl) s [v] rfl, fun base _ _ => ?_⟩
  have C_law_mixed : Cl P w K mg base 1 "_law_mixed" ["seed", "turn"] sp_mixed := ok_law_mixed D_law_mixed T  
  have C_law_take : Cl P w K mg base 2 "_law_take" ["store", "many"] sp_take := ok_law_take D_law_take T C_law_mixed 
  have C_law_pick : Cl P w K mg base 3 "_law_pick" ["store", "things"] sp_pick := ok_law_pick D_law_pick T C_law_take 
  have C_law_place : Cl P w K mg base 3 "_law_place" ["store", "size"] sp_place := ok_law_place D_law_place T C_law_take 
  have C_law_drawn : Cl P w K mg base 3 "_law_drawn" ["store", "things", "many"] sp_drawn := ok_law_drawn D_law_drawn T C_law_take 
  have C_law_either : Cl P w K mg base 3 "_law_either" ["store", "entries"] sp_either := ok_law_either D_law_either T C_law_take 
  have C_law_whole : Cl P w K mg base 4 "_law_whole" ["store"] sp_whole := ok_law_whole D_law_whole T C_law_pick C_law_take 
  have C_law_sign : Cl P w K mg base 3 "_law_sign" ["store"] sp_sign := ok_law_sign D_law_sign T C_law_take 
  have C_law_text : Cl P w K mg base 4 "_law_text" ["store", "most"] sp_text := ok_law_text D_law_text T C_law_place C_law_sign 
  have C_law_leaf : Cl P w K mg base 5 "_law_leaf" ["store"] sp_leaf := ok_law_leaf D_law_leaf T C_law_take C_law_text C_law_whole 
  have C_law_value : Cl P w K mg base 6 "_law_value" ["store", "deep"] sp_value := ok_law_value D_law_value T C_law_either C_law_leaf C_law_take 
  have C_law_is_whole : Cl P w K mg base 1 "_law_is_whole" ["value"] sp_isw := ok_law_is_whole D_law_is_whole T  
  have C_law_same : Cl P w K mg base 2 "_law_same" ["actual", "due"] sp_same := ok_law_same D_law_same T C_law_is_whole 
  have C_law_frozen : Cl P w K mg base 9 "_law_frozen" ["value", "deep"] (sp_frozen 9) := frozen_all D_law_frozen T 9
  have C_law_move : Cl P w K mg base 4 "_law_move" ["store", "points"] sp_move := ok_law_move D_law_move T C_law_drawn C_law_take 
  have C_law_pickS : Cl P w K mg base 3 "_law_pick" ["store", "things"] sp_pickS := ok_law_pickS D_law_pick T C_law_take 
  have C_law_bad_move : Cl P w K mg base 6 "_law_bad_move" ["store", "move"] sp_bad_move := ok_law_bad_move D_law_bad_move T C_law_leaf C_law_place C_law_take 
  have C_law_bent_text : Cl P w K mg base 6 "_law_bent_text" ["store", "text"] sp_bent_text := ok_law_bent_text D_law_bent_text T C_law_pickS C_law_place C_law_sign C_law_take 
  have C_law_bent_leaf : Cl P w K mg base 7 "_law_bent_leaf" ["store", "leaf"] sp_bent_leaf := ok_law_bent_leaf D_law_bent_leaf T C_law_bent_text C_law_take C_law_whole 
  have C_law_bent_part : Cl P w K mg base 6 "_law_bent_part" ["store", "part"] sp_bent_part := ok_law_bent_part D_law_bent_part T C_law_leaf C_law_place C_law_take 
  have C_law_bent : Cl P w K mg base 8 "_law_bent" ["store", "value"] sp_bent := ok_law_bent D_law_bent T C_law_bent_leaf C_law_bent_part C_law_place C_law_take 
  have C_law_judged : Cl P w K mg base 9 "_law_judged" ["store", "right"] sp_judged := ok_law_judged D_law_judged T C_law_bent C_law_take C_law_value 
  have Cis_whole : Cl P w K mg base 1 "is_whole" ["value"] sp_isw := okis_whole D_is_whole T  
  have Cis_move : Cl P w K mg base 2 "is_move" ["value"] sp_is_move := okis_move D_is_move T Cis_whole G_MOST_POINTS
  have C_law_counted : Cl P w K mg base 2 "_law_counted" ["value"] sp_is_move := ok_law_counted D_law_counted T C_law_is_whole 
  have C_law_store : Cl P w K mg base 1 "_law_store" ["script"] (sp_store K) := ok_law_store D_law_store T  
  have C_law_near : Cl P w K mg base 10 "_law_near" ["store"] sp_near := ok_law_near D_law_near T C_law_bad_move C_law_drawn C_law_judged C_law_move C_law_pick C_law_place C_law_take C_law_value C_law_whole 
  have C_law_answers : Cl P w K mg base 10 "_law_answers" ["value"] sp_answers := ok_law_answers D_law_answers T C_law_counted C_law_frozen C_law_same Cis_move 
  exact oklaw (P := P) (w := w) (base := base) F T C_law_answers C_law_counted C_law_drawn C_law_move C_law_near C_law_place C_law_same C_law_store C_law_take Cis_move 
end Ho
open PySem PySem.W PySem.Calls PyProof.Rows
set_option maxRecDepth 100000 in
set_option maxHeartbeats 0 in
theorem PySem.Challenge.cw_heldorder_k00_moves_known_holds : PySem.Challenge.rw_heldorder_k00_moves_known.Holds := by
  w_on; o_law
  refine HandSHeadRun.head_any (r := OpenLaw.row PySem.Challenge.rw_heldorder_k00_moves_known) (q := view (OpenLaw.row PySem.Challenge.rw_heldorder_k00_moves_known).prog [30]) (H := Ho.hhk) (ob := Ho.hob) (M := 4000) (loose := Ho.hloose) (d := HandSHeadRun.topDef (OpenLaw.row PySem.Challenge.rw_heldorder_k00_moves_known).prog 30) (kwd := []) Ho.hob_eq
    (by kernel_rfl) (fun s => by kernel_rfl) Ho.hrun (by kernel_rfl) (by kernel_rfl) (by kernel_rfl) (by rfl) (by first | assumption | decide +kernel) (by decide +kernel) ⟨rfl, rfl, rfl, rfl, rfl, by decide +kernel⟩ ?hw ?hc
  case hw => w_witness2
  case hc =>
    refine L2.walk_ofE (l := PySem.Challenge.rw_heldorder_k00_moves_known) (n := 63) (k := 11) (x := "script") (CX := L2.CX0) rfl (by decide) (by kernel_rfl) ⟨rfl, by decide, by decide⟩ ?F (fun _ _ _ _ z => z)
    intro w mg fa h Y G hmg0
    obtain ⟨K, KX, c⟩ := Y
    have hmg : mg ("law" : PySem.Str) = some (.ref fa) := by
      have e : (HandSHeadRun.topDef (OpenLaw.row PySem.Challenge.rw_heldorder_k00_moves_known).prog 30).name = ("law" : PySem.Str) := by kernel_rfl
      rw [← e]
      exact hmg0
    obtain ⟨fd, hb, hF⟩ := Ho.hfacts (P := (PySem.Challenge.rw_heldorder_k00_moves_known).prog) (w := w) KX G hmg c
    exact ⟨K, fd, Ho.sp_law K, KX, hb, fun H a ns hl _ hS => ⟨a, ns, rfl, hS, hl, fun _ => rfl⟩, hF⟩

